import PyProof.Rows.All
import Wide.All
import OpenK.AllK
import Wide.FinOn
import KE.KNestM
import PySem.Challenge.RW_drawstate_k75_whole_rings_and_fields_of
import HandS.GenOver
import PyProof.GenRules
import PyProof.GenQ
import HandS.ForMost
import HandS.Exc
import HandS.Codes
import HandS.Wide
import HandS.WideBits
import HandS.IsInst
import HandS.Property
import HandS.Style
import HandS.Flow
import HandS.Small
import HandS.Lambda
import HandS.EndTab
import HandS.GenCall
import HandS.GenList
import KE.KOpsOwn
import HandS.ClsMeth
import HandS.TupAny
import HandS.ExcInit
import HandS.ExcField
import HandS.ExcIs
import HandS.Comp
import HandS.Walk
import KE.KExcInit
import HandS.CallSlots
import HandS.Defaults
import HandS.TryMany
import HandS.Zip
import KE.KTryMore
import PyProof.StrLawsRepr
import HandS.HotCalls
import KE.KDflt
import HandS.TupMul
import HandS.Deep
import HandS.SetFor
import HandS.Star
import HandS.TupSets
import HandS.Iter
import KE.GoesEnum
import HandS.DictSubView
import KE.KDictWalk
import HandS.Conv
import HandS.SortInts
import HandS.FStr
import HandS.MakeKwOnly
def PySem.W.Fast.tw13831660059007309780 : Nat := 0
def PySem.W.Fast.tw15702289008294071987 : Nat := 0
def PySem.W.Fast.tw15992335852006029370 : Nat := 0
def PySem.W.Fast.tw16626601588277713921 : Nat := 0
def PySem.W.Fast.tw1717494907254855979 : Nat := 0
def PySem.W.Fast.tw17854454284838000521 : Nat := 0
def PySem.W.Fast.tw18210252142205255923 : Nat := 0
def PySem.W.Fast.tw2032235237078699995 : Nat := 0
def PySem.W.Fast.tw2726067433620855914 : Nat := 0
def PySem.W.Fast.tw665975042254222016 : Nat := 0
def PySem.W.Fast.tw682994540087211656 : Nat := 0
set_option Elab.async false
set_option linter.all false
set_option maxRecDepth 100000
namespace Hd1
open PySem PySem.W PySem.Calls PyProof.Rows
def liv (x : Option Obj) : Option Obj := match x with
  | some ⟨_, _, .freed, _⟩ => none
  | o => o
theorem get_liv (h : Heap) (a : Addr) : h.get? a = liv (h.objs.toList[a]?) := by
  rw [Array.getElem?_toList]
  rfl
def pick : List Obj → Nat → List Nat → List (Option Obj)
  | [], _, as => as.map fun _ => none
  | o :: r, n, as => match as with
    | [] => []
    | a :: as' => match Nat.beq a n with
      | true => liv (some o) :: pick r (n + 1) as'
      | false => pick r (n + 1) (a :: as')
def asc : List Nat → Bool
  | [] => true
  | [_] => true
  | a :: b :: r => match Nat.blt a b with
    | true => asc (b :: r)
    | false => false
theorem asc_lt : ∀ {r : List Nat} {a : Nat}, asc (a :: r) = true → ∀ b ∈ r, a < b
  | [], _, _, b, h => by cases h
  | b :: r, a, h, c, hc => by
    have h1 : (match Nat.blt a b with
      | true => asc (b :: r)
      | false => false) = true := h
    cases e : Nat.blt a b with
    | false => rw [e] at h1; cases h1
    | true =>
      rw [e] at h1
      have ab : a < b := Nat.le_of_ble_eq_true e
      rcases List.mem_cons.mp hc with rfl | hc
      · exact ab
      · exact Nat.lt_trans ab (asc_lt h1 c hc)
theorem asc_tail : ∀ {r : List Nat} {a : Nat}, asc (a :: r) = true → asc r = true
  | [], _, _ => rfl
  | b :: r, a, h => by
    have h1 : (match Nat.blt a b with
      | true => asc (b :: r)
      | false => false) = true := h
    cases e : Nat.blt a b with
    | false => rw [e] at h1; cases h1
    | true => rw [e] at h1; exact h1
theorem pick_eq : ∀ (l : List Obj) (n : Nat) (as : List Nat), asc as = true → (∀ a ∈ as, n ≤ a) → pick l n as = as.map fun a => liv l[a - n]?
  | [], n, as, _, _ => List.map_congr_left fun a _ => by simp [liv]
  | o :: r, n, [], _, _ => rfl
  | o :: r, n, a :: as, h, hn => by
    show (match Nat.beq a n with
      | true => liv (some o) :: pick r (n + 1) as
      | false => pick r (n + 1) (a :: as)) = _
    have na := hn a (List.mem_cons_self ..)
    cases e : Nat.beq a n with
    | true =>
      have e : a = n := Nat.eq_of_beq_eq_true e
      subst e
      have lt := asc_lt h
      show liv (some o) :: pick r (a + 1) as = _
      rw [pick_eq r (a + 1) as (asc_tail h) (fun b hb => lt b hb), List.map_cons, Nat.sub_self]
      congr 1
      exact List.map_congr_left fun b hb => by
        have := lt b hb
        rw [show b - a = b - (a + 1) + 1 by omega, List.getElem?_cons_succ]
    | false =>
      have e : a ≠ n := fun c => by rw [c, Nat.beq_refl] at e; cases e
      have lt := asc_lt h
      show pick r (n + 1) (a :: as) = _
      rw [pick_eq r (n + 1) (a :: as) h (fun b hb => by
        rcases List.mem_cons.mp hb with rfl | hb
        · omega
        · have := lt b hb
          omega)]
      exact List.map_congr_left fun b hb => by
        have : n < b := by
          rcases List.mem_cons.mp hb with rfl | hb
          · omega
          · have := lt b hb
            omega
        rw [show b - n = b - (n + 1) + 1 by omega, List.getElem?_cons_succ]
theorem pick_get {h : Heap} {as : List Addr} (so : asc as = true) : pick h.objs.toList 0 as = as.map h.get? := by
  rw [pick_eq _ 0 as so fun a _ => Nat.zero_le a]
  exact List.map_congr_left fun a _ => by rw [Nat.sub_zero, get_liv]
def qHook (K : Params → Frag) (as : List Addr) (e : ∀ P, as = (K P).map (·.1)) (ts : List Addr) (so : asc as = true) : Hook where
  α := List (Option Obj) × List (Option Obj)
  obs := fun s => (pick s.heap.objs.toList 0 as, ts.map s.heap.get?)
  val := fun w => ((K w.params).map fun p => some p.2, ts.map fun _ => some (tabObj #[]))
  says := fun w h => InK K w h ∧ ∀ P ∈ ts, h.get? P = some (tabObj #[])
  of := fun w s x => (kmHook K as e ts).of w s (by rw [pick_get so] at x; exact x)
  keeps := (kmHook K as e ts).keeps
theorem q_in_of {K : Params → Frag} {as : List Addr} {e : ∀ P, as = (K P).map (·.1)} {ts : List Addr} {so : asc as = true} {w : World} {h : Heap} (Y : (qHook K as e ts so).says w h) : (K w.params).In h := Y.1
end Hd1
set_option Elab.async false
set_option linter.all false
namespace Pf
open PySem PySem.W PyProof.Rows
local macro_rules | `(tactic| o_head (kmHook $K $a $e $t)) => `(tactic| o_head (Hd1.qHook $K $a $e $t (by decide +kernel)))
local macro_rules | `(tactic| o_head (kHook $K $a $e)) => `(tactic| o_head (Hd1.qHook $K $a $e [] (by decide +kernel)))
set_option maxRecDepth 100000
set_option maxHeartbeats 0
open_top hd for PySem.Challenge.rw_drawstate_k75_whole_rings_and_fields_of
end Pf
set_option Elab.async false
set_option linter.all false
set_option maxRecDepth 100000
set_option maxHeartbeats 2000000
namespace Ve
open PySem
/-- it could not be woken -/
def veil : GenState → GenState
  | .suspended _ l c p fs cl => .suspended (fun _ => .unsupported "") l c p fs cl
  | x => x
def sleeps : GenState → Bool
  | .suspended .. => true
  | _ => false
theorem veil_seen (x : GenState) : (veil x).seen = x.seen := by cases x <;> rfl
/-- no generator's frame among them -/
def pureG : GenState → Prop
  | .suspended _ _ _ _ fs _ => splitAtGen fs = none
  | _ => True
/-- the tables: where V holds, the state st stands, veiled in the first one; elsewhere they are alike -/
structure Rg (V : Nat → Prop) (st : Nat → GenState) (a b : Array GenState) : Prop where
  sz : b.size = a.size
  v : ∀ i, V i → sleeps (st i) = true ∧ a[i]? = some (veil (st i)) ∧ b[i]? = some (st i)
  e : ∀ i, ¬ V i → b[i]? = a[i]?
  p : ∀ i x, ¬ V i → a[i]? = some x → pureG x
variable {V : Nat → Prop} {st : Nat → GenState} {a b : Array GenState}
theorem Rg.lt (r : Rg V st a b) {i : Nat} (h : V i) : i < a.size := by
  obtain ⟨_, h1, _⟩ := r.v i h
  exact (Array.getElem?_eq_some_iff.mp h1).1
theorem Rg.push (r : Rg V st a b) {x : GenState} (hx : pureG x) : Rg V st (a.push x) (b.push x) where
  sz := by simp [r.sz]
  v := fun i h => by
    obtain ⟨h0, h1, h2⟩ := r.v i h
    have l := r.lt h
    refine ⟨h0, ?_, ?_⟩
    · rw [Array.getElem?_push_lt l]
      rw [← h1, Array.getElem?_eq_getElem l]
    · have l2 : i < b.size := by rw [r.sz]; exact l
      rw [Array.getElem?_push_lt l2]
      rw [← h2, Array.getElem?_eq_getElem l2]
  e := fun i h => by
    rw [Array.getElem?_push, Array.getElem?_push, r.sz, r.e i h]
  p := fun i y h e => by
    rw [Array.getElem?_push] at e
    split at e
    · cases e; exact hx
    · exact r.p i y h e
theorem Rg.set (r : Rg V st a b) {g : Nat} {x : GenState} (hg : ¬ V g) (hx : pureG x) : Rg V st (a.setIfInBounds g x) (b.setIfInBounds g x) where
  sz := by simp [r.sz]
  v := fun i h => by
    obtain ⟨h0, h1, h2⟩ := r.v i h
    have ne : g ≠ i := fun e => hg (e ▸ h)
    refine ⟨h0, ?_, ?_⟩
    · rw [Array.getElem?_setIfInBounds_ne ne]; exact h1
    · rw [Array.getElem?_setIfInBounds_ne ne]; exact h2
  e := fun i h => by
    by_cases ne : g = i
    · subst ne
      rw [Array.getElem?_setIfInBounds_self, Array.getElem?_setIfInBounds_self, r.sz]
    · rw [Array.getElem?_setIfInBounds_ne ne, Array.getElem?_setIfInBounds_ne ne, r.e i h]
  p := fun i y h e => by
    by_cases ne : g = i
    · subst ne
      rw [Array.getElem?_setIfInBounds_self] at e
      split at e
      · cases e; exact hx
      · cases e
    · rw [Array.getElem?_setIfInBounds_ne ne] at e
      exact r.p i y h e
theorem no_runs {M : Model} {Γ : Ctx} {p : Pos} {m : String} {t : Sem PySem.Fin} {fs : List Frame} {s s' : Shared} {e : End} (ht : t = .unsupported m) (h : Runs M Γ p t fs s e s') : False := by
  induction h <;> first | cases ht | (rename_i ih _; exact ih ht) | (rename_i ih; exact ih ht) | skip
  all_goals (rename_i ih; exact ih rfl)
theorem split_app : ∀ {x y : List Frame}, splitAtGen x = none → splitAtGen y = none → splitAtGen (x ++ y) = none
  | [], y, _, h => h
  | .gen .. :: r, y, h, _ => by cases h
  | .ret .. :: r, y, h, h2 => by
    have h : (splitAtGen r).map _ = none := h
    have h := Option.map_eq_none_iff.mp h
    show (splitAtGen (r ++ y)).map _ = none
    rw [split_app h h2]
    rfl
theorem split_ret {k : Result → Sem PySem.Fin} {h : Option Value} {g : Bool} {l kp : List Value} {c : Code} {p : Pos} {r : List Frame} (e : splitAtGen (.ret k h g l c p kp :: r) = none) : splitAtGen r = none :=
  Option.map_eq_none_iff.mp (show (splitAtGen r).map _ = none from e)
def PEnd : End → Prop
  | .ret _ => True
  | .susp _ _ _ _ _ _ fs => splitAtGen fs = none
theorem pure_end {e : End} (h : PEnd e) : pureG e.genState := by
  cases e with
  | ret r => trivial
  | susp v g l k c p fs => exact h
theorem Rg.awake (r : Rg V st a b) {g : Nat} {x : GenState} (h : a[g]? = some x) (hx : sleeps x = false) : ¬ V g := fun hv => by
  obtain ⟨h0, h1, _⟩ := r.v g hv
  rw [h] at h1
  cases h1
  cases e : st g with
  | suspended k l c p fs cl => rw [e] at hx; cases hx
  | fresh c => rw [e] at h0; cases h0
  | running => rw [e] at h0; cases h0
  | finished => rw [e] at h0; cases h0
/-- THE RUN UNDER THE VEIL -/
theorem runs_veil {M : Model} {Γ : Ctx} {p : Pos} {t : Sem PySem.Fin} {fs : List Frame} {s s' : Shared} {e : End} (h : Runs M Γ p t fs s e s') : splitAtGen fs = none → ∀ b, Rg V st s.gens b →
    PEnd e ∧ ∃ b', Runs M Γ p t fs { s with gens := b } e { s' with gens := b' } ∧ Rg V st s'.gens b' := by
  induction h with
  | done => exact fun _ b r => ⟨trivial, b, .done, r⟩
  | raise => exact fun _ b r => ⟨trivial, b, .raise, r⟩
  | again hq _ ih => exact fun hf b r => let ⟨z, b', h', r'⟩ := ih hf b r; ⟨z, b', .again hq h', r'⟩
  | rule _ ih => exact fun hf b r => let ⟨z, b', h', r'⟩ := ih hf b r; ⟨z, b', .rule h', r'⟩
  | «at» _ ih => exact fun hf b r => let ⟨z, b', h', r'⟩ := ih hf b r; ⟨z, b', .at h', r'⟩
  | load hl _ ih => exact fun hf b r => let ⟨z, b', h', r'⟩ := ih hf b r; ⟨z, b', .load hl h', r'⟩
  | update hl _ ih => exact fun hf b r => let ⟨z, b', h', r'⟩ := ih hf b r; ⟨z, b', .update hl h', r'⟩
  | loadIfAlive _ ih => exact fun hf b r => let ⟨z, b', h', r'⟩ := ih hf b r; ⟨z, b', .loadIfAlive h', r'⟩
  | point _ ih => exact fun hf b r => let ⟨z, b', h', r'⟩ := ih hf b r; ⟨z, b', .point h', r'⟩
  | alloc _ ih => exact fun hf b r => let ⟨z, b', h', r'⟩ := ih hf b r; ⟨z, b', .alloc h', r'⟩
  | fresh _ ih => exact fun hf b r => let ⟨z, b', h', r'⟩ := ih hf b r; ⟨z, b', .fresh h', r'⟩
  | ask _ ih => exact fun hf b r => let ⟨z, b', h', r'⟩ := ih hf b r; ⟨z, b', .ask h', r'⟩
  | choose hn _ ih => exact fun hf b r => let ⟨z, b', h', r'⟩ := ih hf b r; ⟨z, b', .choose hn h', r'⟩
  | os _ ih => exact fun hf b r => let ⟨z, b', h', r'⟩ := ih hf b r; ⟨z, b', .os h', r'⟩
  | handled _ ih => exact fun hf b r => let ⟨z, b', h', r'⟩ := ih hf b r; ⟨z, b', .handled h', r'⟩
  | @genState g x Γ p k s e s' hg _ ih =>
    intro hf b r
    obtain ⟨z, b', h', r'⟩ := ih hf b r
    by_cases hv : V g
    · obtain ⟨_, h1, h2⟩ := r.v g hv
      rw [hg] at h1
      cases h1
      refine ⟨z, b', .genState (st := st g) h2 ?_, r'⟩
      rw [← veil_seen (st g)]
      exact h'
    · exact ⟨z, b', .genState ((r.e g hv).trans hg) h', r'⟩
  | stack _ ih => exact fun hf b r => let ⟨z, b', h', r'⟩ := ih hf b r; ⟨z, b', .stack h', r'⟩
  | thread _ ih => exact fun hf b r => let ⟨z, b', h', r'⟩ := ih hf b r; ⟨z, b', .thread h', r'⟩
  | @newGen Γ p k s e s' c _ ih =>
    intro hf b r
    obtain ⟨z, b', h', r'⟩ := ih hf (b.push (.fresh c)) (r.push trivial)
    refine ⟨z, b', .newGen ?_, r'⟩
    show Runs _ _ _ (k b.size) _ _ _ _
    rw [r.sz]
    exact h'
  | call _ _ ih1 ih2 =>
    intro hf b r
    obtain ⟨_, b1, h1, r1⟩ := ih1 rfl b r
    obtain ⟨z, b2, h2, r2⟩ := ih2 hf b1 r1
    exact ⟨z, b2, .call h1 h2, r2⟩
  | callSusp _ ih =>
    intro hf b r
    obtain ⟨z, b1, h1, r1⟩ := ih rfl b r
    exact ⟨split_app z rfl, b1, .callSusp h1, r1⟩
  | yield => exact fun hf b r => ⟨rfl, b, .yield, r⟩
  | @resumeFresh Γ p g l k s c e₁ s₁ e s' hg _ hq _ ih1 ih2 =>
    intro hf b r
    have hv := r.awake hg rfl
    obtain ⟨z1, b1, h1, r1⟩ := ih1 rfl (b.setIfInBounds g .running) (r.set hv trivial)
    obtain ⟨z, b2, h2, r2⟩ := ih2 hf (b1.setIfInBounds g e₁.genState) (r1.set hv (pure_end z1))
    exact ⟨z, b2, .resumeFresh (s := { s with gens := b }) ((r.e g hv).trans hg) h1 hq h2, r2⟩
  | @resumeSuspended Γ p g rr l k s k₀ l₀ c₀ p₀ fs cl e₁ s₁ e s' hg h0 hq _ ih1 ih2 =>
    intro hf b r
    by_cases hv : V g
    · exfalso
      obtain ⟨hs, h1, _⟩ := r.v g hv
      rw [hg] at h1
      have h1 := Option.some.inj h1
      cases hx : st g with
      | suspended k l c p f cl =>
        rw [hx] at h1
        have e : k₀ = fun _ => .unsupported "" := by
          injection h1
        exact no_runs (m := "") (by rw [e]) h0
      | fresh c => rw [hx] at hs; cases hs
      | running => rw [hx] at hs; cases hs
      | finished => rw [hx] at hs; cases hs
    · have pf : splitAtGen fs = none := r.p g _ hv hg
      obtain ⟨z1, b1, h1, r1⟩ := ih1 pf (b.setIfInBounds g .running) (r.set hv trivial)
      obtain ⟨z, b2, h2, r2⟩ := ih2 hf (b1.setIfInBounds g e₁.genState) (r1.set hv (pure_end z1))
      exact ⟨z, b2, .resumeSuspended (s := { s with gens := b }) ((r.e g hv).trans hg) h1 hq h2, r2⟩
  | resumeJustStarted hg hn _ ih =>
    intro hf b r
    obtain ⟨z, b', h', r'⟩ := ih hf b r
    exact ⟨z, b', .resumeJustStarted ((r.e _ (r.awake hg rfl)).trans hg) hn h', r'⟩
  | @resumeThrowFresh g Γ p k e s' x l s c hg _ ih =>
    intro hf b r
    have hv := r.awake hg rfl
    obtain ⟨z, b', h', r'⟩ := ih hf (b.setIfInBounds g .finished) (r.set hv trivial)
    exact ⟨z, b', .resumeThrowFresh (s := { s with gens := b }) ((r.e _ hv).trans hg) h', r'⟩
  | resumeRunning hg _ ih =>
    intro hf b r
    obtain ⟨z, b', h', r'⟩ := ih hf b r
    exact ⟨z, b', .resumeRunning ((r.e _ (r.awake hg rfl)).trans hg) h', r'⟩
  | resumeFinished hg _ ih =>
    intro hf b r
    obtain ⟨z, b', h', r'⟩ := ih hf b r
    exact ⟨z, b', .resumeFinished ((r.e _ (r.awake hg rfl)).trans hg) h', r'⟩
  | segRet _ _ ih1 ih2 =>
    intro hf b r
    obtain ⟨_, b1, h1, r1⟩ := ih1 rfl b r
    obtain ⟨z, b2, h2, r2⟩ := ih2 (split_ret hf) b1 r1
    exact ⟨z, b2, .segRet h1 h2, r2⟩
  | segGen => exact fun hf => by cases hf
  | segSuspOut hn _ ih =>
    intro hf b r
    obtain ⟨z, b1, h1, r1⟩ := ih rfl b r
    exact ⟨split_app z hn, b1, .segSuspOut hn h1, r1⟩
  | segSuspGen hn => exact fun hf => by rw [hn] at hf; cases hf
open Sem (wp)
theorem wp_veil {α : Type} {M : Model} {Γ : Ctx} (t : Sem α) : ∀ {Q : α → Pos → Shared → Prop} {E : Value → Pos → Shared → Prop} {p : Pos} {s : Shared} {b : Array GenState}, Rg V st s.gens b → wp M Γ t Q E p s →
    wp M Γ t (fun a p' u => ∃ s' b', u = { s' with gens := b' } ∧ Rg V st s'.gens b' ∧ Q a p' s') (fun e p' u => ∃ s' b', u = { s' with gens := b' } ∧ Rg V st s'.gens b' ∧ E e p' s') p { s with gens := b } := by
  induction t with
  | pure a => intro Q E p s b r h; exact ⟨s, b, rfl, r, h⟩
  | raise e => intro Q E p s b r h; exact ⟨s, b, rfl, r, h⟩
  | unsupported _ => intro Q E p s b r h; exact h
  | finish _ => intro Q E p s b r h; exact h
  | rule _ k ih => intro Q E p s b r h; exact ih () r h
  | «at» p' k ih => intro Q E p s b r h; exact ih () r h
  | load a _ k ih => intro Q E p s b r h; obtain ⟨o, ho, h⟩ := h; exact ⟨o, ho, ih o r h⟩
  | update a _ f k ih => intro Q E p s b r h; exact ⟨h.1, ih () (s := { s with heap := s.heap.update a f }) r h.2⟩
  | loadIfAlive a k ih => intro Q E p s b r h; exact ih _ r h
  | point _ k ih => intro Q E p s b r h; exact ih () r h
  | register _ _ => intro Q E p s b r h; exact h
  | alloc o k ih => intro Q E p s b r h; exact ih _ (s := { s with heap := s.heap.push o }) r h
  | fresh k ih => intro Q E p s b r h; exact ih _ (s := { s with toks := s.toks + 1 }) r h
  | ask k ih => intro Q E p s b r h; exact ih _ r h
  | choose src m k ih => intro Q E p s b r h; exact ⟨h.1, ih _ (s := { s with drawn := s.drawn.bump src }) r h.2⟩
  | os q _ k ih => intro Q E p s b r h; exact ih _ (s := { s with os := (Os.step s.os q).1 }) r h
  | call c hd _ _ k ih =>
    intro Q E p s b r h
    obtain ⟨res, s1, hr, h⟩ := h
    obtain ⟨_, b1, h1, r1⟩ := runs_veil hr rfl b r
    exact ⟨res, { s1 with gens := b1 }, h1, ih res r1 h⟩
  | handled own k ih => intro Q E p s b r h; exact ih _ r h
  | genState g k ih =>
    intro Q E p s b r h
    obtain ⟨x, hs, h⟩ := h
    by_cases hv : V g
    · obtain ⟨_, h1, h2⟩ := r.v g hv
      rw [hs] at h1
      cases h1
      refine ⟨st g, h2, ?_⟩
      rw [← veil_seen (st g)]
      exact ih _ r h
    · exact ⟨x, (r.e g hv).trans hs, ih _ r h⟩
  | newGen c k ih =>
    intro Q E p s b r h
    have := ih s.gens.size (s := { s with gens := s.gens.push (.fresh c) }) (b := b.push (.fresh c)) (r.push trivial) h
    show wp M Γ (k b.size) _ _ _ _
    rw [r.sz]
    exact this
  | resume g rr _ k ih =>
    intro Q E p s b r h
    obtain ⟨res, s1, hw, h⟩ := h
    suffices hh : ∃ b1, Wakes M Γ p g rr { s with gens := b } res { s1 with gens := b1 } ∧ Rg V st s1.gens b1 by
      obtain ⟨b1, h1, r1⟩ := hh
      exact ⟨res, _, h1, ih res r1 h⟩
    unfold Wakes at hw ⊢
    cases hg : s.gens[g]? with
    | none => rw [hg] at hw; exact hw.elim
    | some x =>
      rw [hg] at hw
      by_cases hv : V g
      · exfalso
        obtain ⟨hs, h1, _⟩ := r.v g hv
        rw [hg] at h1
        have h1 := Option.some.inj h1
        subst h1
        cases hx : st g with
        | suspended k0 l c p0 f cl =>
          rw [hx] at hw
          obtain ⟨e1, s2, hr, _⟩ := hw
          exact no_runs (m := "") rfl hr
        | fresh c => rw [hx] at hs; cases hs
        | running => rw [hx] at hs; cases hs
        | finished => rw [hx] at hs; cases hs
      · have hb : b[g]? = some x := (r.e g hv).trans hg
        show ∃ b1, (match b[g]? with | none => False | some (.fresh c) => _ | some (.suspended k₀ _ c₀ p₀ fs _) => _ | some .running => _ | some .finished => _) ∧ _
        rw [hb]
        cases x with
        | fresh c =>
          cases rr with
          | send v =>
            cases v with
            | none =>
              obtain ⟨e1, s2, hr, hq, rfl, rfl⟩ := hw
              obtain ⟨z, b1, h1, r1⟩ := runs_veil hr rfl (b.setIfInBounds g .running) (r.set hv trivial)
              exact ⟨b1.setIfInBounds g e1.genState, ⟨e1, _, h1, hq, rfl, rfl⟩, r1.set hv (pure_end z)⟩
            | _ => obtain ⟨rfl, rfl⟩ := hw; exact ⟨b, ⟨rfl, rfl⟩, r⟩
          | throw v => obtain ⟨rfl, rfl⟩ := hw; exact ⟨b.setIfInBounds g .finished, ⟨rfl, rfl⟩, r.set hv trivial⟩
        | suspended k0 l0 c0 p0 fs0 cl =>
          obtain ⟨e1, s2, hr, hq, rfl, rfl⟩ := hw
          obtain ⟨z, b1, h1, r1⟩ := runs_veil hr (r.p g _ hv hg) (b.setIfInBounds g .running) (r.set hv trivial)
          exact ⟨b1.setIfInBounds g e1.genState, ⟨e1, _, h1, hq, rfl, rfl⟩, r1.set hv (pure_end z)⟩
        | running => obtain ⟨rfl, rfl⟩ := hw; exact ⟨b, ⟨rfl, rfl⟩, r⟩
        | finished => obtain ⟨rfl, rfl⟩ := hw; exact ⟨b, ⟨rfl, rfl⟩, r⟩
  | yield _ _ _ _ => intro Q E p s b r h; exact h
  | stack k ih => intro Q E p s b r h; exact ih _ r h
  | fork _ _ => intro Q E p s b r h; exact h
  | thread k ih => intro Q E p s b r h; exact ih _ r h
  | await _ _ _ _ _ => intro Q E p s b r h; exact h
end Ve
set_option Elab.async false
set_option linter.all false
set_option maxRecDepth 100000
set_option maxHeartbeats 4000000
namespace Gx
open PySem PySem.Spec PyProof.Rows L2
structure FnG (P : Program) (w : World) (K : PySem.W.Frag) (mg : Str → Option Value) (base : Heap) (k : Nat) (f : Addr) (fd : FuncData) (ps : List Str) (sp : Sp) : Prop where
  len : ∀ vs H Q E, sp vs H Q E → vs.length = ps.length
  run : ∀ (A : Around) (outer : List Env) (s : Shared) (H : Hp) (args : Args) (us : List Value) (vs : List V) (Q : VK), A.guards = some [] → Room k A → Env0 P w K mg base A outer s H →
    BindsTo s fd args (ps.zip us) → Vals vs us → sp vs H Q C8.E0 → codeAny (model P w) A (.call (.ref f) args) (CR C8.CX0 outer P w H s Q C8.E0) s
section
variable {P : Program} {w : World} {K : PySem.W.Frag} {mg : Str → Option Value} {base : Heap}
theorem fnG_of {x qual : Str} {st : Stmt} {f : Addr} {fd : FuncData} {N ps : List Str} {k : Nat} {sp : Sp} (F : C8.Fun K x qual st f fd) (S : FnScope N ps (C8.fnScope st)) (len : ∀ vs H Q E, sp vs H Q E → vs.length = ps.length)
    (hbody : ∀ (cdv : Value) (A : Around) (outer : List Env) (s : Shared) (H : Hp) (vs : List V) (Q : VK), A.guards = some [] → Room k (A.deeper (envOfC qual (C8.fnScope st) s.heap.objs.size f cdv)) → sp vs H Q C8.E0 →
      ∃ t, PSs (cxOf C8.CX0 P w K mg base N qual (C8.fnScope st) f cdv A outer s H C8.E0).nox (C8.fnBody st) t ∧ t { nx := fun _ H' => Q .non H', rt := Q } (start N vs) H) : FnG P w K mg base (k + 1) f fd ps sp := by
  obtain ⟨oc, od, dV, kV, doc, pm, an, cdv, ct, osl, rfl, lk, hcd⟩ := F.ex
  refine ⟨len, fun A outer s H args us vs Q hg hr e0 hb r hsp => ?_⟩
  refine LamX.run_ofS (CX := C8.CX0) (E := C8.E0) lk hcd S hr e0 hb r (len _ _ _ _ hsp) fun hr' => ?_
  obtain ⟨t, h, q⟩ := hbody cdv A outer s H vs Q hg hr' hsp
  exact ⟨t, h.nox, q⟩
end
end Gx
set_option Elab.async false
set_option linter.all false
set_option maxRecDepth 100000
set_option maxHeartbeats 1000000
namespace Gx
open PySem PySem.Spec PyProof.Rows L2 GenW
def hX (env : Env) (x : Value) : Sem PySem.Fin := (do noteFrame x env; theTreesLotGoes x : Sem Unit).wrap (fun _ => .raise x) .raise id id
theorem seg_forLoop {prog : Program} {w : World} {A : Around} {R : GenEnd} {Y : Protocol} {n : Nat} {s₀ s : Shared} {fs : List Frame} {env : Env} {tg : Expr} {it : Value} {body : List Stmt}
    (h : wpAny (model prog w) (A.over (.forLoop tg it body [] env) fs) (pyNext it) (fun r s1 => match r with
      | none => Seg (model prog w) A R Y n s₀ (.forLoop tg it body [] env) (.pure (.again (.block [] env))) fs s1
      | some v => wpAny (model prog w) (A.over (.forLoop tg it body [] env) fs) (letOwnedTupleGo tg it v) (fun _ s2 =>
          wpAny (model prog w) (A.over (.forLoop tg it body [] env) fs) (assign tg env v) (fun _ s3 =>
            Seg (model prog w) A R Y n s₀ (.forLoop tg it body [] env) ((execs body env).wrap (fun f => match f with
              | .next | .cont => .pure (.again (.forLoop tg it body [] env))
              | .brk => .pure (.done .next)
              | .ret v => .pure (.done (.ret v))) (hX env) id id) fs s3)
            (fun x s' => Seg (model prog w) A R Y n s₀ (.forLoop tg it body [] env) (hX env x) fs s') s2)
          (fun x s' => Seg (model prog w) A R Y n s₀ (.forLoop tg it body [] env) (hX env x) fs s') s1)
      (fun x s' => Seg (model prog w) A R Y n s₀ (.forLoop tg it body [] env) (hX env x) fs s') s) :
    Seg (model prog w) A R Y n s₀ (.forLoop tg it body [] env) ((model prog w).den (.forLoop tg it body [] env)) fs s := by
  have hh : ∀ e, (do noteFrame e env; theTreesLotGoes e : Sem Unit).bind (fun _ => (.raise e : Sem PySem.Fin)) = hX env e := fun e => Sem.bind_eq_wrap _ _
  show Seg _ A R Y n s₀ _ ((forTurn tg it body [] env).onRaise (fun x => do noteFrame x env; theTreesLotGoes x)) fs s
  unfold forTurn
  rw [Sem.onRaise_eq_wrap]
  refine seg_bind_wrap (wpAny_standAt ?_)
  refine seg_bind_wrap (wpAny_onRaise (wpAny_mono h (fun r s1 h1 => ?_) fun x s' hx => wpAny_standAt ?_))
  · cases r with
    | none => exact h1
    | some v =>
      refine seg_bind_wrap (wpAny_mono h1 (fun _ s2 h2 => ?_) fun x s' hx => ?_)
      · refine seg_bind_wrap (wpAny_mono h2 (fun _ s3 h3 => ?_) fun x s' hx => ?_)
        · rw [Sem.bind_eq_wrap', Sem.wrap_wrap]
          rw [Sem.wrap_congr (execs body env) _ _ (K' := fun f => match f with
              | .next | .cont => .pure (.again (.forLoop tg it body [] env))
              | .brk => .pure (.done .next)
              | .ret v => .pure (.done (.ret v))) (H' := hX env) (fun f => by cases f <;> rfl) (fun e => by exact hh e)]
          exact h3
        · rw [← hh] at hx; exact hx
      · rw [← hh] at hx; exact hx
  · rw [← hh] at hx; exact hx
end Gx
set_option Elab.async false
set_option linter.all false
set_option maxRecDepth 100000
set_option maxHeartbeats 4000000
namespace Gx
open PySem PySem.Spec PyProof.Rows L2
end Gx
set_option Elab.async false
set_option linter.all false
set_option maxRecDepth 100000
set_option maxHeartbeats 4000000
namespace Rd
open PySem PySem.Spec PyProof.Rows L2
section
variable {D : Ends} {σ : L2.St} {H H1 : Hp} {Q : VK} {QB : Bool → Hp → Prop} {QA : List V → Hp → Prop} {t1 t2 : TS} {te ta tb tc : TE} {t u : TT} {i j : Nat} {v x y : V} {m n : Int} {r r2 : R2} {K : PySem.W.Frag} {A B : Prop} {b : Bool} {p : Prop}
theorem seq (h : t1 { D with nx := t2 D } σ H) : tSeq t1 t2 D σ H := h
theorem next (h : D.nx σ H) : tNext D σ H := h
theorem nm {Qs : L2.St → Hp → Prop} (h : Qs (σ.set i (some v)) H) : gName i v σ H Qs := h
theorem ret (h : te σ H D.rt) : tRet te D σ H := h
theorem drop (h : te σ H fun _ H1 => D.nx σ H1) : tDrop te D σ H := h
theorem par {ta : TA} (h : ta σ H fun vs H1 => ∃ v w, vs = [v, w] ∧ D.nx ((σ.set i (some v)).set j (some w)) H1) : tPar i j ta D σ H := h
theorem un {g : V → Hp → VK → Prop} (h : ta σ H fun x H1 => g x H1 Q) : tUn g ta σ H Q := h
theorem nil (h : QA [] H) : tNil σ H QA := h
theorem cons {tr : TA} (h : ta σ H fun x H1 => tr σ H1 fun xs H2 => QA (x :: xs) H2) : tCons ta tr σ H QA := h
theorem call {sp : Sp} {E : XK} {tr : TA} (h : tr σ H fun vs H1 => sp (vs ++ []) H1 Q E) : tCall sp [] E tr σ H Q := h
theorem cb {g : List V → Hp → VK → Prop} {tr : TA} (h : tr σ H fun vs H1 => g vs H1 Q) : tCB g tr σ H Q := h
theorem tup {tr : TA} (h : tr σ H fun xs H1 => xs.length ≤ sizeLine ∧ ∀ p, H1 p = none → Q (.ref p) (upd H1 p (.tup xs))) : tTup tr σ H Q := h
theorem lst {tr : TA} (h : tr σ H fun xs H1 => xs.length ≤ sizeLine ∧ ∀ p, H1 p = none → Q (.ref p) (upd H1 p (.lst xs))) : tLst tr σ H Q := h
theorem yes (c : p) [Decidable p] (h : A) : if decide p = true then A else B := by
  rw [decide_eq_true c, if_pos rfl]
  exact h
theorem no (c : ¬ p) [Decidable p] (h : B) : if decide p = true then A else B := by
  rw [decide_eq_false c, if_neg Bool.false_ne_true]
  exact h
end
def rLenQ (K : PySem.W.Frag) : List V → Hp → VK → Prop := fun xs H Q => ∃ p ys, xs = [.ref p] ∧ (SqL K H p ys ∨ SqT K H p ys) ∧ Q (.int ys.length) H
theorem call_lenQ {X : Cx} : CallR X (.builtin "len") (rLenQ X.K) := call_len_seq
def rMax2 : List V → Hp → VK → Prop := fun xs H Q => ∃ i j, xs = [.int i, .int j] ∧ Q (.int (if j > i then j else i)) H
theorem call_mx2 {X : Cx} (hc : X.calm = true) : CallR X (.builtin "max") rMax2 := call_max2 hc
def rMin2 : List V → Hp → VK → Prop := fun xs H Q => ∃ i j, xs = [.int i, .int j] ∧ Q (.int (if j < i then j else i)) H
theorem call_mn2 {X : Cx} (hc : X.calm = true) : CallR X (.builtin "min") rMin2 := call_min2 hc
theorem sql {K : PySem.W.Frag} {H : Hp} {a : Addr} {xs : List V} (h : H a = some (.lst xs)) : SqL K H a xs := .inl (.inl h)
theorem cut {t u : TS} {D : Ends} {σ : L2.St} {H : Hp} (Mid : L2.St → Hp → Prop) (h1 : t { D with nx := Mid } σ H) (h2 : ∀ σ' H', Mid σ' H' → u D σ' H') : C8.tCut t u D σ H := ⟨Mid, h1, h2⟩
/-- all that was tracked stands -/
abbrev Ex := L2.Same
theorem ex_new {H : Hp} {p : Addr} {o : HO} (h : H p = none) : Ex H (upd H p o) := fun b z e => by
  rw [upd_ne (ne_of_none e h)]
  exact e
theorem ex_t {K : PySem.W.Frag} {H H' : Hp} {a : Addr} {xs : List V} (e : Ex H H') (h : SqT K H a xs) : SqT K H' a xs := by
  rcases h with (h | ⟨o, h⟩) | h
  · exact .inl (.inl (e _ _ h))
  · exact .inl (.inr ⟨o, e _ _ h⟩)
  · exact .inr h
end Rd
set_option Elab.async false
set_option linter.all false
set_option maxRecDepth 100000
set_option maxHeartbeats 1000000
namespace Gx
open PySem PySem.Spec PyProof.Rows L2 GenW
structure SAt (K : PySem.W.Frag) (C : Addr) (m : Str) (f : Addr) : Prop where
  ex : ∃ (mc : Value) (p : Addr) (rest : List Value), ClX.CRead K C mc ∧ PySem.W.findCls K (.ref C) mc m = some (.get (.builtin "staticmethod.__get__") (.ref p) .none (.ref C)) ∧ PySem.W.recIn K p "staticmethod" = some (.ref f :: rest) ∧ PySem.W.keepIn K (.ref f) = true
def gscC (N P : List Str) (sc : Scope) : Bool :=
  decide (sc.kind = .function) && !sc.isCoroutine && sc.isGenerator && decide N.Nodup && decide (N.take P.length = P) && P.all (fun x => decide (sc.names.lookup x = some .local) || decide (sc.names.lookup x = some .cell)) && sc.names.all (fun y => !decide (y.2 = .free))
theorem gscope_by {N P : List Str} {sc : Scope} (h : gscC N P sc = true) : GScope N P sc := by
  simp only [gscC, Bool.and_eq_true, decide_eq_true_eq, Bool.not_eq_true', List.all_eq_true, Bool.or_eq_true, decide_eq_false_iff_not] at h
  obtain ⟨⟨⟨⟨⟨⟨h1, h2⟩, h3⟩, h4⟩, h5⟩, h6⟩, h7⟩ := h
  exact ⟨h1, h2, h3, h4, h5, h6, h7⟩
end Gx
namespace Gx
open PySem PySem.Spec PyProof.Rows L2 GenW
theorem isTup {K : PySem.W.Frag} {a : Addr} {xs : List V} {H : Hp} {Q : VK} (h : H a = some (.tup xs)) (q : Q (.bl true) H) : rIsi K [.ref a, .ty "tuple"] H Q :=
  ⟨_, _, .type "tuple", _, true, rfl, .ty _, .base (.tup h), by first | rfl | decide +kernel | kernel_rfl, q⟩
section
variable {t u : TGn} {tp : TS} {te : TE} {D : GEnds} {ys : List V} {σ : L2.St} {H : Hp}
theorem lg {tg : TGen} {Q : VK} (h : tg σ H fun out H2 => ∀ p, H2 p = none → Q (.ref p) (upd H2 p (.lst out))) : tListG tg σ H Q := h
theorem mg {C : Addr} {m : Str} {sp : SpG} {E : XK} {ta : TE} {t : TA} {cont : List V → Hp → Prop} (h : ta σ H fun x H1 => ∃ a dx fs, x = .ref a ∧ H1 a = some (.ins C dx fs) ∧ fs.lookup m = none ∧ t σ H1 fun vs H2 => sp (x :: (vs ++ [])) H2 cont E) : tMethG C m sp [] E ta t σ H cont := h
end
end Gx
namespace Gx
open PySem PySem.Spec PyProof.Rows L2 GenW
end Gx
set_option Elab.async false
set_option linter.all false
set_option maxRecDepth 100000
set_option maxHeartbeats 1000000
namespace Gx
open PySem PySem.Spec PyProof.Rows L2 GenW HT
end Gx
set_option Elab.async false
set_option linter.all false
set_option maxRecDepth 100000
set_option maxHeartbeats 1000000
namespace Gx
open PySem PySem.Spec PyProof.Rows L2 GenW
/-- the promise of such a class's __init__ -/
def spExc (C : Addr) (fl : Str) : Sp := fun vs H Q _ => ∃ (p : Addr) (v : V), vs = [.ref p, v] ∧ H p = some (exo p C none) ∧ ∀ dx, H dx = none → dx ≠ p → Q .non (upd (upd H dx (exd dx [(fl, v)])) p (exo p C (some dx)))
/-- the exception is made: its dict holds the value -/
theorem mkO {C : Addr} {fl : Str} {v : V} {H : Hp} {Q : XK} (q : ∀ d H', H d = none → Rd.Ex H H' → H' d = some (.xd [(fl, v)]) → Q (.ref C) (some d) H') :
    [v].length ≤ 1000 ∧ ∀ a, H a = none → spExc C fl (.ref a :: ([v] ++ [])) (upd H a (exo a C none))
      (fun r H2 => r = .non ∧ ∃ (d : Addr) (fs : List (Str × V)), H2 a = some (exo a C (some d)) ∧ H2 d = some (exd d fs) ∧ H d = none ∧ Q (.ref C) (some d) (upd (del H2 a) d (.xd fs))) (fun _ _ _ => False) := by
  refine ⟨Nat.le_of_ble_eq_true rfl, fun a ha => ⟨a, v, rfl, upd_same, fun dx hd ne => ⟨rfl, dx, [(fl, v)], upd_same, ?_, ?_, ?_⟩⟩⟩
  · rw [upd_ne ne, upd_same]
  · rw [upd_ne ne] at hd; exact hd
  · have hd' : H dx = none := by rw [upd_ne ne] at hd; exact hd
    refine q dx _ hd' (fun c o h => ?_) upd_same
    have n1 : c ≠ a := ne_of_none h ha
    have n2 : c ≠ dx := ne_of_none h hd'
    rw [upd_ne n2, del_ne n1, upd_ne n1, upd_ne n2, upd_ne n1]
    exact h
structure CalX (P : Program) (w : World) (K : PySem.W.Frag) (mg : Str → Option Value) (base : Heap) (k : Nat) (x : Str) (sp : Sp) : Prop where
  ex : ∃ (f : Addr) (fd : FuncData) (ps : List Str), FnOk P w K mg base (CX P w) k f fd ps sp ∧ mg x = some (.ref f) ∧ PySem.W.keepIn K (.ref f) = true ∧ Binds K fd ps []
theorem takes_cx {P : Program} {w : World} {K : PySem.W.Frag} {mg : Str → Option Value} {base : Heap} {N : List Str} {qual : Str} {scope : Scope} {f : Addr} {cd : Value} {A : Around} {outer : List Env} {s : Shared} {H : Hp} {E : XK} :
    Takes (cxOf (CX P w) P w K mg base N qual scope f cd A outer s H E) (fun cls d _ H' => E cls d H') := takes_of rfl rfl rfl rfl
theorem calX {P : Program} {w : World} {K : PySem.W.Frag} {mg : Str → Option Value} {base : Heap} {x : Str} {st : Stmt} {f : Addr} {fd : FuncData} {N ps : List Str} {k : Nat} {sp : Sp} (F : C8.Def K mg x st f fd) (b : Binds K fd ps []) (S : FnScope N ps (C8.fnScope st)) (len : ∀ vs H Q E, sp vs H Q E → vs.length = ps.length)
    (hbody : ∀ (cdv : Value) (A : Around) (outer : List Env) (s : Shared) (H : Hp) (vs : List V) (Q : VK) (E : XK), Room k (A.deeper (envOfC x (C8.fnScope st) s.heap.objs.size f cdv)) → sp vs H Q E →
      ∃ t, PSs (cxOf (CX P w) P w K mg base N x (C8.fnScope st) f cdv A outer s H E) (C8.fnBody st) t ∧ t { nx := fun _ H' => Q .non H', rt := Q } (start N vs) H) : CalX P w K mg base (k + 1) x sp := by
  obtain ⟨oc, od, dV, kV, doc, pm, an, cdv, ct, osl, rfl, lk, hcd⟩ := F.fn.ex
  exact ⟨f, _, ps, fn_of lk hcd S len (hbody cdv), F.mgf, F.kp, b⟩
section
variable {X : Cx} {k j : Nat} {x : Str} {sp : Sp} {p pos : Pos} {e : Expr} {es : List Expr} {t : TA} {W : WX} {E : XK}
theorem pe_cx (c : CalX X.prog X.w X.K X.mg X.base k x sp) (tk : Takes X W) (hW : ∀ cls d σ H, E cls d H → W cls d σ H) (hr : Room j X.A) (hk : k ≤ j) (hg : Gl X x) (ha : PA X (e :: es) t)
    (hdb : (x == ("__debug__" : Str)) = false := by decide) (he : starEach (e :: es) X.env = (false, eval e X.env) :: starEach es X.env := by rfl) (hpl : (backTo pos (starEach es X.env)).any (·.1) = false := by rfl) :
    PE X (.Call (.Name x p) (e :: es) [] pos) (tCall sp [] E t) := by
  obtain ⟨f, fd, ps, F, hm, kp, b⟩ := c.ex
  exact pe_call F (hr.mono hk) hg hm kp b .nil (passes_call tk hW) ha hdb he hpl
end
end Gx
set_option Elab.async false
set_option linter.all false
set_option maxRecDepth 100000
set_option maxHeartbeats 1000000
namespace Gx
open PySem PySem.Spec PyProof.Rows L2 PySem.HandSPX
end Gx
set_option Elab.async false
set_option linter.all false
set_option maxRecDepth 100000
set_option maxHeartbeats 2000000
namespace Lv
open PySem PySem.Spec PyProof.Rows L2 GenW
def cut (L : Addr) (h : Heap) : Heap := { h with objs := h.objs.extract 0 L }
theorem cut_size (L : Addr) (h : Heap) : (cut L h).objs.size = min L h.objs.size := by
  show (h.objs.extract 0 L).size = _
  simp
theorem cut_get {L b : Addr} {h : Heap} (hb : b < L) : (cut L h).get? b = h.get? b := by
  have e : (h.objs.extract 0 L)[b]? = h.objs[b]? := by
    by_cases hs : b < h.objs.size
    · rw [Array.getElem?_eq_getElem hs, Array.getElem?_eq_getElem (by simp only [Array.size_extract]; exact Nat.lt_min.mpr ⟨hb, hs⟩ |> fun z => by simpa using z)]
      simp
    · have hs : h.objs.size ≤ b := Nat.le_of_not_lt hs
      rw [Array.getElem?_eq_none hs, Array.getElem?_eq_none (by simp only [Array.size_extract]; exact Nat.le_trans (by simp) (Nat.le_trans (Nat.min_le_right L h.objs.size) hs))]
  unfold Heap.get? cut
  simp only [e]
theorem of_cut {L b : Addr} {h : Heap} {o : Obj} (e : (cut L h).get? b = some o) : b < L ∧ h.get? b = some o := by
  have hb : b < L := by
    have := Heap.lt_size e
    rw [cut_size] at this
    exact Nat.lt_of_lt_of_le this (Nat.min_le_left _ _)
  exact ⟨hb, (cut_get hb).symm.trans e⟩
structure G where
  P : Program
  w : World
  K : PySem.W.Frag
  mg : Str → Option Value
  base : Heap
  N : List Str
  qual : Str
  scope : Scope
  f : Addr
  cd : Value
  A : Around
  outer : List Env
  L : Addr
abbrev G.env (g : G) : Env := envOfC g.qual g.scope g.L g.f g.cd
/-- the frame's context between two yields: s0, H0 as they stood when it was woken; Y: young things that stay -/
abbrev lX (g : G) (Y : List Addr) (s0 : Shared) (H0 : Hp) : Cx where
  prog := g.P
  w := g.w
  K := g.K
  mg := g.mg
  base := g.base
  A := g.A.deeper g.env
  N := g.N
  s_0 := { s0 with heap := cut g.L s0.heap }
  H_0 := H0
  env := g.env
  outer := g.outer
  stack := g.env :: g.outer
  ex := []
  fn := fun _ => true
  calm := true
  pn := pinsAt Y s0.heap
  xe := fun _ _ => False
/-- what never changes -/
structure G.Ok (g : G) : Prop where
  mod : Mod g.K g.mg g.base
  kind : g.scope.kind = .function
  nocell : g.env.cells = []
  noname : ∀ x, g.env.kindOf x ≠ some .cell ∧ g.env.kindOf x ≠ some .free
  hd : g.A.handled = none
  frames : g.A.frames = some g.outer
  bsz : g.base.objs.size ≤ g.L
  fl : ∀ b ∈ frs g.outer, b < g.L
/-- the world around, whenever it is woken -/
structure Wo (g : G) (Y : List Addr) (s : Shared) (H : Hp) : Prop where
  bare : AllBare s.gens
  hok : HOk g.P g.w H s.heap
  bs : ∀ b o, g.base.get? b = some o → s.heap.get? b = some o ∧ H b = none
  funs : s.heap.FunFrames g.base g.outer
  frf : ∀ b ∈ frs g.outer, H b = none
  y : ∀ b ∈ Y, H b = none ∧ b ≠ g.L ∧ b ∉ frs g.outer ∧ ∀ o, s.heap.get? b = some o → ∀ v, o.data ≠ .cell v
theorem ff_cut {L : Addr} {h base : Heap} : ∀ {l : List Env}, h.FunFrames base l → (∀ b ∈ frs l, b < L) → (cut L h).FunFrames base l
  | [], _, _ => trivial
  | v :: l, f, n => by
    obtain ⟨f1, ⟨x, o, f2, f3, f4, f5⟩, f6⟩ := f
    have hx : x ∈ frs (v :: l) := List.mem_filterMap.mpr ⟨v, List.mem_cons_self, f2⟩
    refine ⟨f1, ⟨x, o, f2, f3, (cut_get (n x hx)).trans f4, f5⟩, ff_cut f6 fun b hb => n b ?_⟩
    obtain ⟨u, hu, hv⟩ := List.mem_filterMap.mp hb
    exact List.mem_filterMap.mpr ⟨u, List.mem_cons_of_mem _ hu, hv⟩
/-- the frame's own names in its dict o -/
structure Core (g : G) (o : Obj) (σ : L2.St) : Prop where
  ns : ∃ es ep, ∃ m : Str → Option Value, o.data = .dict es ep ∧ StrKeys es ∧ (∀ name, nsFind es name = m name) ∧ ∀ (i : Nat) (x : Str) (v : V), g.N[i]? = some x → σ[i]? = some (some v) → Vis g.scope x → ∃ u, RelV v u ∧ g.env.kindOf x = some .local ∧ m x = some u
  len : σ.length = g.N.length
theorem core_of {g : G} {X : Cx} {ps : List (Addr × Obj)} {σ : L2.St} {H : Hp} {s : Shared} (ok : g.Ok) (he : X.env = g.env) (hN : X.N = g.N) (I : Inv X ps σ H s) : ∃ o, s.heap.get? g.L = some o ∧ Core g o σ := by
  obtain ⟨m, ⟨o, es, ep, h1, h2, h3, h4⟩, hl⟩ := I.loc
  rw [he] at h1
  refine ⟨o, h1, ⟨es, ep, m, h2, h3, h4, fun i x v e1 e2 e3 => ?_⟩, by rw [I.len, hN]⟩
  obtain ⟨u, r, q⟩ := hl i x v (by rw [hN]; exact e1) e2 (by rw [he]; exact e3)
  rw [he] at q
  rcases q with ⟨q1, q2⟩ | ⟨q1, _⟩
  · exact ⟨u, r, q1, q2⟩
  · exact absurd q1 (fun z => z.elim (ok.noname x).1 (ok.noname x).2)
/-- woken: the frame's state in the world as it is -/
theorem Core.inv {g : G} {Y : List Addr} {o : Obj} {σ : L2.St} {H : Hp} {s : Shared} {ip : List (Addr × Obj)} (c : Core g o σ) (ok : g.Ok) (W : Wo g Y s H) (ho : s.heap.get? g.L = some o) (hn : H g.L = none)
    (hip : ∀ p ∈ ip, s.heap.get? p.1 = some p.2 ∧ H p.1 = none ∧ p.1 ≠ g.L ∧ p.1 ∉ frs g.outer ∧ ∀ v, p.2.data ≠ .cell v) : Inv (lX g Y s H) ip σ H s := by
  obtain ⟨es, ep, m, d1, d2, d3, d4⟩ := c.ns
  have lt : g.L < s.heap.objs.size := Heap.lt_size ho
  have nc : ∀ x c, g.env.cells.lookup x = some c → False := fun x c e => by rw [ok.nocell] at e; cases e
  have okx : (lX g Y s H).Ok := by
    refine ⟨ok.mod, ok.kind, rfl, rfl, ?_, fun x y c e => (nc x c e).elim, fun x h => ?_, fun x c _ e => (nc x c e).elim, fun _ => ok.hd, Around.frames_deeper ok.frames, .inr ⟨rfl, rfl⟩, fun b hb => (nomatch hb), fun b u e => ?_, ?_, fun _ _ _ h => (nomatch h), fun b hb => (nomatch hb), ff_cut W.funs ok.fl, W.frf⟩
    · show (cut g.L s.heap).objs.size ≤ g.L
      rw [cut_size]; exact Nat.min_le_left _ _
    · exact absurd h (fun z => z.elim (ok.noname x).1 (ok.noname x).2)
    · obtain ⟨z1, z2⟩ := W.bs b u e
      exact ⟨(cut_get (Nat.lt_of_lt_of_le (Heap.lt_size e) ok.bsz)).trans z1, z2⟩
    · show g.base.objs.size ≤ (cut g.L s.heap).objs.size
      rw [cut_size]
      exact Nat.le_min.mpr ⟨ok.bsz, Nat.le_trans ok.bsz (Nat.le_of_lt lt)⟩
  refine ⟨okx, rfl, W.bare, Un.kept fun b u e => (of_cut e).2, ⟨m, ⟨o, es, ep, ho, d1, d2, d3⟩, fun i x v e1 e2 e3 => ?_⟩, fun x c e => (nc x c e).elim, hn, fun x c e => (nc x c e).elim, fun p hp => ?_, W.hok, c.len⟩
  · obtain ⟨u, r, q1, q2⟩ := d4 i x v e1 e2 e3
    exact ⟨u, r, .inl ⟨q1, q2⟩⟩
  · rcases List.mem_append.mp hp with z | z
    · obtain ⟨hb, e⟩ := of_pinsAt z
      obtain ⟨y1, y2, y3, y4⟩ := W.y p.1 hb
      exact ⟨e, y1, y2, y3, y4 _ e⟩
    · exact hip p z
end Lv
set_option Elab.async false
set_option linter.all false
set_option maxRecDepth 100000
set_option maxHeartbeats 2000000
namespace Lv
open PySem PySem.Spec PyProof.Rows L2 GenW
theorem veil_bare (x : GenState) : (Ve.veil x).bare = x.bare := by cases x <;> rfl
theorem veil_self {x : GenState} (h : Ve.sleeps x = false) : Ve.veil x = x := by cases x <;> first | rfl | cases h
theorem pure_awake {x : GenState} (h : Ve.sleeps x = false) : Ve.pureG x := by cases x <;> first | trivial | cases h
abbrev veiled (t : Shared) : Shared := { t with gens := t.gens.map Ve.veil }
/-- it sleeps on as it was -/
def Sleep (t u : Shared) : Prop := ∀ (i : Nat) (x : GenState), t.gens[i]? = some x → Ve.sleeps x = true → u.gens[i]? = some x
theorem Sleep.refl (t : Shared) : Sleep t t := fun _ _ h _ => h
theorem Sleep.trans {t u v : Shared} (a : Sleep t u) (b : Sleep u v) : Sleep t v := fun i x h z => b i x (a i x h z) z
theorem veiled_bare {t : Shared} (h : AllBare t.gens) : AllBare (veiled t).gens := fun x hx => by
  obtain ⟨y, hy, rfl⟩ := Array.mem_map.mp hx
  rw [veil_bare]
  exact h y hy
theorem under {α : Type} {M : Model} {A : Around} {m : Sem α} {Q : α → Shared → Prop} {E : Value → Shared → Prop} {t : Shared} (h : wpAny M A m Q E (veiled t)) :
    wpAny M A m (fun a u => Sleep t u ∧ ∃ G, Q a { u with gens := G } ∧ (AllBare G → AllBare u.gens)) (fun e u => Sleep t u ∧ ∃ G, E e { u with gens := G } ∧ (AllBare G → AllBare u.gens)) t := by
  let V : Nat → Prop := fun i => ∃ x, t.gens[i]? = some x ∧ Ve.sleeps x = true
  let st : Nat → GenState := fun i => t.gens[i]?.getD .finished
  have r : Ve.Rg V st (veiled t).gens t.gens := by
    refine ⟨by simp, fun i ⟨x, hx, hs⟩ => ?_, fun i hn => ?_, fun i x hn hx => ?_⟩
    · have e : st i = x := by show t.gens[i]?.getD .finished = x; rw [hx]; rfl
      rw [e]
      exact ⟨hs, by show (t.gens.map Ve.veil)[i]? = _; rw [Array.getElem?_map, hx]; rfl, hx⟩
    · show t.gens[i]? = (t.gens.map Ve.veil)[i]?
      rw [Array.getElem?_map]
      cases e : t.gens[i]? with
      | none => rfl
      | some x =>
        have : Ve.sleeps x = false := by
          cases hs : Ve.sleeps x with
          | false => rfl
          | true => exact absurd ⟨x, e, hs⟩ hn
        show some x = some (Ve.veil x)
        rw [veil_self this]
    · have hx : (t.gens.map Ve.veil)[i]? = some x := hx
      rw [Array.getElem?_map] at hx
      cases e : t.gens[i]? with
      | none => rw [e] at hx; cases hx
      | some y =>
        rw [e] at hx
        cases hx
        have : Ve.sleeps y = false := by
          cases hs : Ve.sleeps y with
          | false => rfl
          | true => exact absurd ⟨y, e, hs⟩ hn
        rw [veil_self this]
        exact pure_awake this
  have fin : ∀ (s' : Shared) (b' : Array GenState), Ve.Rg V st s'.gens b' → Sleep t { s' with gens := b' } ∧ (AllBare s'.gens → AllBare b') := fun s' b' r' => by
    refine ⟨fun i x hx hs => ?_, fun hb x hx => ?_⟩
    · obtain ⟨_, _, h3⟩ := r'.v i ⟨x, hx, hs⟩
      have e : st i = x := by show t.gens[i]?.getD .finished = x; rw [hx]; rfl
      rw [e] at h3
      exact h3
    · obtain ⟨i, hi, rfl⟩ := Array.mem_iff_getElem.mp hx
      have hg : b'[i]? = some b'[i] := Array.getElem?_eq_getElem hi
      by_cases hv : V i
      · obtain ⟨_, h2, h3⟩ := r'.v i hv
        rw [hg] at h3
        have := hb _ (Array.mem_of_getElem? h2)
        rw [veil_bare] at this
        rw [Option.some.inj h3]
        exact this
      · rw [r'.e i hv] at hg
        exact hb _ (Array.mem_of_getElem? hg)
  intro Γ p hΓ
  refine Sem.wp_mono M Γ m ?_ ?_ _ _ (Ve.wp_veil (s := veiled t) (b := t.gens) m r (h Γ p hΓ))
  all_goals
    rintro a p' u ⟨s', b', rfl, r', q⟩
    exact ⟨(fin s' b' r').1, s'.gens, q, (fin s' b' r').2⟩
/-- the tables matter by their cleanups alone -/
theorem inv_gens {X : Cx} {ps : List (Addr × Obj)} {σ : L2.St} {H : Hp} {u : Shared} {G : Array GenState} (I : Inv X ps σ H { u with gens := G }) (h : AllBare u.gens) : Inv X ps σ H u :=
  ⟨I.ok, I.os, h, I.base, I.loc, I.cell, I.free, I.freeC, I.pin, I.hok, I.len⟩
theorem inv_gens' {X : Cx} {ps : List (Addr × Obj)} {σ : L2.St} {H : Hp} {u : Shared} {G : Array GenState} (I : Inv X ps σ H u) (h : AllBare G) : Inv X ps σ H { u with gens := G } :=
  ⟨I.ok, I.os, h, I.base, I.loc, I.cell, I.free, I.freeC, I.pin, I.hok, I.len⟩
/-- young things that a turn may change: all but Y -/
def young (L n : Nat) (Y : List Addr) : List Addr := (List.range n).filter fun b => decide (L ≤ b) && decide (b ∉ Y)
theorem mem_young {L n b : Nat} {Y : List Addr} : b ∈ young L n Y ↔ b < n ∧ L ≤ b ∧ b ∉ Y := by
  unfold young
  rw [List.mem_filter, List.mem_range, Bool.and_eq_true, decide_eq_true_eq, decide_eq_true_eq]
/-- what a turn keeps: old things as a call does, Y as they are -/
structure Turned (g : G) (Y : List Addr) (s0 : Shared) (H0 : Hp) (s : Shared) (H : Hp) : Prop where
  os : s.os = s0.os
  bare : AllBare s.gens
  hok : HOk g.P g.w H s.heap
  un : Un (frs g.outer) [] H0 H (cut g.L s0.heap) s.heap
  y : ∀ b ∈ Y, ∀ o, s0.heap.get? b = some o → s.heap.get? b = some o ∧ H b = none
theorem Turned.whole {g : G} {Y : List Addr} {s0 s : Shared} {H0 H : Hp} (t : Turned g Y s0 H0 s H) (fl : ∀ b ∈ frs g.outer, b < g.L) : Un (frs g.outer) (young g.L s0.heap.objs.size Y) H0 H s0.heap s.heap := by
  have case : ∀ b o, s0.heap.get? b = some o → b ∉ young g.L s0.heap.objs.size Y → ((cut g.L s0.heap).get? b = some o) ∨ (b ∈ Y ∧ g.L ≤ b) := fun b o e hx => by
    by_cases hb : b < g.L
    · exact .inl ((cut_get hb).trans e)
    · by_cases hy : b ∈ Y
      · exact .inr ⟨hy, Nat.le_of_not_lt hb⟩
      · exact absurd (mem_young.mpr ⟨Heap.lt_size e, Nat.le_of_not_lt hb, hy⟩) hx
  refine ⟨fun b o e n hb hx => ?_, fun b o e n hb hx => ?_, fun b o e n hx => ?_, fun b o e hx => ?_, t.un.tups, t.un.frzs, t.un.tbls⟩
  · rcases case b o e hx with z | ⟨z, _⟩
    · exact t.un.keep b o z n hb (fun h => (nomatch h))
    · exact (t.y b z o e).1
  · rcases case b o e hx with z | ⟨z, l⟩
    · exact t.un.slot b o z n hb (fun h => (nomatch h))
    · exact absurd (fl b hb) (Nat.not_lt_of_le l)
  · rcases case b o e hx with z | ⟨z, _⟩
    · exact t.un.free b o z n (fun h => (nomatch h))
    · exact (t.y b z o e).2
  · rcases case b o e hx with z | ⟨z, _⟩
    · exact t.un.there b o z (fun h => (nomatch h))
    · exact ⟨o, (t.y b z o e).1⟩
/-- the consumer's own things are older than the frame, or among Y -/
structure Safe (g : G) (Y : List Addr) (X : Cx) (pins : List (Addr × Obj)) : Prop where
  prog : X.prog = g.P
  w : X.w = g.w
  stack : X.stack = g.outer
  yo : ∀ b, g.L ≤ b → b ∉ Y → b ∈ X.ex ∨ X.s_0.heap.objs.size ≤ b
  loc : X.env.locals < g.L ∨ X.env.locals ∈ Y
  cell : ∀ x c, X.env.cells.lookup x = some c → c < g.L ∨ c ∈ Y
  pin : ∀ p ∈ X.pn ++ pins, p.1 < g.L ∨ p.1 ∈ Y
theorem Safe.inv {g : G} {Y : List Addr} {X : Cx} {pins : List (Addr × Obj)} {σ : L2.St} {s0 s : Shared} {H0 H : Hp} (S : Safe g Y X pins) (fl : ∀ b ∈ frs g.outer, b < g.L) (I : Inv X pins σ H0 s0) (t : Turned g Y s0 H0 s H) : Inv X pins σ H s := by
  have out : ∀ b c, b ∈ young g.L s0.heap.objs.size Y → (c < g.L ∨ c ∈ Y) → c ≠ b := fun b c hb hc e => by
    obtain ⟨_, l, n⟩ := mem_young.mp hb
    rcases hc with hc | hc
    · rw [e] at hc; exact absurd hc (Nat.not_lt_of_le l)
    · exact n (e ▸ hc)
  refine I.call' (ch := young g.L s0.heap.objs.size Y) t.os (by rw [S.stack]; exact t.whole fl) (by rw [S.prog, S.w]; exact t.hok) t.bare fun b hb => ?_
  obtain ⟨_, l, ny⟩ := mem_young.mp hb
  exact ⟨S.yo b l ny, (out b _ hb S.loc).symm, fun x c e => out b c hb (S.cell x c e), fun p hp => out b _ hb (S.pin p hp)⟩
end Lv
set_option Elab.async false
set_option linter.all false
set_option maxRecDepth 100000
set_option maxHeartbeats 2000000
namespace Lv
open PySem PySem.Spec PyProof.Rows L2 GenW
/-- what the consumer does with an item: where it stands, the heap, what is wanted when the next one is asked for -/
abbrev CB (C : Type) := V → C → Hp → (C → Hp → Prop) → Prop
/-- the consumer's invariant beside the generator -/
structure CO (g : G) (Y : List Addr) {C : Type} (CI : C → Shared → Hp → Prop) : Prop where
  step : ∀ c s0 H0 s H, CI c s0 H0 → Turned g Y s0 H0 s H → CI c s H
  wo : ∀ c s H, CI c s H → Wo g Y s H
  y : ∀ c s H, CI c s H → ∀ b ∈ Y, b ≠ g.L ∧ ∃ o, s.heap.get? b = some o
  gens : ∀ c s H G, CI c s H → AllBare G → CI c { s with gens := G } H
/-- running: woken at s0, H0 -/
def LI (g : G) (Y : List Addr) {C : Type} (CI : C → Shared → Hp → Prop) (ip : List (Addr × Obj)) (σ : L2.St) (σc : C) (H : Hp) (s : Shared) : Prop := ∃ s0 H0, g.L < s0.heap.objs.size ∧ CI σc s0 H0 ∧ Inv (lX g Y s0 H0) ip σ H s
theorem LI.turned {g : G} {Y : List Addr} {ip : List (Addr × Obj)} {σ : L2.St} {s0 s : Shared} {H0 H : Hp} (I : Inv (lX g Y s0 H0) ip σ H s) : Turned g Y s0 H0 s H :=
  ⟨I.os, I.bare, I.hok, I.base, fun b hb o e => by
    have z := I.pin (b, o) (List.mem_append_left _ (mem_pinsAt hb e))
    exact ⟨z.1, z.2.1⟩⟩
/-- the frame's dict and its iterators, asleep -/
def Asleep (g : G) (Y : List Addr) (q : List (Addr × Obj)) (H : Hp) (s : Shared) : Prop :=
  ∀ p ∈ q, s.heap.get? p.1 = some p.2 ∧ H p.1 = none
/-- they are young, none of Y -/
def Young (g : G) (Y : List Addr) (q : List (Addr × Obj)) : Prop := ∀ p ∈ q, g.L ≤ p.1 ∧ p.1 ∉ Y ∧ p.1 ∉ frs g.outer ∧ ∀ v, p.2.data ≠ .cell v
/-- an item is handed out -/
def LY (g : G) (Y : List Addr) {C : Type} (CI : C → Shared → Hp → Prop) (cb : CB C) : Protocol := fun n s₀ v s kap =>
  ∃ k x q σc H K, n + 1 + k = sizeLine ∧ RelV x v ∧ CI σc s H ∧ Young g Y q ∧ Asleep g Y q H s ∧ cb x σc H K ∧
    ∀ σ' H' s', K σ' H' → CI σ' s' H' → Asleep g Y q H' s' → kap (.send .none) s'
/-- the end -/
def LR (g : G) {C : Type} (CI : C → Shared → Hp → Prop) (fin : C → Hp → Prop) : GenEnd := fun n s₀ r s => r = .ok (.ret .none) ∧ ∃ σc H, CI σc s H ∧ fin σc H
/-- what is wanted behind a statement: items so far, the generator's slots, the consumer's -/
structure LEnds (C : Type) where
  nx : Nat → L2.St → C → Hp → Prop
  rt : Nat → V → C → Hp → Prop
  bk : Nat → L2.St → C → Hp → Prop := fun _ _ _ _ => False
  ct : Nat → L2.St → C → Hp → Prop := fun _ _ _ _ => False
def LEnds.at {C : Type} (D : LEnds C) (k : Nat) (σc : C) : Ends := { nx := fun σ H => D.nx k σ σc H, rt := fun v H => D.rt k v σc H, bk := fun σ H => D.bk k σ σc H, ct := fun σ H => D.ct k σ σc H }
abbrev TL (C : Type) := CB C → LEnds C → Nat → L2.St → C → Hp → Prop
def LSP (g : G) (Y : List Addr) {C : Type} (CI : C → Shared → Hp → Prop) (ip : List (Addr × Obj)) (D : LEnds C) (k : Nat) (f : Flow) (s : Shared) : Prop := match f with
  | .next => ∃ σ σc H, LI g Y CI ip σ σc H s ∧ D.nx k σ σc H
  | .brk => ∃ σ σc H, LI g Y CI ip σ σc H s ∧ D.bk k σ σc H
  | .cont => ∃ σ σc H, LI g Y CI ip σ σc H s ∧ D.ct k σ σc H
  | .ret u => ∃ v σ σc H, LI g Y CI ip σ σc H s ∧ RelV v u ∧ D.rt k v σc H
/-- where the code stands -/
structure LC (g : G) (Y : List Addr) {C : Type} (CI : C → Shared → Hp → Prop) (ip : List (Addr × Obj)) (A : Around) (c : Code) (fs : List Frame) (gd : Bool → Bool) : Prop where
  ok : g.Ok
  co : CO g Y CI
  ip : ∀ p ∈ ip, g.L ≤ p.1 ∧ p.1 ∉ Y ∧ p.1 ≠ g.L ∧ p.1 ∉ frs g.outer ∧ ∀ v, p.2.data ≠ .cell v
  over : A.over c fs = g.A.deeper g.env
  split : splitAtGen fs = none
  guard : fs.any Frame.guarded = false
  gd : gd false = false
def LK (g : G) (Y : List Addr) {C : Type} (CI : C → Shared → Hp → Prop) (ip : List (Addr × Obj)) (cb : CB C) (A : Around) (R : GenEnd) (c : Code) (fs : List Frame) (K : Flow → Sem PySem.Fin) (D : LEnds C) : Prop :=
  ∀ (n k : Nat) (s₀ s : Shared) (f : Flow), n + k = sizeLine → LSP g Y CI ip D k f s → Seg (model g.P g.w) A R (LY g Y CI cb) n s₀ c (K f) fs s
structure LS (g : G) (Y : List Addr) {C : Type} (CI : C → Shared → Hp → Prop) (st : Stmt) (t : TL C) : Prop where
  run : ∀ (cb : CB C) (A : Around) (ip : List (Addr × Obj)) (R : GenEnd) (n k : Nat) (s₀ : Shared) (c : Code) (fs : List Frame) (K : Flow → Sem PySem.Fin) (J : Value → Sem PySem.Fin) (gd : Bool → Bool) (lv : List Value → List Value) (s : Shared) (σ : L2.St) (σc : C) (H : Hp) (D : LEnds C),
    LC g Y CI ip A c fs gd → n + k = sizeLine → LK g Y CI ip cb A R c fs K D → LI g Y CI ip σ σc H s → t cb D k σ σc H → Seg (model g.P g.w) A R (LY g Y CI cb) n s₀ c ((exec st g.env).wrap K J gd lv) fs s
structure LSs (g : G) (Y : List Addr) {C : Type} (CI : C → Shared → Hp → Prop) (st : List Stmt) (t : TL C) : Prop where
  run : ∀ (cb : CB C) (A : Around) (ip : List (Addr × Obj)) (R : GenEnd) (n k : Nat) (s₀ : Shared) (c : Code) (fs : List Frame) (K : Flow → Sem PySem.Fin) (J : Value → Sem PySem.Fin) (gd : Bool → Bool) (lv : List Value → List Value) (s : Shared) (σ : L2.St) (σc : C) (H : Hp) (D : LEnds C),
    LC g Y CI ip A c fs gd → n + k = sizeLine → LK g Y CI ip cb A R c fs K D → LI g Y CI ip σ σc H s → t cb D k σ σc H → Seg (model g.P g.w) A R (LY g Y CI cb) n s₀ c ((execs st g.env).wrap K J gd lv) fs s
section
variable {g : G} {Y : List Addr} {C : Type} {CI : C → Shared → Hp → Prop} {st : Stmt} {rest : List Stmt}
def tLPlain (t : TS) : TL C := fun _ D k σ σc H => t (D.at k σc) σ H
theorem sp_lsp {ip : List (Addr × Obj)} {σc : C} {s0 s : Shared} {H0 : Hp} {D : LEnds C} {k : Nat} {f : Flow} (hL : g.L < s0.heap.objs.size) (I0 : CI σc s0 H0) (h : SP (lX g Y s0 H0) ip (D.at k σc) f s) : LSP g Y CI ip D k f s := by
  cases f with
  | next => obtain ⟨σ, H, I, q⟩ := h; exact ⟨σ, σc, H, ⟨s0, H0, hL, I0, I⟩, q⟩
  | brk => obtain ⟨σ, H, I, q⟩ := h; exact ⟨σ, σc, H, ⟨s0, H0, hL, I0, I⟩, q⟩
  | cont => obtain ⟨σ, H, I, q⟩ := h; exact ⟨σ, σc, H, ⟨s0, H0, hL, I0, I⟩, q⟩
  | ret u => obtain ⟨v, σ, H, I, r, q⟩ := h; exact ⟨v, σ, σc, H, ⟨s0, H0, hL, I0, I⟩, r, q⟩
theorem ls_ps {t : TS} (h : ∀ s0 H0, PS (lX g Y s0 H0) st t) : LS g Y CI st (tLPlain t) := by
  refine ⟨fun cb A ip R n k s₀ c fs K J gd lv s σ σc H D lc hn kk hI ht => ?_⟩
  obtain ⟨s0, H0, hL, I0, I⟩ := hI
  refine seg_wrap ?_
  rw [lc.over]
  exact wpAny_mono ((h s0 H0).run _ s σ H (D.at k σc) I ht) (fun f s' hs => kk n k s₀ s' f hn (sp_lsp hL I0 hs)) fun x s' hx => hx.elim
def tLNil : TL C := fun _ D k σ σc H => D.nx k σ σc H
theorem lss_nil : LSs g Y CI [] tLNil := by
  refine ⟨fun cb A ip R n k s₀ c fs K J gd lv s σ σc H D lc hn kk hI ht => ?_⟩
  exact seg_execs_nil (kk n k s₀ s .next hn ⟨σ, σc, H, hI, ht⟩)
def tLThen (t u : TL C) : TL C := fun cb D k σ σc H => t cb { D with nx := fun k' σ' σc' H' => u cb D k' σ' σc' H' } k σ σc H
theorem lss_cons {t u : TL C} (a : LS g Y CI st t) (b : LSs g Y CI rest u) : LSs g Y CI (st :: rest) (tLThen t u) := by
  refine ⟨fun cb A ip R n k s₀ c fs K J gd lv s σ σc H D lc hn kk hI ht => ?_⟩
  refine seg_execs_cons (a.run cb A ip R n k s₀ c fs _ J gd lv s σ σc H { D with nx := fun k' σ' σc' H' => u cb D k' σ' σc' H' } lc hn (fun n' k' s₀' s' f hn' hs => ?_) hI ht)
  cases f with
  | next =>
    obtain ⟨σ', σc', H', I', q⟩ := hs
    exact b.run cb A ip R n' k' s₀' c fs K J gd lv s' σ' σc' H' D lc hn' kk I' q
  | brk => exact kk n' k' s₀' s' .brk hn' hs
  | cont => exact kk n' k' s₀' s' .cont hn' hs
  | ret u => exact kk n' k' s₀' s' (.ret u) hn' hs
def tLYield (te : TE) : TL C := fun cb D k σ σc H => k < sizeLine ∧ te σ H fun x H1 => cb x σc H1 fun σc' H' => D.nx (k + 1) σ σc' H'
theorem ls_yield {e : Expr} {yp pos : Pos} {te : TE} (he : ∀ s0 H0, PE (lX g Y s0 H0) e te) (hco : g.env.scope.isCoroutine = false) (hi : interactive g.env = false) : LS g Y CI (.Expr (.Yield (some e) yp) pos) (tLYield te) := by
  refine ⟨fun cb A ip R n k s₀ c fs K J gd lv s σ σc H D lc hn kk hI ht => ?_⟩
  obtain ⟨hlt, ht⟩ := ht
  obtain ⟨n, rfl⟩ : ∃ m, n = m + 1 := ⟨n - 1, by omega⟩
  obtain ⟨s0, H0, hL, I0, I⟩ := hI
  refine seg_Expr_Yield lc.split lc.gd lc.guard ?_ hco hi
  rw [lc.over]
  refine wpAny_mono ((he s0 H0).run _ s σ H _ I ht) (fun v s' hv => ?_) fun x s' hx => hx.elim
  obtain ⟨x, H1, I1, rv, q⟩ := hv
  have Ic : CI σc s' H1 := lc.co.step _ _ _ _ _ I0 (LI.turned I1)
  obtain ⟨o, ho, core⟩ := core_of lc.ok rfl rfl I1
  have nd : ∀ v, o.data ≠ .cell v := fun v z => by
    obtain ⟨es, ep, m, d, _⟩ := core.ns
    rw [d] at z; cases z
  have nL : H1 g.L = none := I1.free
  intro kap hk
  refine ⟨k, x, (g.L, o) :: ip, σc, H1, _, hn, rv, Ic, fun p hp => ?_, fun p hp => ?_, q, fun σ' H' s'' z I' a' => hk .none s'' ?_⟩
  · rcases List.mem_cons.mp hp with rfl | hp
    · refine ⟨Nat.le_refl _, fun hy => ?_, fun hf => absurd (lc.ok.fl _ hf) (Nat.lt_irrefl _), nd⟩
      exact (lc.co.y σc s' H1 Ic _ hy).1 rfl
    · obtain ⟨z1, z2, z3, z4, z5⟩ := lc.ip p hp
      exact ⟨z1, z2, z4, z5⟩
  · rcases List.mem_cons.mp hp with rfl | hp
    · exact ⟨ho, nL⟩
    · have z := I1.pin p (List.mem_append_right _ hp)
      exact ⟨z.1, z.2.1⟩
  · obtain ⟨eL, hL⟩ := a' (g.L, o) List.mem_cons_self
    have J : Inv (lX g Y s'' H') ip σ H' s'' := core.inv lc.ok (lc.co.wo _ _ _ I') eL hL fun p hp => by
      obtain ⟨z1, z2, z3, z4, z5⟩ := lc.ip p hp
      obtain ⟨y1, y2⟩ := a' p (List.mem_cons_of_mem _ hp)
      exact ⟨y1, y2, z3, z4, z5⟩
    exact kk n (k + 1) s'' s'' .next (by omega) ⟨σ, σ', H', ⟨s'', H', Heap.lt_size eL, I', J⟩, z⟩
theorem lc_loop {ip : List (Addr × Obj)} {A : Around} {c c' : Code} {fs : List Frame} {gd : Bool → Bool} {k : Result → Sem PySem.Fin} {l kp : List Value} {p : Pos} (lc : LC g Y CI ip A c fs gd) (hw : c'.weight = 0) (hu : c'.cUnits = 0) :
    LC g Y CI ip A c' (.ret k none (gd false) l c p kp :: fs) id :=
  ⟨lc.ok, lc.co, lc.ip, (over_loop hw hu).trans lc.over, by show (splitAtGen fs).map _ = none; rw [lc.split]; rfl, by show (gd false || fs.any Frame.guarded) = false; rw [lc.gd, lc.guard]; rfl, rfl⟩
def tLFor (wi : TI) (gt : TG) (tb : TL C) : TL C := fun cb D k σ σc H => wi σ H fun J H1 => ∃ W : Nat → Nat → Nat → L2.St → C → Hp → Prop, (∃ m, W 0 m k σ σc H1) ∧ ∀ i m k σ σc H, W i m k σ σc H →
  (J.stop i H ∧ D.nx k σ σc H) ∨ (J.go i H ∧ ∃ N : Nat → L2.St → C → Hp → Prop, (∀ k' σ' σc' H', N k' σ' σc' H' → ∃ m', m' < m ∧ W (i + 1) m' k' σ' σc' H') ∧
    ∀ x H', J.yld i H x H' → gt x σ H' fun σ2 H2 => tb cb { D with nx := N, ct := N, bk := D.nx } k σ2 σc H2)
theorem ls_for {tg iter : Expr} {body : List Stmt} {pos : Pos} {wi : TI} {gt : TG} {tb : TL C} (hi : ∀ s0 H0, PI (lX g Y s0 H0) tg iter wi) (hg : ∀ s0 H0, PG (lX g Y s0 H0) tg gt) (hb : LSs g Y CI body tb)
    (hs : ∀ x, foldedSetIterable iter g.env x = pure x := by intro _; rfl) : LS g Y CI (.For tg iter body [] pos) (tLFor wi gt tb) := by
  refine ⟨fun cb A ip R n k s₀ c fs K J gd lv s σ σc H D lc hn kk hI ht => ?_⟩
  obtain ⟨sA, HA, hLA, IA, I0⟩ := hI
  rw [exec_For]
  refine seg_bind_wrap (wpAny_standAt ?_)
  refine seg_bind_wrap ?_
  rw [lc.over]
  refine wpAny_mono ((hi sA HA).run _ s σ H _ I0 ht) (fun v s1 h1 => ?_) fun x s' hx => hx.elim
  refine seg_bind_wrap (wpAny_of_eq (hs v) ?_)
  refine seg_bind_wrap (wpAny_standAt ?_)
  refine seg_bind_wrap (wpAny_holding ?_)
  rw [lc.over]
  refine wpAny_mono h1 (fun itv s2 h2 => ?_) fun x s' hx => hx.elim
  obtain ⟨it, fp, tn, JJ, H2, e, I2, T, st2, f2, W, ⟨m0, w0⟩, turn⟩ := h2
  subst e
  refine seg_call fun p => ?_
  have gl := fun (q : Result → Sem PySem.Fin) => lc_loop (k := q) (c' := .forLoop tg (.ref it) body [] g.env) (l := lv []) (kp := []) (p := p) lc rfl rfl
  -- the iterator's objects
  have sta : ∀ b ∈ fp, g.L ≤ b ∧ b ∉ Y ∧ b ≠ g.L ∧ b ∉ frs g.outer ∧ ∀ p ∈ ip, p.1 ≠ b := fun b hb => by
    obtain ⟨_, q1, q2, q3, q4, q5⟩ := f2 b hb
    have le : g.L ≤ b := by
      rcases q3 with q3 | q3
      · cases q3
      · have q3 : (cut g.L sA.heap).objs.size ≤ b := q3
        rw [cut_size, Nat.min_eq_left (Nat.le_of_lt hLA)] at q3
        exact q3
    refine ⟨le, fun hy => ?_, q1, q2, fun p hp => q5 p (List.mem_append_right _ hp)⟩
    obtain ⟨_, o, eo⟩ := lc.co.y σc sA HA IA b hy
    exact q5 (b, o) (List.mem_append_left _ (mem_pinsAt hy eo)) rfl
  have fpo : ∀ {sB : Shared} {HB H' : Hp}, (∀ b ∈ fp, H' b = none) → ∀ b ∈ fp, FpOk (lX g Y sB HB) ip H' b := fun {sB HB H'} hn b hb => by
    obtain ⟨q1, q2, q3, q4, q5⟩ := sta b hb
    refine ⟨hn b hb, q3, q4, .inr ?_, fun x c e => ?_, fun p hp => ?_⟩
    · show (cut g.L sB.heap).objs.size ≤ b
      rw [cut_size]
      exact Nat.le_trans (Nat.min_le_left _ _) q1
    · have e : g.env.cells.lookup x = some c := e
      rw [lc.ok.nocell] at e
      cases e
    · rcases List.mem_append.mp hp with z | z
      · exact fun w => q2 (w ▸ (of_pinsAt z).1)
      · exact q5 p z
  have loop : ∀ (m n i k : Nat) (s₀ s : Shared) (σ : L2.St) (σc : C) (H : Hp), n + k = sizeLine → W i m k σ σc H → LI g Y CI ip σ σc H s → tn i s.heap → (∀ b ∈ fp, H b = none) →
      Seg (model g.P g.w) A R (LY g Y CI cb) n s₀ (.forLoop tg (.ref it) body [] g.env) ((model g.P g.w).den (.forLoop tg (.ref it) body [] g.env))
        (.ret (fun r => ((match r with | .ok f => (.pure f : Sem Flow) | .error e => .raise e).onRaise (cameBack g.env)).wrap K J gd lv) none (gd false) (lv []) c p [] :: fs) s := by
    intro m
    induction m using Nat.strongRecOn with
    | ind m ih =>
      intro n i k s₀ s σ σc H hn w hI hst hfr
      refine Gx.seg_forLoop ?_
      rw [(gl _).over]
      obtain ⟨sB, HB, hLB, IB, I⟩ := hI
      rcases turn i m k σ σc H w with ⟨stop, qn⟩ | ⟨gog, N, hN, step⟩
      · refine wpAny_mono (T.done (lX g Y sB HB) rfl rfl rfl rfl i _ s σ H (fun _ _ => False) I (fpo hfr) hst stop) (fun q s4 ⟨hr, I4⟩ => ?_) fun x s' hx => hx.elim
        subst hr
        refine seg_again rfl ?_
        show Seg _ _ _ _ n s₀ (.block [] g.env) (((execs [] g.env).onRaise _) >>= fun f => pure (.done f)) _ s4
        exact seg_leaf (.ok .next) (kk n k s₀ s4 .next hn ⟨σ, σc, H, ⟨sB, HB, hLB, IB, I4⟩, qn⟩)
      · refine wpAny_mono (T.item (lX g Y sB HB) rfl rfl rfl rfl i _ s σ H (fun _ _ => False) I (fpo hfr) hst gog) (fun q s4 ⟨u, hr, h4⟩ => ?_) fun x s' hx => hx.elim
        subst hr
        refine wpAny_mono h4 (fun _ s5 ⟨x, H5, I5, r5, y5, st5, fr5⟩ => ?_) fun x s' hx => hx.elim
        have I5' := I5.pinned (fpo fr5) (T.obj _ _ st5)
        refine wpAny_mono ((hg sB HB).run _ s5 σ H5 x u _ I5' r5 (step x H5 y5)) (fun _ s6 ⟨σ6, H6, I6, q6⟩ => ?_) fun x s' hx => hx.elim
        have lcb : ∀ q, LC g Y CI (ip ++ pinsAt fp s5.heap) A (.forLoop tg (.ref it) body [] g.env) (.ret q none (gd false) (lv []) c p [] :: fs) id := fun q =>
          ⟨lc.ok, lc.co, fun pp hp => by
            rcases List.mem_append.mp hp with z | z
            · exact lc.ip pp z
            · obtain ⟨zb, ze⟩ := of_pinsAt z
              obtain ⟨q1, q2, q3, q4, q5⟩ := sta _ zb
              obtain ⟨o, eo, no⟩ := T.obj _ _ st5 _ zb
              rw [ze] at eo
              cases eo
              exact ⟨q1, q2, q3, q4, no⟩, (gl q).over, (gl q).split, (gl q).guard, rfl⟩
        have un : ∀ {σ' : L2.St} {σc' : C} {H' : Hp} {s' : Shared}, LI g Y CI (ip ++ pinsAt fp s5.heap) σ' σc' H' s' → LI g Y CI ip σ' σc' H' s' ∧ tn (i + 1) s'.heap ∧ ∀ b ∈ fp, H' b = none := fun {σ' σc' H' s'} hI => by
          obtain ⟨sC, HC, hLC, IC, I⟩ := hI
          have pn := fun b hb o e => I.pin (b, o) (List.mem_append_right _ (List.mem_append_right _ (mem_pinsAt (fp := fp) (h := s5.heap) (b := b) (o := o) hb e)))
          refine ⟨⟨sC, HC, hLC, IC, I.unpinned⟩, T.keep _ _ _ st5 fun b hb o e => (pn b hb o e).1, fun b hb => ?_⟩
          obtain ⟨o, e, d⟩ := T.obj _ _ st5 b hb
          exact (pn b hb o e).2.1
        refine hb.run cb A (ip ++ pinsAt fp s5.heap) R n k s₀ _ _ _ _ id id s6 σ6 σc H6 { D with nx := N, ct := N, bk := D.nx } (lcb _) hn (fun n' k' s₀' s7 f hn' hs => ?_) ⟨sB, HB, hLB, IB, I6⟩ q6
        cases f with
        | next =>
          obtain ⟨σ7, σc7, H7, I7, n7⟩ := hs
          obtain ⟨I8, st8, fr8⟩ := un I7
          obtain ⟨m', hm, w7⟩ := hN k' σ7 σc7 H7 n7
          exact seg_again rfl (ih m' hm n' (i + 1) k' s₀' s7 σ7 σc7 H7 hn' w7 I8 st8 fr8)
        | cont =>
          obtain ⟨σ7, σc7, H7, I7, n7⟩ := hs
          obtain ⟨I8, st8, fr8⟩ := un I7
          obtain ⟨m', hm, w7⟩ := hN k' σ7 σc7 H7 n7
          exact seg_again rfl (ih m' hm n' (i + 1) k' s₀' s7 σ7 σc7 H7 hn' w7 I8 st8 fr8)
        | brk =>
          obtain ⟨σ7, σc7, H7, I7, n7⟩ := hs
          exact seg_leaf (.ok .next) (kk n' k' s₀' s7 .next hn' ⟨σ7, σc7, H7, (un I7).1, n7⟩)
        | ret v =>
          obtain ⟨x7, σ7, σc7, H7, I7, r7, n7⟩ := hs
          exact seg_leaf (.ok (.ret v)) (kk n' k' s₀' s7 (.ret v) hn' ⟨x7, σ7, σc7, H7, (un I7).1, r7, n7⟩)
  exact loop m0 n 0 k s₀ s2 σ σc H2 hn w0 ⟨sA, HA, hLA, IA, I2⟩ st2 fun b hb => (f2 b hb).1
end
end Lv
set_option Elab.async false
set_option linter.all false
set_option maxRecDepth 100000
set_option maxHeartbeats 2000000
namespace Lv
open PySem PySem.Spec PyProof.Rows L2 GenW
/-- a generator def's promise to a consumer -/
abbrev SpL := ∀ C : Type, List V → Hp → CB C → (C → Hp → Prop) → C → Prop
/-- what a call's generator does for its consumer -/
abbrev SpQ := ∀ C : Type, CB C → (C → Hp → Prop) → C → Prop
/-- the generator that a call makes -/
def LMade (P : Program) (w : World) (K : PySem.W.Frag) (mg : Str → Option Value) (base : Heap) (k : Nat) (outer : List Env) (H : Hp) (s : Shared) (spq : SpQ) (u : Value) (s' : Shared) : Prop :=
  ∃ (N : List Str) (qual : Str) (scope : Scope) (f : Addr) (cd : Value) (L a : Addr) (gi : Nat) (go o : Obj) (c : Code), u = .ref a ∧ s.heap.objs.size ≤ L ∧ L < a ∧ a < s'.heap.objs.size ∧ s'.heap.get? a = some go ∧ (∀ h : Heap, h.get? a = some go → h.IsGen a gi) ∧ (∀ v, go.data ≠ .cell v) ∧
    s'.gens[gi]? = some (.fresh c) ∧ s'.os = s.os ∧ AllBare s'.gens ∧ s'.heap.NoLimit ∧ (∀ b ob, s.heap.get? b = some ob → s'.heap.get? b = some ob) ∧ s'.heap.get? L = some o ∧ (∀ v, o.data ≠ .cell v) ∧
    ∀ A : Around, Room k A → A.frames = some outer → G.Ok ⟨P, w, K, mg, base, N, qual, scope, f, cd, A, outer, L⟩ ∧
      ∀ (Y : List Addr) (C : Type) (CI : C → Shared → Hp → Prop) (cb : CB C) (fin : C → Hp → Prop) (σc : C) (s2 : Shared), CO ⟨P, w, K, mg, base, N, qual, scope, f, cd, A, outer, L⟩ Y CI → CI σc s2 H → s2.heap.get? L = some o → spq C cb fin σc →
        Seg (model P w) A (LR ⟨P, w, K, mg, base, N, qual, scope, f, cd, A, outer, L⟩ CI fin) (LY ⟨P, w, K, mg, base, N, qual, scope, f, cd, A, outer, L⟩ Y CI cb) sizeLine s2 c ((model P w).den c) [] s2
structure LFn (P : Program) (w : World) (K : PySem.W.Frag) (mg : Str → Option Value) (base : Heap) (k : Nat) (f : Addr) (fd : FuncData) (ps : List Str) (sp : SpL) : Prop where
  run : ∀ (A : Around) (outer : List Env) (s : Shared) (H : Hp) (args : Args) (us : List Value) (vs : List V), Room k A → Env0 P w K mg base A outer s H → BindsTo s fd args (ps.zip us) → Vals vs us → vs.length = ps.length →
    codeAny (model P w) A (.call (.ref f) args) (fun r s' => match r with | .ok (.ret u) => LMade P w K mg base k outer H s (fun C cb fin c => sp C vs H cb fin c) u s' | _ => False) s
/-- THE RULE: by its body -/
theorem lfn_of {P : Program} {w : World} {K : PySem.W.Frag} {mg : Str → Option Value} {base : Heap} {k : Nat} {f : Addr} {name qual : Str} {params : Arguments} {body : List Stmt} {scope : Scope} {dV kV doc pm cdv ct oc : Value} {an od : Option Addr}
    {osl : Array (Option Value)} {N ps : List Str} {sp : SpL} (lk : K.lookup f = some ⟨oc, od, .func (PySem.W.fnOf name qual params body scope dV kV doc pm an cdv ct), osl⟩) (hcd : PySem.W.codeIn K cdv qual = true) (S : GScope N ps scope)
    (hc : ∀ n, cellsFrom n scope.names [] = []) (hcn : ∀ y ∈ scope.names, y.2 ≠ .cell)
    (hbody : ∀ (A : Around) (outer : List Env) (L : Addr) (Y : List Addr) (C : Type) (CI : C → Shared → Hp → Prop) (H : Hp) (vs : List V) (cb : CB C) (fin : C → Hp → Prop) (σc : C), Room k (A.deeper (envOfC qual scope L f cdv)) → sp C vs H cb fin σc →
      ∃ t, LSs ⟨P, w, K, mg, base, N, qual, scope, f, cdv, A, outer, L⟩ Y CI body t ∧ t cb { nx := fun _ _ σ' H' => fin σ' H', rt := fun _ v σ' H' => v = .non ∧ fin σ' H' } 0 (start N vs) σc H) :
    LFn P w K mg base (k + 1) f (PySem.W.fnOf name qual params body scope dV kV doc pm an cdv ct) ps sp := by
  refine ⟨fun A outer s H args us vs hr e0 hb r hl => ?_⟩
  have KX : K.In s.heap := e0.mod.kin.keeps fun b o e => (e0.bs b o e).1
  have lim : s.heap.NoLimit := e0.mod.nolimit.keeps fun b o e => (e0.bs b o e).1
  have hkind : ∀ y ∈ ps.zip us, scope.names.lookup y.1 = some .local ∨ (scope.names.lookup y.1 = some .cell ∧ ((cellsFrom (s.heap.objs.size + 1) scope.names []).lookup y.1).isSome = true) := fun ⟨n, v⟩ hy => by
    rcases S.par n (List.of_mem_zip hy).1 with q | q
    · exact .inl q
    · exact absurd rfl (hcn _ (PySem.mem_of_lookup q))
  refine codeAny_call_generator hr.depth (KX _ _ lk) rfl S.co S.gen rfl (PySem.W.codeRec_of KX hcd) (hb _ _ _ _ (wpAny_newFunctionEnv_cells S.kind hkind fun env he s1 x => ?_))
  subst he
  have lim1 : s1.heap.NoLimit := lim.keeps x.toInCall.keep
  refine ⟨lim1, ?_⟩
  obtain ⟨h1, tk, es1, hk1⟩ := x.done
  have gen1 : s1.gens = s.gens := by rw [es1]
  have lt1 : s.heap.objs.size < s1.heap.objs.size := x.toInCall.ns.lt
  have kp1 : ∀ b o, s.heap.get? b = some o → s1.heap.get? b = some o := x.toInCall.keep
  have main : ∀ (go : Obj) (nm qn : Value) (tk2 : Nat), go.cls = .type "generator" → go.data = .fields #[.int s1.gens.size 0, nm, qn] → go.slots = #[] → (∀ h : Heap, (h.push go).get? h.objs.size = some go) →
      LMade P w K mg base (k + 1) outer H s (fun C cb fin c => sp C vs H cb fin c) (.ref s1.heap.objs.size) { s1 with gens := s1.gens.push (.fresh (.func body (envOfC qual scope s.heap.objs.size f cdv))), toks := tk2, heap := s1.heap.push go } := by
    intro go nm qn tk2 hgc hgd0 hgs hgp
    obtain ⟨m, o, es, ep, eL, dL, kL, nL⟩ : ∃ m, s1.heap.Ns s.heap.objs.size m := ⟨_, x.toInCall.ns⟩
    have nLc : ∀ v, o.data ≠ .cell v := fun v z => by
      rw [dL] at z
      cases z
    have hgd : ∀ v, go.data ≠ .cell v := fun v z => by
      rw [hgd0] at z
      cases z
    refine ⟨N, qual, scope, f, cdv, s.heap.objs.size, s1.heap.objs.size, s1.gens.size, go, o, _, rfl, Nat.le_refl _, lt1, ?_, hgp _, fun h e => ⟨go, nm, qn, e, hgc, hgd0, hgs⟩, hgd, Array.getElem?_push_size .., by rw [es1], AllBare.push (by rw [gen1]; exact e0.bare) rfl,
      lim1.keeps fun b o e => Heap.get?_push_of_some _ e, fun b o e => Heap.get?_push_of_some _ (kp1 b o e), Heap.get?_push_of_some _ eL, nLc, fun Aw hrw hfr => ?_⟩
    · show _ < (s1.heap.push _).objs.size
      rw [Heap.size_push]; exact Nat.lt_succ_self _
    have e0w : Env0 P w K mg base Aw outer s H := ⟨hfr, e0.mod, e0.bs, e0.bsz, e0.funs, e0.frf, e0.hok, e0.bare⟩
    have ok : G.Ok ⟨P, w, K, mg, base, N, qual, scope, f, cdv, Aw, outer, s.heap.objs.size⟩ := by
      refine ⟨e0.mod, S.kind, hc _, fun y => ⟨fun z => ?_, fun z => ?_⟩, hrw.hd, hfr, e0.bsz, fun b hb => ?_⟩
      · exact absurd rfl (hcn _ (PySem.mem_of_lookup z))
      · exact absurd rfl (S.nofree _ (PySem.mem_of_lookup z))
      · obtain ⟨_, ob, eb, _⟩ := e0.funs.mem hb
        exact Heap.lt_size eb
    refine ⟨ok, fun Y C CI cb fin σc s2 co I hL hsp => ?_⟩
    obtain ⟨t, ht, hq⟩ := hbody Aw outer s.heap.objs.size Y C CI H vs cb fin σc (hrw.deeper _) hsp
    have I1 : Inv (gcxOf P w K mg base N qual scope f cdv Aw outer s H (fun _ _ _ => False) []) [] (start N vs) H s1 := inv_startG S hrw.hd e0w hl r x
    obtain ⟨o', eo', core⟩ := core_of (g := ⟨P, w, K, mg, base, N, qual, scope, f, cdv, Aw, outer, s.heap.objs.size⟩) ok rfl rfl I1
    have : o' = o := by
      have e2 : s1.heap.get? s.heap.objs.size = some o' := eo'
      rw [eL] at e2
      exact (Option.some.inj e2).symm
    subst this
    have J : Inv (lX ⟨P, w, K, mg, base, N, qual, scope, f, cdv, Aw, outer, s.heap.objs.size⟩ Y s2 H) [] (start N vs) H s2 := core.inv ok (co.wo _ _ _ I) hL (e0.hok.fresh (Nat.le_refl _)) fun p hp => (nomatch hp)
    refine seg_func ?_
    refine ht.run cb Aw [] _ sizeLine 0 s2 _ [] _ _ id id s2 (start N vs) σc H _ ⟨ok, co, fun p hp => (nomatch hp), over_func, rfl, rfl, rfl⟩ (Nat.add_zero _) (fun n k' s₀ s' fl hn hs => ?_) ⟨s2, H, Heap.lt_size hL, I, J⟩ hq
    cases fl with
    | next =>
      obtain ⟨σ', σc', H', ⟨sA, HA, _, IA, IG⟩, q⟩ := hs
      exact seg_end (.ok (.ret .none)) ⟨rfl, σc', H', co.step _ _ _ _ _ IA (LI.turned IG), q⟩
    | brk => obtain ⟨_, _, _, _, q⟩ := hs; exact False.elim q
    | cont => obtain ⟨_, _, _, _, q⟩ := hs; exact False.elim q
    | ret u =>
      obtain ⟨v, σ', σc', H', ⟨sA, HA, _, IA, IG⟩, rv, ev, q⟩ := hs
      subst ev
      have eu : u = Value.none := rv
      subst eu
      exact seg_end (.ok (.ret .none)) ⟨rfl, σc', H', co.step _ _ _ _ _ IA (LI.turned IG), q⟩
  exact main _ _ _ _ rfl rfl rfl fun h => Heap.get?_push_size _ rfl
end Lv
set_option Elab.async false
set_option linter.all false
set_option maxRecDepth 100000
set_option maxHeartbeats 2000000
namespace Lv
open PySem PySem.Spec PyProof.Rows L2 GenW
open Sem (wp)
/-- a later waking, if there is one -/
def later (M : Model) (A : Around) (R : GenEnd) (Y : Protocol) (gs : GenState) (n : Nat) (r : Resume) (s : Shared) : Prop := ∃ m, n = m + 1 ∧ gs.Goes M A R Y m r s
/-- woken; where it hands out an item it sleeps again -/
theorem wake_ok {M : Model} {A : Around} {R : GenEnd} {Y : Protocol} {n : Nat} {E : Value → Shared → Prop} {s : Shared} {gi : Nat} {gs : GenState} {r : Resume} {l : List Value} {α : Type} {k : GenResult → Sem α} {Q : α → Shared → Prop} (hg : s.gens[gi]? = some gs)
    (hgo : gs.Goes M A R Y n r (s.setGen gi .running)) (hR : ∀ x s1, R n (s.setGen gi .running) x s1 → wpAny M A (k (End.ret x).result) Q E (s1.setGen gi .finished))
    (hY : ∀ v s1 gs', gs'.bare = true → Ve.sleeps gs' = true → Y (n - 1) (s.setGen gi .running) v s1 (later M A R Y gs' n) → wpAny M A (k (.yielded v)) Q E (s1.setGen gi gs')) :
    wpAny M A (.resume gi r l k) Q E s := fun Γ p hΓ => by
  rw [Sem.wp_resume]
  have out : ∀ e s1, SegEnd R Y n (Seg.next M A R Y n) (s.setGen gi .running) e s1 → e.quiet = true ∧ wp M Γ (k e.result) (fun a _ s' => Q a s') (fun x _ s' => E x s') p (s1.setGen gi e.genState) := fun e s1 he => by
    cases e with
    | ret x => exact ⟨rfl, hR x s1 he Γ p hΓ⟩
    | susp v g0 l0 k0 c0 p0 fs0 =>
      refine ⟨he.1, hY v s1 _ (End.bare_of_quiet he.1) rfl ?_ Γ p hΓ⟩
      have e : later M A R Y (End.susp v g0 l0 k0 c0 p0 fs0).genState n = fun r' s' => match n with | 0 => False | m + 1 => (End.susp v g0 l0 k0 c0 p0 fs0).genState.Goes M A R Y m r' s' := by
        funext r' s'
        unfold later
        cases n with
        | zero => exact propext ⟨fun ⟨m, z, _⟩ => absurd z (Nat.succ_ne_zero m).symm, fun z => z.elim⟩
        | succ m => exact propext ⟨fun ⟨m', z, q⟩ => (Nat.succ.inj z).symm ▸ q, fun q => ⟨m, rfl, q⟩⟩
      rw [e]
      cases n with
      | zero => exact he.2
      | succ m => exact he.2
  have woken : ∀ c, (Γ.wake c p).Woken A := fun c => hΓ.wake c p
  cases gs with
  | running => exact hgo.elim
  | finished => exact hgo.elim
  | fresh c =>
    obtain ⟨rfl, hs⟩ := hgo
    obtain ⟨e, s1, hr, he⟩ := seg_iff.mp hs (Γ.wake c p) p rfl (woken c)
    exact ⟨_, _, by unfold Wakes; rw [hg]; exact ⟨e, s1, hr, (out e s1 he).1, rfl, rfl⟩, (out e s1 he).2⟩
  | suspended k0 l0 c p0 fs0 cl =>
    obtain ⟨e, s1, hr, he⟩ := seg_iff.mp hgo (Γ.wake c p) p0 rfl (woken c)
    exact ⟨_, _, by unfold Wakes; rw [hg]; exact ⟨e, s1, hr, (out e s1 he).1, rfl, rfl⟩, (out e s1 he).2⟩
section
variable {P : Program} {w : World} {A : Around} {E : Value → Shared → Prop} {s : Shared}
theorem next_live {a : Addr} {gi n : Nat} {gs : GenState} {R : GenEnd} {Y : Protocol} {Q : Option Value → Shared → Prop} (hh : A.handled = none) (hl : s.heap.NoLimit) (hroom : A.depth < recursionLimit) (hg : s.heap.IsGen a gi) (hgs : s.gens[gi]? = some gs)
    (hgo : gs.Goes (model P w) A.in1 R Y n (.send .none) (s.setGen gi .running)) (hr : ∀ n s0 r s1, R n s0 r s1 → r = .ok (.ret .none))
    (hY : ∀ v s1 gs', gs'.bare = true → Ve.sleeps gs' = true → Y (n - 1) (s.setGen gi .running) v s1 (later (model P w) A.in1 R Y gs' n) → Q (some v) (s1.setGen gi gs'))
    (hP : ∀ s1, R n (s.setGen gi .running) (.ok (.ret .none)) s1 → ∀ h', (∀ b o, s1.heap.get? b = some o → h'.get? b = some o) → Q none { s1.setGen gi .finished with heap := h' }) :
    wpAny (model P w) A (pyNext (.ref a)) Q E s := by
  unfold pyNext
  refine wpAny_bind (wpAny_attempt (wpAny_callSpecial?_slot (name := Str.ofString "__next__") hg.typeIs slot_gen_next
    (wpAny_call_entry slot_gen_next hg.typeIs entry_gen_next ?_ (args_gen_next _))))
  show wpAny _ A.in1 (Builtin.Generator.genWake (.ref a) (.send .none)) _ _ s
  unfold Builtin.Generator.genWake
  refine wpAny_bind (wpAny_holding (wpAny_genNumber hg (wpAny_bind (wpAny_genState hgs ?_))))
  have go : ∀ {α : Type} {l : List Value} {k : GenResult → Sem α} {Q' : α → Shared → Prop} {E' : Value → Shared → Prop}, (∀ s1, R n (s.setGen gi .running) (.ok (.ret .none)) s1 → wpAny (model P w) A.in1 (k (.returned .none)) Q' E' (s1.setGen gi .finished)) →
      (∀ v s1 gs', gs'.bare = true → Ve.sleeps gs' = true → Y (n - 1) (s.setGen gi .running) v s1 (later (model P w) A.in1 R Y gs' n) → wpAny (model P w) A.in1 (k (.yielded v)) Q' E' (s1.setGen gi gs')) →
      wpAny (model P w) A.in1 (.resume gi (.send .none) l k) Q' E' s := fun {α l k Q' E'} h1 h2 => wake_ok hgs hgo (fun x s1 hx => by
    have e := hr _ _ _ _ hx
    subst e
    exact h1 s1 hx) h2
  cases gs with
  | running => exact hgo.elim
  | finished => exact hgo.elim
  | _ =>
    refine wpAny_bind (wpAny_roomToWake hl hroom ?_)
    show wpAny _ A.in1 (.resume gi (.send .none) [] _) _ _ s
    refine go (fun s1 hp => ?_) fun v s1 gs' hb hsl hv => wpAny_pure ⟨v, rfl, wpAny_pure (hY v s1 gs' hb hsl hv)⟩
    show wpAny _ A.in1 (newExc (.type "StopIteration") [] >>= _) _ _ _
    refine wpAny_bind ?_
    simp only [newExc, newTuple]
    refine wpAny_bind (wpAny_newObj_type ?_ (by size_fits))
    refine wpAny_bind (m := firstArgMember _ _) (wpAny_of_eq (a := Value.none) (by first | rfl | (simp only [firstArgMember]; rfl)) ?_)
    refine wpAny_newObj_type ?_ (by size_fits)
    simp only [raiseNew]
    refine wpAny_bind (wpAny_bind (wpAny_handled ?_))
    first | rw [show A.in1.handled = none from hh] | rw [hh]
    refine wpAny_throw ?_
    refine wpAny_bind (wpAny_isInstance (T := "StopIteration") (b := true) ⟨_, Heap.get?_push_size _ rfl, rfl⟩ isSubtype_stop ?_)
    exact wpAny_pure (hP s1 hp _ fun b o hb => Heap.get?_push_of_some _ (Heap.get?_push_of_some _ hb))
end
/-- it waits: at any state where these hold it goes on -/
def Waits (g : G) (Y : List Addr) {C : Type} (CI : C → Shared → Hp → Prop) (cb : CB C) (fin : C → Hp → Prop) (n : Nat) (gs : GenState) (q : List (Addr × Obj)) (Kc : C → Hp → Prop) : Prop :=
  Young g Y q ∧ ∀ σ' H' s', Kc σ' H' → CI σ' s' H' → Asleep g Y q H' s' → later (model g.P g.w) g.A (LR g CI fin) (LY g Y CI cb) gs n (.send .none) s'
/-- the next item, or the end -/
theorem next_ok {g : G} {Y : List Addr} {C : Type} {CI : C → Shared → Hp → Prop} {A : Around} {cb : CB C} {fin : C → Hp → Prop} {a : Addr} {gi n : Nat} {gs : GenState} {q : List (Addr × Obj)} {Kc : C → Hp → Prop} {c : C} {H : Hp} {s : Shared} {E : Value → Shared → Prop} {Q : Option Value → Shared → Prop} (co : CO g Y CI) (hA : g.A = A.in1) (hcalm : A.handled = none)
    (hroom : A.depth < recursionLimit) (hgen : ∀ c s H, CI c s H → s.heap.IsGen a gi ∧ s.heap.NoLimit ∧ AllBare s.gens) (grow : ∀ c s H h', CI c s H → (∀ b o, s.heap.get? b = some o → h'.get? b = some o) → CI c { s with heap := h' } H) (I : CI c s H) (hgs : s.gens[gi]? = some gs) (W : Waits g Y CI cb fin n gs q Kc) (hK : Kc c H) (hq : Asleep g Y q H s)
    (hY : ∀ (v : Value) (s1 : Shared) (gs' : GenState) (x : V) (q' : List (Addr × Obj)) (c' : C) (H' : Hp) (K' : C → Hp → Prop), Ve.sleeps gs' = true → s1.gens[gi]? = some gs' → RelV x v → CI c' s1 H' → Asleep g Y q' H' s1 → cb x c' H' K' → (∃ m, n = m + 1 ∧ Waits g Y CI cb fin m gs' q' K') → Q (some v) s1)
    (hP : ∀ s1 c' H', CI c' s1 H' → fin c' H' → Q none s1) : wpAny (model g.P g.w) A (pyNext (.ref a)) Q E s := by
  have gl : gi < s.gens.size := (Array.getElem?_eq_some_iff.mp hgs).1
  obtain ⟨h1, h2, h3⟩ := hgen c s H I
  have run0 : CI c (s.setGen gi .running) H := co.gens c s H _ I (allBare_setGen h3 rfl)
  obtain ⟨m, hnm, hgoes⟩ := W.2 c H _ hK run0 hq
  rw [hA] at hgoes
  refine wpAny_gsz (n := gi + 1) gl (next_live (R := LR g CI fin) (Y := LY g Y CI cb) (n := m) hcalm h2 hroom h1 hgs hgoes (fun _ _ _ _ h => h.1) (fun v s1 gs' hb hsl hy => ?_) fun s1 hr h' hk => ?_)
  · intro hsz
    obtain ⟨k, x, q', c', H', K', hn, rv, I', yq, aq, hcb, hkap⟩ := hy
    have hsz1 : gi < s1.gens.size := by
      have e : (s1.setGen gi gs').gens.size = s1.gens.size := setGen_size _ _ _
      have : gi + 1 ≤ (s1.setGen gi gs').gens.size := hsz
      omega
    exact hY v _ gs' x q' c' H' K' hsl (setGen_at hsz1) rv (co.gens _ _ _ _ I' (allBare_setGen (hgen _ _ _ I').2.2 hb)) aq hcb ⟨m, hnm, yq, fun σ2 H2 s2 k2 I2 a2 => by rw [hA]; exact hkap σ2 H2 s2 k2 I2 a2⟩
  · intro _
    obtain ⟨_, c', H', I', hf⟩ := hr
    exact hP _ c' H' (grow _ _ _ _ (co.gens _ _ _ _ I' (allBare_setGen (hgen _ _ _ I').2.2 rfl)) hk) hf
end Lv
set_option Elab.async false
set_option linter.all false
set_option maxRecDepth 100000
set_option maxHeartbeats 2000000
namespace Lv
open PySem PySem.Spec PyProof.Rows L2 GenW
abbrev TLG := L2.St → Hp → (Hp → SpQ → Prop) → Prop
/-- an expression whose value is a generator that has not begun -/
structure PLG (X : Cx) (k : Nat) (e : Expr) (tl : TLG) : Prop where
  run : ∀ (pins : List (Addr × Obj)) (s : Shared) (σ : L2.St) (H : Hp) (Q : Hp → SpQ → Prop), Inv X pins σ H s → tl σ H Q → wpAny (model X.prog X.w) X.A (eval e X.env)
    (fun u s' => ∃ H1 sc spq, Inv X pins σ H1 sc ∧ LMade X.prog X.w X.K X.mg X.base k X.stack H1 sc spq u s' ∧ Q H1 spq) X.xe s
section
variable {X : Cx} {pins : List (Addr × Obj)} {σ : L2.St} {H : Hp} {s : Shared}
theorem Inv.more (I : Inv X pins σ H s) {q : List (Addr × Obj)} (h : ∀ p ∈ q, s.heap.get? p.1 = some p.2 ∧ H p.1 = none ∧ p.1 ≠ X.env.locals ∧ p.1 ∉ X.fs ∧ ∀ v, p.2.data ≠ .cell v) : Inv X (pins ++ q) σ H s :=
  I.pins_of fun p hp => by
    rcases List.mem_append.mp hp with z | z
    · exact I.pin p (List.mem_append_right _ z)
    · exact h p z
theorem Inv.less {q : List (Addr × Obj)} (I : Inv X (pins ++ q) σ H s) : Inv X pins σ H s := I.pins_of fun p hp => I.pin p (List.mem_append_right _ (List.mem_append_left _ hp))
theorem Inv.them {q : List (Addr × Obj)} (I : Inv X (pins ++ q) σ H s) : ∀ p ∈ q, s.heap.get? p.1 = some p.2 ∧ H p.1 = none := fun p hp => by
  have z := I.pin p (List.mem_append_right _ (List.mem_append_right _ hp))
  exact ⟨z.1, z.2.1⟩
theorem wo_of {g : G} {Y : List Addr} (I : Inv X pins σ H s) (e : g.P = X.prog ∧ g.w = X.w ∧ g.base = X.base ∧ g.outer = X.stack) (y : ∀ b ∈ Y, H b = none ∧ b ≠ g.L ∧ b ∉ frs g.outer ∧ ∀ o, s.heap.get? b = some o → ∀ v, o.data ≠ .cell v) : Wo g Y s H := by
  obtain ⟨e1, e2, e3, e4⟩ := e
  have z := I.env0
  rw [← e1, ← e2, ← e3, ← e4] at z
  exact ⟨z.bare, z.hok, z.bs, z.funs, z.frf, y⟩
variable {k : Nat} {f C : Addr} {fd : FuncData} {ps : List Str} {sp : SpL} {dvs : List V} {ds : List Value} {x m : Str} {p pos' apos : Pos} {o : Expr} {ta : TE}
theorem run_lfn {us : List Value} {vs : List V} {Q : Hp → SpQ → Prop} {E : Value → Shared → Prop} (F : LFn X.prog X.w X.K X.mg X.base k f fd ps sp) (hr : Room k X.A) (hb : Binds X.K fd ps ds) (hd : Vals dvs ds) (I : Inv X pins σ H s) (r : Vals vs us) (hl : (vs ++ dvs).length = ps.length)
    (h : Q H fun C cb fin c => sp C (vs ++ dvs) H cb fin c) : wpAny (model X.prog X.w) X.A (call (.ref f) us) (fun u s' => ∃ H1 sc spq, Inv X pins σ H1 sc ∧ LMade X.prog X.w X.K X.mg X.base k X.stack H1 sc spq u s' ∧ Q H1 spq) E s := by
  have r2 : Vals (vs ++ dvs) (us ++ ds) := r.append hd
  refine wpAny_call (codeAny_mono (F.run X.A X.stack s H ⟨us, []⟩ (us ++ ds) (vs ++ dvs) hr I.env0 (hb s us I.kIn (by rw [← r2.length]; exact hl)) r2 hl) fun r s' hq => ?_)
  cases r with
  | error e => exact False.elim hq
  | ok fl =>
    cases fl with
    | ret u => exact ⟨H, s, _, I, hq, h⟩
    | next => exact False.elim hq
    | brk => exact False.elim hq
    | cont => exact False.elim hq
def tCallL (n : Nat) (sp : SpL) (dvs : List V) (t : TA) : TLG := fun σ H Q => t σ H fun vs H1 => (vs ++ dvs).length = n ∧ Q H1 fun T cb fin c => sp T (vs ++ dvs) H1 cb fin c
/-- f(e, ..) of a generator def -/
theorem plg_call {e : Expr} {es : List Expr} {t : TA} (F : LFn X.prog X.w X.K X.mg X.base k f fd ps sp) (hr : Room k X.A) (hg : Gl X x) (hm : X.mg x = some (.ref f)) (hk : PySem.W.keepIn X.K (.ref f) = true) (hb : Binds X.K fd ps ds) (hd : Vals dvs ds)
    (ha : PA X (e :: es) t) (hdb : (x == ("__debug__" : Str)) = false := by decide) (he : starEach (e :: es) X.env = (false, eval e X.env) :: starEach es X.env := by rfl) (hpl : (backTo pos' (starEach es X.env)).any (·.1) = false := by rfl) :
    PLG X k (.Call (.Name x p) (e :: es) [] pos') (tCallL ps.length sp dvs t) := by
  refine ⟨fun pins s σ H Q I h => ?_⟩
  refine wpAny_Call_Name_kw (ld_glob I hg hm ?_ hdb)
  refine PySem.W.callWith_K (h₀ := X.base) I.ok.mod.kin hk (thn (ha.run pos' pins s σ H _ I h) fun us s1 ⟨vs, H1, I1, r, hl, q⟩ => ⟨I1.kIn, ?_⟩) he hpl
  exact run_lfn F hr hb hd I1 r hl q
end
end Lv
set_option Elab.async false
set_option linter.all false
set_option maxRecDepth 100000
set_option maxHeartbeats 2000000
namespace Lv
open PySem PySem.Spec PyProof.Rows L2 GenW
theorem clo_at {cells : List (Str × Addr)} : ∀ (ns : List (Str × NameKind)) (acc : List (Str × Addr)) (x : Str) (c : Addr), (∀ y ∈ ns, y.2 = .free → ∃ d, cells.lookup y.1 = some d) → (cloFrom cells ns acc).lookup x = some c → acc.lookup x = some c ∨ ∃ y, cells.lookup y = some c
  | [], acc, x, c, _, h => .inl h
  | (n, k) :: r, acc, x, c, hf, h => by
    unfold cloFrom at h
    have hf' : ∀ y ∈ r, y.2 = .free → ∃ d, cells.lookup y.1 = some d := fun y hy => hf y (List.mem_cons_of_mem _ hy)
    by_cases hk : (k == .free) = true
    · rw [if_pos hk] at h
      rcases clo_at r _ x c hf' h with z | z
      · rw [List.lookup_cons] at z
        split at z
        · obtain ⟨d, hd⟩ := hf (n, k) List.mem_cons_self (eq_of_beq hk)
          have hd : cells.lookup n = some d := hd
          rw [hd] at z
          exact .inr ⟨n, hd.trans z⟩
        · exact .inl z
      · exact .inr z
    · rw [if_neg hk] at h
      exact clo_at r _ x c hf' h
def cbLc (gt : TG) (tt : TT) (te : TE) (σ : L2.St) (vs : List Nat) : CB (List V) := fun x ys H2 K => gt x (wipe σ vs) H2 fun σ2 H3 => wipe σ2 vs = wipe σ vs ∧ tt σ2 H3 fun b H4 =>
  if b = true then te σ2 H4 fun y H5 => ys.length < sizeLine ∧ K (ys ++ [y]) H5 else K ys H4
def tLcG (tl : TLG) (gt : TG) (tt : TT) (te : TE) (vs : List Nat) : TE := fun σ H Q => tl σ H fun H1 spq => spq (List V) (cbLc gt tt te σ vs) (fun ys H2 => ∀ D, H2 D = none → Q (.ref D) (upd H2 D (.lst ys))) []
/-- the block's own state: what is gathered, the generator's object -/
def CIb (X : Cx) (s3 : Shared) (H1 : Hp) (scope : Scope) (v : Env) (fp : List Addr) (σ : L2.St) (D a : Addr) (go : Obj) (ys : List V) (s : Shared) (H : Hp) : Prop :=
  ys.length ≤ sizeLine ∧ ∃ (acc : Array Value) (c : Nat), Vals ys acc.toList ∧ Inv (X.blk s3 H1 scope v fp) [(D, lstObj acc c), (a, go)] σ H s
end Lv
set_option Elab.async false
set_option linter.all false
set_option maxRecDepth 100000
set_option maxHeartbeats 2000000
namespace Lv
open PySem PySem.Spec PyProof.Rows L2 GenW
end Lv
set_option Elab.async false
set_option linter.all false
set_option maxRecDepth 100000
set_option maxHeartbeats 2000000
namespace Lv
open PySem PySem.Spec PyProof.Rows L2 GenW
section
variable {g : G} {Y : List Addr} {C : Type} {CI : C → Shared → Hp → Prop}
def tLIf (tc : TT) (t u : TL C) : TL C := fun cb D k σ σc H => tc σ H fun b H1 => if b = true then t cb D k σ σc H1 else u cb D k σ σc H1
theorem ls_if {c : Expr} {body orelse : List Stmt} {pos : Pos} {tc : TT} {t u : TL C} (hc : ∀ s0 H0, PT (lX g Y s0 H0) c tc) (ha : LSs g Y CI body t) (hb : LSs g Y CI orelse u) : LS g Y CI (.If c body orelse pos) (tLIf tc t u) := by
  refine ⟨fun cb A ip R n k s₀ cd fs K J gd lv s σ σc H D lc hn kk hI ht => ?_⟩
  obtain ⟨s0, H0, hL, I0, I⟩ := hI
  rw [exec_If]
  refine seg_bind_wrap (wpAny_standAt ?_)
  refine seg_bind_wrap ?_
  rw [lc.over]
  refine wpAny_mono ((hc s0 H0).run _ s σ H _ I ht) (fun b s' hb' => ?_) fun x s' hx => hx.elim
  obtain ⟨H1, I1, q⟩ := hb'
  cases b with
  | true => exact ha.run cb A ip R n k s₀ cd fs K J gd lv s' σ σc H1 D lc hn kk ⟨s0, H0, hL, I0, I1⟩ q
  | false => exact hb.run cb A ip R n k s₀ cd fs K J gd lv s' σ σc H1 D lc hn kk ⟨s0, H0, hL, I0, I1⟩ q
end
structure LCal (P : Program) (w : World) (K : PySem.W.Frag) (mg : Str → Option Value) (base : Heap) (k : Nat) (x : Str) (n : Nat) (sp : SpL) : Prop where
  ex : ∃ (f : Addr) (fd : FuncData) (ps : List Str), LFn P w K mg base k f fd ps sp ∧ mg x = some (.ref f) ∧ PySem.W.keepIn K (.ref f) = true ∧ Binds K fd ps [] ∧ ps.length = n
theorem lcal0 {P : Program} {w : World} {K : PySem.W.Frag} {mg : Str → Option Value} {base : Heap} {x : Str} {st : Stmt} {f : Addr} {fd : FuncData} {N ps : List Str} {k n : Nat} {sp : SpL} (F : C8.Def K mg x st f fd) (b : Binds K fd ps [])
    (S : GScope N ps (C8.fnScope st)) (hl : ps.length = n) (hc : ∀ n, cellsFrom n (C8.fnScope st).names [] = []) (hcn : ∀ y ∈ (C8.fnScope st).names, y.2 ≠ .cell)
    (hbody : ∀ (cdv : Value) (A : Around) (outer : List Env) (L : Addr) (Y : List Addr) (T : Type) (CI : T → Shared → Hp → Prop) (H : Hp) (vs : List V) (cb : CB T) (fin : T → Hp → Prop) (σc : T), Room k (A.deeper (envOfC x (C8.fnScope st) L f cdv)) → sp T vs H cb fin σc →
      ∃ t, LSs ⟨P, w, K, mg, base, N, x, C8.fnScope st, f, cdv, A, outer, L⟩ Y CI (C8.fnBody st) t ∧ t cb { nx := fun _ _ σ' H' => fin σ' H', rt := fun _ v σ' H' => v = .non ∧ fin σ' H' } 0 (start N vs) σc H) : LCal P w K mg base (k + 1) x n sp := by
  obtain ⟨oc, od, dV, kV, doc, pm, an, cdv, ct, osl, rfl, lk, hcd⟩ := F.fn.ex
  exact ⟨f, _, ps, lfn_of lk hcd S hc hcn (hbody cdv), F.mgf, F.kp, b, hl⟩
section
variable {X : Cx} {k j n : Nat} {x : Str} {sp : SpL} {p pos pos' : Pos} {e : Expr} {es : List Expr} {t : TA}
theorem plg_c (c : LCal X.prog X.w X.K X.mg X.base k x n sp) (hr : Room j X.A) (hk : k + 1 ≤ j) (hg : Gl X x) (ha : PA X (e :: es) t)
    (hdb : (x == ("__debug__" : Str)) = false := by decide) (he : starEach (e :: es) X.env = (false, eval e X.env) :: starEach es X.env := by rfl) (hpl : (backTo pos' (starEach es X.env)).any (·.1) = false := by rfl) : PLG X k (.Call (.Name x p) (e :: es) [] pos') (tCallL n sp [] t) := by
  obtain ⟨f, fd, ps, F, hm, kp, b, rfl⟩ := c.ex
  exact plg_call F (hr.mono (by omega)) hg hm kp b .nil ha hdb he hpl
end
end Lv
set_option Elab.async false
set_option linter.all false
set_option maxRecDepth 100000
set_option maxHeartbeats 2000000
namespace Lv
open PySem PySem.Spec PyProof.Rows L2 GenW
section
variable {X : Cx} {elt tg e : Expr} {ifs : List Expr} {scope : Scope} {own : List (Str × Nat)} {pos : Pos} {k : Nat} {tl : TLG} {gt : TG} {tt : TT} {te : TE}
theorem lc_coreG {pins : List (Addr × Obj)} {s : Shared} {σ : L2.St} {H : Hp} {Q : VK} {use : Option (Value → Sem Unit)} {Qf : Value → Shared → Prop} {pos' : Pos} (hcalm : X.calm = true) (hr : Room (k + 1) X.A) (nd : X.N.Nodup) (I : Inv X pins σ H s) (he : PLG X k e tl) (ok : BlkOk X.N X.env.scope scope own) (hoc : ∀ n acc, cellsFrom n scope.names acc = acc)
    (hg : ∀ s H C cl fp, PG (X.blk s H scope (compEnvC scope cl C X.env) fp) tg gt) (ht : ∀ s H C cl fp, PTs (X.blk s H scope (compEnvC scope cl C X.env) fp) ifs tt) (hel : ∀ s H C cl fp, PE (X.blk s H scope (compEnvC scope cl C X.env) fp) elt te)
    (fold : ∀ x, foldedSetIterable e X.env x = pure x) (h : tLcG tl gt tt te (own.map (·.2)) σ H Q)
    (hRR : ∀ D C s' m H', Inv X pins σ H' s' → Q (.ref D) H' → s'.heap.Ns C m → FpOk X pins H' C → compPost (model X.prog X.w) X.A X.xe use Qf (.ref D) C (.ok .next) s') :
    wpAny (model X.prog X.w) X.A (comprehension (.ListComp elt [⟨tg, e, ifs, 0⟩] scope pos) scope X.env pos' (newList []) false (eval e X.env) use) Qf X.xe s := by
  have fr : ∀ y ∈ scope.names, y.2 = .free → ∃ c, X.env.cells.lookup y.1 = some c := fun y hy e => (ok.free y hy e).elim (fun k => I.ok.has _ (.inl k)) fun k => I.ok.has _ (.inr k)
  refine wpAny_comprehension_free (use := use) rfl fold (closure_ok fr) ok.kind (fun y hy e => by rw [ok.uniq y hy, e]) ?_
  refine thn (he.run pins s σ H _ I h) fun x0 s2 ⟨H1, sc, spq, I1, made, hq⟩ => ?_
  obtain ⟨N, qual, scp, f, cd, L, a, gi, go, o, c, rfl, z1, z2, z3, z4, z5, z6, z7, z8, z9, z10, z11, z12, nL, prom⟩ := made
  refine wpAny_pyIter_gen (z5 _ z4) ?_
  have rk : Room k X.A.in1 := ⟨hr.hd, by have := hr.dp; show X.A.depth + 3 * k + 5 < _; omega, by have := hr.un; show X.A.units + 1 + 16 * k + 200 < _; omega⟩
  obtain ⟨gok, seg⟩ := prom X.A.in1 rk I1.ok.frames
  have I2 : Inv X pins σ H1 s2 := I1.call' (ch := []) z8 (Un.kept z11) (I1.hok.kept z11) z9 fun b hb => (nomatch hb)
  refine wpAny_newObj_type (newEnv_comp (?_)) (Nat.zero_le sizeLine)
  obtain ⟨D, hD⟩ : ∃ D, D = s2.heap.objs.size := ⟨_, rfl⟩
  rw [← hD]
  obtain ⟨s3, hs3⟩ : ∃ t : Shared, t = { s2 with heap := s2.heap.push { cls := .type "list", data := .seq ([] : List Value).toArray } } := ⟨_, rfl⟩
  have pk : ∀ b o, s2.heap.get? b = some o → s3.heap.get? b = some o := fun b o e => by rw [hs3]; exact Heap.get?_push_of_some _ e
  have I3 : Inv X pins σ H1 s3 := by rw [hs3]; exact I2.kept fun b o e => Heap.get?_push_of_some _ e
  have n3 : s3.heap.objs.size = D + 1 := by rw [hs3, hD]; exact Heap.size_push ..
  have eD : s3.heap.get? D = some (lstObj #[] 0) := by rw [hs3, hD]; exact Heap.get?_push_size _ rfl
  have scs : sc.heap.objs.size ≤ L := z1
  have none1 : ∀ b, L ≤ b → H1 b = none := fun b hb => I1.hok.fresh (Nat.le_trans z1 hb)
  obtain ⟨fp, hfp⟩ : ∃ fp, fp = young L s3.heap.objs.size [a] := ⟨_, rfl⟩
  have mfp : ∀ b, b ∈ fp ↔ b < s3.heap.objs.size ∧ L ≤ b ∧ b ∉ [a] := fun b => by rw [hfp]; exact mem_young
  have f3 : ∀ b ∈ fp, FpOk X pins H1 b ∧ b < s3.heap.objs.size := fun b hb => by
    obtain ⟨y1, y2, y3⟩ := (mfp b).mp hb
    exact ⟨I1.fpOk (Nat.le_trans z1 y2) (none1 b y2), y1⟩
  have I4 := block_start I3 ok nd f3
  rw [← hs3]
  obtain ⟨v, hv⟩ : ∃ v, v = compEnvC scope (cellsFrom (s3.heap.objs.size + 1) scope.names (cloFrom X.env.cells scope.names [])) s3.heap.objs.size X.env := ⟨_, rfl⟩
  have vl : v.locals = s3.heap.objs.size := by rw [hv]; rfl
  obtain ⟨s4, hs4⟩ : ∃ t : Shared, t = { s3 with heap := pushCells (s3.heap.push { cls := .type "dict", data := .dict #[] }) scope.names } := ⟨_, rfl⟩
  have pk4 : ∀ b o, s3.heap.get? b = some o → s4.heap.get? b = some o := fun b o e => by rw [hs4]; exact pushCells_keeps _ _ _ _ (Heap.get?_push_of_some _ e)
  rw [← hv, ← hs4] at I4
  have pg := hg s3 H1 s3.heap.objs.size (cellsFrom (s3.heap.objs.size + 1) scope.names (cloFrom X.env.cells scope.names [])) fp
  have pt := ht s3 H1 s3.heap.objs.size (cellsFrom (s3.heap.objs.size + 1) scope.names (cloFrom X.env.cells scope.names [])) fp
  have pe := hel s3 H1 s3.heap.objs.size (cellsFrom (s3.heap.objs.size + 1) scope.names (cloFrom X.env.cells scope.names [])) fp
  rw [← hv] at pg pt pe
  obtain ⟨g, hg'⟩ : ∃ g : G, g = ⟨X.prog, X.w, X.K, X.mg, X.base, N, qual, scp, f, cd, X.A.in1, X.stack, L⟩ := ⟨_, rfl⟩
  have gL : g.L = L := by rw [hg']
  have gP : g.P = X.prog := by rw [hg']
  have gw : g.w = X.w := by rw [hg']
  have gA : g.A = X.A.in1 := by rw [hg']
  have gB : g.base = X.base := by rw [hg']
  have gO : g.outer = X.stack := by rw [hg']
  rw [← hg'] at seg gok
  have aD : a ≠ D := Nat.ne_of_lt (by rw [hD]; exact z3)
  have LD : L < D := by rw [hD]; exact Nat.lt_trans z2 z3
  have DC : D < v.locals := by rw [vl, n3]; exact Nat.lt_succ_self _
  have aC : a < v.locals := Nat.lt_trans (by rw [hD]; exact z3) DC
  have LC' : L < v.locals := Nat.lt_trans LD DC
  have nst : ∀ b, L ≤ b → b ∉ frs X.stack := fun b hb hm => by
    obtain ⟨_, ob, eb, _⟩ := I1.env0.funs.mem hm
    exact absurd (Nat.lt_of_lt_of_le (Heap.lt_size eb) (Nat.le_trans z1 hb)) (Nat.lt_irrefl _)
  have S : ∀ acc c, Safe g [a, D, v.locals] (X.blk s3 H1 scope v fp) [(D, lstObj acc c), (a, go)] := fun acc c => by
    refine ⟨gP.symm, gw.symm, gO.symm, fun b hb hn => ?_, .inr (by show v.locals ∈ _; simp), fun x d e => ?_, fun p hp => ?_⟩
    · by_cases hl : b < s3.heap.objs.size
      · refine .inl ((mfp b).mpr ⟨hl, by rw [← gL]; exact hb, fun hm => hn ?_⟩)
        rw [List.mem_singleton.mp hm]
        exact List.mem_cons_self
      · exact .inr (Nat.le_of_not_lt hl)
    · have e : v.cells.lookup x = some d := e
      have ec : v.cells = cloFrom X.env.cells scope.names [] := by rw [hv]; exact hoc _ _
      rw [ec] at e
      rcases clo_at _ _ _ _ fr e with z | ⟨y, z⟩
      · cases z
      · obtain ⟨_, ob, eb, _⟩ := I1.cell y d z
        exact .inl (by rw [gL]; exact Nat.lt_of_lt_of_le (Heap.lt_size eb) z1)
    · have hp : p ∈ ([] : List (Addr × Obj)) ++ [(D, lstObj acc c), (a, go)] := hp
      simp only [List.nil_append, List.mem_cons, List.not_mem_nil, or_false] at hp
      rcases hp with rfl | rfl
      · exact .inr (by simp)
      · exact .inr (by simp)
  have inD : ∀ acc c, (D, lstObj acc c) ∈ (X.blk s3 H1 scope v fp).pn ++ [(D, lstObj acc c), (a, go)] := fun acc c => by show _ ∈ ([] : List (Addr × Obj)) ++ _; simp
  have inA : ∀ acc c, (a, go) ∈ (X.blk s3 H1 scope v fp).pn ++ [(D, lstObj acc c), (a, go)] := fun acc c => by show _ ∈ ([] : List (Addr × Obj)) ++ _; simp
  have B : CO g [a, D, v.locals] (CIb X s3 H1 scope v fp (wipe σ (own.map (·.2))) D a go) := by
    refine ⟨fun ys s0 H0 s H ⟨hl, acc, c, r, J⟩ t => ⟨hl, acc, c, r, (S acc c).inv gok.fl J t⟩, fun ys s H ⟨hl, acc, c, r, J⟩ => wo_of J ⟨gP, gw, gB, gO⟩ fun b hb => ?_, fun ys s H ⟨hl, acc, c, r, J⟩ b hb => ?_, fun ys s H G ⟨hl, acc, c, r, J⟩ hb => ⟨hl, acc, c, r, inv_gens' J hb⟩⟩
    · rw [gL, gO]
      simp only [List.mem_cons, List.not_mem_nil, or_false] at hb
      rcases hb with rfl | rfl | rfl
      · obtain ⟨y1, y2, _, _, y5⟩ := J.pin _ (inA acc c)
        exact ⟨y2, Nat.ne_of_gt z2, nst _ (Nat.le_of_lt z2), fun o e => by rw [y1] at e; cases e; exact y5⟩
      · obtain ⟨y1, y2, _, _, y5⟩ := J.pin _ (inD acc c)
        exact ⟨y2, Nat.ne_of_gt LD, nst _ (Nat.le_of_lt LD), fun o e => by rw [y1] at e; cases e; exact y5⟩
      · obtain ⟨m, ⟨ob, es, ep, e1, e2, _⟩, _⟩ := J.loc
        exact ⟨J.free, Nat.ne_of_gt LC', nst _ (Nat.le_of_lt LC'), fun o e w hw => by
          have e1 : s.heap.get? v.locals = some ob := e1
          rw [e1] at e
          cases e
          rw [e2] at hw
          cases hw⟩
    · rw [gL]
      simp only [List.mem_cons, List.not_mem_nil, or_false] at hb
      rcases hb with rfl | rfl | rfl
      · exact ⟨Nat.ne_of_gt z2, _, (J.pin _ (inA acc c)).1⟩
      · exact ⟨Nat.ne_of_gt LD, _, (J.pin _ (inD acc c)).1⟩
      · obtain ⟨m, ⟨ob, es, ep, e1, e2, _⟩, _⟩ := J.loc
        exact ⟨Nat.ne_of_gt LC', ob, e1⟩
  have nD : ∀ acc c (v : Option Value), (lstObj acc c).data ≠ .cell v := fun acc c v z => by cases z
  have I5 : CIb X s3 H1 scope v fp (wipe σ (own.map (·.2))) D a go [] s4 H1 := by
    refine ⟨Nat.zero_le _, #[], 0, .nil, I4.pins_of fun p hp => ?_⟩
    simp only [List.mem_cons, List.not_mem_nil, or_false] at hp
    rcases hp with rfl | rfl
    · exact ⟨pk4 _ _ eD, none1 D (Nat.le_of_lt LD), Nat.ne_of_lt DC, nst D (Nat.le_of_lt LD), nD _ _⟩
    · exact ⟨pk4 _ _ (pk _ _ z4), none1 a (Nat.le_of_lt z2), Nat.ne_of_lt aC, nst a (Nat.le_of_lt z2), z6⟩
  have W0 : Waits g [a, D, v.locals] (CIb X s3 H1 scope v fp (wipe σ (own.map (·.2))) D a go) (cbLc gt tt te σ (own.map (·.2))) (fun ys H2 => ∀ D, H2 D = none → Q (.ref D) (upd H2 D (.lst ys))) (sizeLine + 1) (.fresh c) [(L, o)] (fun ys H' => ys = [] ∧ H' = H1) := by
    refine ⟨fun p hp => ?_, fun ys H' s' hk J as => ⟨sizeLine, rfl, rfl, ?_⟩⟩
    · rw [List.mem_singleton.mp hp]
      refine ⟨Nat.le_of_eq gL, fun hm => ?_, fun hm => ?_, nL⟩
      · simp only [List.mem_cons, List.not_mem_nil, or_false] at hm
        rcases hm with z | z | z
        · exact absurd z (Nat.ne_of_lt z2)
        · exact absurd z (Nat.ne_of_lt LD)
        · exact absurd z (Nat.ne_of_lt LC')
      · have := gok.fl L hm
        rw [gL] at this
        exact absurd this (Nat.lt_irrefl _)
    · obtain ⟨rfl, rfl⟩ := hk
      rw [gA, gP, gw]
      exact seg _ (List V) _ (cbLc gt tt te σ (own.map (·.2))) _ [] s' B J (as (L, o) (List.mem_singleton.mpr rfl)).1 hq
  show codeAny _ _ (.compStart (.ListComp elt [⟨tg, e, ifs, 0⟩] scope pos) 0 (.ref a) (.ref D) (compEnvC scope (cellsFrom (s3.heap.objs.size + 1) scope.names (cloFrom X.env.cells scope.names [])) s3.heap.objs.size X.env)) (compPost (model X.prog X.w) X.A X.xe use Qf (.ref D) s3.heap.objs.size) _
  rw [← hv, ← hs4]
  have walk : codeAny (model X.prog X.w) X.A (.compLoop (.ListComp elt [⟨tg, e, ifs, 0⟩] scope pos) 0 (.ref a) (.ref D) v) (compPost (model X.prog X.w) X.A X.xe use Qf (.ref D) s3.heap.objs.size) s4 := by
    refine compLoop_any (fun n t => ∃ ys H' gs q Kc, CIb X s3 H1 scope v fp (wipe σ (own.map (·.2))) D a go ys t H' ∧ t.gens[gi]? = some gs ∧ Waits g [a, D, v.locals] (CIb X s3 H1 scope v fp (wipe σ (own.map (·.2))) D a go) (cbLc gt tt te σ (own.map (·.2))) (fun ys H2 => ∀ D, H2 D = none → Q (.ref D) (upd H2 D (.lst ys))) n gs q Kc ∧ Kc ys H' ∧ Asleep g [a, D, v.locals] q H' t) ?_ (sizeLine + 1)
      ⟨[], H1, _, _, _, I5, by rw [hs4, hs3]; exact z7, W0, ⟨rfl, rfl⟩, fun p hp => by rw [List.mem_singleton.mp hp]; exact ⟨pk4 _ _ (pk _ _ z12), none1 L (Nat.le_refl _)⟩⟩
    rintro n t ⟨ys, H', gs, q, Kc, K0, hgs, W, hK, as⟩
    rw [← gP, ← gw]
    refine next_ok B gA (I3.ok.hd hcalm) (by have := hr.dp; omega) (fun ys s H ⟨_, acc, c, _, J⟩ => ⟨z5 _ (J.pin _ (inA acc c)).1, J.nolimit, J.bare⟩) (fun ys s H h' ⟨hl, acc, c, r, J⟩ k => ⟨hl, acc, c, r, Inv.kept J k⟩) K0 hgs W hK as (fun u t1 gs' x q' ys1 H2 K1 hsl hgs' rv ⟨hl, acc, cc, r, J1⟩ as1 hcb ⟨m, hnm, W1⟩ => ?_) fun t1 ys1 H2 ⟨hl, acc, cc, r, J1⟩ hf => ?_
    · rw [gP, gw]
      obtain ⟨ho, nm, qn, e1, e2, e3, e4⟩ := z5 _ (J1.pin _ (inA acc cc)).1
      refine go_of e1 e2 e3 (by decide) ?_
      have qs : ∀ p ∈ q', L ≤ p.1 ∧ p.1 ≠ a ∧ p.1 ≠ D ∧ p.1 ≠ v.locals ∧ ∀ v, p.2.data ≠ .cell v := fun p hp => by
        obtain ⟨y1, y2, y3, y4⟩ := W1.1 p hp
        rw [gL] at y1
        simp only [List.mem_cons, List.not_mem_nil, or_false, not_or] at y2
        exact ⟨y1, y2.1, y2.2.1, y2.2.2, y4⟩
      have J2 : Inv (X.blk s3 H1 scope v fp) ([(D, lstObj acc cc), (a, go)] ++ q') (wipe σ (own.map (·.2))) H2 t1 := Inv.more J1 fun p hp => by
        obtain ⟨y1, y2, y3, y4, y5⟩ := qs p hp
        obtain ⟨w1, w2⟩ := as1 p hp
        exact ⟨w1, w2, y4, nst _ y1, y5⟩
      refine wpAny_mono (under (pg.run _ (veiled t1) _ H2 x u _ (inv_gens' J2 (veiled_bare J2.bare)) rv hcb)) (fun _ t2 ⟨sl2, G2, ⟨σ3, H3, J3, hw, q3⟩, b2⟩ => ?_) fun _ _ z => z.2.elim fun _ y => y.1.elim
      have J3 := inv_gens J3 (b2 J3.bare)
      refine wpAny_mono (under (pt.run _ (veiled t2) σ3 H3 _ (inv_gens' J3 (veiled_bare J3.bare)) q3)) (fun b t3 ⟨sl3, G3, ⟨H4, J4, q4⟩, b3⟩ => ?_) fun _ _ z => z.2.elim fun _ y => y.1.elim
      have J4 := inv_gens J4 (b3 J4.bare)
      have again : ∀ {t' : Shared} {acc' : Array Value} {c' : Nat} {ys' : List V} {H5 : Hp}, ys'.length ≤ sizeLine → Vals ys' acc'.toList → Inv (X.blk s3 H1 scope v fp) ([(D, lstObj acc' c'), (a, go)] ++ q') σ3 H5 t' → t'.gens[gi]? = some gs' → K1 ys' H5 → ∃ m, m < n ∧ ∃ ys H' gs q Kc, CIb X s3 H1 scope v fp (wipe σ (own.map (·.2))) D a go ys t' H' ∧ t'.gens[gi]? = some gs ∧ Waits g [a, D, v.locals] (CIb X s3 H1 scope v fp (wipe σ (own.map (·.2))) D a go) (cbLc gt tt te σ (own.map (·.2))) (fun ys H2 => ∀ D, H2 D = none → Q (.ref D) (upd H2 D (.lst ys))) m gs q Kc ∧ Kc ys H' ∧ Asleep g [a, D, v.locals] q H' t' := fun {t' acc' c' ys' H5} hl' r' J5 hg5 k5 => by
        refine ⟨m, by omega, ys', H5, gs', q', K1, ⟨hl', acc', c', r', (Inv.less J5).weak (by rw [← hw, wipe_length]) fun j y e => ?_⟩, hg5, W1, k5, Inv.them J5⟩
        rw [← hw] at e
        exact (wipe_some e).1
      have g3 : t3.gens[gi]? = some gs' := sl3 gi gs' (sl2 gi gs' hgs' hsl) hsl
      cases b with
      | false =>
        rw [if_neg Bool.false_ne_true] at q4 ⊢
        exact again hl r J4 g3 q4
      | true =>
        rw [if_pos rfl] at q4 ⊢
        refine wpAny_mono (under (pe.run _ (veiled t3) σ3 H4 _ (inv_gens' J4 (veiled_bare J4.bare)) q4)) (fun y t4 ⟨sl4, G4, ⟨yv, H5, J5, ry, hlt, k5⟩, b4⟩ => ?_) fun _ _ z => z.2.elim fun _ y => y.1.elim
        have J5 := inv_gens J5 (b4 J5.bare)
        have pD := J5.pin (D, lstObj acc cc) (by show _ ∈ ([] : List (Addr × Obj)) ++ _; simp)
        have rl := r.length
        refine append_at (hsz := by have : acc.toList.length = acc.size := Array.length_toList; omega) pD.1 fun h' sb ho' => ?_
        have base : Inv (X.blk s3 H1 scope v fp) ([(a, go)] ++ q') σ3 H5 t4 := J5.pins_of fun p hp => J5.pin p (List.mem_append_right _ (by
          rcases List.mem_append.mp hp with z | z
          · rw [List.mem_singleton.mp z]; simp
          · exact List.mem_append_right _ z))
        have DJ : Inv (X.blk s3 H1 scope v fp) ([(a, go)] ++ q') σ3 H5 { t4 with heap := h' } := base.turned (it := D) (t' := t4.toks) (fun b o hb e => (sb.2 b hb).trans e) pD.2.1 (Nat.ne_of_lt DC) (.inl ((mfp D).mpr ⟨by rw [n3]; exact Nat.lt_succ_self _, Nat.le_of_lt LD, fun hm => aD (List.mem_singleton.mp hm).symm⟩)) (fun x c e z => by
            have := (S acc cc).cell x c e
            rcases this with y | y
            · rw [gL] at y; rw [z] at y; exact absurd y (Nat.not_lt_of_le (Nat.le_of_lt LD))
            · obtain ⟨w, ob, eb, db⟩ := J5.cell x c e
              rw [z, pD.1] at eb
              cases eb
              cases db) (fun p hp => by
            have hp : p ∈ ([] : List (Addr × Obj)) ++ ([(a, go)] ++ q') := hp
            rw [List.nil_append] at hp
            rcases List.mem_append.mp hp with z | z
            · rw [List.mem_singleton.mp z]; exact aD
            · exact (qs p z).2.2.1)
        refine again (acc' := acc.push y) (c' := cc + 1) (ys' := ys1 ++ [yv]) (by rw [List.length_append, List.length_singleton]; omega) (by rw [Array.toList_push]; exact r.append (.cons ry .nil)) (DJ.pins_of fun p hp => ?_) (sl4 gi gs' g3 hsl) k5
        rcases List.mem_append.mp hp with z | z
        · rcases List.mem_cons.mp z with z | z
          · rw [z]
            exact ⟨ho', pD.2.1, Nat.ne_of_lt DC, nst D (Nat.le_of_lt LD), nD _ _⟩
          · exact DJ.pin p (List.mem_append_right _ (List.mem_append_left _ z))
        · exact DJ.pin p (List.mem_append_right _ (List.mem_append_right _ z))
    · rw [gP, gw]
      obtain ⟨m, hn, _⟩ := J1.loc
      have pD := J1.pin (D, lstObj acc cc) (inD acc cc)
      have os3 : s3.os = s2.os := by rw [hs3]
      have end1 : Inv X pins σ (upd H2 D (.lst ys1)) t1 := I2.drained (ex := fp) (Nat.le_of_eq hD.symm) hl pD.1 r (fun b hb => by
        obtain ⟨⟨_, y1, _, y3, y4, y5⟩, _⟩ := f3 b hb
        exact ⟨y3, y1, y4, y5⟩) (J1.os.trans os3) J1.bare ((Un.kept pk).trans J1.base) J1.hok pD.2.1
      have hn : t1.heap.Ns v.locals m := hn
      rw [vl] at hn
      have nC : H2 s3.heap.objs.size = none := by
        have z : H2 v.locals = none := J1.free
        rw [vl] at z
        exact z
      exact hRR D s3.heap.objs.size t1 m (upd H2 D (.lst ys1)) end1 (hf D pD.2.1) hn (I3.fpOk (Nat.le_refl _) ((upd_ne (by rw [n3]; exact Nat.succ_ne_self D)).trans nC))
  exact codeAny_compStart_list walk (wpAny_pyIter_gen (z5 _ (pk4 _ _ (pk _ _ z4))) walk)
/-- name = [.. for x in a generator that lives] on one line, the name a local -/
theorem ps_setLcG {i : Nat} {y : Str} {py spos : Pos} (hc : X.calm = true) (hr : Room (k + 1) X.A) (hN : X.N.Nodup) (hy : X.N[i]? = some y) (hyl : X.env.scope.names.lookup y = some .local)
    (hsw : swapsWith (.ListComp elt [⟨tg, e, ifs, 0⟩] scope pos) (some (.Name y py)) spos.line X.env = pure true) (he : PLG X k e tl) (ok : BlkOk X.N X.env.scope scope own) (hoc : ∀ n acc, cellsFrom n scope.names acc = acc)
    (hg : ∀ s H C cl fp, PG (X.blk s H scope (compEnvC scope cl C X.env) fp) tg gt) (ht : ∀ s H C cl fp, PTs (X.blk s H scope (compEnvC scope cl C X.env) fp) ifs tt) (hel : ∀ s H C cl fp, PE (X.blk s H scope (compEnvC scope cl C X.env) fp) elt te)
    (fold : ∀ x, foldedSetIterable e X.env x = pure x := by intro _; rfl) :
    PS X (.Assign [.Name y py] (.ListComp elt [⟨tg, e, ifs, 0⟩] scope pos) spos) (tAsg (tLcG tl gt tt te (own.map (·.2))) (gName i)) := by
  refine ⟨fun pins s σ H D I h => ?_⟩
  rw [exec_Assign_Name_used _ _ _ _ hsw]
  refine wpAny_bind (wpAny_standAt (wpAny_bind ?_))
  show wpAny _ X.A (do let _ ← comprehension (.ListComp elt [⟨tg, e, ifs, 0⟩] scope pos) scope X.env (firstIterPos [⟨tg, e, ifs, 0⟩] pos) (newList []) false (eval e X.env) (some (assign (.Name y py) X.env))) _ _ s
  have h : tLcG tl gt tt te (own.map (·.2)) σ H (fun x H1 => gName i x σ H1 D.nx) := h
  refine wpAny_bind (thn (lc_coreG (Qf := fun _ s' => SP X pins D .next s') hc hr hN I he ok hoc hg ht hel fold h fun L C s' m H' I' q hn f => ?_) fun _ s' hq => wpAny_pure (wpAny_pure hq))
  show wpAny _ _ (assign (.Name y py) X.env (.ref L)) _ _ _
  refine wpAny_assign_Name (store_ok2 (v := V.ref L) I' hN hy (.inl hyl) rfl (fun s2 I2 ⟨a, sb, ha⟩ => ?_) (.inr hyl))
  obtain ⟨f0, f1, f2, f3, f4, f5⟩ := f
  have haC : C ≠ a := by
    rcases ha with z | z
    · rw [z]; exact f1
    · exact fun e => f4 y a z e.symm
  refine ⟨m, hn.sameBut sb haC, fun h3 sb3 => ?_⟩
  exact ⟨_, H', I2.turned (t' := s2.toks) (fun b o hb e => (sb3.2 b hb).trans e) f0 f1 f3 f4 f5, q⟩
end
section
variable {X : Cx} {j k n : Nat} {x y : Str} {sp : SpL} {i : Nat} {e : Expr} {es : List Expr} {p pos' pos spos py : Pos} {scope : Scope} {t : TA}
theorem ps_setLcCX {elt tg : Expr} {ifs : List Expr} {own : List (Str × Nat)} {gt : TG} {tt : TT} {te : TE} (c : LCal X.prog X.w X.K X.mg X.base k x n sp) (hcalm : X.calm = true) (hr : Room j X.A) (hk : k + 1 ≤ j) (hgl : Gl X x) (nd : X.N.Nodup) (hy : X.N[i]? = some y) (hyl : X.env.scope.names.lookup y = some .local) (hsw : swapsWith (.ListComp elt [⟨tg, .Call (.Name x p) (e :: es) [] pos', ifs, 0⟩] scope pos) (some (.Name y py)) spos.line X.env = pure true) (ha : PA X (e :: es) t) (ok : BlkOk X.N X.env.scope scope own) (hoc : ∀ n acc, cellsFrom n scope.names acc = acc)
    (hg : ∀ s H C cl fp, PG (X.blk s H scope (compEnvC scope cl C X.env) fp) tg gt) (ht' : ∀ s H C cl fp, PTs (X.blk s H scope (compEnvC scope cl C X.env) fp) ifs tt) (hel : ∀ s H C cl fp, PE (X.blk s H scope (compEnvC scope cl C X.env) fp) elt te)
    (hdb : (x == ("__debug__" : Str)) = false := by decide) (he : starEach (e :: es) X.env = (false, eval e X.env) :: starEach es X.env := by rfl) (hpl : (backTo pos' (starEach es X.env)).any (·.1) = false := by rfl)
    (fold : ∀ y, foldedSetIterable (.Call (.Name x p) (e :: es) [] pos') X.env y = pure y := by intro _; rfl) : PS X (.Assign [.Name y py] (.ListComp elt [⟨tg, .Call (.Name x p) (e :: es) [] pos', ifs, 0⟩] scope pos) spos) (tAsg (tLcG (tCallL n sp [] t) gt tt te (own.map (·.2))) (gName i)) :=
  ps_setLcG hcalm (hr.mono hk) nd hy hyl hsw (plg_c c hr hk hgl ha hdb he hpl) ok hoc hg ht' hel fold
end
end Lv
set_option Elab.async false
set_option linter.all false
set_option maxRecDepth 100000
set_option maxHeartbeats 4000000
set_option exponentiation.threshold 2000
namespace Gx
open PySem PySem.Spec PyProof.Rows L2
theorem pick {l : List Int} {P : Int → Prop} (h : ∀ x ∈ l, P x) {i : Int} (h0 : 0 ≤ i) (h1 : i < (l.length : Int)) : ∃ x, P x ∧ atI (l.map V.int) i = some (.int x) := by
  obtain ⟨n, rfl⟩ := Int.eq_ofNat_of_zero_le h0
  have hl : n < l.length := by omega
  refine ⟨l[n], h _ (List.getElem_mem hl), ?_⟩
  refine atI_nat ?_
  rw [List.getElem?_map, List.getElem?_eq_getElem hl]
  rfl
end Gx
set_option Elab.async false
set_option linter.all false
set_option maxRecDepth 100000
set_option maxHeartbeats 1000000
namespace Gx
open PySem PySem.Spec PySem.Calls PyProof.Rows PySem.W
section
variable {prog : Program} {w : World} {A : Around} {E : Value → Shared → Prop} {s : Shared} {K : Frag} {a D : Addr} {oa odict : Obj}
/-- e.__class__ -/
theorem cls_of_exc {Q : Option Value → Shared → Prop} (G : L2.ExcC K D) (KI : K.In s.heap) (J : InstAt s.heap a oa D (some odict)) (q : Q (some (.ref D)) { s with toks := s.toks + 1 }) : wpAny (model prog w) A (getAttr? (.ref a) "__class__") Q E s := by
  have some1 : (clsIn K D).isSome = true := by
    obtain ⟨_, e, _⟩ := any_some G.hd
    rw [e]; rfl
  have found := findObj_data (od := odict) some1 G.ha G.hn G.ht
  obtain ⟨hp, gs, dr, tk, oss⟩ := s
  have M1 : Looks (model prog w) hp (typeOf (.ref a)) (.ref D) := J.type
  have M2 := looks_findIn (M := model prog w) KI G.hg
  have M3 := looks_findIn (M := model prog w) KI G.hk
  have M4 := looks_find (M := model prog w) KI J found
  have M5 : Looks (model prog w) hp (isInstance (.ref a) (.type "BaseException")) true := M1.andThen (looks_subIn KI G.hs)
  have other : (Value.builtin "BaseException.__getattribute__" == Value.builtin "object.__getattribute__") = false := by decide +kernel
  have b1 : (onTheHeap (Value.ref D) && Value.builtin "BaseException.__getattribute__" == Value.builtin "object.__getattribute__") = false := by rw [other]; rfl
  unfold getAttr? getAttrBy? getAttrBy
  refine wpAny_bind (wpAny_mkText (wpAny_bind (wpAny_attempt (wpAny_holding (wpAny_bind (M1.at (wpAny_bind (M2.at ?a1))))))))
  case a1 =>
    show wpAny _ _ (if (onTheHeap (Value.ref D) && Value.builtin "BaseException.__getattribute__" == Value.builtin "object.__getattribute__") = true then _ else _) _ _ _
    rw [b1, if_neg Bool.false_ne_true]
    unfold getAttrByItsOwn hookBefore
    refine wpAny_bind ?a2
    case a2 =>
      rw [if_pos (show onTheHeap (Value.ref D) = true from rfl)]
      refine M3.at (wpAny_bind (wpAny_attempt (wpAny_holding ?a3)))
      case a3 =>
        unfold callGetattribute
        rw [show (false && onTheHeap (Value.builtin "BaseException.__getattribute__")) = false from rfl, if_neg Bool.false_ne_true]
        unfold boundAndCalled
        rw [PySem.F.excAttr_ValueError.ga.bind (.ref a)]
        refine wpAny_bind (wpAny_pure ?a4)
        case a4 =>
          show wpAny _ _ (call (.builtin "BaseException.__getattribute__") [.ref a, .str "__class__" tk]) _ _ _
          refine wpAny_call (codeAny_call_builtin PySem.F.excAttr_ValueError.ga.plain PySem.F.entry_bexc_ga (@check_slot (model prog w) _ _ ⟨hp, gs, dr, tk + 1, oss⟩ "BaseException.__getattribute__" "BaseException" "__getattribute__" (.ref a) [.str "__class__" tk] [] _
            (by decide +kernel) (by decide +kernel) M5 (PySem.F.args_bexc_ga (.ref a) (.str "__class__" tk)) ?a5))
          case a5 =>
            unfold Builtin.«object.__getattribute__»
            refine wpAny_bind (wpAny_of_eq (a := ((Value.ref a : Value), [Value.str "__class__" tk])) (by first | rfl | (simp only [slotArgs]; rfl)) (wpAny_bind (wpAny_pure (wpAny_bind (M1.at (wpAny_bind (M4.at ?a6)))))))
            case a6 =>
              show wpAny _ _ (holding [Value.builtin "object.__class__"] (call (.builtin "getset_descriptor.__get__") [.builtin "object.__class__", .ref a, .ref D]) >>= ret) _ _ _
              refine wpAny_bind (wpAny_holding (wpAny_call (class_get (s := ⟨hp, gs, dr, tk + 1, oss⟩) KI J G.hm (wpAny_pure ?a7))))
              case a7 =>
                show wpAny _ _ (handedOut (.ref D)) _ _ _
                rw [handedOut_of (v := .ref D) rfl]
                first
                  | exact wpAny_pure (wpAny_pure q)
                  | exact wpAny_pure q
                  | exact wpAny_pure (wpAny_bind (wpAny_pure (wpAny_pure q)))
theorem kit_exc (G : L2.ExcC K D) : KitX K (.ref a) (.ref D) (fun h => InstAt h a oa D (some odict)) := by
  have atK : ∃ c d cd sl, K.lookup D = some ⟨c, d, .cls cd, sl⟩ := by
    obtain ⟨_, e, _⟩ := any_some G.hd
    unfold clsIn at e
    split at e
    · exact ⟨_, _, _, _, by assumption⟩
    · cases e
  obtain ⟨c, d, cd, sl, eD⟩ := atK
  refine ⟨fun _ _ _ J => J.type, fun _ _ KI _ => ?_, fun h tp dd its n sl' KI e => ?_, fun KI J q => cls_of_exc G KI J q⟩
  · intro A' Q' E' s' k q
    unfold isType loadHead
    exact wpAny_bind (wpAny_loadPart (k _ _ (KI _ _ eD)) (wpAny_pure q))
  · refine Bool.eq_false_iff.mpr fun z => ?_
    obtain rfl : D = tp := Value.ref.inj (beq_iff_eq.mp z)
    cases (KI _ _ eD).symm.trans e
end
open L2
end Gx
set_option Elab.async false
set_option linter.all false
set_option maxRecDepth 100000
set_option maxHeartbeats 1000000
namespace Gx
open PySem PySem.Spec PyProof.Rows L2
end Gx
set_option Elab.async false
set_option linter.all false
set_option maxRecDepth 100000
set_option maxHeartbeats 1000000
namespace Gx
open PySem PySem.Spec PyProof.Rows L2
end Gx
set_option Elab.async false
set_option linter.all false
set_option maxRecDepth 100000
set_option maxHeartbeats 4000000
namespace Au
open PySem PySem.Spec PyProof.Rows L2
def ExP (p : Addr) (H H' : Hp) : Prop := ∀ c o, H c = some o → c ≠ p → H' c = some o
theorem ExP.refl {p : Addr} (H : Hp) : ExP p H H := fun _ _ e _ => e
theorem ExP.of {p : Addr} {H H' : Hp} (e : Rd.Ex H H') : ExP p H H' := fun c o h _ => e c o h
theorem ExP.trans {p : Addr} {H H1 H2 : Hp} (a : ExP p H H1) (b : ExP p H1 H2) : ExP p H H2 := fun c o h n => b c o (a c o h n) n
section
variable {H H' : Hp} {p b c : Addr} {o o' z : HO}
theorem alloc {Q : VK} (q : ∀ p H', H p = none → Rd.Ex H H' → H' p = some o → Q (.ref p) H') : ∀ p, H p = none → Q (.ref p) (upd H p o) := fun p hp => q p _ hp (Rd.ex_new hp) upd_same
end
theorem rep {H : Hp} {Q : VK} {l : Addr} {k : Int} {xs : List V} (h1 : H l = some (.lst xs)) (hk : 0 ≤ k ∧ k < 100) (hl : xs.length ≤ 10) (q : ∀ p H', H p = none → Rd.Ex H H' → H' p = some (.lst (List.replicate k.toNat xs).flatten) → Q (.ref p) H') : rRep (.ref l) (.int k) H Q :=
  ⟨l, k, xs, rfl, rfl, h1, by omega, by omega, Nat.le_trans (Nat.mul_le_mul hl (show k.toNat ≤ 100 by omega)) (Nat.le_of_ble_eq_true rfl), fun p hp => q p _ hp (Rd.ex_new hp) upd_same⟩
def NewO (H : Hp) (o : HO) (Q : VK) : Prop := ∀ p, H p = none → Q (.ref p) (upd H p o)
section
variable {σ : L2.St} {H : Hp} {Q : VK} {K : PySem.W.Frag} {tr : TA} {te ti : TE} {o : HO} {a C dx : Addr} {fs : List (Str × V)} {xs : List V} {v : V}
theorem new (q : ∀ p H', H p = none → Rd.Ex H H' → H' p = some o → Q (.ref p) H') : NewO H o Q := fun p hp => q p _ hp (Rd.ex_new hp) upd_same
theorem tup (h : tr σ H fun xs H1 => xs.length ≤ sizeLine ∧ NewO H1 (.tup xs) Q) : tTup tr σ H Q := h
theorem lst (h : tr σ H fun xs H1 => xs.length ≤ sizeLine ∧ NewO H1 (.lst xs) Q) : tLst tr σ H Q := h
theorem sum {ns : List Int} (h : SqL K H a (ns.map V.int)) (q : Q (.int ns.sum) H) : rSum K [.ref a] H Q := ⟨a, ns, rfl, h, q⟩
end
end Au
set_option maxRecDepth 100000
namespace ML
def A : Int := 205891132094649
def M : Int := 281474976710656
def S : Nat → Int
  | 0 => 0
  | n + 1 => A * S n + 1
/-- the state after n steps, as an integer -/
def raw (n : Nat) (x : Int) : Int := A ^ n * x + 11 * S n
def m1 (n : Nat) : Int := A ^ n % 281474976710656
def m2 (n : Nat) : Int := 11 * S n % 281474976710656
end ML
set_option linter.all false
namespace MX
def xs (k n : Nat) : Nat := n ^^^ (n / 2 ^ k)
def F : Nat := 3486784401
def tmp (n : Nat) : Nat := xs 16 (xs 13 n * F % 4294967296)
theorem xx (a b : Nat) : a ^^^ b ^^^ b = a := by rw [Nat.xor_assoc, Nat.xor_self, Nat.xor_zero]
theorem mod_lt (a : Nat) : a % 4294967296 < 2 ^ 32 := Nat.mod_lt _ (by decide)
/-- the rounds -/
def fe (s : Nat) (p : Nat × Nat) : Nat × Nat := (p.2, p.1 ^^^ tmp ((p.2 + 1000003 * s) % 4294967296))
def bk (s : Nat) (p : Nat × Nat) : Nat × Nat := (p.2 ^^^ tmp ((p.1 + 1000003 * s) % 4294967296), p.1)
def ok (p : Nat × Nat) : Prop := p.1 < 2 ^ 32 ∧ p.2 < 2 ^ 32
def spl (n : Nat) : Nat × Nat := (n / 4294967296, n % 4294967296)
end MX
set_option Elab.async false
set_option linter.all false
set_option maxRecDepth 100000
set_option maxHeartbeats 4000000
set_option exponentiation.threshold 2000
namespace Pr
open PySem PySem.Spec PyProof.Rows L2
def NonInt (H : Hp) (v : V) : Prop := v = .non ∨ (∃ b, v = .bl b) ∨ (∃ s, v = .str s) ∨ (∃ a xs, v = .ref a ∧ H a = some (.tup xs)) ∨ (∃ a xs, v = .ref a ∧ H a = some (.lst xs)) ∨ ∃ a kvs, v = .ref a ∧ H a = some (.dK kvs)
/-- is the value a number in its bounds -/
abbrev spIs (lo hi : Int) : Sp := fun vs H Q _ => ∃ v, vs = [v] ∧ ((∃ n : Int, v = .int n ∧ Q (.bl (decide (lo ≤ n ∧ n ≤ hi))) H) ∨ (NonInt H v ∧ Q (.bl false) H))
def MapAt (K : PySem.W.Frag) (H : Hp) (a : Addr) (n : Nat) : Prop := SqT K H a [.int (ML.m1 n), .int (ML.m2 n)]
theorem MapAt.ex {K : PySem.W.Frag} {H H' : Hp} {a : Addr} {n : Nat} (e : Rd.Ex H H') (h : MapAt K H a n) : MapAt K H' a n := Rd.ex_t e h
end Pr
set_option Elab.async false
set_option linter.all false
set_option maxRecDepth 100000
set_option maxHeartbeats 4000000
namespace Gx
open PySem PySem.Spec PyProof.Rows L2
def gFld (K : PySem.W.Frag) (to : TE) (f : Str) : TG := fun v σ H Q => to σ H fun x H1 => ∃ a C dx fs, x = .ref a ∧ H1 a = some (.ins C dx fs) ∧ Cls K C ∧ NoAttr K C f ∧ fs.length < 1000 ∧ Q σ (upd H1 a (.ins C dx (putF f v fs)))
end Gx
set_option Elab.async false
set_option linter.all false
set_option maxRecDepth 100000
set_option maxHeartbeats 1000000
namespace Gx
open PySem PySem.Spec PyProof.Rows L2 GenW Builtin Builtin.ObjectAttr
end Gx
set_option Elab.async false
set_option linter.all false
set_option maxRecDepth 100000
set_option maxHeartbeats 1000000
namespace Gx
open PySem PySem.Spec PyProof.Rows L2 GenW
end Gx
set_option Elab.async false
set_option linter.all false
set_option maxRecDepth 100000
set_option maxHeartbeats 1000000
namespace Gx
open PySem PySem.Spec PyProof.Rows L2 GenW
def rTupOf (K : PySem.W.Frag) : List V → Hp → VK → Prop := fun xs H Q => ∃ p ys, xs = [.ref p] ∧ ((SqL K H p ys ∧ ∀ l, H l = none → Q (.ref l) (upd H l (.tup ys))) ∨ (SqT K H p ys ∧ Q (.ref p) H))
theorem call_tupOf {X : Cx} : CallR X (.type "tuple") (rTupOf X.K) := call_tuple_of
def rLstOf (K : PySem.W.Frag) : List V → Hp → VK → Prop := fun xs H Q => ∃ p ys, xs = [.ref p] ∧ (SqL K H p ys ∨ SqT K H p ys) ∧ ∀ l, H l = none → Q (.ref l) (upd H l (.lst ys))
theorem call_lstOf {X : Cx} : CallR X (.type "list") (rLstOf X.K) := call_list_of
section
variable {H : Hp} {Q : VK} {K : PySem.W.Frag} {a b : Addr} {xs zs : List V}
theorem ext (h : H a = some (.lst xs)) (h2 : H b = some (.lst zs)) (hl : xs.length + zs.length ≤ 1000000) (q : ∀ H', Au.ExP a H H' → H' a = some (.lst (xs ++ zs)) → Q .non H') : rExtend (.ref a) [.ref b] H Q :=
  ⟨a, b, xs, zs, rfl, rfl, h, h2, Nat.le_trans hl (Nat.le_of_ble_eq_true rfl), q _ (fun c z h n => by rw [upd_ne n]; exact h) upd_same⟩
theorem frz {ta : TA} {g : TG} {tb : TS} {D : Ends} {σ : L2.St} (h : ta σ H fun vs H1 => ∃ a b xs ys, vs = [.ref a, .ref b] ∧ SqL K H1 a xs ∧ SqL K H1 b ys ∧ ∃ W : Nat → Nat → L2.St → Hp → Prop, (∃ m, W 0 m σ H1) ∧ ∀ i m σ H, W i m σ H →
    ((Itz K a b).stop i H ∧ D.nx σ H) ∨ ((Itz K a b).go i H ∧ ∃ N : L2.St → Hp → Prop, (∀ σ' H', N σ' H' → ∃ m', m' < m ∧ W (i + 1) m' σ' H') ∧ ∀ x H', (Itz K a b).yld i H x H' → g x σ H' fun σ2 H2 => tb { D with nx := N, ct := N, bk := D.nx } σ2 H2)) :
    tFor (iZip K ta) g tb D σ H := h
end
end Gx
set_option Elab.async false
set_option linter.all false
set_option maxRecDepth 100000
set_option maxHeartbeats 1000000
namespace Pr
open PySem PySem.Spec PyProof.Rows L2
/-- all but two objects stand -/
def ExQ (p r : Addr) (H H' : Hp) : Prop := ∀ c o, H c = some o → c ≠ p → c ≠ r → H' c = some o
theorem ExQ.refl {p r : Addr} (H : Hp) : ExQ p r H H := fun _ _ e _ _ => e
abbrev ScrO (C dx sa : Addr) (pl : Nat) : HO := .ins C dx [("s1_script", .ref sa), ("s1_place", .int (pl : Int))]
abbrev DrwO (C dx so : Addr) (n : Nat) : HO := .ins C dx [("s5_source", .ref so), ("s5_used", .int (n : Int))]
abbrev words (ws : List Nat) : List V := ws.map fun (w : Nat) => V.int (w : Int)
/-- a script at its object -/
structure SAt (C : Addr) (H : Hp) (o dx a : Addr) (ws : List Nat) (pl : Nat) : Prop where
  obj : H o = some (ScrO C dx a pl)
  tup : H a = some (.tup (words ws))
  le : pl ≤ ws.length
/-- draws over a script -/
structure DAt (C S : Addr) (H : Hp) (p dx o dy a : Addr) (ws : List Nat) (pl n : Nat) : Prop where
  drw : H p = some (DrwO C dx o n)
  scr : SAt S H o dy a ws pl
theorem DAt.ne {C S p dx o dy a : Addr} {H : Hp} {ws : List Nat} {pl n : Nat} (h : DAt C S H p dx o dy a ws pl n) : p ≠ o ∧ a ≠ p ∧ a ≠ o := by
  refine ⟨ne_of h.drw h.scr.obj (fun z => ?_), ne_of h.scr.tup h.drw (fun z => by cases z), ne_of h.scr.tup h.scr.obj (fun z => by cases z)⟩
  have e : ("s5_source" : Str) = "s1_script" := congrArg (fun o => match o with | HO.ins _ _ ((f, _) :: _) => f | _ => "") z
  exact absurd e (by decide +kernel)
end Pr
set_option Elab.async false
set_option linter.all false
set_option maxRecDepth 100000
set_option maxHeartbeats 1000000
namespace Gx
open PySem PySem.Spec PyProof.Rows L2 GenW
end Gx
set_option Elab.async false
set_option linter.all false
set_option maxRecDepth 100000
set_option maxHeartbeats 1000000
namespace Gx
open PySem PySem.Spec PyProof.Rows L2
section
variable {σ : L2.St} {H : Hp} {Q : VK} {te : TE} {j : Nat} {z : Str}
def rLenS : List V → Hp → VK → Prop := fun xs H Q => ∃ z, xs = [.str z] ∧ z.length ≤ sizeLine ∧ Q (.int (z.length : Nat)) H
theorem call_lenS {X : Cx} : CallR X (.builtin "len") rLenS := call_len_str
def rOrd : List V → Hp → VK → Prop := fun xs H Q => ∃ x, xs = [.str x] ∧ x.length = 1 ∧ Q (.int (x.cps.getD 0 0 : Nat)) H
end
end Gx
set_option Elab.async false
set_option linter.all false
set_option maxRecDepth 100000
set_option maxHeartbeats 1000000
namespace Gx
open PySem PySem.Spec PyProof.Rows L2
/-- an exception that is kept: at a, of the class cls, its dict at d -/
def xob (a : Addr) (cls : Value) (d : Option Addr) : HO := .ext fun h => ∃ (oe : Obj) (vs : Array Value), h.get? a = some oe ∧ oe.cls = cls ∧ oe.dict = d ∧ oe.data = .fields vs
theorem xob_at {P : Program} {w : World} {H : Hp} {h : Heap} {a : Addr} {cls : Value} {d : Option Addr} (ok : HOk P w H h) (e : H a = some (xob a cls d)) : ∃ (oe : Obj) (vs : Array Value), h.get? a = some oe ∧ oe.cls = cls ∧ oe.dict = d ∧ oe.data = .fields vs := (ok a _ e).1
def rIsK (K : PySem.W.Frag) : List V → Hp → VK → Prop := fun xs H Q => ∃ (a D dd : Addr) (fs : List (Str × V)) (c : V) (cv : Value) (b : Bool), xs = [.ref a, c] ∧ ExcC K D ∧ H a = some (xob a (.ref D) (some dd)) ∧ H dd = some (.xd fs) ∧ (∀ u, RelV c u → u = cv) ∧ PySem.W.kitOne K (.ref D) cv = some b ∧ Q (.bl b) H
theorem call_isK {X : Cx} : CallR X (.builtin "isinstance") (rIsK X.K) := by
  intro pins s σ H xs us Q I r h
  obtain ⟨a, D, dd, fs, c, cv, b, rfl, G, ha, hd, hcv, e, q⟩ := h
  cases r with
  | cons rx rr =>
    cases rr with
    | cons rt rr =>
      cases rr
      cases rx
      obtain rfl := hcv _ rt
      obtain ⟨oe, vs, e1, e2, e3, e4⟩ := xob_at I.hok ha
      obtain ⟨mA, ns, _⟩ := (show ObjOk X.prog X.w H s.heap dd (.xd fs) from I.hok dd _ hd)
      obtain ⟨od, ho, _⟩ := lookIn_ns ns
      have J : PySem.W.InstAt s.heap a oe D (some od) := ⟨e1, e2, by unfold PySem.W.notCls; rw [e4] <;> rfl, by rw [e3]; exact ho⟩
      exact PySem.W.kia_one (kit_exc G) I.kIn J e (fun z => nomatch z) fun tk => ⟨.bl b, H, I.kept (t' := tk) fun _ _ z => z, rfl, q⟩
end Gx
set_option Elab.async false
set_option linter.all false
set_option maxRecDepth 100000
set_option maxHeartbeats 1000000
namespace Gx
open PySem PySem.Spec PyProof.Rows L2
end Gx
set_option Elab.async false
set_option linter.all false
set_option maxRecDepth 100000
set_option maxHeartbeats 1000000
namespace Pr
open PySem PySem.Spec PyProof.Rows L2
/-- a value as a number in its bounds -/
inductive Nm (lo hi : Int) (H : Hp) : V → Option Int → Prop
  | int (n : Int) : Nm lo hi H (.int n) (if lo ≤ n ∧ n ≤ hi then some n else none)
  | non {v : V} (h : NonInt H v) : Nm lo hi H v none
theorem Nm.bad {lo hi n : Int} {H : Hp} (h : ¬ (lo ≤ n ∧ n ≤ hi)) : Nm lo hi H (.int n) none := by
  have z := Nm.int (lo := lo) (hi := hi) (H := H) n
  rwa [if_neg h] at z
/-- what is refused -/
abbrev Out (lo hi : Int) (H : Hp) (v : V) : Prop := Nm lo hi H v none
theorem NonInt.ex {H H' : Hp} {v : V} (e : Rd.Ex H H') (h : NonInt H v) : NonInt H' v := by
  rcases h with h | h | h | ⟨a, xs, h, k⟩ | ⟨a, xs, h, k⟩ | ⟨a, xs, h, k⟩
  · exact .inl h
  · exact .inr (.inl h)
  · exact .inr (.inr (.inl h))
  · exact .inr (.inr (.inr (.inl ⟨a, xs, h, e _ _ k⟩)))
  · exact .inr (.inr (.inr (.inr (.inl ⟨a, xs, h, e _ _ k⟩))))
  · exact .inr (.inr (.inr (.inr (.inr ⟨a, xs, h, e _ _ k⟩))))
theorem Nm.ex {lo hi : Int} {H H' : Hp} {v : V} {r : Option Int} (e : Rd.Ex H H') (h : Nm lo hi H v r) : Nm lo hi H' v r := by
  cases h with
  | int n => exact .int n
  | non h => exact .non (NonInt.ex e h)
theorem Nm.inv {lo hi : Int} {H : Hp} {v : V} {r : Option Int} (h : Nm lo hi H v r) : (∃ n, v = .int n ∧ r = some n ∧ lo ≤ n ∧ n ≤ hi) ∨ (∃ n, v = .int n ∧ r = none ∧ ¬ (lo ≤ n ∧ n ≤ hi)) ∨ (NonInt H v ∧ r = none) := by
  cases h with
  | int n =>
    by_cases c : lo ≤ n ∧ n ≤ hi
    · exact .inl ⟨n, rfl, if_pos c, c⟩
    · exact .inr (.inl ⟨n, rfl, if_neg c, c⟩)
  | non h => exact .inr (.inr ⟨h, rfl⟩)
/-- exception of the class CE with the value v in its field fl -/
def Xs (CE : Addr) (fl : Str) (v : V) (H : Hp) (E : XK) : Prop := ∀ d H', H d = none → Rd.Ex H H' → H' d = some (.xd [(fl, v)]) → E (.ref CE) (some d) H'
theorem ex_none {H H1 : Hp} {p : Addr} (e : Rd.Ex H H1) (h : H1 p = none) : H p = none := by
  cases hh : H p with
  | none => rfl
  | some o => rw [e p o hh] at h; cases h
theorem Xs.ex {CE : Addr} {fl : Str} {v : V} {H H' : Hp} {E : XK} (e : Rd.Ex H H') (h : Xs CE fl v H E) : Xs CE fl v H' E := fun d H2 hd e2 k => h d H2 (ex_none e hd) (e.trans e2) k
theorem Xs.mk {C : Addr} {fl : Str} {v : V} {H : Hp} {Q : XK} (h : Xs C fl v H Q) :
    [v].length ≤ 1000 ∧ ∀ a, H a = none → Gx.spExc C fl (.ref a :: ([v] ++ [])) (upd H a (exo a C none))
      (fun r H2 => r = .non ∧ ∃ (d : Addr) (fs : List (Str × V)), H2 a = some (exo a C (some d)) ∧ H2 d = some (exd d fs) ∧ H d = none ∧ Q (.ref C) (some d) (upd (del H2 a) d (.xd fs))) (fun _ _ _ => False) := Gx.mkO h
theorem Out.is {lo hi : Int} {H : Hp} {v : V} {Q : VK} {E : XK} (h : Out lo hi H v) (q : Q (.bl false) H) : spIs lo hi ([v] ++ []) H Q E := by
  refine ⟨v, rfl, ?_⟩
  rcases h.inv with ⟨n, _, z, _⟩ | ⟨n, rfl, _, c⟩ | ⟨h', _⟩
  · cases z
  · exact .inl ⟨n, rfl, by rw [decide_eq_false c]; exact q⟩
  · exact .inr ⟨h', q⟩
theorem Nm.is {lo hi : Int} {H : Hp} {v : V} {r : Option Int} {Q : VK} {E : XK} (h : Nm lo hi H v r) (q : Q (.bl r.isSome) H) : spIs lo hi ([v] ++ []) H Q E := by
  refine ⟨v, rfl, ?_⟩
  rcases h.inv with ⟨n, rfl, rfl, c⟩ | ⟨n, rfl, rfl, c⟩ | ⟨h', rfl⟩
  · exact .inl ⟨n, rfl, by rw [decide_eq_true c]; exact q⟩
  · exact .inl ⟨n, rfl, by rw [decide_eq_false c]; exact q⟩
  · exact .inr ⟨h', q⟩
end Pr
namespace Gx
open PySem PySem.Spec PyProof.Rows L2
/-- written objects that stand -/
def Hold (L : List (Addr × HO)) (H : Hp) : Prop := ∀ x ∈ L, H x.1 = some x.2
def Plain (L : List (Addr × HO)) : Prop := ∀ x ∈ L, (∃ xs, x.2 = .tup xs) ∨ ∃ xs, x.2 = .lst xs
section
variable {L : List (Addr × HO)} {H H' : Hp}
theorem Hold.ex (h : Hold L H) (e : Rd.Ex H H') : Hold L H' := fun x hx => e _ _ (h x hx)
/-- an object that was not there then is changed -/
theorem Hold.new {H0 : Hp} (h : Hold L H) (h0 : Hold L H0) {d : Addr} (hd : H0 d = none) (e : Au.ExP d H H') : Hold L H' := fun x hx => e _ _ (h x hx) fun z => by
  have k := h0 x hx
  rw [z, hd] at k
  cases k
theorem Hold.cons {a : Addr} {o : HO} (h : Hold L H) (k : H a = some o) : Hold ((a, o) :: L) H := fun x hx => by
  rcases List.mem_cons.mp hx with rfl | hx
  · exact k
  · exact h x hx
theorem Hold.nil : Hold [] H := fun x hx => by cases hx
theorem Plain.nil : Plain [] := fun x hx => by cases hx
theorem Plain.tup {a : Addr} {xs : List V} (h : Plain L) : Plain ((a, .tup xs) :: L) := fun x hx => by
  rcases List.mem_cons.mp hx with rfl | hx
  · exact .inl ⟨_, rfl⟩
  · exact h x hx
theorem Plain.lst {a : Addr} {xs : List V} (h : Plain L) : Plain ((a, .lst xs) :: L) := fun x hx => by
  rcases List.mem_cons.mp hx with rfl | hx
  · exact .inr ⟨_, rfl⟩
  · exact h x hx
theorem Hold.at {a : Addr} {o : HO} (i : Nat) (h : Hold L H) (hi : L[i]? = some (a, o)) : H a = some o := h (a, o) (List.mem_of_getElem? hi)
end
end Gx
set_option Elab.async false
set_option linter.all false
set_option maxRecDepth 100000
set_option maxHeartbeats 1000000
namespace Sx
open PySem PySem.Spec PyProof.Rows L2
/-- a thing that may be written -/
def Mo : HO → Prop
  | .lst _ => True
  | .ins _ _ _ => True
  | .dK _ => True
  | .dT _ => True
  | .set _ _ => True
  | .xd _ => True
  | _ => False
theorem Mo.tup {xs : List V} : ¬ Mo (.tup xs) := fun h => h
theorem Mo.tbl {ps} : ¬ Mo (.tbl ps) := fun h => h
theorem Mo.ext {ps} : ¬ Mo (.ext ps) := fun h => h
/-- tuples stay -/
def Kp (H H' : Hp) : Prop := ∀ c xs, H c = some (.tup xs) → H' c = some (.tup xs)
theorem Kp.ex {H H' : Hp} (e : Rd.Ex H H') : Kp H H' := fun c xs h => e c _ h
theorem Kp.exn {H H' : Hp} (e : LamX.ExtN H H') : Kp H H' := fun c xs h => e c _ h fun _ z => by cases z
theorem Kp.exp {H H' : Hp} {x : Addr} {o : HO} (e : Au.ExP x H H') (hx : H x = some o) (m : Mo o) : Kp H H' := fun c xs h => e c _ h fun z => by
  rw [z, hx] at h
  cases h
  exact m
/-- what is told of a thing -/
structure Cl where
  P : Hp → HO → Prop
  st : ∀ {H H' : Hp} {o : HO}, Kp H H' → P H o → P H' o
def Is (o : HO) : Cl := ⟨fun _ x => x = o, fun _ h => h⟩
/-- read only; new tuple; new and writable; to be written -/
inductive Fl where | ro | nt | nm | mu
def Fl.mut : Fl → Bool
  | .nm => true
  | .mu => true
  | _ => false
abbrev En := Addr × Cl × Fl
structure Bs where
  H0 : Hp
  M : List Addr
  T : List (Addr × Str)
/-- it was not there at the entry -/
def Fr (B : Bs) (a : Addr) : Prop := ∀ o, B.H0 a = some o → B.T ≠ [] ∧ ∃ ps, o = .tbl ps
def Fl.ok (B : Bs) (a : Addr) : Fl → Prop
  | .ro => True
  | .nt => Fr B a
  | .nm => Fr B a
  | .mu => a ∈ B.M
def Df (e e' : En) : Prop := (e.2.2.mut = false ∧ e'.2.2.mut = false) ∨ e.1 ≠ e'.1
theorem Df.symm {e e' : En} (h : Df e e') : Df e' e := h.elim (fun h => .inl ⟨h.2, h.1⟩) (fun h => .inr (Ne.symm h))
structure Hs (B : Bs) (L : List En) (H : Hp) : Prop where
  fr : ∀ c o, B.H0 c = some o → c ∉ B.M → (B.T ≠ [] → ∀ ps, o ≠ .tbl ps) → H c = some o
  mm : ∀ c ∈ B.M, ∃ o, H c = some o ∧ Mo o
  tb : LamX.Tabs B.T H
  df : L.Pairwise Df
  ok : ∀ e ∈ L, e.2.2.ok B e.1 ∧ ∃ o, H e.1 = some o ∧ e.2.1.P H o ∧ (e.2.2.mut = true → Mo o) ∧ ∀ ps, o ≠ .tbl ps
def W (B : Bs) (L : List En) (G : Hp → Prop) : Prop := ∀ H, Hs B L H → G H
section
variable {B : Bs} {L L' L1 L2 : List En} {H H' H1 : Hp} {p x a : Addr} {o : HO} {φ φ' : Cl} {f : Fl} {G G' : Hp → Prop}
theorem Hs.at (S : Hs B L H) (m : (a, Is o, f) ∈ L) : H a = some o := by
  obtain ⟨_, z, h1, h2, _⟩ := S.ok _ m
  cases h2
  exact h1
theorem Hs.fresh (S : Hs B L H) (n : H p = none) : Fr B p := fun o h => by
  refine Classical.byContradiction fun nc => ?_
  by_cases hm : p ∈ B.M
  · obtain ⟨o', h', _⟩ := S.mm p hm
    rw [n] at h'; cases h'
  · have := S.fr p o h hm fun hT ps z => nc ⟨hT, ps, z⟩
    rw [n] at this; cases this
theorem Hs.ex (S : Hs B L H) (e : Rd.Ex H H') : Hs B L H' where
  fr := fun c o h n t => e _ _ (S.fr c o h n t)
  mm := fun c h => by
    obtain ⟨o, h1, h2⟩ := S.mm c h
    exact ⟨o, e _ _ h1, h2⟩
  tb := S.tb.ext e
  df := S.df
  ok := fun z hz => by
    obtain ⟨h0, o, h1, h2, h3⟩ := S.ok z hz
    exact ⟨h0, o, e _ _ h1, z.2.1.st (.ex e) h2, h3⟩
theorem Hs.exn (S : Hs B L H) (hT : B.T ≠ []) (e : LamX.ExtN H H') (t : LamX.Tabs B.T H') : Hs B L H' where
  fr := fun c o h n t => e _ _ (S.fr c o h n t) (t hT)
  mm := fun c h => by
    obtain ⟨o, h1, h2⟩ := S.mm c h
    exact ⟨o, e _ _ h1 (fun ps z => by subst z; exact h2), h2⟩
  tb := t
  df := S.df
  ok := fun z hz => by
    obtain ⟨h0, o, h1, h2, h3, h4⟩ := S.ok z hz
    exact ⟨h0, o, e _ _ h1 h4, z.2.1.st (.exn e) h2, h3, h4⟩
theorem Hs.ad (S : Hs B L H) (n : H p = none) (e : Rd.Ex H H') (k : H' p = some o) (c : φ.P H' o) (hf : f = .nt ∨ f = .nm ∧ Mo o) (nb : ∀ ps, o ≠ .tbl ps) : Hs B ((p, φ, f) :: L) H' where
  fr := (S.ex e).fr
  mm := (S.ex e).mm
  tb := (S.ex e).tb
  df := List.pairwise_cons.mpr ⟨fun z hz => .inr fun q => (by
    obtain ⟨_, o', h1, _⟩ := S.ok z hz
    simp only at q
    rw [← q, n] at h1
    cases h1), S.df⟩
  ok := fun z hz => by
    rcases List.mem_cons.mp hz with rfl | hz
    · refine ⟨?_, o, k, c, ?_, nb⟩
      · rcases hf with rfl | ⟨rfl, _⟩ <;> exact S.fresh n
      · rcases hf with rfl | ⟨rfl, h⟩
        · intro h; cases h
        · exact fun _ => h
    · exact (S.ex e).ok z hz
theorem Hs.nw (S : Hs B L H) (n : H p = none) (e : Rd.Ex H H') (k : H' p = some o) (hf : f = .nt ∨ f = .nm ∧ Mo o) (nb : ∀ ps, o ≠ .tbl ps) : Hs B ((p, Is o, f) :: L) H' := S.ad n e k rfl hf nb
/-- one thing's row is written anew -/
inductive Upd : List En → Addr → Cl → List En → Prop
  | hd {φ φ' : Cl} {f : Fl} {x : Addr} {L : List En} (h : f.mut = true) : Upd ((x, φ, f) :: L) x φ' ((x, φ', f) :: L)
  | tl {e : En} {L L' : List En} {x : Addr} {φ' : Cl} (h : Upd L x φ' L') : Upd (e :: L) x φ' (e :: L')
theorem Upd.mem {L L' : List En} {x : Addr} {φ' : Cl} (u : Upd L x φ' L') (d : L.Pairwise Df) : (∃ φ f, f.mut = true ∧ (x, φ, f) ∈ L) ∧ (∀ e ∈ L', (e.1 = x ∧ e.2.1 = φ' ∧ e.2.2.mut = true ∧ ∃ φ, (x, φ, e.2.2) ∈ L) ∨ (e ∈ L ∧ e.1 ≠ x)) ∧ L'.map (fun e => (e.1, e.2.2)) = L.map (fun e => (e.1, e.2.2)) := by
  induction u with
  | hd h =>
    refine ⟨⟨_, _, h, List.mem_cons_self⟩, fun e he => ?_, rfl⟩
    rcases List.mem_cons.mp he with rfl | he
    · exact .inl ⟨rfl, rfl, h, _, List.mem_cons_self⟩
    · refine .inr ⟨List.mem_cons_of_mem _ he, fun z => ?_⟩
      rcases (List.pairwise_cons.mp d).1 e he with q | q
      · rw [h] at q; cases q.1
      · exact q z.symm
  | @tl e L L' x φ' u ih =>
    obtain ⟨⟨φ, f, h1, h2⟩, h3, h4⟩ := ih (List.pairwise_cons.mp d).2
    refine ⟨⟨φ, f, h1, List.mem_cons_of_mem _ h2⟩, fun z hz => ?_, by simp only [List.map_cons, h4]⟩
    rcases List.mem_cons.mp hz with rfl | hz
    · refine .inr ⟨List.mem_cons_self, fun q => ?_⟩
      rcases (List.pairwise_cons.mp d).1 _ h2 with w | w
      · rw [h1] at w; cases w.2
      · exact w q
    · rcases h3 z hz with ⟨a, b, c, φ, d⟩ | ⟨a, b⟩
      · exact .inl ⟨a, b, c, φ, List.mem_cons_of_mem _ d⟩
      · exact .inr ⟨List.mem_cons_of_mem _ a, b⟩
theorem df_map {L L' : List En} (h : L'.map (fun e => (e.1, e.2.2)) = L.map (fun e => (e.1, e.2.2))) (d : L.Pairwise Df) : L'.Pairwise Df := by
  have e : ∀ K : List En, K.Pairwise Df ↔ (K.map (fun e => (e.1, e.2.2))).Pairwise (fun p q => (p.2.mut = false ∧ q.2.mut = false) ∨ p.1 ≠ q.1) := fun K => by
    rw [List.pairwise_map]; rfl
  rw [e, h, ← e]
  exact d
theorem Hs.set (S : Hs B L H) (u : Upd L x φ L') (e : Au.ExP x H H') (k : H' x = some o) (c : φ.P H' o) (mo : Mo o) : Hs B L' H' := by
  obtain ⟨⟨ψ, f, h1, h2⟩, h3, h4⟩ := u.mem S.df
  obtain ⟨s0, z, s1, s2, s3, s4⟩ := S.ok _ h2
  have mz := s3 h1
  have kp := Kp.exp e s1 mz
  have nb : ∀ ps, o ≠ .tbl ps := fun ps q => by subst q; exact mo
  refine ⟨fun c o' h n t => e _ _ (S.fr c o' h n t) fun q => ?_, fun c hc => ?_, fun q hq => ?_, df_map h4 S.df, fun v hv => ?_⟩
  · subst q
    cases f with
    | ro => cases h1
    | nt => cases h1
    | nm =>
      obtain ⟨hT, ps, q⟩ := s0 _ h
      exact t hT ps q
    | mu => exact n s0
  · by_cases q : c = x
    · exact ⟨o, q ▸ k, mo⟩
    · obtain ⟨o', h1, h2⟩ := S.mm c hc
      exact ⟨o', e _ _ h1 q, h2⟩
  · obtain ⟨ps, t1, t2, t3⟩ := S.tb q hq
    refine ⟨ps, e _ _ t1 (fun w => by rw [w, s1] at t1; cases t1; exact mz), t2, fun pos cv hcv => ?_⟩
    obtain ⟨c', rfl, hc'⟩ := t3 pos cv hcv
    exact ⟨c', rfl, e _ _ hc' (fun w => by rw [w, s1] at hc'; cases hc'; exact mz)⟩
  · rcases h3 v hv with ⟨rfl, rfl, q3, φ0, q4⟩ | ⟨q1, q2⟩
    · exact ⟨(S.ok _ q4).1, o, k, c, fun _ => mo, nb⟩
    · obtain ⟨w0, o', w1, w2, w3⟩ := S.ok v q1
      exact ⟨w0, o', e _ _ w1 q2, v.2.1.st kp w2, w3⟩
inductive Sel : List En → Addr → Cl → List En → Prop
  | hd {φ : Cl} {f : Fl} {x : Addr} {L : List En} (h : f.mut = true) : Sel ((x, φ, f) :: L) x φ L
  | tl {e : En} {L L' : List En} {x : Addr} {φ : Cl} (h : Sel L x φ L') : Sel (e :: L) x φ (e :: L')
inductive FindR : List En → List En → Prop
  | nil {L : List En} : FindR L []
  | cons {L ps : List En} {x : Addr} {φ : Cl} {f : Fl} (m : (x, φ, f) ∈ L) (h : FindR L ps) : FindR L ((x, φ, .ro) :: ps)
/-- first what is to be written, then what is read -/
inductive Find : List En → List En → Prop
  | ros {L ps : List En} (h : FindR L ps) : Find L ps
  | mu {L L1 ps : List En} {x : Addr} {φ : Cl} (m : Sel L x φ L1) (h : Find L1 ps) : Find L ((x, φ, .mu) :: ps)
theorem Sel.mem {L L' : List En} {x : Addr} {φ : Cl} (u : Sel L x φ L') (d : L.Pairwise Df) : (∃ f, f.mut = true ∧ (x, φ, f) ∈ L) ∧ (∀ e ∈ L', e ∈ L ∧ e.1 ≠ x) ∧ L'.Sublist L := by
  induction u with
  | hd h =>
    refine ⟨⟨_, h, List.mem_cons_self⟩, fun e he => ⟨List.mem_cons_of_mem _ he, fun z => ?_⟩, List.sublist_cons_self _ _⟩
    rcases (List.pairwise_cons.mp d).1 e he with q | q
    · rw [h] at q; cases q.1
    · exact q z.symm
  | @tl e L L' x φ u ih =>
    obtain ⟨⟨f, h1, h2⟩, h3, h4⟩ := ih (List.pairwise_cons.mp d).2
    refine ⟨⟨f, h1, List.mem_cons_of_mem _ h2⟩, fun z hz => ?_, h4.cons_cons _⟩
    rcases List.mem_cons.mp hz with rfl | hz
    · refine ⟨List.mem_cons_self, fun q => ?_⟩
      rcases (List.pairwise_cons.mp d).1 _ h2 with w | w
      · rw [h1] at w; cases w.2
      · exact w q
    · exact ⟨List.mem_cons_of_mem _ (h3 z hz).1, (h3 z hz).2⟩
def mus (L : List En) : List Addr := (L.filter fun e => match e.2.2 with | .mu => true | _ => false).map (·.1)
theorem FindR.mem {L ps : List En} (u : FindR L ps) : (∀ e ∈ ps, e.2.2 = .ro ∧ ∃ f, (e.1, e.2.1, f) ∈ L) ∧ ps.Pairwise Df := by
  induction u with
  | nil => exact ⟨fun e h => (by cases h), .nil⟩
  | @cons ps x φ f m h ih =>
    refine ⟨fun e he => ?_, List.pairwise_cons.mpr ⟨fun e he => .inl ⟨rfl, by rw [(ih.1 e he).1]; rfl⟩, ih.2⟩⟩
    rcases List.mem_cons.mp he with rfl | he
    · exact ⟨rfl, f, m⟩
    · exact ih.1 e he
theorem Find.mem {L ps : List En} (u : Find L ps) (d : L.Pairwise Df) : (∀ e ∈ ps, ∃ f, (e.1, e.2.1, f) ∈ L ∧ (e.2.2 = .ro ∨ (e.2.2 = .mu ∧ f.mut = true))) ∧ ps.Pairwise Df := by
  induction u with
  | ros h =>
    refine ⟨fun e he => ?_, h.mem.2⟩
    obtain ⟨h1, f, h2⟩ := h.mem.1 e he
    exact ⟨f, h2, .inl h1⟩
  | @mu L L1 ps x φ m h ih =>
    obtain ⟨⟨f, m1, m2⟩, m3, m4⟩ := m.mem d
    obtain ⟨h1, h2⟩ := ih (d.sublist m4)
    refine ⟨fun e he => ?_, List.pairwise_cons.mpr ⟨fun e he => ?_, h2⟩⟩
    · rcases List.mem_cons.mp he with rfl | he
      · exact ⟨f, m2, .inr ⟨rfl, m1⟩⟩
      · obtain ⟨g, g1, g2⟩ := h1 e he
        exact ⟨g, (m3 _ g1).1, g2⟩
    · obtain ⟨g, g1, g2⟩ := h1 e he
      exact .inr fun z => (m3 _ g1).2 z.symm
/-- what it leaves -/
def Post (H : Hp) (T : List (Addr × Str)) (pre post : List En) (G : Hp → Prop) : Prop := ∀ H', Hs ⟨H, mus pre, T⟩ post H' → G H'
/-- the caller's list behind the call -/
inductive Rep : List En → List En → List En → Prop
  | nil {L : List En} : Rep L [] L
  | ro {L ps L' : List En} {x : Addr} {φ : Cl} (h : Rep L ps L') : Rep L ((x, φ, .ro) :: ps) L'
  | nt {L ps L' : List En} {x : Addr} {φ : Cl} (h : Rep L ps L') : Rep L ((x, φ, .nt) :: ps) ((x, φ, .nt) :: L')
  | nm {L ps L' : List En} {x : Addr} {φ : Cl} (h : Rep L ps L') : Rep L ((x, φ, .nm) :: ps) ((x, φ, .nm) :: L')
  | mu {L ps L' L1 : List En} {x : Addr} {φ : Cl} (u : Upd L x φ L1) (h : Rep L1 ps L') : Rep L ((x, φ, .mu) :: ps) L'
/-- new -/
def Fl.isN : Fl → Prop
  | .nt => True
  | .nm => True
  | _ => False
theorem Rep.mem {L ps L' : List En} (u : Rep L ps L') : L.Pairwise Df → ps.Pairwise Df → (∀ e ∈ ps, e.2.2.isN → ∀ z ∈ L, e.1 ≠ z.1) →
    (∀ e ∈ L', (e ∈ ps ∧ e.2.2.isN) ∨ (∃ φ, (e.1, φ, e.2.2) ∈ L ∧ (e.1, e.2.1, .mu) ∈ ps ∧ e.2.2.mut = true) ∨ (e ∈ L ∧ ∀ φ, (e.1, φ, .mu) ∉ ps)) ∧ L'.Pairwise Df := by
  induction u with
  | nil => exact fun d _ _ => ⟨fun e he => .inr (.inr ⟨he, fun φ h => (by cases h)⟩), d⟩
  | ro h ih =>
    intro d dp hn
    obtain ⟨h1, h2⟩ := ih d (List.pairwise_cons.mp dp).2 fun e he => hn e (List.mem_cons_of_mem _ he)
    refine ⟨fun e he => ?_, h2⟩
    rcases h1 e he with ⟨a, b⟩ | ⟨φ, a, b, c⟩ | ⟨a, b⟩
    · exact .inl ⟨List.mem_cons_of_mem _ a, b⟩
    · exact .inr (.inl ⟨φ, a, List.mem_cons_of_mem _ b, c⟩)
    · refine .inr (.inr ⟨a, fun φ z => ?_⟩)
      rcases List.mem_cons.mp z with z | z
      · cases z
      · exact b φ z
  | @nt L ps L' x φ h ih =>
    intro d dp hn
    obtain ⟨h1, h2⟩ := ih d (List.pairwise_cons.mp dp).2 fun e he => hn e (List.mem_cons_of_mem _ he)
    refine ⟨fun e he => ?_, List.pairwise_cons.mpr ⟨fun e he => ?_, h2⟩⟩
    · rcases List.mem_cons.mp he with rfl | he
      · exact .inl ⟨List.mem_cons_self, trivial⟩
      rcases h1 e he with ⟨a, b⟩ | ⟨φ, a, b, c⟩ | ⟨a, b⟩
      · exact .inl ⟨List.mem_cons_of_mem _ a, b⟩
      · exact .inr (.inl ⟨φ, a, List.mem_cons_of_mem _ b, c⟩)
      · refine .inr (.inr ⟨a, fun φ z => ?_⟩)
        rcases List.mem_cons.mp z with z | z
        · cases z
        · exact b φ z
    · rcases h1 e he with ⟨a, b⟩ | ⟨φ, a, b⟩ | ⟨a, b⟩
      · exact (List.pairwise_cons.mp dp).1 e a
      · exact .inr fun q => hn _ List.mem_cons_self trivial _ a q
      · exact .inr (hn _ List.mem_cons_self trivial _ a)
  | @nm L ps L' x φ h ih =>
    intro d dp hn
    obtain ⟨h1, h2⟩ := ih d (List.pairwise_cons.mp dp).2 fun e he => hn e (List.mem_cons_of_mem _ he)
    refine ⟨fun e he => ?_, List.pairwise_cons.mpr ⟨fun e he => ?_, h2⟩⟩
    · rcases List.mem_cons.mp he with rfl | he
      · exact .inl ⟨List.mem_cons_self, trivial⟩
      rcases h1 e he with ⟨a, b⟩ | ⟨φ, a, b, c⟩ | ⟨a, b⟩
      · exact .inl ⟨List.mem_cons_of_mem _ a, b⟩
      · exact .inr (.inl ⟨φ, a, List.mem_cons_of_mem _ b, c⟩)
      · refine .inr (.inr ⟨a, fun φ z => ?_⟩)
        rcases List.mem_cons.mp z with z | z
        · cases z
        · exact b φ z
    · rcases h1 e he with ⟨a, b⟩ | ⟨φ, a, b⟩ | ⟨a, b⟩
      · exact (List.pairwise_cons.mp dp).1 e a
      · exact .inr fun q => hn _ List.mem_cons_self trivial _ a q
      · exact .inr (hn _ List.mem_cons_self trivial _ a)
  | @mu L ps L' L1 x φ u h ih =>
    intro d dp hn
    obtain ⟨u1, u2, u3⟩ := u.mem d
    have ads : ∀ z ∈ L1, ∃ y ∈ L, y.1 = z.1 := fun z hz => by
      rcases u2 z hz with ⟨a, _, _, φ0, b⟩ | ⟨a, _⟩
      · exact ⟨_, b, a.symm⟩
      · exact ⟨_, a, rfl⟩
    obtain ⟨h1, h2⟩ := ih (df_map u3 d) (List.pairwise_cons.mp dp).2 fun e he hN z hz => by
      obtain ⟨y, y1, y2⟩ := ads z hz
      rw [← y2]
      exact hn e (List.mem_cons_of_mem _ he) hN y y1
    refine ⟨fun e he => ?_, h2⟩
    rcases h1 e he with ⟨a, b⟩ | ⟨φ', a, b, c⟩ | ⟨a, b⟩
    · exact .inl ⟨List.mem_cons_of_mem _ a, b⟩
    · rcases u2 _ a with ⟨w1, w2, _, φ0, w3⟩ | ⟨w1, w2⟩
      · simp only at w1 w2 w3
        refine .inr (.inl ⟨φ0, ?_, List.mem_cons_of_mem _ b, c⟩)
        rw [w1]
        exact w3
      · exact .inr (.inl ⟨φ', w1, List.mem_cons_of_mem _ b, c⟩)
    · rcases u2 _ a with ⟨w1, w2, w3, φ0, w4⟩ | ⟨w1, w2⟩
      · refine .inr (.inl ⟨φ0, by rw [w1]; exact w4, ?_, w3⟩)
        rw [w1, w2]
        exact List.mem_cons_self
      · refine .inr (.inr ⟨w1, fun ψ z => ?_⟩)
        rcases List.mem_cons.mp z with z | z
        · cases z
          exact w2 rfl
        · exact b ψ z
def Cl.le (φ ψ : Cl) : Prop := ∀ H o, φ.P H o → ψ.P H o
theorem Cl.le.rfl {φ : Cl} : Cl.le φ φ := fun _ _ h => h
/-- a row is taken out -/
inductive Rm : List En → Addr → Cl → Fl → List En → Prop
  | hd {φ : Cl} {f : Fl} {x : Addr} {L : List En} : Rm ((x, φ, f) :: L) x φ f L
  | tl {e : En} {L L' : List En} {x : Addr} {φ : Cl} {f : Fl} (h : Rm L x φ f L') : Rm (e :: L) x φ f (e :: L')
theorem Rm.ex {L L' : List En} {x : Addr} {φ : Cl} {f : Fl} (h : Rm L x φ f L') : ∃ L0 R0, L = L0 ++ (x, φ, f) :: R0 ∧ L' = L0 ++ R0 := by
  induction h with
  | hd => exact ⟨[], _, rfl, rfl⟩
  | @tl e L L' x φ f h ih =>
    obtain ⟨L0, R0, h1, h2⟩ := ih
    exact ⟨e :: L0, R0, by rw [h1]; rfl, by rw [h2]; rfl⟩
inductive Sub : List En → List En → Prop
  | nil {L : List En} : Sub [] L
  | rfl {L : List En} : Sub L L
  | cons {L L1 ps : List En} {x : Addr} {φ ψ : Cl} {f : Fl} (m : Rm L x φ f L1) (h : Cl.le φ ψ) (r : Sub ps L1) : Sub ((x, ψ, f) :: ps) L
theorem Sub.mem {L ps : List En} (u : Sub ps L) : L.Pairwise Df → (∀ e ∈ ps, ∃ φ, (e.1, φ, e.2.2) ∈ L ∧ Cl.le φ e.2.1) ∧ ps.Pairwise Df := by
  induction u with
  | nil => exact fun _ => ⟨fun e h => (by cases h), .nil⟩
  | rfl => exact fun d => ⟨fun e h => ⟨_, h, Cl.le.rfl⟩, d⟩
  | @cons L L1 ps x φ ψ f m h r ih =>
    intro d
    obtain ⟨L0, R0, rfl, rfl⟩ := m.ex
    have d' := (List.pairwise_append.mp d)
    have dm : ∀ e ∈ L0 ++ R0, Df (x, φ, f) e := fun e he => by
      rcases List.mem_append.mp he with he | he
      · exact (d'.2.2 e he _ List.mem_cons_self).symm
      · exact (List.pairwise_cons.mp d'.2.1).1 e he
    have sub : (L0 ++ R0).Sublist (L0 ++ (x, φ, f) :: R0) := (List.Sublist.refl L0).append (List.sublist_cons_self _ _)
    obtain ⟨h1, h2⟩ := ih (d.sublist sub)
    refine ⟨fun e he => ?_, List.pairwise_cons.mpr ⟨fun e he => ?_, h2⟩⟩
    · rcases List.mem_cons.mp he with rfl | he
      · exact ⟨φ, by simp, h⟩
      · obtain ⟨φ', a, b⟩ := h1 e he
        exact ⟨φ', sub.mem a, b⟩
    · obtain ⟨φ', a, _⟩ := h1 e he
      rcases dm _ a with q | q
      · exact .inl q
      · exact .inr q
theorem Hs.sub {ps : List En} (S : Hs B L H) (u : Sub ps L) : Hs B ps H where
  fr := S.fr
  mm := S.mm
  tb := S.tb
  df := (u.mem S.df).2
  ok := fun e he => by
    obtain ⟨φ, h1, h2⟩ := (u.mem S.df).1 e he
    obtain ⟨k0, o, k1, k2, k3⟩ := S.ok _ h1
    exact ⟨k0, o, k1, h2 _ _ k2, k3⟩
end
end Sx
namespace Sx
open PySem PySem.Spec PyProof.Rows L2
theorem Sub.one (e : En) : ∀ (L : List En), Sub L (e :: L)
  | [] => .nil
  | (x, φ, f) :: L => .cons (.tl .hd) Cl.le.rfl (Sub.one e L)
end Sx
set_option Elab.async false
set_option linter.all false
set_option maxRecDepth 100000
set_option maxHeartbeats 1000000
namespace Gx
open PySem PySem.Spec PyProof.Rows L2 GenW
structure OwnT (K : PySem.W.Frag) (C : Addr) (nm T : String) : Prop where
  l1 : ∃ fo, PySem.W.findIn K (.type T) (PySem.dunder nm) = some fo
  l2 : ∃ ro, PySem.W.findIn K (.type T) (dunderR nm) = some ro
  sub : PySem.W.subIn K (.type T) (.ref C) = some false
def rOwnX (K : PySem.W.Frag) (C : Addr) (nm : String) (sp : Sp) (E : XK) : V → V → Hp → VK → Prop := fun x y H Q => ∃ (a dx : Addr) (fs : List (Str × V)) (T : String), x = .ref a ∧ TyX K H y (.type T) ∧ OwnT K C nm T ∧ H a = some (.ins C dx fs) ∧ sp ([x, y] ++ []) H (fun v H' => (∃ b, v = .ref b) ∧ Q v H') E
/-- a text times a number -/
def rMulS : R2 := fun x y H Q => ∃ (z : Str) (n : Int), x = .str z ∧ y = .int n ∧ PySem.MulOk z n ∧ Q (.str (Txt.mul z n)) H
theorem op_mulS {X : Cx} : OpR X (binaryOp .Mult) rMulS := by
  intro pins s σ H x y v u Q I rx ry h
  obtain ⟨z, n, rfl, rfl, ok, q⟩ := h
  obtain ⟨t, rfl⟩ := rx
  obtain ⟨t', rfl⟩ := ry
  exact PySem.SB.mul ok fun a k => ⟨.str _, H, I.tok _, ⟨_, rfl⟩, q⟩
end Gx
set_option Elab.async false
set_option linter.all false
set_option maxRecDepth 100000
set_option maxHeartbeats 1000000
namespace Gx
open PySem PySem.Spec PyProof.Rows L2 L2H
end Gx
set_option Elab.async false
set_option linter.all false
set_option maxRecDepth 100000
set_option maxHeartbeats 4000000
set_option exponentiation.threshold 2000
namespace Gx
open PySem PySem.Spec PyProof.Rows L2
end Gx
set_option Elab.async false
set_option linter.all false
set_option maxRecDepth 100000
set_option maxHeartbeats 1000000
namespace Sx
open PySem PySem.Spec PyProof.Rows L2
/-- a promise is being read -/
def Do (p : Prop) : Prop := p
section
variable {B : Bs} {L L' L1 : List En} {D : Ends} {σ : L2.St} {Q : VK} {QB : Bool → Hp → Prop} {QA : List V → Hp → Prop} {t1 t2 : TS} {te ta tb tc : TE} {tr : TA} {t u : TT} {i j : Nat} {v x y : V} {m n : Int} {r r2 : R2} {K : PySem.W.Frag} {G G1 G2 : Hp → Prop} {b : Bool} {p : Prop} {C a dx : Addr} {fs : List (Str × V)} {f : Str} {fl : Fl} {sp : Sp} {E : XK} {g : TG} {xs : List V}
theorem seq (h : W B L fun H => t1 { D with nx := t2 D } σ H) : W B L fun H => tSeq t1 t2 D σ H := h
theorem next (h : W B L fun H => D.nx σ H) : W B L fun H => tNext D σ H := h
theorem nm {Qs : L2.St → Hp → Prop} (h : W B L fun H => Qs (σ.set i (some v)) H) : W B L fun H => gName i v σ H Qs := h
theorem ret (h : W B L fun H => te σ H D.rt) : W B L fun H => tRet te D σ H := h
theorem brk (h : W B L fun H => D.bk σ H) : W B L fun H => tBreak D σ H := h
theorem drop (h : W B L fun H => te σ H fun _ H1 => D.nx σ H1) : W B L fun H => tDrop te D σ H := h
theorem par (h : W B L fun H => tr σ H fun vs H1 => ∃ v w, vs = [v, w] ∧ D.nx ((σ.set i (some v)).set j (some w)) H1) : W B L fun H => tPar i j tr D σ H := h
theorem un {g : V → Hp → VK → Prop} (h : W B L fun H => ta σ H fun x H1 => g x H1 Q) : W B L fun H => tUn g ta σ H Q := h
/-- is None, is not None -/
theorem isN {G : V → Hp → Prop} (h : W B L fun H => G (.bl (decide (v = .non))) H) : W B L fun H => V.non = .non ∧ G (.bl (decide (v = .non))) H := fun H S => ⟨rfl, h H S⟩
theorem nil (h : W B L fun H => QA [] H) : W B L fun H => tNil σ H QA := h
theorem cons (h : W B L fun H => ta σ H fun x H1 => tr σ H1 fun xs H2 => QA (x :: xs) H2) : W B L fun H => tCons ta tr σ H QA := h
theorem cb {g : List V → Hp → VK → Prop} (h : W B L fun H => tr σ H fun vs H1 => g vs H1 Q) : W B L fun H => tCB g tr σ H Q := h
theorem yes [Decidable p] (c : p) (h : W B L G1) : W B L fun H => if decide p = true then G1 H else G2 H := fun H S => Rd.yes c (h H S)
theorem no [Decidable p] (c : ¬ p) (h : W B L G2) : W B L fun H => if decide p = true then G1 H else G2 H := fun H S => Rd.no c (h H S)
theorem call {dvs : List V} (h : W B L fun H => tr σ H fun vs H1 => Do (sp (vs ++ dvs) H1 Q E)) : W B L fun H => tCall sp dvs E tr σ H Q := h
theorem tup (h : W B L fun H => tr σ H fun xs H1 => xs.length ≤ sizeLine ∧ Au.NewO H1 (.tup xs) Q) : W B L fun H => tTup tr σ H Q := h
theorem lst (h : W B L fun H => tr σ H fun xs H1 => xs.length ≤ sizeLine ∧ Au.NewO H1 (.lst xs) Q) : W B L fun H => tLst tr σ H Q := h
theorem rep {xs : List V} {k : Int} {fl : Fl} (m : (a, Is (.lst xs), fl) ∈ L) (hk : 0 ≤ k ∧ k < 100) (hl : xs.length ≤ 10) (q : ∀ t, W B ((t, Is (.lst (List.replicate k.toNat xs).flatten), .nm) :: L) fun H => Q (.ref t) H) : W B L fun H => rRep (.ref a) (.int k) H Q :=
  fun H S => Au.rep (S.at m) hk hl fun p H' n e k => q p H' (S.nw n e k (.inr ⟨rfl, trivial⟩) fun ps z => by cases z)
def In (B : Bs) (P : L2.St → List En → Prop) : L2.St → Hp → Prop := fun σ H => ∃ L, P σ L ∧ Hs B L H
theorem sub (s : Sub L' L) (h : W B L' G) : W B L G := fun H S => h H (S.sub s)
theorem frz {g : TG} {tb : TS} (h : W B L fun H => tr σ H fun vs H1 => ∃ a b xs ys, vs = [.ref a, .ref b] ∧ SqL K H1 a xs ∧ SqL K H1 b ys ∧ ∃ W : Nat → Nat → L2.St → Hp → Prop, (∃ m, W 0 m σ H1) ∧ ∀ i m σ H, W i m σ H →
    ((Itz K a b).stop i H ∧ D.nx σ H) ∨ ((Itz K a b).go i H ∧ ∃ N : L2.St → Hp → Prop, (∀ σ' H', N σ' H' → ∃ m', m' < m ∧ W (i + 1) m' σ' H') ∧ ∀ x H', (Itz K a b).yld i H x H' → g x σ H' fun σ2 H2 => tb { D with nx := N, ct := N, bk := D.nx } σ2 H2)) :
    W B L fun H => tFor (iZip K tr) g tb D σ H := h
theorem cut {t u : TS} (Mid : L2.St → List En → Prop) (h1 : W B L fun H => t { D with nx := In B Mid } σ H) (h2 : ∀ σ' L', Mid σ' L' → W B L' fun H => u D σ' H) : W B L fun H => C8.tCut t u D σ H := fun H S =>
  Rd.cut (In B Mid) (h1 H S) fun σ' H' z => by
    obtain ⟨L', p, S'⟩ := z
    exact h2 σ' L' p H' S'
theorem lg {tg : TGen} (h : W B L fun H => tg σ H fun out H2 => Au.NewO H2 (.lst out) Q) : W B L fun H => tListG tg σ H Q := h
theorem mg {spg : SpG} {cont : List V → Hp → Prop} (h : W B L fun H => ta σ H fun x H1 => ∃ a dx fs, x = .ref a ∧ H1 a = some (.ins C dx fs) ∧ fs.lookup f = none ∧ tr σ H1 fun vs H2 => Do (spg (x :: (vs ++ [])) H2 cont E)) : W B L fun H => tMethG C f spg [] E ta tr σ H cont := h
end
end Sx
set_option Elab.async false
set_option linter.all false
set_option maxRecDepth 100000
set_option maxHeartbeats 1000000
namespace Sx
open PySem PySem.Spec PyProof.Rows L2
/-- a draw with at most n turns so far -/
def DrC (n : Nat) : Cl := ⟨fun _ o => ∃ left cell turns : Int, o = .dK [(Sum.inr "left", .int left), (Sum.inr "cell", .int cell), (Sum.inr "turns", .int turns)] ∧ 0 ≤ left ∧ 0 ≤ turns ∧ turns ≤ n, fun _ h => h⟩
theorem DrC.le {n m : Nat} (h : n ≤ m) : Cl.le (DrC n) (DrC m) := fun H o z => by
  obtain ⟨l, c, t, h1, h2, h3, h4⟩ := z
  exact ⟨l, c, t, h1, h2, h3, by omega⟩
section
variable {H0 H : Hp} {T : List (Addr × Str)} {L : List En} {K : PySem.W.Frag} {a : Addr} {xs : List V} {Q : VK}
/-- the first cells and the sum -/
theorem cells {ns : List Int} {k : Int} (hl : ns.length ≤ 63) : ∃ M : List Int, cutV (ns.map V.int) none (some k) ++ [V.int ns.sum] = M.map V.int ∧ M.length ≤ 64 := by
  refine ⟨((ns.drop (HT.sIx (ns.map V.int).length 0 none)).take (HT.sIx (ns.map V.int).length (ns.map V.int).length (some k) - HT.sIx (ns.map V.int).length 0 none)) ++ [ns.sum], ?_, ?_⟩
  · unfold cutV
    rw [List.map_append, List.map_take, List.map_drop]
    rfl
  · have h1 : ((ns.drop (HT.sIx (ns.map V.int).length 0 none)).take (HT.sIx (ns.map V.int).length (ns.map V.int).length (some k) - HT.sIx (ns.map V.int).length 0 none)).length ≤ ns.length := by
      rw [List.length_take, List.length_drop]; omega
    rw [List.length_append]
    simp only [List.length_cons, List.length_nil]
    omega
end
end Sx
set_option Elab.async false
set_option linter.all false
set_option maxRecDepth 100000
set_option maxHeartbeats 1000000
set_option Elab.async false
set_option linter.all false
set_option maxRecDepth 100000
set_option maxHeartbeats 1000000
namespace Sx
open PySem PySem.Spec PyProof.Rows L2
theorem kb_NoneType_int {K : PySem.W.Frag} : PySem.W.kitOne K (.type "NoneType") (.type "int") = some false := by first | rfl | decide +kernel | kernel_rfl
theorem kb_NoneType_bool {K : PySem.W.Frag} : PySem.W.kitOne K (.type "NoneType") (.type "bool") = some false := by first | rfl | decide +kernel | kernel_rfl
theorem kb_bool_int {K : PySem.W.Frag} : PySem.W.kitOne K (.type "bool") (.type "int") = some true := by first | rfl | decide +kernel | kernel_rfl
theorem kb_bool_bool {K : PySem.W.Frag} : PySem.W.kitOne K (.type "bool") (.type "bool") = some true := by first | rfl | decide +kernel | kernel_rfl
theorem kb_int_int {K : PySem.W.Frag} : PySem.W.kitOne K (.type "int") (.type "int") = some true := by first | rfl | decide +kernel | kernel_rfl
theorem kb_int_bool {K : PySem.W.Frag} : PySem.W.kitOne K (.type "int") (.type "bool") = some false := by first | rfl | decide +kernel | kernel_rfl
theorem kb_str_int {K : PySem.W.Frag} : PySem.W.kitOne K (.type "str") (.type "int") = some false := by first | rfl | decide +kernel | kernel_rfl
theorem kb_str_bool {K : PySem.W.Frag} : PySem.W.kitOne K (.type "str") (.type "bool") = some false := by first | rfl | decide +kernel | kernel_rfl
theorem kb_tuple_int {K : PySem.W.Frag} : PySem.W.kitOne K (.type "tuple") (.type "int") = some false := by first | rfl | decide +kernel | kernel_rfl
theorem kb_tuple_bool {K : PySem.W.Frag} : PySem.W.kitOne K (.type "tuple") (.type "bool") = some false := by first | rfl | decide +kernel | kernel_rfl
theorem kb_list_int {K : PySem.W.Frag} : PySem.W.kitOne K (.type "list") (.type "int") = some false := by first | rfl | decide +kernel | kernel_rfl
theorem kb_list_bool {K : PySem.W.Frag} : PySem.W.kitOne K (.type "list") (.type "bool") = some false := by first | rfl | decide +kernel | kernel_rfl
theorem kb_dict_int {K : PySem.W.Frag} : PySem.W.kitOne K (.type "dict") (.type "int") = some false := by first | rfl | decide +kernel | kernel_rfl
theorem kb_dict_bool {K : PySem.W.Frag} : PySem.W.kitOne K (.type "dict") (.type "bool") = some false := by first | rfl | decide +kernel | kernel_rfl
end Sx
set_option Elab.async false
set_option linter.all false
set_option maxRecDepth 100000
set_option maxHeartbeats 1000000
namespace Sm
open PySem PySem.Spec PyProof.Rows L2
inductive Sm (K : PySem.W.Frag) (H : Hp) : Nat → V → V → Prop
  | int {n : Nat} (i : Int) : Sm K H n (.int i) (.int i)
  | str {n : Nat} (z : Str) : Sm K H n (.str z) (.str z)
  | bl {n : Nat} (b : Bool) : Sm K H n (.bl b) (.bl b)
  | non {n : Nat} : Sm K H n .non .non
  | ref {n : Nat} (a : Addr) : Sm K H n (.ref a) (.ref a)
  | tup {n : Nat} {a b : Addr} {xs ys : List V} (h : SqT K H a xs) (h' : SqT K H b ys) (hl : xs.length = ys.length) (hi : ∀ (i : Nat) (x y : V), xs[i]? = some x → ys[i]? = some y → Sm K H n x y) : Sm K H (n + 1) (.ref a) (.ref b)
  | lst {n : Nat} {a b : Addr} {xs ys : List V} (h : SqL K H a xs) (h' : SqL K H b ys) (hl : xs.length = ys.length) (hi : ∀ (i : Nat) (x y : V), xs[i]? = some x → ys[i]? = some y → Sm K H n x y) : Sm K H (n + 1) (.ref a) (.ref b)
section
variable {X : Cx} {pins : List (Addr × Obj)} {σ : L2.St} {H : Hp} {s : Shared}
theorem at_of {xs : List V} {its : List Value} (r : Vals xs its) {i : Nat} (h : i < its.length) : ∃ x, xs[i]? = some x ∧ RelV x its[i] := by
  induction r generalizing i with
  | nil => exact absurd h (by simp)
  | cons h1 h2 ih =>
    cases i with
    | zero => exact ⟨_, rfl, h1⟩
    | succ i => exact ih (by simpa using h)
theorem allT (n : Nat) : ((List.range n).all fun _ => true) = true := by simp
theorem eqAt (I : Inv X pins σ H s) : ∀ (n : Nat) (x y : V) (v u : Value) (A : Around), Sm X.K H n x y → RelV x v → RelV y u → A.units + n < cLine → SeqAt.EqAt A s v u true := by
  intro n
  induction n with
  | zero =>
    intro x y v u A h rv ru hu
    cases h with
    | int i => obtain ⟨t, rfl⟩ := rv; obtain ⟨t', rfl⟩ := ru; have := SeqAt.EqAt.int_int (A := A) (s := s) i t i t'; rwa [beq_self_eq_true] at this
    | str z => obtain ⟨t, rfl⟩ := rv; obtain ⟨t', rfl⟩ := ru; have := SeqAt.EqAt.str_str (A := A) (s := s) z t z t'; rwa [beq_self_eq_true] at this
    | bl b => cases rv; cases ru; exact .same _
    | non => cases rv; cases ru; exact .same _
    | ref a => cases rv; cases ru; exact .same _
  | succ n ih =>
    intro x y v u A h rv ru hu
    cases h with
    | int i => obtain ⟨t, rfl⟩ := rv; obtain ⟨t', rfl⟩ := ru; have := SeqAt.EqAt.int_int (A := A) (s := s) i t i t'; rwa [beq_self_eq_true] at this
    | str z => obtain ⟨t, rfl⟩ := rv; obtain ⟨t', rfl⟩ := ru; have := SeqAt.EqAt.str_str (A := A) (s := s) z t z t'; rwa [beq_self_eq_true] at this
    | bl b => cases rv; cases ru; exact .same _
    | non => cases rv; cases ru; exact .same _
    | ref a => cases rv; cases ru; exact .same _
    | @tup _ a b xs ys h h' hl hi =>
      cases rv
      cases ru
      by_cases e : a = b
      · subst e; exact .same _
      · obtain ⟨its, r1, p1, _⟩ := I.tuple h
        obtain ⟨its2, r2, p2, _⟩ := I.tuple h'
        have e1 := r1.length
        have e2 := r2.length
        refine .of_refs e ?_
        have := SeqAt.RcAt.tuples (A := A) (e := fun _ => true) p1 p2 (by omega) fun j h1 h2 => ?_
        · rwa [allT, show (its.toArray.size == its2.toArray.size) = true by simp [← e1, ← e2, hl], Bool.and_true] at this
        · rw [List.size_toArray] at h1 h2
          obtain ⟨x, hx, rx⟩ := at_of r1 h1
          obtain ⟨y, hy, ry⟩ := at_of r2 h2
          simp only [List.getElem_toArray]
          exact ih x y _ _ A.in1 (hi j x y hx hy) rx ry (by show A.units + 1 + n < _; omega)
    | @lst _ a b xs ys h h' hl hi =>
      cases rv
      cases ru
      by_cases e : a = b
      · subst e; exact .same _
      · obtain ⟨its, r1, ⟨o, m, ho, hc, _, hd⟩, _⟩ := I.list h
        obtain ⟨its2, r2, ⟨o2, m2, ho2, hc2, _, hd2⟩, _⟩ := I.list h'
        have e1 := r1.length
        have e2 := r2.length
        refine .of_refs e ?_
        have := SeqAt.RcAt.lists (A := A) (e := fun _ => true) (items := its.toArray) (items2 := its2.toArray) ⟨o, ho, hc, m, hd⟩ ⟨o2, ho2, hc2, m2, hd2⟩ (by simp [← e1, ← e2, hl]) (by omega) fun j h1 h2 => ?_
        · rwa [allT] at this
        · rw [List.size_toArray] at h1 h2
          obtain ⟨x, hx, rx⟩ := at_of r1 h1
          obtain ⟨y, hy, ry⟩ := at_of r2 h2
          simp only [List.getElem_toArray]
          exact ih x y _ _ A.in1 (hi j x y hx hy) rx ry (by show A.units + 1 + n < _; omega)
/-- what may stand at the top -/
theorem Sm.up {K : PySem.W.Frag} {H : Hp} : ∀ {n : Nat} {x y : V}, Sm K H n x y → Sm K H (n + 1) x y := fun {n x y} h => by
  induction h with
  | int i => exact .int i
  | str z => exact .str z
  | bl b => exact .bl b
  | non => exact .non
  | ref a => exact .ref a
  | tup h h' hl hi ih => exact .tup h h' hl ih
  | lst h h' hl hi ih => exact .lst h h' hl ih
inductive Top (K : PySem.W.Frag) (H : Hp) : V → V → Prop
  | tup {a b : Addr} {xs ys : List V} (h : SqT K H a xs) (h' : SqT K H b ys) (hl : xs.length = ys.length) (hi : ∀ (i : Nat) (x y : V), xs[i]? = some x → ys[i]? = some y → Sm K H 20 x y) : Top K H (.ref a) (.ref b)
  | lst {a b : Addr} {xs ys : List V} (h : SqL K H a xs) (h' : SqL K H b ys) (hl : xs.length = ys.length) (hi : ∀ (i : Nat) (x y : V), xs[i]? = some x → ys[i]? = some y → Sm K H 20 x y) : Top K H (.ref a) (.ref b)
def rEqS (K : PySem.W.Frag) : R2 := fun x y H Q => rEqD K x y H Q ∨ (Top K H x y ∧ Q (.bl true) H)
def rNeS (K : PySem.W.Frag) : R2 := fun x y H Q => rNeD K x y H Q ∨ (Top K H x y ∧ Q (.bl false) H)
theorem op_eqS (hu : X.A.units + 64 < cLine) : OpR X (compareOp .Eq) (rEqS X.K) := by
  intro pins s σ H x y v u Q I rx ry h
  rcases h with h | ⟨t, q⟩
  · exact op_eqD hu pins s σ H x y v u Q I rx ry h
  · cases t with
    | tup h h' hl hi =>
      cases rx
      cases ry
      obtain ⟨its, r1, p1, _⟩ := I.tuple h
      obtain ⟨its2, r2, p2, _⟩ := I.tuple h'
      have e1 := r1.length
      have e2 := r2.length
      have := SeqAt.RcAt.tuples (A := X.A) (e := fun _ => true) p1 p2 (by omega) fun j h1 h2 => by
        rw [List.size_toArray] at h1 h2
        obtain ⟨x, hx, rx⟩ := at_of r1 h1
        obtain ⟨y, hy, ry⟩ := at_of r2 h2
        simp only [List.getElem_toArray]
        exact eqAt I 20 x y _ _ X.A.in1 (hi j x y hx hy) rx ry (by show X.A.units + 1 + 20 < _; omega)
      rw [allT, show (its.toArray.size == its2.toArray.size) = true by simp [← e1, ← e2, hl], Bool.and_true] at this
      exact this _ _ _ _ ⟨.bl _, H, I, rfl, q⟩
    | lst h h' hl hi =>
      cases rx
      cases ry
      obtain ⟨its, r1, ⟨o, m, ho, hc, _, hd⟩, _⟩ := I.list h
      obtain ⟨its2, r2, ⟨o2, m2, ho2, hc2, _, hd2⟩, _⟩ := I.list h'
      have e1 := r1.length
      have e2 := r2.length
      have := SeqAt.RcAt.lists (A := X.A) (e := fun _ => true) (items := its.toArray) (items2 := its2.toArray) ⟨o, ho, hc, m, hd⟩ ⟨o2, ho2, hc2, m2, hd2⟩ (by simp [← e1, ← e2, hl]) (by omega) fun j h1 h2 => by
        rw [List.size_toArray] at h1 h2
        obtain ⟨x, hx, rx⟩ := at_of r1 h1
        obtain ⟨y, hy, ry⟩ := at_of r2 h2
        simp only [List.getElem_toArray]
        exact eqAt I 20 x y _ _ X.A.in1 (hi j x y hx hy) rx ry (by show X.A.units + 1 + 20 < _; omega)
      rw [allT] at this
      exact this _ _ _ _ ⟨.bl _, H, I, rfl, q⟩
theorem op_neS (hu : X.A.units + 64 < cLine) : OpR X (compareOp .NotEq) (rNeS X.K) := by
  intro pins s σ H x y v u Q I rx ry h
  rcases h with h | ⟨t, q⟩
  · exact op_neD hu pins s σ H x y v u Q I rx ry h
  · cases t with
    | tup h h' hl hi =>
      cases rx
      cases ry
      obtain ⟨its, r1, p1, _⟩ := I.tuple h
      obtain ⟨its2, r2, p2, _⟩ := I.tuple h'
      have e1 := r1.length
      have e2 := r2.length
      have := SeqAt.RcNeAt.tuples (A := X.A) (e := fun _ => true) p1 p2 (by omega) fun j h1 h2 => by
        rw [List.size_toArray] at h1 h2
        obtain ⟨x, hx, rx⟩ := at_of r1 h1
        obtain ⟨y, hy, ry⟩ := at_of r2 h2
        simp only [List.getElem_toArray]
        exact eqAt I 20 x y _ _ X.A.in1 (hi j x y hx hy) rx ry (by show X.A.units + 1 + 20 < _; omega)
      rw [allT, show (its.toArray.size == its2.toArray.size) = true by simp [← e1, ← e2, hl], Bool.and_true] at this
      exact this _ _ _ _ ⟨.bl _, H, I, rfl, q⟩
    | lst h h' hl hi =>
      cases rx
      cases ry
      obtain ⟨its, r1, ⟨o, m, ho, hc, _, hd⟩, _⟩ := I.list h
      obtain ⟨its2, r2, ⟨o2, m2, ho2, hc2, _, hd2⟩, _⟩ := I.list h'
      have e1 := r1.length
      have e2 := r2.length
      have := SeqAt.RcNeAt.lists (A := X.A) (e := fun _ => true) (items := its.toArray) (items2 := its2.toArray) ⟨o, ho, hc, m, hd⟩ ⟨o2, ho2, hc2, m2, hd2⟩ (by simp [← e1, ← e2, hl]) (by omega) fun j h1 h2 => by
        rw [List.size_toArray] at h1 h2
        obtain ⟨x, hx, rx⟩ := at_of r1 h1
        obtain ⟨y, hy, ry⟩ := at_of r2 h2
        simp only [List.getElem_toArray]
        exact eqAt I 20 x y _ _ X.A.in1 (hi j x y hx hy) rx ry (by show X.A.units + 1 + 20 < _; omega)
      rw [allT] at this
      exact this _ _ _ _ ⟨.bl _, H, I, rfl, q⟩
end
end Sm
set_option Elab.async false
set_option linter.all false
set_option maxRecDepth 100000
set_option maxHeartbeats 2000000
namespace Cd
open PySem PySem.Spec PyProof.Rows L2
/-- an object that is a dict with these entries -/
def DicO (P : Program) (w : World) (o : Obj) (kvs : List (Key × V)) : Prop :=
  o.ExactDict ∧ ∃ es ep vs, o.data = .dict es ep ∧ KeysOf (mixKind P w) es ∧ Pairs (mixKind P w) es.toList vs ∧ KV kvs vs ∧ (vs.map (·.1)).Nodup
theorem DicO.at {P : Program} {w : World} {o : Obj} {kvs : List (Key × V)} {h : Heap} {a : Addr} (D : DicO P w o kvs) (e : h.get? a = some o) : ∃ vs, KV kvs vs ∧ h.DictOf (mixKind P w) a vs := by
  obtain ⟨h1, es, ep, vs, h2, h3, h4, h5, h6⟩ := D
  exact ⟨vs, h5, o, es, ep, e, h1, h2, h3, h4, h6⟩
/-- entries of texts -/
inductive Ents (w : World) : List DictEntry → List (Key × V) → Prop
  | nil : Ents w [] []
  | cons {x : Str} {t : Tok} {v : V} {u : Value} {hh : Int} {es : List DictEntry} {kvs : List (Key × V)} (e : hh = hashStr w x) (r : RelV v u) (h : Ents w es kvs) : Ents w (⟨hh, .str x t, u⟩ :: es) ((Sum.inr x, v) :: kvs)
theorem Ents.out {P : Program} {w : World} {es : List DictEntry} {kvs : List (Key × V)} (E : Ents w es kvs) : ∃ vs : List (Key × Value), (∀ e ∈ es, ∃ k, (mixKind P w).is k e.key = true ∧ e.hash = (mixKind P w).hash k) ∧ Pairs (mixKind P w) es vs ∧ KV kvs vs ∧ vs.map (·.1) = kvs.map (·.1) := by
  induction E with
  | nil => exact ⟨[], fun e h => (by cases h), .nil, .nil, rfl⟩
  | @cons x t v u hh es kvs e r h ih =>
    obtain ⟨vs, a, b, c, d⟩ := ih
    have k1 : keyIs (Sum.inr x) (Value.str x t) = true := kV_is (P := P) (w := w) (k := Sum.inr x) ⟨t, rfl⟩
    refine ⟨(Sum.inr x, u) :: vs, fun e' h' => ?_, .cons k1 rfl b, .cons ⟨rfl, r⟩ c, by rw [List.map_cons, List.map_cons, d]⟩
    rcases List.mem_cons.mp h' with rfl | h'
    · exact ⟨Sum.inr x, k1, e⟩
    · exact a e' h'
theorem DicO.mk {P : Program} {w : World} {es : Array DictEntry} {ep : Nat} {kvs : List (Key × V)} (E : Ents w es.toList kvs) (nd : (kvs.map (·.1)).Nodup) : DicO P w ⟨.type "dict", none, .dict es ep, #[]⟩ kvs := by
  obtain ⟨vs, a, b, c, d⟩ := E.out (P := P)
  exact ⟨⟨rfl, rfl, rfl⟩, es, ep, vs, rfl, fun e h => a e (Array.mem_toList_iff.mpr h), b, c, by rw [d]; exact nd⟩
end Cd
set_option Elab.async false
set_option linter.all false
set_option maxRecDepth 100000
set_option maxHeartbeats 2000000
namespace Mt
open PySem PySem.Spec PyProof.Rows L2
section
variable {X : Cx}
def tEnd : V → TS := fun _ D σ H => D.nx σ H
/-- the case of all -/
def tAny (tb : TS) : V → TS := fun _ => tb
def tMatch (te : TE) (tc : V → TS) : TS := fun D σ H => te σ H fun v H1 => tc v D σ H1
end
theorem any {tb : TS} {D : Ends} {σ : L2.St} {H : Hp} {v : V} (h : tb D σ H) : tAny tb v D σ H := h
end Mt
set_option Elab.async false
set_option linter.all false
set_option maxRecDepth 100000
set_option maxHeartbeats 2000000
namespace LamD
open PySem PySem.Spec PyProof.Rows L2 PySem.W
section
variable {X : Cx} {pins : List (Addr × Obj)} {σ : L2.St} {H : Hp} {s : Shared}
abbrev CL (X : Cx) (scope : Scope) : List (Str × Addr) := cloFrom X.env.cells scope.names []
/-- one local name x, captured ones and globals -/
structure LamS1 (sc scope : Scope) (x : Str) : Prop where
  kind : scope.kind = .function
  co : scope.isCoroutine = false
  gen : scope.isGenerator = false
  loc : scope.names.lookup x = some .local
  own : ∀ y ∈ scope.names, (y.2 = .local → y.1 = x) ∧ y.2 ≠ .cell
  free : ∀ y ∈ scope.names, y.2 = .free → sc.names.lookup y.1 = some .cell ∨ sc.names.lookup y.1 = some .free
theorem LamS1.has {scope : Scope} {x : Str} (L : LamS1 X.env.scope scope x) (ok : X.Ok) : ∀ y ∈ scope.names, y.2 = .free → ∃ c, X.env.cells.lookup y.1 = some c := fun y hy q =>
  (L.free y hy q).elim (fun k => ok.has _ (.inl k)) (fun k => ok.has _ (.inr k))
theorem start {A : Around} {outer : List Env} {E : XK} {scope : Scope} {x : Str} {f c' : Addr} {g : Heap} {tk : Nat} {s1 : Shared} {HZ : Hp} {m : Str → Option Value} (I : Inv X pins σ H s) (L : LamS1 X.env.scope scope x) (hx : x ∉ X.N) (e0 : Env0 X.prog X.w X.K X.mg X.base A outer s1 HZ) (hd : A.handled = none)
    (un : Un (frs X.stack) [] H HZ s.heap s1.heap) (hns : g.Ns s1.heap.objs.size m) (kp : ∀ b o, s1.heap.get? b = some o → g.get? b = some o) : Inv (LamX.lamCx X A outer s1 HZ E scope f c') [] σ HZ { s1 with heap := g, toks := tk } := by
  have hfree := L.has I.ok
  have same : ∀ {y c}, (CL X scope).lookup y = some c → X.env.cells.lookup y = some c := fun {y c} q => by
    rcases cloFrom_mem (PySem.mem_of_lookup q) with k | ⟨k1, k2⟩
    · cases k
    · obtain ⟨c1, q1⟩ := hfree _ k1 rfl
      have q1 : X.env.cells.lookup y = some c1 := q1
      have : c = c1 := by rw [k2, q1] <;> rfl
      rw [this]; exact q1
  have there : ∀ {y}, scope.names.lookup y = some .free → ∃ c, (CL X scope).lookup y = some c := fun {y} q => mem_lookup (cloFrom_has (cells := X.env.cells) (acc := []) (show (y, NameKind.free) ∈ scope.names from PySem.mem_of_lookup q))
  have cell : ∀ {c : Addr} {v : Option Value}, H c = none → s.heap.IsCell c v → g.IsCell c v := fun {c v} n ⟨o, ho, hv⟩ => by
    obtain ⟨sl, q⟩ := un.any ho n (by simp)
    exact ⟨_, kp _ _ q, hv⟩
  have none_ : ∀ b : Addr, b ∉ (LamX.lamCx X A outer s1 HZ E scope f c').ex := fun b z => by cases (show b ∈ ([] : List Addr) from z)
  refine ⟨⟨e0.mod, L.kind, rfl, rfl, Nat.le_refl _, fun y z c q1 q2 => I.ok.inj y z c (same q1) (same q2), fun y hy => ?_, fun y c z _ => ?_, fun _ => hd, Around.frames_deeper e0.frames, .inr ⟨rfl, rfl⟩, fun b z => absurd z (none_ b), e0.bs, e0.bsz, fun b _ _ => none_ b,
      fun b z => absurd z (none_ b), e0.funs, e0.frf⟩, rfl, e0.bare, Un.kept kp, ⟨_, hns, fun i y v q1 q2 q3 => ?_⟩, fun y c q => ?_, e0.hok.fresh (Nat.le_refl _), fun y c q => ?_, fun q hq => (by cases (show q ∈ ([] : List (Addr × Obj)) ++ [] from hq)), e0.hok.kept kp, I.len⟩
  · rcases (show scope.names.lookup y = some .cell ∨ scope.names.lookup y = some .free from hy) with hy | hy
    · exact absurd rfl (L.own _ (PySem.mem_of_lookup hy)).2
    · exact there hy
  · cases (show false = true from z)
  · rcases (show Vis scope y from q3) with k | k | k
    · have hxy := (L.own _ (PySem.mem_of_lookup k)).1 rfl
      exact absurd (hxy ▸ List.mem_of_getElem? q1) hx
    · exact absurd rfl (L.own _ (PySem.mem_of_lookup k)).2
    · obtain ⟨m', hn, hl⟩ := I.loc
      have vis : Vis X.env.scope y := (L.free _ (PySem.mem_of_lookup k) rfl).elim (fun k => .inr (.inl k)) (fun k => .inr (.inr k))
      obtain ⟨w', r, q⟩ := hl i y v q1 q2 vis
      obtain ⟨c2, h2⟩ := there k
      refine ⟨w', r, .inr ⟨.inr k, c2, h2, ?_⟩⟩
      have c1 := same h2
      rcases q with ⟨k', _⟩ | ⟨_, c3, e', z⟩
      · rcases L.free _ (PySem.mem_of_lookup k) rfl with k2 | k2 <;> (have := (show X.env.scope.names.lookup y = _ from k2).symm.trans k'; cases this)
      · cases c1.symm.trans e'
        exact cell (I.freeC y _ c1) z
  · obtain ⟨w', z⟩ := I.cell y c (same q)
    exact ⟨w', cell (I.freeC y c (same q)) z⟩
  · obtain ⟨v, o, ho, hv⟩ := I.cell y c (same q)
    exact un.free c o ho (I.freeC y c (same q)) (by simp)
end
end LamD
set_option Elab.async false
set_option linter.all false
set_option maxRecDepth 100000
set_option maxHeartbeats 1000000
namespace Ab
open PySem PySem.Spec PyProof.Rows L2
inductive AV where
  | non | bl (b : Bool) | int (i : Int) | str (s : Str) | ty (n : String) | cls (c : String)
  | raw (a : Addr) | obj (i : Nat) | tup (xs : List AV) | scr (xs : List AV) | exn (c : String) (ns : List Str) (vs : List AV)
inductive Cell where
  | lst (xs : List AV) | ins (c : String) (fs : List (Str × AV)) | dic (kvs : List (Key × AV))
structure Sto where
  n : Nat
  c : Nat → Cell
def Sto.new (s : Sto) (x : Cell) : Sto := ⟨s.n + 1, fun i => if i = s.n then x else s.c i⟩
def Sto.set (s : Sto) (i : Nat) (x : Cell) : Sto := ⟨s.n, fun j => if j = i then x else s.c j⟩
/-- where a store lies -/
structure Wd where
  m : Nat → Addr
  n : Nat
  H : Hp
def Imm : HO → Prop
  | .tup _ => True
  | .xd _ => True
  | .frz _ _ => True
  | .ext _ => True
  | _ => False
structure Ext (w w' : Wd) : Prop where
  n : w.n ≤ w'.n
  m : ∀ i, i < w.n → w'.m i = w.m i
  im : ∀ a o, w.H a = some o → Imm o → w'.H a = some o
theorem Ext.refl (w : Wd) : Ext w w := ⟨Nat.le_refl _, fun _ _ => rfl, fun _ _ h _ => h⟩
theorem imm_xob {a : Addr} {cls : Value} {d : Option Addr} : Imm (Gx.xob a cls d) := trivial
theorem Ext.trans {w w1 w2 : Wd} (a : Ext w w1) (b : Ext w1 w2) : Ext w w2 :=
  ⟨Nat.le_trans a.n b.n, fun i h => (b.m i (Nat.lt_of_lt_of_le h a.n)).trans (a.m i h), fun c o h k => b.im c o (a.im c o h k) k⟩
/-- what is known of the program: its module, its classes' addresses, the tables of code objects, the classes that live -/
structure Wc where
  K : PySem.W.Frag
  κ : String → Addr
  T : List (Addr × Str)
  live : List String
  xlive : List String
/-- and what stays true as it grows -/
structure Wl extends Wc where
  inv : Wd → Prop
  cl : ∀ w w', Ext w w' → inv w → inv w'
instance : Coe Wl Wc := ⟨Wl.toWc⟩
def SqF (K : PySem.W.Frag) (H : Hp) (a : Addr) (xs : List V) : Prop :=
  (∃ o, H a = some (.frz o (.lst xs))) ∨
    ∃ (o : Obj) (its : Array Value) (n : Nat), K.lookup a = some o ∧ o.cls = .type "list" ∧ o.dict = none ∧ o.data = .seq its n ∧ its.size ≤ sizeLine ∧ Vals xs its.toList
theorem SqF.sql {K : PySem.W.Frag} {H : Hp} {a : Addr} {xs : List V} (h : SqF K H a xs) : SqL K H a xs := h.elim (fun h => .inl (.inr h)) .inr
section
variable (W : Wc) (w : Wd)
mutual
inductive Rel : AV → V → Prop
  | non : Rel .non .non
  | bl (b : Bool) : Rel (.bl b) (.bl b)
  | int (i : Int) : Rel (.int i) (.int i)
  | str (s : Str) : Rel (.str s) (.str s)
  | ty (n : String) : Rel (.ty n) (.ty n)
  | cls (c : String) : Rel (.cls c) (.ref (W.κ c))
  | raw (a : Addr) : Rel (.raw a) (.ref a)
  | obj {i : Nat} (h : i < w.n) : Rel (.obj i) (.ref (w.m i))
  | tup {a : Addr} {xs : List AV} {vs : List V} (h : SqT W.K w.H a vs) (r : RelL xs vs) : Rel (.tup xs) (.ref a)
  | scr {a : Addr} {xs : List AV} {vs : List V} (h : SqF W.K w.H a vs) (r : RelL xs vs) : Rel (.scr xs) (.ref a)
  | exn {c : String} {a d : Addr} {ns : List Str} {xs : List AV} {vs : List V} (hc : c ∈ W.xlive) (h : w.H a = some (Gx.xob a (.ref (W.κ c)) (some d)) ) (hd : w.H d = some (.xd (ns.zip vs))) (hl : ns.length = xs.length) (r : RelL xs vs) : Rel (.exn c ns xs) (.ref a)
inductive RelL : List AV → List V → Prop
  | nil : RelL [] []
  | cons {x : AV} {v : V} {xs : List AV} {vs : List V} (h : Rel x v) (r : RelL xs vs) : RelL (x :: xs) (v :: vs)
end
def RelF (fs : List (Str × AV)) (gs : List (Str × V)) : Prop := Paired (fun (p : Str × AV) (q : Str × V) => p.1 = q.1 ∧ Rel W w p.2 q.2) fs gs
def RelK (fs : List (Key × AV)) (gs : List (Key × V)) : Prop := Paired (fun (p : Key × AV) (q : Key × V) => p.1 = q.1 ∧ Rel W w p.2 q.2) fs gs
inductive CRel : Cell → HO → Prop
  | lst {xs : List AV} {vs : List V} (r : RelL W w xs vs) : CRel (.lst xs) (.lst vs)
  | ins {c : String} {dx : Addr} {fs : List (Str × AV)} {gs : List (Str × V)} (hc : c ∈ W.live) (r : RelF W w fs gs) : CRel (.ins c fs) (.ins (W.κ c) dx gs)
  | dic {fs : List (Key × AV)} {gs : List (Key × V)} (r : RelK W w fs gs) : CRel (.dic fs) (.dK gs)
end
section
variable (W : Wl) (w : Wd)
structure Sim (s : Sto) : Prop where
  n : w.n = s.n
  inj : ∀ i j, i < s.n → j < s.n → w.m i = w.m j → i = j
  cell : ∀ i, i < s.n → ∃ o, w.H (w.m i) = some o ∧ CRel W w (s.c i) o
  tab : LamX.Tabs W.T w.H
  inv : W.inv w
end
section
variable (W : Wc) (w : Wd)
abbrev ASt := List (Option AV)
def RO : Option AV → Option V → Prop
  | some x, some v => Rel W w x v
  | none, _ => True
  | _, _ => False
def RSt (σ : ASt) (σc : L2.St) : Prop := Paired (RO W w) σ σc
end
theorem sqt_ext {K : PySem.W.Frag} {w w' : Wd} {a : Addr} {vs : List V} (e : Ext w w') (h : SqT K w.H a vs) : SqT K w'.H a vs := by
  rcases h with (h | ⟨o, h⟩) | h
  · exact .inl (.inl (e.im _ _ h trivial))
  · exact .inl (.inr ⟨o, e.im _ _ h trivial⟩)
  · exact .inr h
theorem sqf_ext {K : PySem.W.Frag} {w w' : Wd} {a : Addr} {vs : List V} (e : Ext w w') (h : SqF K w.H a vs) : SqF K w'.H a vs := by
  rcases h with ⟨o, h⟩ | h
  · exact .inl ⟨o, e.im _ _ h trivial⟩
  · exact .inr h
mutual
theorem Rel.mono {W : Wc} {w w' : Wd} (e : Ext w w') : ∀ {x : AV} {v : V}, Rel W w x v → Rel W w' x v
  | _, _, .non => .non
  | _, _, .bl b => .bl b
  | _, _, .int i => .int i
  | _, _, .str s => .str s
  | _, _, .ty n => .ty n
  | _, _, .cls c => .cls c
  | _, _, .raw a => .raw a
  | _, _, .obj h => by rw [← e.m _ h]; exact .obj (Nat.lt_of_lt_of_le h e.n)
  | _, _, .tup h r => .tup (sqt_ext e h) (RelL.mono e r)
  | _, _, .scr h r => .scr (sqf_ext e h) (RelL.mono e r)
  | _, _, .exn hc h hd hl r => .exn hc (e.im _ _ h imm_xob) (e.im _ _ hd trivial) hl (RelL.mono e r)
theorem RelL.mono {W : Wc} {w w' : Wd} (e : Ext w w') : ∀ {x : List AV} {v : List V}, RelL W w x v → RelL W w' x v
  | _, _, .nil => .nil
  | _, _, .cons h r => .cons (Rel.mono e h) (RelL.mono e r)
end
section
variable {W : Wc} {w w' : Wd} {s s' : Sto}
theorem RelF.mono (e : Ext w w') {fs : List (Str × AV)} {gs : List (Str × V)} (h : RelF W w fs gs) : RelF W w' fs gs := Paired.mapP h fun _ _ z => ⟨z.1, z.2.mono e⟩
theorem RelK.mono (e : Ext w w') {fs : List (Key × AV)} {gs : List (Key × V)} (h : RelK W w fs gs) : RelK W w' fs gs := Paired.mapP h fun _ _ z => ⟨z.1, z.2.mono e⟩
theorem CRel.mono (e : Ext w w') {c : Cell} {o : HO} (h : CRel W w c o) : CRel W w' c o := by
  cases h with
  | lst r => exact .lst (r.mono e)
  | ins hc r => exact .ins hc (r.mono e)
  | dic r => exact .dic (r.mono e)
theorem RO.mono (e : Ext w w') : ∀ {x : Option AV} {v : Option V}, RO W w x v → RO W w' x v
  | some _, some _, h => Rel.mono e h
  | none, _, _ => trivial
  | some _, none, h => h
theorem RSt.mono (e : Ext w w') {σ : ASt} {σc : L2.St} (h : RSt W w σ σc) : RSt W w' σ σc := Paired.mapP h fun _ _ z => z.mono e
theorem CRel.mut {c : Cell} {o : HO} (h : CRel W w c o) : ¬ Imm o ∧ (∀ ps, o ≠ .tbl ps) ∧ ∀ φ, o ≠ .ext φ := by
  cases h <;> exact ⟨fun z => z, fun ps z => (by cases z), fun φ z => (by cases z)⟩
theorem RelL.length : ∀ {xs : List AV} {vs : List V}, RelL W w xs vs → xs.length = vs.length
  | _, _, .nil => rfl
  | _, _, .cons _ r => congrArg (· + 1) (RelL.length r)
theorem RelL.append : ∀ {xs ys : List AV} {vs us : List V}, RelL W w xs vs → RelL W w ys us → RelL W w (xs ++ ys) (vs ++ us)
  | _, _, _, _, .nil, h => h
  | _, _, _, _, .cons h r, k => .cons h (RelL.append r k)
theorem RelL.get : ∀ {xs : List AV} {vs : List V}, RelL W w xs vs → ∀ (i : Nat) (x : AV), xs[i]? = some x → ∃ v, vs[i]? = some v ∧ Rel W w x v
  | _, _, .nil, i, x, e => by simp at e
  | _, _, .cons h r, 0, x, e => by
    simp only [List.getElem?_cons_zero, Option.some.injEq] at e
    subst e
    exact ⟨_, by simp, h⟩
  | _, _, .cons h r, i + 1, x, e => by
    simp only [List.getElem?_cons_succ] at e ⊢
    exact RelL.get r i x e
theorem RelL.getv : ∀ {xs : List AV} {vs : List V}, RelL W w xs vs → ∀ (i : Nat) (v : V), vs[i]? = some v → ∃ x, xs[i]? = some x ∧ Rel W w x v
  | _, _, .nil, i, x, e => by simp at e
  | _, _, .cons h r, 0, x, e => by
    simp only [List.getElem?_cons_zero, Option.some.injEq] at e
    subst e
    exact ⟨_, by simp, h⟩
  | _, _, .cons h r, i + 1, x, e => by
    simp only [List.getElem?_cons_succ] at e ⊢
    exact RelL.getv r i x e
theorem RelL.set : ∀ {xs : List AV} {vs : List V} {x : AV} {v : V}, RelL W w xs vs → Rel W w x v → ∀ i, RelL W w (xs.set i x) (vs.set i v)
  | _, _, _, _, .nil, _, _ => .nil
  | _, _, _, _, .cons h r, k, 0 => .cons k r
  | _, _, _, _, .cons h r, k, i + 1 => .cons h (RelL.set r k i)
theorem RelL.take : ∀ {xs : List AV} {vs : List V}, RelL W w xs vs → ∀ i, RelL W w (xs.take i) (vs.take i)
  | _, _, .nil, i => by simp only [List.take_nil]; exact .nil
  | _, _, .cons h r, 0 => .nil
  | _, _, .cons h r, i + 1 => .cons h (RelL.take r i)
theorem RelL.drop : ∀ {xs : List AV} {vs : List V}, RelL W w xs vs → ∀ i, RelL W w (xs.drop i) (vs.drop i)
  | _, _, .nil, i => by simp only [List.drop_nil]; exact .nil
  | _, _, .cons h r, 0 => .cons h r
  | _, _, .cons h r, i + 1 => RelL.drop r i
theorem RSt.get : ∀ {σ : ASt} {σc : L2.St}, RSt W w σ σc → ∀ (i : Nat) (x : AV), σ[i]? = some (some x) → ∃ v, σc[i]? = some (some v) ∧ Rel W w x v
  | _, _, .nil, i, x, e => by simp at e
  | _, _, .cons h r, 0, x, e => by
    simp only [List.getElem?_cons_zero, Option.some.injEq] at e
    subst e
    revert h
    rename_i oc _ _
    cases oc with
    | none => exact fun h => (show False from h).elim
    | some v => exact fun h => ⟨v, by simp, h⟩
  | _, _, .cons h r, i + 1, x, e => by
    simp only [List.getElem?_cons_succ] at e ⊢
    exact RSt.get r i x e
theorem RSt.set : ∀ {σ : ASt} {σc : L2.St} {x : Option AV} {v : Option V}, RSt W w σ σc → RO W w x v → ∀ i, RSt W w (σ.set i x) (σc.set i v)
  | _, _, _, _, .nil, _, _ => .nil
  | _, _, _, _, .cons h r, k, 0 => .cons k r
  | _, _, _, _, .cons h r, k, i + 1 => .cons h (RSt.set r k i)
theorem RSt.length {σ : ASt} {σc : L2.St} (h : RSt W w σ σc) : σ.length = σc.length := Paired.length h
/-- wipe -/
def wipeA (σ : ASt) : List Nat → ASt
  | [] => σ
  | v :: vs => (wipeA σ vs).set v none
theorem RSt.wipe {σ : ASt} {σc : L2.St} (h : RSt W w σ σc) : ∀ vs : List Nat, RSt W w (wipeA σ vs) (wipe σc vs)
  | [] => h
  | v :: vs => RSt.set (RSt.wipe h vs) (show RO W w none none from trivial) v
end
section
variable {W : Wl} {w w' : Wd} {s s' : Sto}
theorem Ext.grow {H' : Hp} (e : ∀ a o, w.H a = some o → H' a = some o) : Ext w { w with H := H' } := ⟨Nat.le_refl _, fun _ _ => rfl, fun a o h _ => e a o h⟩
theorem Sim.grow {H' : Hp} (S : Sim W w s) (e : ∀ a o, w.H a = some o → H' a = some o) : Sim W { w with H := H' } s :=
  ⟨S.n, S.inj, fun i h => by
    obtain ⟨o, h1, h2⟩ := S.cell i h
    exact ⟨o, e _ _ h1, h2.mono (.grow e)⟩, S.tab.ext e, W.cl _ _ (.grow e) S.inv⟩
theorem grow_upd {H : Hp} {p : Addr} {o : HO} (n : H p = none) : ∀ a u, H a = some u → upd H p o a = some u := fun a u h => by
  rw [upd_ne (ne_of_none h n)]; exact h
/-- a new cell -/
def Wd.new (w : Wd) (p : Addr) (H' : Hp) : Wd := ⟨fun i => if i = w.n then p else w.m i, w.n + 1, H'⟩
theorem Ext.new {p : Addr} {H' : Hp} (e : ∀ a o, w.H a = some o → H' a = some o) : Ext w (w.new p H') :=
  ⟨Nat.le_succ _, fun i h => if_neg (Nat.ne_of_lt h), fun a o h _ => e a o h⟩
theorem Sim.new {p : Addr} {H' : Hp} {x : Cell} {o : HO} (S : Sim W w s) (hp : w.H p = none) (e : ∀ a o, w.H a = some o → H' a = some o) (k : H' p = some o) (r : CRel W (w.new p H') x o) : Sim W (w.new p H') (s.new x) := by
  have sn := S.n
  refine ⟨congrArg (· + 1) S.n, fun i j hi hj q => ?_, fun i hi => ?_, S.tab.ext e, W.cl _ _ (.new e) S.inv⟩
  · have hi : i < s.n + 1 := hi
    have hj : j < s.n + 1 := hj
    have q : (if i = w.n then p else w.m i) = if j = w.n then p else w.m j := q
    have at_ : ∀ i, i < s.n + 1 → ¬ i = w.n → w.m i ≠ p := fun i h1 h2 z => by
      obtain ⟨o, h3, _⟩ := S.cell i (by omega)
      rw [z, hp] at h3
      cases h3
    by_cases h1 : i = w.n
    · by_cases h2 : j = w.n
      · omega
      · rw [if_pos h1, if_neg h2] at q
        exact absurd q.symm (at_ j hj h2)
    · by_cases h2 : j = w.n
      · rw [if_neg h1, if_pos h2] at q
        exact absurd q (at_ i hi h1)
      · rw [if_neg h1, if_neg h2] at q
        exact S.inj i j (by omega) (by omega) q
  · have hi : i < s.n + 1 := hi
    by_cases h : i = s.n
    · subst h
      refine ⟨o, ?_, ?_⟩
      · show H' (if s.n = w.n then p else w.m s.n) = _
        rw [if_pos sn.symm]; exact k
      · show CRel W _ (if s.n = s.n then x else _) o
        rw [if_pos rfl]; exact r
    · obtain ⟨o', h1, h2⟩ := S.cell i (by omega)
      refine ⟨o', ?_, ?_⟩
      · show H' (if i = w.n then p else w.m i) = _
        rw [if_neg (by omega)]; exact e _ _ h1
      · show CRel W _ (if i = s.n then x else s.c i) o'
        rw [if_neg h]; exact h2.mono (.new e)
theorem Rel.new (p : Addr) (H' : Hp) (n : w.n = s.n) : Rel W (w.new p H') (.obj s.n) (.ref p) := by
  have := Rel.obj (W := W) (w := w.new p H') (i := s.n) (by show s.n < w.n + 1; omega)
  have e : (w.new p H').m s.n = p := if_pos n.symm
  rw [e] at this
  exact this
/-- a cell is written -/
theorem Ext.wr {i : Nat} {o : HO} (S : Sim W w s) (hi : i < s.n) : Ext w { w with H := upd w.H (w.m i) o } :=
  ⟨Nat.le_refl _, fun _ _ => rfl, fun a u h k => by
    obtain ⟨o', h1, h2⟩ := S.cell i hi
    have : a ≠ w.m i := fun z => by
      rw [z, h1] at h
      cases h
      exact h2.mut.1 k
    show upd w.H (w.m i) o a = some u
    rw [upd_ne this]; exact h⟩
theorem Sim.wr {i : Nat} {x : Cell} {o : HO} (S : Sim W w s) (hi : i < s.n) (r : CRel W w x o) : Sim W { w with H := upd w.H (w.m i) o } (s.set i x) := by
  have e := Ext.wr (o := o) S hi
  refine ⟨S.n, S.inj, fun j hj => ?_, fun p hp => ?_, W.cl _ _ e S.inv⟩
  · by_cases h : j = i
    · subst h
      exact ⟨o, upd_same, by show CRel W _ (if j = j then x else _) o; rw [if_pos rfl]; exact r.mono e⟩
    · obtain ⟨o', h1, h2⟩ := S.cell j hj
      refine ⟨o', ?_, ?_⟩
      · show upd w.H (w.m i) o (w.m j) = _
        rw [upd_ne fun z => h (S.inj j i hj hi z)]; exact h1
      · show CRel W _ (if j = i then x else s.c j) o'
        rw [if_neg h]; exact h2.mono e
  · obtain ⟨oi, i1, i2⟩ := S.cell i hi
    obtain ⟨ps, t1, t2, t3⟩ := S.tab p hp
    have ne1 : p.1 ≠ w.m i := fun z => by
      rw [z, i1] at t1
      cases t1
      exact i2.mut.2.1 _ rfl
    refine ⟨ps, by show upd w.H (w.m i) o p.1 = _; rw [upd_ne ne1]; exact t1, t2, fun pos cv hcv => ?_⟩
    obtain ⟨c', rfl, hc'⟩ := t3 pos cv hcv
    refine ⟨c', rfl, ?_⟩
    have ne2 : c' ≠ w.m i := fun z => by
      rw [z, i1] at hc'
      cases hc'
      exact i2.mut.2.2 _ rfl
    show upd w.H (w.m i) o c' = _
    rw [upd_ne ne2]; exact hc'
end
inductive Res (α : Type) where
  | ok (a : α) (s : Sto)
  | err (c : String) (ns : List Str) (vs : List AV) (s : Sto)
  | stuck
def Res.bind {α β : Type} : Res α → (α → Sto → Res β) → Res β
  | .ok a s, k => k a s
  | .err c ns vs s, _ => .err c ns vs s
  | .stuck, _ => .stuck
def Res.Post {α : Type} : Res α → (α → Sto → Prop) → (String → List Str → List AV → Sto → Prop) → Prop
  | .ok a s, P, _ => P a s
  | .err c ns vs s, _, R => R c ns vs s
  | .stuck, _, _ => False
@[simp] theorem Res.bind_ok {α β : Type} {a : α} {s : Sto} {k : α → Sto → Res β} : (Res.ok a s).bind k = k a s := rfl
@[simp] theorem Res.bind_err {α β : Type} {c : String} {ns : List Str} {vs : List AV} {s : Sto} {k : α → Sto → Res β} : (Res.err c ns vs s).bind k = .err c ns vs s := rfl
@[simp] theorem Res.bind_stuck {α β : Type} {k : α → Sto → Res β} : (Res.stuck : Res α).bind k = .stuck := rfl
theorem Res.post_bind {α β : Type} {r : Res α} {k : α → Sto → Res β} {P : β → Sto → Prop} {R : String → List Str → List AV → Sto → Prop} : (r.bind k).Post P R ↔ r.Post (fun a s => (k a s).Post P R) R := by
  cases r <;> exact Iff.rfl
theorem Res.Post.mono {α : Type} {r : Res α} {P P' : α → Sto → Prop} {R R' : String → List Str → List AV → Sto → Prop} (h : r.Post P R) (f : ∀ a s, P a s → P' a s) (g : ∀ c ns vs s, R c ns vs s → R' c ns vs s) : r.Post P' R' := by
  cases r with
  | ok a s => exact f _ _ h
  | err c ns vs s => exact g _ _ _ _ h
  | stuck => exact h
inductive SRes where
  | nx (σ : ASt) (s : Sto) | rt (v : AV) (s : Sto) | bk (σ : ASt) (s : Sto) | ct (σ : ASt) (s : Sto)
  | err (c : String) (ns : List Str) (vs : List AV) (σ : ASt) (s : Sto)
  | stuck
abbrev AE := ASt → Sto → Res AV
abbrev AT := ASt → Sto → Res Bool
abbrev AA := ASt → Sto → Res (List AV)
abbrev AS := ASt → Sto → SRes
section
variable (W : Wl)
def ExcD (w : Wd) (c : String) (d : Addr) (ns : List Str) (xs : List AV) : Prop := c ∈ W.xlive ∧ ∃ vs, w.H d = some (.xd (ns.zip vs)) ∧ ns.length = xs.length ∧ RelL W w xs vs
def ErrP (w : Wd) (E : XK) (c : String) (ns : List Str) (vs : List AV) (s : Sto) : Prop := ∀ w' d, Ext w w' → Sim W w' s → ExcD W w' c d ns vs → E (.ref (W.κ c)) (some d) w'.H
def OkP (w : Wd) (Q : VK) (v : AV) (s : Sto) : Prop := ∀ w' vc, Ext w w' → Sim W w' s → Rel W w' v vc → Q vc w'.H
def OkL (w : Wd) (Q : List V → Hp → Prop) (v : List AV) (s : Sto) : Prop := ∀ w' vc, Ext w w' → Sim W w' s → RelL W w' v vc → Q vc w'.H
def OkB (w : Wd) (Q : Bool → Hp → Prop) (b : Bool) (s : Sto) : Prop := ∀ w', Ext w w' → Sim W w' s → Q b w'.H
def DE (E : L2.St → XK) (te : TE) (f : AE) : Prop := ∀ (w : Wd) (s : Sto) (σ : ASt) (σc : L2.St) (Q : VK), Sim W w s → RSt W w σ σc → (f σ s).Post (OkP W w Q) (ErrP W w (E σc)) → te σc w.H Q
def DT (E : L2.St → XK) (tt : TT) (f : AT) : Prop := ∀ (w : Wd) (s : Sto) (σ : ASt) (σc : L2.St) (Q : Bool → Hp → Prop), Sim W w s → RSt W w σ σc → (f σ s).Post (OkB W w Q) (ErrP W w (E σc)) → tt σc w.H Q
def DA (E : L2.St → XK) (ta : TA) (f : AA) : Prop := ∀ (w : Wd) (s : Sto) (σ : ASt) (σc : L2.St) (Q : List V → Hp → Prop), Sim W w s → RSt W w σ σc → (f σ s).Post (OkL W w Q) (ErrP W w (E σc)) → ta σc w.H Q
def SRes.P (r : SRes) (w : Wd) (D : Ends) (E : L2.St → XK) : Prop :=
  match r with
  | .nx σ s => ∀ w' σc, Ext w w' → Sim W w' s → RSt W w' σ σc → D.nx σc w'.H
  | .rt v s => ∀ w' vc, Ext w w' → Sim W w' s → Rel W w' v vc → D.rt vc w'.H
  | .bk σ s => ∀ w' σc, Ext w w' → Sim W w' s → RSt W w' σ σc → D.bk σc w'.H
  | .ct σ s => ∀ w' σc, Ext w w' → Sim W w' s → RSt W w' σ σc → D.ct σc w'.H
  | .err c ns vs σ s => ∀ w' σc d, Ext w w' → Sim W w' s → RSt W w' σ σc → ExcD W w' c d ns vs → E σc (.ref (W.κ c)) (some d) w'.H
  | .stuck => False
def DS (E : L2.St → XK) (ts : TS) (f : AS) : Prop := ∀ (w : Wd) (s : Sto) (σ : ASt) (σc : L2.St) (D : Ends), Sim W w s → RSt W w σ σc → (f σ s).P W w D E → ts D σc w.H
/-- a target -/
def DG (tg : TG) (g : AV → AS) : Prop := ∀ (w : Wd) (s : Sto) (σ : ASt) (σc : L2.St) (x : AV) (v : V) (Q : L2.St → Hp → Prop), Sim W w s → RSt W w σ σc → Rel W w x v → (g x σ s).P W w ⟨Q, fun _ _ => False, fun _ _ => False, fun _ _ => False⟩ (fun _ _ _ _ => False) → tg v σc w.H Q
def DGs (tg : TGs) (g : List AV → AS) : Prop := ∀ (w : Wd) (s : Sto) (σ : ASt) (σc : L2.St) (x : List AV) (v : List V) (Q : L2.St → Hp → Prop), Sim W w s → RSt W w σ σc → RelL W w x v → (g x σ s).P W w ⟨Q, fun _ _ => False, fun _ _ => False, fun _ _ => False⟩ (fun _ _ _ _ => False) → tg v σc w.H Q
/-- an operator, a built-in of arguments -/
def DR (r : R2) (g : AV → AV → Sto → Res AV) : Prop := ∀ (w : Wd) (s : Sto) (x y : AV) (v u : V) (Q : VK), Sim W w s → Rel W w x v → Rel W w y u → (g x y s).Post (OkP W w Q) (fun _ _ _ _ => False) → r v u w.H Q
def DU (r : V → Hp → VK → Prop) (g : AV → Sto → Res AV) : Prop := ∀ (w : Wd) (s : Sto) (x : AV) (v : V) (Q : VK), Sim W w s → Rel W w x v → (g x s).Post (OkP W w Q) (fun _ _ _ _ => False) → r v w.H Q
def DB (r : List V → Hp → VK → Prop) (g : List AV → Sto → Res AV) : Prop := ∀ (w : Wd) (s : Sto) (x : List AV) (v : List V) (Q : VK), Sim W w s → RelL W w x v → (g x s).Post (OkP W w Q) (fun _ _ _ _ => False) → r v w.H Q
/-- a promise -/
def spF (n : Nat) (F : List AV → Sto → Res AV) : Sp := fun vs H Q E => ∃ (w : Wd) (s : Sto) (args : List AV), H = w.H ∧ Sim W w s ∧ RelL W w args vs ∧ args.length = n ∧ (F args s).Post (OkP W w Q) (ErrP W w E)
end
section
variable {W : Wl} {w w' : Wd}
theorem OkP.mono {Q : VK} {v : AV} {s : Sto} (e : Ext w w') (h : OkP W w Q v s) : OkP W w' Q v s := fun w2 vc e2 S r => h w2 vc (e.trans e2) S r
theorem OkL.mono {Q : List V → Hp → Prop} {v : List AV} {s : Sto} (e : Ext w w') (h : OkL W w Q v s) : OkL W w' Q v s := fun w2 vc e2 S r => h w2 vc (e.trans e2) S r
theorem OkB.mono {Q : Bool → Hp → Prop} {v : Bool} {s : Sto} (e : Ext w w') (h : OkB W w Q v s) : OkB W w' Q v s := fun w2 e2 S => h w2 (e.trans e2) S
theorem ErrP.mono {E : XK} {c : String} {ns : List Str} {vs : List AV} {s : Sto} (e : Ext w w') (h : ErrP W w E c ns vs s) : ErrP W w' E c ns vs s := fun w2 d e2 S x => h w2 d (e.trans e2) S x
theorem P.mono {r : SRes} {D : Ends} {E : L2.St → XK} (e : Ext w w') (h : r.P W w D E) : r.P W w' D E := by
  cases r with
  | nx σ s => exact fun w2 σc e2 S x => h w2 σc (e.trans e2) S x
  | rt v s => exact fun w2 σc e2 S x => h w2 σc (e.trans e2) S x
  | bk σ s => exact fun w2 σc e2 S x => h w2 σc (e.trans e2) S x
  | ct σ s => exact fun w2 σc e2 S x => h w2 σc (e.trans e2) S x
  | err c ns vs σ s => exact fun w2 σc d e2 S x y => h w2 σc d (e.trans e2) S x y
  | stuck => exact h
theorem P.imp {r : SRes} {D D' : Ends} {E E' : L2.St → XK} (h : r.P W w D E) (n : ∀ σ H, D.nx σ H → D'.nx σ H) (t : ∀ v H, D.rt v H → D'.rt v H) (b : ∀ σ H, D.bk σ H → D'.bk σ H) (c : ∀ σ H, D.ct σ H → D'.ct σ H) (x : ∀ σ c d H, E σ c d H → E' σ c d H) : r.P W w D' E' := by
  cases r with
  | nx σ s => exact fun w2 σc e2 S x => n _ _ (h w2 σc e2 S x)
  | rt v s => exact fun w2 σc e2 S x => t _ _ (h w2 σc e2 S x)
  | bk σ s => exact fun w2 σc e2 S x => b _ _ (h w2 σc e2 S x)
  | ct σ s => exact fun w2 σc e2 S x => c _ _ (h w2 σc e2 S x)
  | err c ns vs σ s => exact fun w2 σc d e2 S z y => x _ _ _ _ (h w2 σc d e2 S z y)
  | stuck => exact h
theorem post_mono {r : Res AV} {Q : VK} {E : XK} (e : Ext w w') (h : r.Post (OkP W w Q) (ErrP W w E)) : r.Post (OkP W w' Q) (ErrP W w' E) := h.mono (fun _ _ z => z.mono e) fun _ _ _ _ z => z.mono e
end
end Ab
set_option Elab.async false
set_option linter.all false
set_option maxRecDepth 100000
set_option maxHeartbeats 1000000
namespace Ab
open PySem PySem.Spec PyProof.Rows L2
open Classical
def aVar (i : Nat) : AE := fun σ s => match σ[i]? with | some (some v) => .ok v s | _ => .stuck
def aC (v : AV) : AE := fun _ s => .ok v s
def aOp (g : AV → AV → Sto → Res AV) (fa fb : AE) : AE := fun σ s => (fa σ s).bind fun x s1 => (fb σ s1).bind fun y s2 => g x y s2
def aUn (g : AV → Sto → Res AV) (fa : AE) : AE := fun σ s => (fa σ s).bind g
def aNil : AA := fun _ s => .ok [] s
def aCons (fa : AE) (fr : AA) : AA := fun σ s => (fa σ s).bind fun x s1 => (fr σ s1).bind fun xs s2 => .ok (x :: xs) s2
def aCB (g : List AV → Sto → Res AV) (fa : AA) : AE := fun σ s => (fa σ s).bind g
def aAndV (fa fb : AE) : AE := fun σ s => (fa σ s).bind fun x s1 => match x with | .bl true => fb σ s1 | .bl false => .ok (.bl false) s1 | _ => .stuck
def aOrV (fa fb : AE) : AE := fun σ s => (fa σ s).bind fun x s1 => match x with | .bl false => fb σ s1 | .bl true => .ok (.bl true) s1 | _ => .stuck
def aNotV (fa : AE) : AE := fun σ s => (fa σ s).bind fun x s1 => match x with | .bl b => .ok (.bl (!b)) s1 | _ => .stuck
def aTest (fa : AE) : AT := fun σ s => (fa σ s).bind fun x s1 => match x with | .bl b => .ok b s1 | _ => .stuck
def aAnd (t u : AT) : AT := fun σ s => (t σ s).bind fun b s1 => if b = true then u σ s1 else .ok false s1
def aOr (t u : AT) : AT := fun σ s => (t σ s).bind fun b s1 => if b = true then .ok true s1 else u σ s1
def aNot (t : AT) : AT := fun σ s => (t σ s).bind fun b s1 => .ok (!b) s1
def aIf (t : AT) (fa fb : AE) : AE := fun σ s => (t σ s).bind fun b s1 => if b = true then fa σ s1 else fb σ s1
def aChain (r r' : AV → AV → Sto → Res AV) (fa fb fc : AE) : AE := fun σ s => (fa σ s).bind fun x s1 => (fb σ s1).bind fun y s2 => (r x y s2).bind fun z s3 => match z with | .bl true => (fc σ s3).bind fun w s4 => r' y w s4 | .bl false => .ok (.bl false) s3 | _ => .stuck
def aTup (fa : AA) : AE := fun σ s => (fa σ s).bind fun xs s1 => if xs.length ≤ sizeLine then .ok (.tup xs) s1 else .stuck
def newL (xs : List AV) (s : Sto) : Res AV := .ok (.obj s.n) (s.new (.lst xs))
def aLst (fa : AA) : AE := fun σ s => (fa σ s).bind fun xs s1 => if xs.length ≤ sizeLine then newL xs s1 else .stuck
def aCall (n : Nat) (F : List AV → Sto → Res AV) (dvs : List AV) (fa : AA) : AE := fun σ s => (fa σ s).bind fun xs s1 => if (xs ++ dvs).length = n then F (xs ++ dvs) s1 else .stuck
def aNext : AS := fun σ s => .nx σ s
/-- an expression's end, then a statement's work -/
def Res.st {α : Type} : Res α → ASt → (α → Sto → SRes) → SRes
  | .ok a s, _, k => k a s
  | .err c ns vs s, σ, _ => .err c ns vs σ s
  | .stuck, _, _ => .stuck
@[simp] theorem Res.st_ok {α : Type} {a : α} {s : Sto} {σ : ASt} {k : α → Sto → SRes} : (Res.ok a s).st σ k = k a s := rfl
@[simp] theorem Res.st_err {α : Type} {c : String} {ns : List Str} {vs : List AV} {s : Sto} {σ : ASt} {k : α → Sto → SRes} : (Res.err c ns vs s).st σ k = .err c ns vs σ s := rfl
@[simp] theorem Res.st_stuck {α : Type} {σ : ASt} {k : α → Sto → SRes} : (Res.stuck : Res α).st σ k = .stuck := rfl
def SRes.thn : SRes → AS → SRes
  | .nx σ s, f => f σ s
  | .rt v s, _ => .rt v s
  | .bk σ s, _ => .bk σ s
  | .ct σ s, _ => .ct σ s
  | .err c ns vs σ s, _ => .err c ns vs σ s
  | .stuck, _ => .stuck
@[simp] theorem SRes.thn_nx {σ : ASt} {s : Sto} {f : AS} : (SRes.nx σ s).thn f = f σ s := rfl
@[simp] theorem SRes.thn_rt {v : AV} {s : Sto} {f : AS} : (SRes.rt v s).thn f = .rt v s := rfl
@[simp] theorem SRes.thn_bk {σ : ASt} {s : Sto} {f : AS} : (SRes.bk σ s).thn f = .bk σ s := rfl
@[simp] theorem SRes.thn_ct {σ : ASt} {s : Sto} {f : AS} : (SRes.ct σ s).thn f = .ct σ s := rfl
@[simp] theorem SRes.thn_err {c : String} {ns : List Str} {vs : List AV} {σ : ASt} {s : Sto} {f : AS} : (SRes.err c ns vs σ s).thn f = .err c ns vs σ s := rfl
@[simp] theorem SRes.thn_stuck {f : AS} : SRes.stuck.thn f = .stuck := rfl
def aSeq (f g : AS) : AS := fun σ s => (f σ s).thn g
def aBreak : AS := fun σ s => .bk σ s
def aCont : AS := fun σ s => .ct σ s
def aDrop (fa : AE) : AS := fun σ s => (fa σ s).st σ fun _ s1 => .nx σ s1
def aRet (fa : AE) : AS := fun σ s => (fa σ s).st σ fun v s1 => .rt v s1
def aRetN : AS := fun _ s => .rt .non s
def aIfS (t : AT) (f g : AS) : AS := fun σ s => (t σ s).st σ fun b s1 => if b = true then f σ s1 else g σ s1
def aAsg (fa : AE) (g : AV → AS) : AS := fun σ s => (fa σ s).st σ fun v s1 => g v σ s1
def agName (i : Nat) : AV → AS := fun v σ s => .nx (σ.set i (some v)) s
def parK (i j : Nat) (σ : ASt) : List AV → Sto → SRes
  | [v, u], s1 => .nx ((σ.set i (some v)).set j (some u)) s1
  | _, _ => .stuck
def aPar (i j : Nat) (fa : AA) : AS := fun σ s => (fa σ s).st σ (parK i j σ)
def parK3 (i j l : Nat) (σ : ASt) : List AV → Sto → SRes
  | [v, u, w], s1 => .nx (((σ.set i (some v)).set j (some u)).set l (some w)) s1
  | _, _ => .stuck
def aPar3 (i j l : Nat) (fa : AA) : AS := fun σ s => (fa σ s).st σ (parK3 i j l σ)
def agNil : List AV → AS := fun xs σ s => match xs with | [] => .nx σ s | _ => .stuck
def agCons (g : AV → AS) (h : List AV → AS) : List AV → AS := fun xs => match xs with | x :: r => aSeq (g x) (h r) | [] => fun _ _ => .stuck
def agTup (n : Nat) (g : List AV → AS) : AV → AS := fun v σ s => match v with | .tup xs => if xs.length = n then g xs σ s else .stuck | _ => .stuck
def aNever : AS := fun _ _ => .stuck
/-- a def's body -/
def SRes.fn : SRes → Res AV
  | .rt v s1 => .ok v s1
  | .nx _ s1 => .ok .non s1
  | .err c ns vs _ s1 => .err c ns vs s1
  | _ => .stuck
@[simp] theorem SRes.fn_rt {v : AV} {s : Sto} : (SRes.rt v s).fn = .ok v s := rfl
@[simp] theorem SRes.fn_nx {σ : ASt} {s : Sto} : (SRes.nx σ s).fn = .ok .non s := rfl
@[simp] theorem SRes.fn_err {c : String} {ns : List Str} {vs : List AV} {σ : ASt} {s : Sto} : (SRes.err c ns vs σ s).fn = .err c ns vs s := rfl
def aDef (k : Nat) (f : AS) : List AV → Sto → Res AV := fun args s => (f (args.map some ++ List.replicate k none) s).fn
section
variable {W : Wl} {E : L2.St → XK} {ta tb tc : TE} {fa fb fc : AE} {t u : TT} {ft fu : AT} {tr : TA} {fr : AA}
theorem DE.var {i : Nat} : DE W E (tVar i) (aVar i) := fun w s σ σc Q S R h => by
  unfold aVar at h
  split at h
  · rename_i v e
    obtain ⟨vc, h1, h2⟩ := R.get i v e
    exact ⟨vc, h1, h w vc (.refl w) S h2⟩
  · exact h.elim
theorem DE.c {v : AV} {vc : V} (r : ∀ w, Rel W w v vc) : DE W E (tC vc) (aC v) := fun w s σ σc Q S R h => h w vc (.refl w) S (r w)
theorem post_bind_ok {α β : Type} {r : Res α} {k : α → Sto → Res β} {P : β → Sto → Prop} {Er : String → List Str → List AV → Sto → Prop} (h : (r.bind k).Post P Er) : r.Post (fun a s => (k a s).Post P Er) Er := Res.post_bind.mp h
theorem postB_mono {w w' : Wd} {r : Res Bool} {Q : Bool → Hp → Prop} {E : XK} (e : Ext w w') (h : r.Post (OkB W w Q) (ErrP W w E)) : r.Post (OkB W w' Q) (ErrP W w' E) := h.mono (fun _ _ z => z.mono e) fun _ _ _ _ z => z.mono e
theorem DE.op {r : R2} {g : AV → AV → Sto → Res AV} (hr : DR W r g) (ha : DE W E ta fa) (hb : DE W E tb fb) (hg : ∀ x y s c ns vs s', g x y s ≠ .err c ns vs s') : DE W E (tOp r ta tb) (aOp g fa fb) := fun w s σ σc Q S R h => by
  refine ha w s σ σc _ S R ((post_bind_ok h).mono (fun x s1 h1 w1 v e1 S1 r1 => ?_) fun _ _ _ _ z => z)
  refine hb w1 s1 σ σc _ S1 (R.mono e1) ((post_bind_ok h1).mono (fun y s2 h2 w2 u e2 S2 r2 => ?_) fun _ _ _ _ z => z.mono e1)
  refine hr w2 s2 x y v u Q S2 (r1.mono e2) r2 ?_
  cases hh : g x y s2 with
  | ok a s3 =>
    rw [hh] at h2
    exact OkP.mono (e1.trans e2) h2
  | err c ns vs s3 => exact absurd hh (hg _ _ _ _ _ _ _)
  | stuck => rw [hh] at h2; exact h2
theorem DE.un {r : V → Hp → VK → Prop} {g : AV → Sto → Res AV} (hr : DU W r g) (ha : DE W E ta fa) (hg : ∀ x s c ns vs s', g x s ≠ .err c ns vs s') : DE W E (tUn r ta) (aUn g fa) := fun w s σ σc Q S R h => by
  refine ha w s σ σc _ S R ((post_bind_ok h).mono (fun x s1 h1 w1 v e1 S1 r1 => ?_) fun _ _ _ _ z => z)
  refine hr w1 s1 x v Q S1 r1 ?_
  cases hh : g x s1 with
  | ok a s3 =>
    rw [hh] at h1
    exact OkP.mono e1 h1
  | err c ns vs s3 => exact absurd hh (hg _ _ _ _ _ _)
  | stuck => rw [hh] at h1; exact h1
theorem DA.nil : DA W E tNil aNil := fun w s σ σc Q S R h => h w [] (.refl w) S .nil
theorem DA.cons (ha : DE W E ta fa) (hr : DA W E tr fr) : DA W E (tCons ta tr) (aCons fa fr) := fun w s σ σc Q S R h => by
  refine ha w s σ σc _ S R ((post_bind_ok h).mono (fun x s1 h1 w1 v e1 S1 r1 => ?_) fun _ _ _ _ z => z)
  refine hr w1 s1 σ σc _ S1 (R.mono e1) ((post_bind_ok h1).mono (fun y s2 h2 w2 u e2 S2 r2 => ?_) fun _ _ _ _ z => z.mono e1)
  exact h2 w2 _ (e1.trans e2) S2 (.cons (r1.mono e2) r2)
theorem DE.cb {r : List V → Hp → VK → Prop} {g : List AV → Sto → Res AV} (hr : DB W r g) (ha : DA W E tr fr) (hg : ∀ x s c ns vs s', g x s ≠ .err c ns vs s') : DE W E (tCB r tr) (aCB g fr) := fun w s σ σc Q S R h => by
  refine ha w s σ σc _ S R ((post_bind_ok h).mono (fun x s1 h1 w1 v e1 S1 r1 => ?_) fun _ _ _ _ z => z)
  refine hr w1 s1 x v Q S1 r1 ?_
  cases hh : g x s1 with
  | ok a s3 =>
    rw [hh] at h1
    exact OkP.mono e1 h1
  | err c ns vs s3 => exact absurd hh (hg _ _ _ _ _ _)
  | stuck => rw [hh] at h1; exact h1
theorem DE.andV (ha : DE W E ta fa) (hb : DE W E tb fb) : DE W E (tAndV ta tb) (aAndV fa fb) := fun w s σ σc Q S R h => by
  refine ha w s σ σc _ S R ((post_bind_ok h).mono (fun x s1 h1 w1 v e1 S1 r1 => ?_) fun _ _ _ _ z => z)
  cases r1 with
  | bl b =>
    refine ⟨b, rfl, ?_⟩
    cases b with
    | true => exact iteT (hb w1 s1 σ σc _ S1 (R.mono e1) (post_mono e1 h1))
    | false => exact iteF (h1 w1 _ e1 S1 (.bl false))
  | _ => exact (show False from h1).elim
theorem DE.orV (ha : DE W E ta fa) (hb : DE W E tb fb) : DE W E (tOrV ta tb) (aOrV fa fb) := fun w s σ σc Q S R h => by
  refine ha w s σ σc _ S R ((post_bind_ok h).mono (fun x s1 h1 w1 v e1 S1 r1 => ?_) fun _ _ _ _ z => z)
  cases r1 with
  | bl b =>
    refine ⟨b, rfl, ?_⟩
    cases b with
    | true => exact iteT (h1 w1 _ e1 S1 (.bl true))
    | false => exact iteF (hb w1 s1 σ σc _ S1 (R.mono e1) (post_mono e1 h1))
  | _ => exact (show False from h1).elim
theorem DE.notV (ha : DE W E ta fa) : DE W E (tNotV ta) (aNotV fa) := fun w s σ σc Q S R h => by
  refine ha w s σ σc _ S R ((post_bind_ok h).mono (fun x s1 h1 w1 v e1 S1 r1 => ?_) fun _ _ _ _ z => z)
  cases r1 with
  | bl b => exact ⟨b, rfl, h1 w1 _ e1 S1 (.bl _)⟩
  | _ => exact (show False from h1).elim
theorem DT.test (ha : DE W E ta fa) : DT W E (tTest ta) (aTest fa) := fun w s σ σc Q S R h => by
  refine ha w s σ σc _ S R ((post_bind_ok h).mono (fun x s1 h1 w1 v e1 S1 r1 => ?_) fun _ _ _ _ z => z)
  cases r1 with
  | bl b => exact ⟨b, rfl, h1 w1 e1 S1⟩
  | _ => exact (show False from h1).elim
theorem DT.b (ha : DE W E ta fa) : DT W E (tB ta) (aTest fa) := fun w s σ σc Q S R h => DT.test ha w s σ σc Q S R h
theorem DT.and (ha : DT W E t ft) (hb : DT W E u fu) : DT W E (tAnd t u) (aAnd ft fu) := fun w s σ σc Q S R h => by
  refine ha w s σ σc _ S R ((post_bind_ok h).mono (fun b s1 h1 w1 e1 S1 => ?_) fun _ _ _ _ z => z)
  cases b with
  | true => exact iteT (hb w1 s1 σ σc _ S1 (R.mono e1) (postB_mono e1 (by simpa using h1)))
  | false => exact iteF ((show OkB W w Q false s1 from by rw [if_neg (by decide)] at h1; exact h1) w1 e1 S1)
theorem DT.or (ha : DT W E t ft) (hb : DT W E u fu) : DT W E (tOr t u) (aOr ft fu) := fun w s σ σc Q S R h => by
  refine ha w s σ σc _ S R ((post_bind_ok h).mono (fun b s1 h1 w1 e1 S1 => ?_) fun _ _ _ _ z => z)
  cases b with
  | true => exact iteT ((show OkB W w Q true s1 from by rw [if_pos rfl] at h1; exact h1) w1 e1 S1)
  | false => exact iteF (hb w1 s1 σ σc _ S1 (R.mono e1) (postB_mono e1 (by simpa using h1)))
theorem DT.not (ha : DT W E t ft) : DT W E (tNot t) (aNot ft) := fun w s σ σc Q S R h =>
  ha w s σ σc _ S R ((post_bind_ok h).mono (fun b s1 h1 w1 e1 S1 => h1 w1 e1 S1) fun _ _ _ _ z => z)
theorem DE.ifE (ht : DT W E t ft) (ha : DE W E ta fa) (hb : DE W E tb fb) : DE W E (tIf t ta tb) (aIf ft fa fb) := fun w s σ σc Q S R h => by
  refine ht w s σ σc _ S R ((post_bind_ok h).mono (fun b s1 h1 w1 e1 S1 => ?_) fun _ _ _ _ z => z)
  cases b with
  | true => exact iteT (ha w1 s1 σ σc _ S1 (R.mono e1) (post_mono e1 (by simpa using h1)))
  | false => exact iteF (hb w1 s1 σ σc _ S1 (R.mono e1) (post_mono e1 (by simpa using h1)))
theorem DE.chain {r r' : R2} {g g' : AV → AV → Sto → Res AV} (hr : DR W r g) (hr' : DR W r' g') (ha : DE W E ta fa) (hb : DE W E tb fb) (hc : DE W E tc fc) (hg : ∀ x y s c ns vs s', g x y s ≠ .err c ns vs s') (hg' : ∀ x y s c ns vs s', g' x y s ≠ .err c ns vs s') :
    DE W E (tChain r r' ta tb tc) (aChain g g' fa fb fc) := fun w s σ σc Q S R h => by
  refine ha w s σ σc _ S R ((post_bind_ok h).mono (fun x s1 h1 w1 v e1 S1 r1 => ?_) fun _ _ _ _ z => z)
  refine hb w1 s1 σ σc _ S1 (R.mono e1) ((post_bind_ok h1).mono (fun y s2 h2 w2 u e2 S2 r2 => ?_) fun _ _ _ _ z => z.mono e1)
  have h2 := post_bind_ok h2
  refine hr w2 s2 x y v u _ S2 (r1.mono e2) r2 ?_
  cases hh : g x y s2 with
  | err c ns vs s3 => exact absurd hh (hg _ _ _ _ _ _ _)
  | stuck => rw [hh] at h2; exact h2
  | ok z s3 =>
    rw [hh] at h2
    intro w3 zc e3 S3 r3
    have e13 := (e1.trans e2).trans e3
    cases r3 with
    | bl b =>
      refine ⟨b, rfl, ?_⟩
      cases b with
      | false => exact iteF ((show OkP W w Q (.bl false) s3 from h2) w3 _ e13 S3 (.bl false))
      | true =>
        refine iteT (hc w3 s3 σ σc _ S3 (R.mono e13) ((post_bind_ok h2).mono (fun w' s4 h4 w4 uc e4 S4 r4 => ?_) fun _ _ _ _ z => z.mono e13))
        refine hr' w4 s4 y w' u uc Q S4 ((r2.mono e3).mono e4) r4 ?_
        cases hh : g' y w' s4 with
        | err c ns vs s3 => exact absurd hh (hg' _ _ _ _ _ _ _)
        | stuck => rw [hh] at h4; exact h4
        | ok a s5 =>
          rw [hh] at h4
          exact OkP.mono (e13.trans e4) h4
    | _ => exact (show False from h2).elim
theorem DE.tup (ha : DA W E tr fr) : DE W E (tTup tr) (aTup fr) := fun w s σ σc Q S R h => by
  refine ha w s σ σc _ S R ((post_bind_ok h).mono (fun xs s1 h1 w1 vs e1 S1 r1 => ?_) fun _ _ _ _ z => z)
  split at h1
  · rename_i hl
    refine ⟨by rw [← r1.length]; exact hl, fun p hp => ?_⟩
    have g := grow_upd (o := .tup vs) hp
    exact h1 _ _ (e1.trans (.grow g)) (S1.grow g) (.tup (.inl (.inl upd_same)) (r1.mono (.grow g)))
  · exact (show False from h1).elim
theorem newL_ok {w : Wd} {s : Sto} {xs : List AV} {vs : List V} {Q : VK} (S : Sim W w s) (r : RelL W w xs vs) (h : OkP W w Q (.obj s.n) (s.new (.lst xs))) : ∀ p, w.H p = none → Q (.ref p) (upd w.H p (.lst vs)) := fun p hp => by
  have g := grow_upd (o := .lst vs) hp
  exact h (w.new p _) _ (.new g) (S.new hp g upd_same (.lst (r.mono (.new g)))) (Rel.new p _ S.n)
theorem DE.lst (ha : DA W E tr fr) : DE W E (tLst tr) (aLst fr) := fun w s σ σc Q S R h => by
  refine ha w s σ σc _ S R ((post_bind_ok h).mono (fun xs s1 h1 w1 vs e1 S1 r1 => ?_) fun _ _ _ _ z => z)
  split at h1
  · rename_i hl
    exact ⟨by rw [← r1.length]; exact hl, newL_ok S1 r1 (OkP.mono e1 h1)⟩
  · exact (show False from h1).elim
theorem DE.call {n : Nat} {F : List AV → Sto → Res AV} {Ek : XK} {dvs : List AV} {dcs : List V} (hd : ∀ w, RelL W w dvs dcs) (ha : DA W (fun _ => Ek) tr fr) : DE W (fun _ => Ek) (tCall (spF W n F) dcs Ek tr) (aCall n F dvs fr) := fun w s σ σc Q S R h => by
  refine ha w s σ σc _ S R ((post_bind_ok h).mono (fun xs s1 h1 w1 vs e1 S1 r1 => ?_) fun _ _ _ _ z => z)
  split at h1
  · rename_i hl
    exact ⟨w1, s1, _, rfl, S1, r1.append (hd w1), hl, post_mono e1 h1⟩
  · exact (show False from h1).elim
end
section
variable {W : Wl} {E : L2.St → XK} {ta : TE} {fa : AE} {t : TT} {ft : AT} {tr : TA} {fr : AA} {t1 t2 : TS} {f1 f2 : AS} {tg : TG} {g : AV → AS} {tgs : TGs} {gs : List AV → AS}
theorem DS.next : DS W E tNext aNext := fun w s σ σc D S R h => h w σc (.refl w) S R
theorem DS.brk : DS W E tBreak aBreak := fun w s σ σc D S R h => h w σc (.refl w) S R
theorem DS.seq (h1 : DS W E t1 f1) (h2 : DS W E t2 f2) : DS W E (tSeq t1 t2) (aSeq f1 f2) := fun w s σ σc D S R h => by
  refine h1 w s σ σc { D with nx := t2 D } S R ?_
  unfold aSeq at h
  cases e : f1 σ s with
  | nx σ' s' =>
    rw [e] at h
    exact fun w' σc' e' S' R' => h2 w' s' σ' σc' D S' R' (P.mono e' h)
  | rt v s' => rw [e] at h; exact h
  | bk σ' s' => rw [e] at h; exact h
  | ct σ' s' => rw [e] at h; exact h
  | err c ns vs σ' s' => rw [e] at h; exact h
  | stuck => rw [e] at h; exact h
/-- from an expression's end to a statement's -/
theorem exp_post {α : Type} {r : Res α} {w : Wd} {σ : ASt} {σc : L2.St} {D : Ends} {k : α → Sto → SRes} (R : RSt W w σ σc) (h : (r.st σ k).P W w D E) : r.Post (fun v s1 => (k v s1).P W w D E) (ErrP W w (E σc)) := by
  cases r with
  | ok v s1 => exact h
  | err c ns vs s1 => exact fun w' d e' S' x => h w' σc d e' S' (R.mono e') x
  | stuck => exact h
theorem DS.drop (ha : DE W E ta fa) : DS W E (tDrop ta) (aDrop fa) := fun w s σ σc D S R h => by
  refine ha w s σ σc _ S R ((exp_post R h).mono (fun v s1 h1 w1 vc e1 S1 r1 => h1 w1 σc e1 S1 (R.mono e1)) fun _ _ _ _ z => z)
theorem DS.ret (ha : DE W E ta fa) : DS W E (tRet ta) (aRet fa) := fun w s σ σc D S R h => by
  refine ha w s σ σc _ S R ((exp_post R h).mono (fun v s1 h1 w1 vc e1 S1 r1 => h1 w1 vc e1 S1 r1) fun _ _ _ _ z => z)
theorem DS.ifs (ht : DT W E t ft) (h1 : DS W E t1 f1) (h2 : DS W E t2 f2) : DS W E (tIfS t t1 t2) (aIfS ft f1 f2) := fun w s σ σc D S R h => by
  refine ht w s σ σc _ S R ((exp_post R h).mono (fun b s1 hb w1 e1 S1 => ?_) fun _ _ _ _ z => z)
  cases b with
  | true => exact iteT (h1 w1 s1 σ σc D S1 (R.mono e1) (P.mono e1 (by simpa using hb)))
  | false => exact iteF (h2 w1 s1 σ σc D S1 (R.mono e1) (P.mono e1 (by simpa using hb)))
/-- a target ends by going on -/
def Goes (g : AV → AS) : Prop := ∀ x σ s, (∃ σ' s', g x σ s = .nx σ' s') ∨ g x σ s = .stuck
def GoesL (g : List AV → AS) : Prop := ∀ x σ s, (∃ σ' s', g x σ s = .nx σ' s') ∨ g x σ s = .stuck
theorem goes_P {r : SRes} {w : Wd} {D : Ends} (g : (∃ σ' s', r = .nx σ' s') ∨ r = .stuck) (h : r.P W w D E) : r.P W w ⟨D.nx, fun _ _ => False, fun _ _ => False, fun _ _ => False⟩ (fun _ _ _ _ => False) := by
  rcases g with ⟨σ', s', rfl⟩ | rfl
  · exact h
  · exact h
theorem DS.asg (ha : DE W E ta fa) (hg : DG W tg g) (hn : Goes g) : DS W E (tAsg ta tg) (aAsg fa g) := fun w s σ σc D S R h => by
  refine ha w s σ σc _ S R ((exp_post R h).mono (fun v s1 h1 w1 vc e1 S1 r1 => ?_) fun _ _ _ _ z => z)
  exact hg w1 s1 σ σc v vc _ S1 (R.mono e1) r1 (goes_P (hn _ _ _) (P.mono e1 h1))
theorem DG.name {i : Nat} : DG W (gName i) (agName i) := fun w s σ σc x v Q S R r h => h w _ (.refl w) S (R.set (x := some x) (v := some v) r i)
theorem Goes.name {i : Nat} : Goes (agName i) := fun x σ s => .inl ⟨_, _, rfl⟩
theorem DGs.nil : DGs W gNil agNil := fun w s σ σc x v Q S R r h => by
  cases r with
  | nil => exact ⟨rfl, h w σc (.refl w) S R⟩
  | cons => exact (show False from h).elim
theorem GoesL.nil : GoesL agNil := fun x σ s => by
  cases x with
  | nil => exact .inl ⟨_, _, rfl⟩
  | cons => exact .inr rfl
theorem DGs.cons (hg : DG W tg g) (hs : DGs W tgs gs) : DGs W (gCons tg tgs) (agCons g gs) := fun w s σ σc x v Q S R r h => by
  cases r with
  | nil => exact (show False from h).elim
  | @cons x v xs vs h1 h2 =>
    refine ⟨v, vs, rfl, hg w s σ σc x v _ S R h1 ?_⟩
    have h : (aSeq (g x) (gs xs) σ s).P W w _ _ := h
    unfold aSeq at h
    cases e : g x σ s with
    | nx σ' s' =>
      rw [e] at h
      exact fun w' σc' e' S' R' => hs w' s' σ' σc' xs vs Q S' R' (h2.mono e') (P.mono e' h)
    | rt v s' => rw [e] at h; exact h
    | bk σ' s' => rw [e] at h; exact h
    | ct σ' s' => rw [e] at h; exact h
    | err c ns vs σ' s' => rw [e] at h; exact h
    | stuck => rw [e] at h; exact h
theorem GoesL.cons (h1 : Goes g) (h2 : GoesL gs) : GoesL (agCons g gs) := fun x σ s => by
  cases x with
  | nil => exact .inr rfl
  | cons x xs =>
    show (∃ σ' s', (g x σ s).thn (gs xs) = .nx σ' s') ∨ (g x σ s).thn (gs xs) = .stuck
    rcases h1 x σ s with ⟨σ', s', e⟩ | e
    · rw [e]; exact h2 xs σ' s'
    · rw [e]; exact .inr rfl
theorem DG.tup {n : Nat} (hs : DGs W tgs gs) : DG W (gTup W.K n tgs) (agTup n gs) := fun w s σ σc x v Q S R r h => by
  cases r with
  | @tup a xs vs h1 h2 =>
    have h : (if xs.length = n then gs xs σ s else .stuck : SRes).P W w _ _ := h
    split at h
    · rename_i hl
      exact ⟨a, vs, rfl, h1, by rw [← h2.length]; exact hl, hs w s σ σc xs vs Q S R h2 h⟩
    · exact h.elim
  | _ => exact (show False from h).elim
theorem Goes.tup {n : Nat} (h : GoesL gs) : Goes (agTup n gs) := fun x σ s => by
  cases x with
  | tup xs =>
    show (∃ σ' s', (if xs.length = n then gs xs σ s else .stuck : SRes) = .nx σ' s') ∨ _
    by_cases e : xs.length = n
    · rw [if_pos e]
      rcases h xs σ s with h | h
      · exact .inl h
      · exact .inr (by show (if xs.length = n then gs xs σ s else .stuck : SRes) = _; rw [if_pos e]; exact h)
    · exact .inr (if_neg e)
  | _ => exact .inr rfl
theorem DS.par {i j : Nat} (ha : DA W E tr fr) : DS W E (tPar i j tr) (aPar i j fr) := fun w s σ σc D S R h => by
  refine ha w s σ σc _ S R ((exp_post R h).mono (fun xs s1 h1 w1 vs e1 S1 r1 => ?_) fun _ _ _ _ z => z)
  match xs, vs, r1, h1 with
  | [x, y], [v, u], .cons a (.cons b .nil), h => exact ⟨_, _, rfl, h w1 _ e1 S1 (((R.mono e1).set (x := some x) (v := some v) a i).set (x := some y) (v := some u) b j)⟩
theorem DS.par3 {i j l : Nat} (ha : DA W E tr fr) : DS W E (tPar3 i j l tr) (aPar3 i j l fr) := fun w s σ σc D S R h => by
  refine ha w s σ σc _ S R ((exp_post R h).mono (fun xs s1 h1 w1 vs e1 S1 r1 => ?_) fun _ _ _ _ z => z)
  match xs, vs, r1, h1 with
  | [x, y, z], [v, u, q], .cons a (.cons b (.cons c .nil)), h => exact ⟨_, _, _, rfl, h w1 _ e1 S1 ((((R.mono e1).set (x := some x) (v := some v) a i).set (x := some y) (v := some u) b j).set (x := some z) (v := some q) c l)⟩
theorem DS.never {f : AS} (h : ∀ σ s, f σ s = .stuck) : DS W E tNever f := fun w s σ σc D S R z => by rw [h] at z; exact z.elim
/-- a def's body keeps the def's promise -/
theorem RSt.start {w : Wd} : ∀ {xs : List AV} {vs : List V} {k : Nat}, RelL W w xs vs → RSt W w (xs.map some ++ List.replicate k none) (vs.map some ++ List.replicate k none)
  | _, _, 0, .nil => .nil
  | _, _, k + 1, .nil => .cons trivial (RSt.start (k := k) .nil)
  | _, _, _, .cons h r => .cons h (RSt.start r)
theorem DS.dfn {k n : Nat} {N : List Str} {f : AS} {ts : TS} {H : Hp} {vs : List V} {Q : VK} {Ek : XK} (h : spF W n (aDef k f) vs H Q Ek) (hk : n + k = N.length) (hs : DS W (fun _ => Ek) ts f) : ts { nx := fun _ H' => Q .non H', rt := Q } (L2.start N vs) H := by
  obtain ⟨w, s, args, rfl, S, R, hn, p⟩ := h
  have hv := R.length
  have e : L2.start N vs = vs.map some ++ List.replicate k none := by
    unfold L2.start
    rw [show N.length - vs.length = k from by omega]
  rw [e]
  refine hs w s _ _ _ S (RSt.start R) ?_
  have p : (f (args.map some ++ List.replicate k none) s).fn.Post _ _ := p
  cases e : f (args.map some ++ List.replicate k none) s with
  | nx σ' s' =>
    rw [e] at p
    exact fun w' σc' e' S' R' => p w' _ e' S' .non
  | rt v s' => rw [e] at p; exact p
  | bk σ' s' => rw [e] at p; exact p.elim
  | ct σ' s' => rw [e] at p; exact p.elim
  | err c ns vs σ' s' =>
    rw [e] at p
    exact fun w' σc' d e' S' R' x => p w' d e' S' x
  | stuck => rw [e] at p; exact p
theorem spF.len {n : Nat} {F : List AV → Sto → Res AV} {vs : List V} {H : Hp} {Q : VK} {Ek : XK} (h : spF W n F vs H Q Ek) : vs.length = n := by
  obtain ⟨w, s, args, rfl, S, R, hn, p⟩ := h
  rw [← R.length]; exact hn
end
end Ab
set_option Elab.async false
set_option linter.all false
set_option maxRecDepth 100000
set_option maxHeartbeats 1000000
namespace Ab
open PySem PySem.Spec PyProof.Rows L2
open Classical
noncomputable section
/-- no error comes of it -/
def NE2 (g : AV → AV → Sto → Res AV) : Prop := ∀ x y s c ns vs s', g x y s ≠ .err c ns vs s'
def NEL (g : List AV → Sto → Res AV) : Prop := ∀ x s c ns vs s', g x s ≠ .err c ns vs s'
section
variable {W : Wl} {w : Wd} {s : Sto}
theorem obj_at {i : Nat} {v : V} (r : Rel W w (.obj i) v) : i < w.n ∧ v = .ref (w.m i) := by
  cases r with
  | obj h => exact ⟨h, rfl⟩
theorem cell_at {i : Nat} {v : V} {x : Cell} (S : Sim W w s) (r : Rel W w (.obj i) v) (e : s.c i = x) : ∃ o, i < s.n ∧ v = .ref (w.m i) ∧ w.H (w.m i) = some o ∧ CRel W w x o := by
  obtain ⟨h, rfl⟩ := obj_at r
  have h : i < s.n := S.n ▸ h
  obtain ⟨o, h1, h2⟩ := S.cell i h
  rw [e] at h2
  exact ⟨o, h, rfl, h1, h2⟩
/-- the items of a list -/
def lstOf (s : Sto) : AV → Option (List AV)
  | .scr xs => some xs
  | .obj i => match s.c i with | .lst xs => some xs | _ => none
  | _ => none
theorem lst_at {x : AV} {v : V} {xs : List AV} (S : Sim W w s) (r : Rel W w x v) (h : lstOf s x = some xs) : ∃ a vs, v = .ref a ∧ SqL W.K w.H a vs ∧ RelL W w xs vs := by
  cases r with
  | scr h1 h2 =>
    cases h
    exact ⟨_, _, rfl, h1.sql, h2⟩
  | @obj i hi =>
    unfold lstOf at h
    simp only at h
    split at h
    · rename_i xs' e
      cases h
      obtain ⟨o, h1, h2, h3, h4⟩ := cell_at S (.obj hi) e
      cases h4 with
      | lst r => exact ⟨_, _, rfl, .inl (.inl h3), r⟩
    · cases h
  | _ => cases h
theorem lstO_at {i : Nat} {v : V} {xs : List AV} (S : Sim W w s) (r : Rel W w (.obj i) v) (h : s.c i = .lst xs) : ∃ vs, i < s.n ∧ v = .ref (w.m i) ∧ w.H (w.m i) = some (.lst vs) ∧ RelL W w xs vs := by
  obtain ⟨o, h1, h2, h3, h4⟩ := cell_at S r h
  cases h4 with
  | lst r => exact ⟨_, h1, h2, h3, r⟩
theorem newT {xs : List AV} {vs : List V} {Q : VK} (S : Sim W w s) (r : RelL W w xs vs) (h : OkP W w Q (.tup xs) s) : ∀ p, w.H p = none → Q (.ref p) (upd w.H p (.tup vs)) := fun p hp => by
  have g := grow_upd (o := .tup vs) hp
  exact h _ _ (.grow g) (S.grow g) (.tup (.inl (.inl upd_same)) (r.mono (.grow g)))
theorem wr_ok {i : Nat} {x : Cell} {o : HO} {G : Hp → Prop} (S : Sim W w s) (hi : i < s.n) (r : CRel W w x o) (h : ∀ w', Ext w w' → Sim W w' (s.set i x) → G w'.H) : G (upd w.H (w.m i) o) := h _ (.wr S hi) (S.wr hi r)
end
theorem OpR.or {X : Cx} {f : Value → Value → Sem Value} {r1 r2 : R2} (h1 : OpR X f r1) (h2 : OpR X f r2) : OpR X f (fun x y H Q => r1 x y H Q ∨ r2 x y H Q) := fun pins s σ H x y v u Q I rx ry h => h.elim (h1 pins s σ H x y v u Q I rx ry) (h2 pins s σ H x y v u Q I rx ry)
theorem CallR.or {X : Cx} {f : Value} {r1 r2 : List V → Hp → VK → Prop} (h1 : CallR X f r1) (h2 : CallR X f r2) : CallR X f (fun xs H Q => r1 xs H Q ∨ r2 xs H Q) := fun pins s σ H xs us Q I r h => h.elim (h1 pins s σ H xs us Q I r) (h2 pins s σ H xs us Q I r)
theorem IxR.or {X : Cx} {r1 r2 : R2} (h1 : IxR X r1) (h2 : IxR X r2) : IxR X (fun x y H Q => r1 x y H Q ∨ r2 x y H Q) := fun va sl pins s σ H x y v u Q I rx ry h z => Or.elim h (fun h => h1 va sl pins s σ H x y v u Q I rx ry h z) (fun h => h2 va sl pins s σ H x y v u Q I rx ry h z)
def gI (C : Int → Int → Prop) (g : Int → Int → AV) : AV → AV → Sto → Res AV := fun x y s => match x, y with | .int i, .int j => if C i j then .ok (g i j) s else .stuck | _, _ => .stuck
def gI0 (g : Int → Int → AV) : AV → AV → Sto → Res AV := fun x y s => match x, y with | .int i, .int j => .ok (g i j) s | _, _ => .stuck
@[simp] theorem gI0_int {g : Int → Int → AV} {i j : Int} {s : Sto} : gI0 g (.int i) (.int j) s = .ok (g i j) s := rfl
theorem NE2.i {C : Int → Int → Prop} {g : Int → Int → AV} : NE2 (gI C g) := fun x y s c ns vs s' h => by 
  unfold gI at h
  repeat' split at h
  all_goals first | cases h | (unfold newL at h; cases h)
theorem NE2.i0 {g : Int → Int → AV} : NE2 (gI0 g) := fun x y s c ns vs s' h => by 
  unfold gI0 at h
  repeat' split at h
  all_goals first | cases h | (unfold newL at h; cases h)
theorem DR.i {W : Wl} {C : Int → Int → Prop} {g : Int → Int → AV} {gc : Int → Int → V} (r : ∀ w i j, Rel W w (g i j) (gc i j)) : DR W (rI C gc) (gI C g) := fun w s x y v u Q S rx ry h => by
  cases rx with
  | int i =>
    cases ry with
    | int j =>
      have h : (if C i j then .ok (g i j) s else .stuck : Res AV).Post _ _ := h
      split at h
      · rename_i hc
        exact ⟨i, j, rfl, rfl, hc, h w _ (.refl w) S (r w i j)⟩
      · exact h.elim
    | _ => exact h.elim
  | _ => exact h.elim
theorem DR.i0 {W : Wl} {g : Int → Int → AV} {gc : Int → Int → V} (r : ∀ w i j, Rel W w (g i j) (gc i j)) : DR W (rI0 gc) (gI0 g) := fun w s x y v u Q S rx ry h => by
  cases rx with
  | int i =>
    cases ry with
    | int j => exact ⟨i, j, rfl, rfl, h w _ (.refl w) S (r w i j)⟩
    | _ => exact h.elim
  | _ => exact h.elim
def gMinus := gI0 fun i j => .int (i - j)
def gMod := gI (fun _ j => 0 < j) fun i j => .int (i % j)
def gFdiv := gI CDivW fun i j => .int (i / j)
def gPow := gI CPow fun i j => .int (i ^ j.toNat)
def gXor := gI0 fun i j => .int (Builtin.bitXor i j)
def gOr := gI0 fun i j => .int (Builtin.bitOr i j)
def gAnd := gI0 fun i j => .int (Builtin.bitAnd i j)
def gShl := gI CShl fun i j => .int (i * 2 ^ j.toNat)
def gShr := gI (fun _ j => 0 ≤ j) fun i j => .int (i / 2 ^ j.toNat)
def gLt := gI0 fun i j => .bl (decide (i < j))
def gLe := gI0 fun i j => .bl (decide (i ≤ j))
def gGt := gI0 fun i j => .bl (decide (j < i))
def gGe := gI0 fun i j => .bl (decide (j ≤ i))
section
variable {i j : Int} {s : Sto}
@[simp] theorem gMinus_int : gMinus (.int i) (.int j) s = .ok (.int (i - j)) s := rfl
theorem gMod_int (h : 0 < j) : gMod (.int i) (.int j) s = .ok (.int (i % j)) s := if_pos h
theorem gFdiv_int (h : CDivW i j) : gFdiv (.int i) (.int j) s = .ok (.int (i / j)) s := if_pos h
theorem gPow_int (h : CPow i j) : gPow (.int i) (.int j) s = .ok (.int (i ^ j.toNat)) s := if_pos h
@[simp] theorem gXor_int : gXor (.int i) (.int j) s = .ok (.int (Builtin.bitXor i j)) s := rfl
@[simp] theorem gOr_int : gOr (.int i) (.int j) s = .ok (.int (Builtin.bitOr i j)) s := rfl
@[simp] theorem gAnd_int : gAnd (.int i) (.int j) s = .ok (.int (Builtin.bitAnd i j)) s := rfl
theorem gShl_int (h : CShl i j) : gShl (.int i) (.int j) s = .ok (.int (i * 2 ^ j.toNat)) s := if_pos h
theorem gShr_int (h : 0 ≤ j) : gShr (.int i) (.int j) s = .ok (.int (i / 2 ^ j.toNat)) s := if_pos h
@[simp] theorem gLt_int : gLt (.int i) (.int j) s = .ok (.bl (decide (i < j))) s := rfl
@[simp] theorem gLe_int : gLe (.int i) (.int j) s = .ok (.bl (decide (i ≤ j))) s := rfl
@[simp] theorem gGt_int : gGt (.int i) (.int j) s = .ok (.bl (decide (j < i))) s := rfl
@[simp] theorem gGe_int : gGe (.int i) (.int j) s = .ok (.bl (decide (j ≤ i))) s := rfl
end
def gNeg : AV → Sto → Res AV := fun x s => match x with | .int i => .ok (.int (-i)) s | _ => .stuck
@[simp] theorem gNeg_int {i : Int} {s : Sto} : gNeg (.int i) s = .ok (.int (-i)) s := rfl
def rAddU (K : PySem.W.Frag) : R2 := fun x y H Q => rI0 (fun i j => V.int (i + j)) x y H Q ∨ (∃ i j, x = .str i ∧ y = .str j ∧ i.length + j.length ≤ sizeLine ∧ Q (.str (i ++ j)) H) ∨ rCatA K x y H Q ∨ rCat x y H Q
theorem op_addU {X : Cx} : OpR X (binaryOp .Add) (rAddU X.K) := OpR.or op_add (OpR.or op_add_str (OpR.or op_catA op_cat))
def gAdd : AV → AV → Sto → Res AV := fun x y s => match x, y with
  | .int i, .int j => .ok (.int (i + j)) s
  | .str a, .str b => if a.length + b.length ≤ sizeLine then .ok (.str (a ++ b)) s else .stuck
  | .tup a, .tup b => if a.length + b.length ≤ sizeLine then .ok (.tup (a ++ b)) s else .stuck
  | .obj i, .obj j => match s.c i, s.c j with | .lst a, .lst b => if a.length + b.length ≤ sizeLine then newL (a ++ b) s else .stuck | _, _ => .stuck
  | _, _ => .stuck
@[simp] theorem gAdd_int {i j : Int} {s : Sto} : gAdd (.int i) (.int j) s = .ok (.int (i + j)) s := rfl
theorem gAdd_tup {a b : List AV} {s : Sto} (h : a.length + b.length ≤ sizeLine) : gAdd (.tup a) (.tup b) s = .ok (.tup (a ++ b)) s := if_pos h
theorem gAdd_lst {i j : Nat} {a b : List AV} {s : Sto} (e1 : s.c i = .lst a) (e2 : s.c j = .lst b) (h : a.length + b.length ≤ sizeLine) : gAdd (.obj i) (.obj j) s = newL (a ++ b) s := by
  unfold gAdd; simp only [e1, e2]; exact if_pos h
theorem NE2.add : NE2 gAdd := fun x y s c ns vs s' h => by 
  unfold gAdd at h
  repeat' split at h
  all_goals first | cases h | (unfold newL at h; cases h)
theorem DR.add {W : Wl} : DR W (rAddU W.K) gAdd := fun w s x y v u Q S rx ry h => by
  unfold gAdd at h
  split at h
  · cases rx; cases ry
    exact .inl ⟨_, _, rfl, rfl, h w _ (.refl w) S (.int _)⟩
  · split at h
    · rename_i hl
      cases rx; cases ry
      exact .inr (.inl ⟨_, _, rfl, rfl, hl, h w _ (.refl w) S (.str _)⟩)
    · exact h.elim
  · split at h
    · rename_i hl
      cases rx with
      | @tup a xs vs h1 r1 =>
        cases ry with
        | @tup b ys us h2 r2 =>
          have e1 := r1.length
          have e2 := r2.length
          refine .inr (.inr (.inl ⟨a, b, vs, us, rfl, rfl, h1, h2, by rw [← e1, ← e2]; exact hl, fun z => ?_, fun _ z => ?_, fun _ _ => newT S (r1.append r2) h⟩))
          · subst z
            cases r1
            exact h w _ (.refl w) S (.tup h2 r2)
          · subst z
            cases r2
            refine h w _ (.refl w) S ?_
            rw [List.append_nil]
            exact .tup h1 r1
    · exact h.elim
  · split at h
    · rename_i i j a b e1 e2
      split at h
      · rename_i hl
        obtain ⟨vs, i1, i2, i3, i4⟩ := lstO_at S rx e1
        obtain ⟨us, j1, j2, j3, j4⟩ := lstO_at S ry e2
        exact .inr (.inr (.inr ⟨_, _, vs, us, i2, j2, i3, j3, by rw [← i4.length, ← j4.length]; exact hl, newL_ok S (i4.append j4) h⟩))
      · exact h.elim
    · exact h.elim
  · exact h.elim
def rMulU : R2 := fun x y H Q => rI CMulX (fun i j => V.int (i * j)) x y H Q ∨ rRep x y H Q ∨ Gx.rMulS x y H Q
theorem op_mulU {X : Cx} : OpR X (binaryOp .Mult) rMulU := OpR.or op_mulX (OpR.or op_rep Gx.op_mulS)
def gMul : AV → AV → Sto → Res AV := fun x y s => match x, y with
  | .int i, .int j => if CMulX i j then .ok (.int (i * j)) s else .stuck
  | .str a, .int k => if PySem.MulOk a k then .ok (.str (Txt.mul a k)) s else .stuck
  | .obj i, .int k => match s.c i with | .lst a => if -(2 ^ 63) ≤ k ∧ k < 2 ^ 63 ∧ a.length * k.toNat ≤ sizeLine then newL (List.replicate k.toNat a).flatten s else .stuck | _ => .stuck
  | _, _ => .stuck
theorem gMul_int {i j : Int} {s : Sto} (h : CMulX i j) : gMul (.int i) (.int j) s = .ok (.int (i * j)) s := if_pos h
theorem NE2.mul : NE2 gMul := fun x y s c ns vs s' h => by 
  unfold gMul at h
  repeat' split at h
  all_goals first | cases h | (unfold newL at h; cases h)
theorem RelL.rep {W : Wl} {w : Wd} {xs : List AV} {vs : List V} (r : RelL W w xs vs) : ∀ k : Nat, RelL W w (List.replicate k xs).flatten (List.replicate k vs).flatten
  | 0 => .nil
  | k + 1 => by
    rw [List.replicate_succ, List.replicate_succ, List.flatten_cons, List.flatten_cons]
    exact r.append (RelL.rep r k)
theorem DR.mul {W : Wl} : DR W rMulU gMul := fun w s x y v u Q S rx ry h => by
  unfold gMul at h
  split at h
  · split at h
    · rename_i hl
      cases rx; cases ry
      exact .inl ⟨_, _, rfl, rfl, hl, h w _ (.refl w) S (.int _)⟩
    · exact h.elim
  · split at h
    · rename_i hl
      cases rx; cases ry
      exact .inr (.inr ⟨_, _, rfl, rfl, hl, h w _ (.refl w) S (.str _)⟩)
    · exact h.elim
  · split at h
    · rename_i i k a e
      split at h
      · rename_i hl
        obtain ⟨vs, i1, i2, i3, i4⟩ := lstO_at S rx e
        cases ry
        exact .inr (.inl ⟨_, _, vs, i2, rfl, i3, hl.1, hl.2.1, by rw [← i4.length]; exact hl.2.2, newL_ok S (i4.rep _) h⟩)
      · exact h.elim
    · exact h.elim
  · exact h.elim
def isNon : AV → Bool
  | .non => true
  | _ => false
theorem isNon_rel {W : Wl} {w : Wd} {x : AV} {v : V} (r : Rel W w x v) : isNon x = decide (v = .non) := by
  cases r <;> simp [isNon]
def gIsN : AV → AV → Sto → Res AV := fun x y s => match y with | .non => .ok (.bl (isNon x)) s | _ => .stuck
def gNotN : AV → AV → Sto → Res AV := fun x y s => match y with | .non => .ok (.bl (!isNon x)) s | _ => .stuck
@[simp] theorem gIsN_non {x : AV} {s : Sto} : gIsN x .non s = .ok (.bl (isNon x)) s := rfl
@[simp] theorem gNotN_non {x : AV} {s : Sto} : gNotN x .non s = .ok (.bl (!isNon x)) s := rfl
theorem NE2.isN : NE2 gIsN := fun x y s c ns vs s' h => by 
  unfold gIsN at h
  repeat' split at h
  all_goals first | cases h | (unfold newL at h; cases h)
theorem DR.isN {W : Wl} : DR W (fun x y H Q => y = .non ∧ Q (.bl (decide (x = .non))) H) gIsN := fun w s x y v u Q S rx ry h => by
  cases ry with
  | non => exact ⟨rfl, h w _ (.refl w) S (by rw [isNon_rel rx]; exact .bl _)⟩
  | _ => exact h.elim
def gIsB : AV → AV → Sto → Res AV := fun x y s => match x, y with | .bl a, .bl b => .ok (.bl (a == b)) s | _, _ => .stuck
def gNotB : AV → AV → Sto → Res AV := fun x y s => match x, y with | .bl a, .bl b => .ok (.bl (!(a == b))) s | _, _ => .stuck
@[simp] theorem gIsB_bl {a b : Bool} {s : Sto} : gIsB (.bl a) (.bl b) s = .ok (.bl (a == b)) s := rfl
@[simp] theorem gNotB_bl {a b : Bool} {s : Sto} : gNotB (.bl a) (.bl b) s = .ok (.bl (!(a == b))) s := rfl
theorem beq_dec (a b : Bool) : (a == b) = decide (a = b) := by cases a <;> cases b <;> rfl
def optL (f : AV → Option PyData) : List AV → Option (List PyData)
  | [] => some []
  | x :: xs => match f x, optL f xs with | some d, some ds => some (d :: ds) | _, _ => none
def dat : Nat → Sto → AV → Option PyData
  | 0, _, _ => none
  | n + 1, s, x => match x with
    | .non => some .none
    | .bl b => some (.bool b)
    | .int i => some (.int i)
    | .str z => some (.str z)
    | .tup xs => (optL (dat n s) xs).map .tuple
    | .scr xs => (optL (dat n s) xs).map .list
    | .obj i => match s.c i with | .lst xs => (optL (dat n s) xs).map .list | _ => none
    | _ => none
section
variable {W : Wl} {w : Wd} {s : Sto}
theorem optL_dp {n : Nat} (ih : ∀ (x : AV) (v : V) (d : PyData), Rel W w x v → dat n s x = some d → Dp W.K w.H v d) : ∀ {xs : List AV} {vs : List V} {ds : List PyData}, RelL W w xs vs → optL (dat n s) xs = some ds → DpAll W.K w.H vs ds
  | _, _, _, .nil, e => by
    cases e
    exact .nil
  | _, _, _, .cons h r, e => by
    unfold optL at e
    split at e
    · rename_i d ds e1 e2
      cases e
      exact .cons (ih _ _ _ h e1) (optL_dp ih r e2)
    · cases e
theorem dat_dp (S : Sim W w s) : ∀ (n : Nat) (x : AV) (v : V) (d : PyData), Rel W w x v → dat n s x = some d → Dp W.K w.H v d
  | 0, _, _, _, _, e => by cases e
  | n + 1, x, v, d, r, e => by
    unfold dat at e
    cases r with
    | non => cases e; exact .non
    | bl b => cases e; exact .bl b
    | int i => cases e; exact .int i
    | str z => cases e; exact .str z
    | ty n => cases e
    | cls c => cases e
    | raw a => cases e
    | @obj i hi =>
      simp only at e
      split at e
      · rename_i xs e1
        obtain ⟨ds, e2, rfl⟩ := Option.map_eq_some_iff.mp e
        obtain ⟨vs, _, h2, h3, h4⟩ := lstO_at S (.obj hi) e1
        exact .lst (.inl (.inl h3)) (optL_dp (dat_dp S n) h4 e2)
      · cases e
    | tup h r =>
      obtain ⟨ds, e2, rfl⟩ := Option.map_eq_some_iff.mp e
      exact .tup h (optL_dp (dat_dp S n) r e2)
    | scr h r =>
      obtain ⟨ds, e2, rfl⟩ := Option.map_eq_some_iff.mp e
      exact .lst h.sql (optL_dp (dat_dp S n) r e2)
    | exn => cases e
end
def scalA : AV → AV → Bool
  | .non, .non => true | .non, .int _ => true | .int _, .non => true | .non, .bl _ => true | .bl _, .non => true | .non, .str _ => true | .str _, .non => true
  | .int _, .int _ => true | .bl _, .bl _ => true | .str _, .str _ => true
  | .int _, .str _ => true | .str _, .int _ => true | .bl _, .str _ => true | .str _, .bl _ => true
  | _, _ => false
def eqA : AV → AV → Bool
  | .non, .non => true
  | .bl a, .bl b => a == b
  | .bl a, .int b => (if a then 1 else 0) == b
  | .int a, .bl b => a == (if b then 1 else 0)
  | .int a, .int b => a == b
  | .str a, .str b => a == b
  | _, _ => false
theorem scalA_rel {W : Wl} {w : Wd} {x y : AV} {v u : V} (rx : Rel W w x v) (ry : Rel W w y u) (h : scalA x y = true) : scal v u = true ∧ eqA x y = decide (v = u) := by
  cases rx <;> cases ry <;> first | (exact absurd h (by decide)) | (cases h; done) | (refine ⟨rfl, ?_⟩; simp [eqA, beq_dec]; try rfl)
def rEqU (K : PySem.W.Frag) : R2 := fun x y H Q => rEq x y H Q ∨ Sm.rEqS K x y H Q
def rNeU (K : PySem.W.Frag) : R2 := fun x y H Q => rNe x y H Q ∨ Sm.rNeS K x y H Q
theorem op_eqU {X : Cx} (hu : X.A.units + 64 < cLine) : OpR X (compareOp .Eq) (rEqU X.K) := OpR.or op_eq (Sm.op_eqS hu)
theorem op_neU {X : Cx} (hu : X.A.units + 64 < cLine) : OpR X (compareOp .NotEq) (rNeU X.K) := OpR.or op_ne (Sm.op_neS hu)
/-- things that are the very same -/
def smA : Nat → AV → Bool
  | _, .non => true
  | _, .bl _ => true
  | _, .int _ => true
  | _, .str _ => true
  | _, .obj _ => true
  | n + 1, .tup xs => xs.all (smA n)
  | _, _ => false
def isTup : AV → Bool
  | .tup _ => true
  | _ => false
section
variable {W : Wl} {w : Wd}
theorem sm_rel : ∀ (n : Nat) (x : AV) (v u : V), Rel W w x v → Rel W w x u → smA n x = true → Sm.Sm W.K w.H n v u := by
  intro n
  induction n with
  | zero =>
    intro x v u r1 r2 h
    cases r1 <;> cases r2 <;> first | exact .non | exact .bl _ | exact .int _ | exact .str _ | exact .ref _ | (cases h; done)
  | succ n ih =>
    intro x v u r1 r2 h
    cases r1 with
    | @tup a xs vs h1 q1 =>
      cases r2 with
      | @tup b _ us h2 q2 =>
        have h : xs.all (smA n) = true := h
        refine .tup h1 h2 (by rw [← q1.length, ← q2.length]) fun i x y hx hy => ?_
        obtain ⟨z, z1, z2⟩ := q1.getv i x hx
        obtain ⟨z', z3, z4⟩ := q2.getv i y hy
        rw [z1] at z3
        cases z3
        exact ih z x y z2 z4 (List.all_eq_true.mp h z (List.mem_of_getElem? z1))
    | _ => cases r2 <;> first | exact .non | exact .bl _ | exact .int _ | exact .str _ | exact .ref _ | (cases h; done)
theorem top_rel {x : AV} {v u : V} (r1 : Rel W w x v) (r2 : Rel W w x u) (h : smA 20 x = true) (ht : isTup x = true) : Sm.Top W.K w.H v u := by
  cases r1 with
  | @tup a xs vs h1 q1 =>
    cases r2 with
    | @tup b _ us h2 q2 =>
      have h : xs.all (smA 19) = true := h
      refine .tup h1 h2 (by rw [← q1.length, ← q2.length]) fun i x y hx hy => ?_
      obtain ⟨z, z1, z2⟩ := q1.getv i x hx
      obtain ⟨z', z3, z4⟩ := q2.getv i y hy
      rw [z1] at z3
      cases z3
      exact Sm.Sm.up (sm_rel 19 z x y z2 z4 (List.all_eq_true.mp h z (List.mem_of_getElem? z1)))
  | _ => cases ht
end
def eqB (x y : AV) (s : Sto) : Option Bool := if scalA x y = true then some (eqA x y) else match dat 12 s x, dat 12 s y with | some d, some e => if SeqAt.shaped d = true ∧ SeqAt.shaped e = true then some (PyData.eqv d e) else none | _, _ => if x = y ∧ smA 20 x = true ∧ isTup x = true then some true else none
def gEq : AV → AV → Sto → Res AV := fun x y s => match eqB x y s with | some b => .ok (.bl b) s | none => .stuck
def gNe : AV → AV → Sto → Res AV := fun x y s => match eqB x y s with | some b => .ok (.bl (!b)) s | none => .stuck
theorem gEq_b {x y : AV} {s : Sto} {b : Bool} (h : eqB x y s = some b) : gEq x y s = .ok (.bl b) s := by unfold gEq; simp only [h]
theorem gNe_b {x y : AV} {s : Sto} {b : Bool} (h : eqB x y s = some b) : gNe x y s = .ok (.bl (!b)) s := by unfold gNe; simp only [h]
theorem eqB_dat {x y : AV} {s : Sto} {d e : PyData} (h0 : scalA x y = false) (h1 : dat 12 s x = some d) (h2 : dat 12 s y = some e) (c1 : SeqAt.shaped d = true) (c2 : SeqAt.shaped e = true) : eqB x y s = some (PyData.eqv d e) := by
  unfold eqB; simp only [h0, h1, h2, c1, c2]; rfl
@[simp] theorem eqB_int {i j : Int} {s : Sto} : eqB (.int i) (.int j) s = some (decide (i = j)) := rfl
@[simp] theorem eqB_str {i j : Str} {s : Sto} : eqB (.str i) (.str j) s = some (decide (i = j)) := rfl
@[simp] theorem eqB_bl {i j : Bool} {s : Sto} : eqB (.bl i) (.bl j) s = some (decide (i = j)) := by
  rw [← beq_dec]; rfl
@[simp] theorem gEq_int {i j : Int} {s : Sto} : gEq (.int i) (.int j) s = .ok (.bl (decide (i = j))) s := gEq_b eqB_int
@[simp] theorem gNe_int {i j : Int} {s : Sto} : gNe (.int i) (.int j) s = .ok (.bl (!decide (i = j))) s := gNe_b eqB_int
@[simp] theorem gEq_str {i j : Str} {s : Sto} : gEq (.str i) (.str j) s = .ok (.bl (decide (i = j))) s := gEq_b eqB_str
@[simp] theorem gNe_str {i j : Str} {s : Sto} : gNe (.str i) (.str j) s = .ok (.bl (!decide (i = j))) s := gNe_b eqB_str
@[simp] theorem gEq_bl {i j : Bool} {s : Sto} : gEq (.bl i) (.bl j) s = .ok (.bl (decide (i = j))) s := gEq_b eqB_bl
@[simp] theorem gNe_bl {i j : Bool} {s : Sto} : gNe (.bl i) (.bl j) s = .ok (.bl (!decide (i = j))) s := gNe_b eqB_bl
theorem NE2.eq : NE2 gEq := fun x y s c ns vs s' h => by 
  unfold gEq at h
  repeat' split at h
  all_goals first | cases h | (unfold newL at h; cases h)
theorem NE2.ne : NE2 gNe := fun x y s c ns vs s' h => by 
  unfold gNe at h
  repeat' split at h
  all_goals first | cases h | (unfold newL at h; cases h)
theorem DR.eq {W : Wl} : DR W (rEqU W.K) gEq := fun w s x y v u Q S rx ry h => by
  unfold gEq at h
  split at h
  · rename_i b e
    unfold eqB at e
    split at e
    · rename_i hs
      obtain ⟨h1, h2⟩ := scalA_rel rx ry hs
      cases e
      refine .inl ⟨h1, ?_⟩
      rw [← h2]
      exact h w _ (.refl w) S (.bl _)
    · split at e
      · rename_i d e' h1 h2
        split at e
        · rename_i hc
          cases e
          exact .inr (.inl ⟨d, e', dat_dp S _ _ _ _ rx h1, dat_dp S _ _ _ _ ry h2, hc.1, hc.2, h w _ (.refl w) S (.bl _)⟩)
        · cases e
      · split at e
        · rename_i hc
          cases e
          obtain ⟨rfl, h1, h2⟩ := hc
          exact .inr (.inr ⟨top_rel rx ry h1 h2, h w _ (.refl w) S (.bl _)⟩)
        · cases e
  · exact h.elim
theorem DR.ne {W : Wl} : DR W (rNeU W.K) gNe := fun w s x y v u Q S rx ry h => by
  unfold gNe at h
  split at h
  · rename_i b e
    unfold eqB at e
    split at e
    · rename_i hs
      obtain ⟨h1, h2⟩ := scalA_rel rx ry hs
      cases e
      refine .inl ⟨h1, ?_⟩
      rw [← h2]
      exact h w _ (.refl w) S (.bl _)
    · split at e
      · rename_i d e' h1 h2
        split at e
        · rename_i hc
          cases e
          exact .inr (.inl ⟨d, e', dat_dp S _ _ _ _ rx h1, dat_dp S _ _ _ _ ry h2, hc.1, hc.2, h w _ (.refl w) S (.bl _)⟩)
        · cases e
      · split at e
        · rename_i hc
          cases e
          obtain ⟨rfl, h1, h2⟩ := hc
          exact .inr (.inr ⟨top_rel rx ry h1 h2, h w _ (.refl w) S (.bl _)⟩)
        · cases e
  · exact h.elim
def inA (x : AV) (xs : List AV) : Bool := xs.any fun y => eqA y x
def seqOf (s : Sto) (x : AV) : Option (List AV) := match x with | .tup xs => some xs | _ => lstOf s x
@[simp] theorem seqOf_tup {s : Sto} {xs : List AV} : seqOf s (.tup xs) = some xs := rfl
@[simp] theorem seqOf_scr {s : Sto} {xs : List AV} : seqOf s (.scr xs) = some xs := rfl
theorem seqOf_obj {s : Sto} {i : Nat} {xs : List AV} (e : s.c i = .lst xs) : seqOf s (.obj i) = some xs := by
  show lstOf s (.obj i) = _
  unfold lstOf; simp only [e]
theorem lstOf_obj {s : Sto} {i : Nat} {xs : List AV} (e : s.c i = .lst xs) : lstOf s (.obj i) = some xs := by
  unfold lstOf; simp only [e]
@[simp] theorem lstOf_scr {s : Sto} {xs : List AV} : lstOf s (.scr xs) = some xs := rfl
theorem seq_at {W : Wl} {w : Wd} {s : Sto} {x : AV} {v : V} {xs : List AV} (S : Sim W w s) (r : Rel W w x v) (h : seqOf s x = some xs) : ∃ a vs, v = .ref a ∧ (SqL W.K w.H a vs ∨ SqT W.K w.H a vs) ∧ RelL W w xs vs := by
  cases r with
  | @tup a xs' vs h1 r1 =>
    cases h
    exact ⟨a, vs, rfl, .inr h1, r1⟩
  | @obj i hi =>
    obtain ⟨a, vs, h1, h2, h3⟩ := lst_at (x := .obj i) S (.obj hi) h
    exact ⟨a, vs, h1, .inl h2, h3⟩
  | @scr a xs' vs h1 r1 =>
    cases h
    exact ⟨a, vs, rfl, .inl h1.sql, r1⟩
  | _ => cases h
def rIxU (K : PySem.W.Frag) : R2 := fun x y H Q => rIxL K x y H Q ∨ rIxT K x y H Q ∨ rIxS x y H Q
theorem ix_U {X : Cx} : IxR X (rIxU X.K) := IxR.or ix_list (IxR.or ix_tup ix_str)
def gIx : AV → AV → Sto → Res AV := fun x y s => match y with
  | .int i => match x with
    | .str z => if z.length ≤ sizeLine then (match atI z.cps.toList i with | some c => .ok (.str ⟨#[c]⟩) s | none => .stuck) else .stuck
    | _ => match seqOf s x with | some xs => (match atI xs i with | some v => .ok v s | none => .stuck) | none => .stuck
  | _ => .stuck
theorem gIx_seq {x : AV} {i : Int} {xs : List AV} {v : AV} {s : Sto} (e : seqOf s x = some xs) (h : atI xs i = some v) : gIx x (.int i) s = .ok v s := by
  unfold gIx
  cases x with
  | str => cases e
  | _ => simp only [e, h]
theorem NE2.ix : NE2 gIx := fun x y s c ns vs s' h => by 
  unfold gIx at h
  repeat' split at h
  all_goals first | cases h | (unfold newL at h; cases h)
theorem atI_rel {W : Wl} {w : Wd} {xs : List AV} {vs : List V} {i : Int} {x : AV} (r : RelL W w xs vs) (e : atI xs i = some x) : ∃ v, atI vs i = some v ∧ Rel W w x v := by
  unfold atI at e ⊢
  rw [← r.length]
  cases h : ixN xs.length i with
  | none => rw [h] at e; cases e
  | some j =>
    rw [h] at e
    exact r.get j x e
theorem DR.ix {W : Wl} : DR W (rIxU W.K) gIx := fun w s x y v u Q S rx ry h => by
  unfold gIx at h
  split at h
  · cases ry
    split at h
    · split at h
      · rename_i hl
        split at h
        · rename_i c e
          cases rx
          exact .inr (.inr ⟨_, _, c, rfl, rfl, hl, e, h w _ (.refl w) S (.str _)⟩)
        · exact h.elim
      · exact h.elim
    · split at h
      · rename_i xs e
        split at h
        · rename_i z e2
          obtain ⟨a, vs, h1, h2, h3⟩ := seq_at S rx e
          obtain ⟨zc, e3, rz⟩ := atI_rel h3 e2
          rcases h2 with h2 | h2
          · exact .inl ⟨a, vs, _, zc, h1, rfl, h2, e3, h w _ (.refl w) S rz⟩
          · exact .inr (.inl ⟨a, vs, _, zc, h1, rfl, h2, e3, h w _ (.refl w) S rz⟩)
        · exact h.elim
      · exact h.elim
  · exact h.elim
/-- a part of a slice -/
abbrev AO := ASt → Sto → Res (Option Int)
def aPart (fa : AE) : AO := fun σ s => (fa σ s).bind fun x s1 => match x with | .int i => .ok (some i) s1 | _ => .stuck
def aNoPart : AO := fun _ s => .ok none s
def OkO (w : Wd) (W : Wl) (Q : Option Int → Hp → Prop) (v : Option Int) (s : Sto) : Prop := ∀ w', Ext w w' → Sim W w' s → Q v w'.H
def DO (W : Wl) (E : L2.St → XK) (tl : TO) (f : AO) : Prop := ∀ (w : Wd) (s : Sto) (σ : ASt) (σc : L2.St) (Q : Option Int → Hp → Prop), Sim W w s → RSt W w σ σc → (f σ s).Post (OkO w W Q) (ErrP W w (E σc)) → tl σc w.H Q
section
variable {W : Wl} {E : L2.St → XK} {ta tb tc : TE} {fa fb fc : AE} {tl th : TO} {fl fh : AO}
theorem DO.no : DO W E tNoPart aNoPart := fun w s σ σc Q S R h => h w (.refl w) S
def cutA (xs : List AV) (lo hi : Option Int) : List AV := (xs.drop (HT.sIx xs.length 0 lo)).take (HT.sIx xs.length xs.length hi - HT.sIx xs.length 0 lo)
def gSl (x : AV) (lo hi : Option Int) (s : Sto) : Res AV := match x with
  | .tup xs => .ok (.tup (cutA xs lo hi)) s
  | _ => match lstOf s x with | some xs => newL (cutA xs lo hi) s | none => .stuck
@[simp] theorem gSl_tup {xs : List AV} {lo hi : Option Int} {s : Sto} : gSl (.tup xs) lo hi s = .ok (.tup (cutA xs lo hi)) s := rfl
@[simp] theorem gSl_scr {xs : List AV} {lo hi : Option Int} {s : Sto} : gSl (.scr xs) lo hi s = newL (cutA xs lo hi) s := rfl
def aSl (fa : AE) (fl fh : AO) : AE := fun σ s => (fa σ s).bind fun x s1 => (fl σ s1).bind fun l s2 => (fh σ s2).bind fun u s3 => gSl x l u s3
def aRev (fa : AE) : AE := fun σ s => (fa σ s).bind fun x s1 => match lstOf s1 x with | some xs => newL xs.reverse s1 | none => .stuck
end
def rLenU (K : PySem.W.Frag) : List V → Hp → VK → Prop := fun xs H Q => Rd.rLenQ K xs H Q ∨ Gx.rLenS xs H Q ∨ ∃ a kvs, xs = [V.ref a] ∧ H a = some (.dK kvs) ∧ Q (.int kvs.length) H
theorem call_lenU {X : Cx} : CallR X (.builtin "len") (rLenU X.K) := CallR.or Rd.call_lenQ (CallR.or Gx.call_lenS call_lenD)
def gLen : List AV → Sto → Res AV := fun xs s => match xs with
  | [.str z] => if z.length ≤ sizeLine then .ok (.int (z.length : Nat)) s else .stuck
  | [x] => match seqOf s x with | some ys => .ok (.int (ys.length : Nat)) s | none => (match x with | .obj i => (match s.c i with | .dic kvs => .ok (.int (kvs.length : Nat)) s | _ => .stuck) | _ => .stuck)
  | _ => .stuck
theorem gLen_seq {x : AV} {ys : List AV} {s : Sto} (e : seqOf s x = some ys) : gLen [x] s = .ok (.int (ys.length : Nat)) s := by
  unfold gLen
  cases x with
  | str => cases e
  | _ => simp only [e]
@[simp] theorem gLen_tup {ys : List AV} {s : Sto} : gLen [.tup ys] s = .ok (.int (ys.length : Nat)) s := rfl
@[simp] theorem gLen_scr {ys : List AV} {s : Sto} : gLen [.scr ys] s = .ok (.int (ys.length : Nat)) s := rfl
theorem NEL.len : NEL gLen := fun x s c ns vs s' h => by 
  unfold gLen at h
  repeat' split at h
  all_goals first | cases h | (unfold newL at h; cases h)
theorem DB.len {W : Wl} : DB W (rLenU W.K) gLen := fun w s x v Q S r h => by
  unfold gLen at h
  split at h
  · split at h
    · rename_i hl
      cases r with
      | cons r1 r2 =>
        cases r1; cases r2
        exact .inr (.inl ⟨_, rfl, hl, h w _ (.refl w) S (.int _)⟩)
    · exact h.elim
  · cases r with
    | cons r1 r2 =>
      cases r2
      split at h
      · rename_i ys e
        obtain ⟨a, vs, h1, h2, h3⟩ := seq_at S r1 e
        subst h1
        exact .inl ⟨a, vs, rfl, h2, by rw [← h3.length]; exact h w _ (.refl w) S (.int _)⟩
      · split at h
        · split at h
          · rename_i kvs e
            obtain ⟨o, h1, h2, h3, h4⟩ := cell_at S r1 e
            subst h2
            cases h4 with
            | dic r => exact .inr (.inr ⟨_, _, rfl, h3, by rw [← Paired.length r]; exact h w _ (.refl w) S (.int _)⟩)
          · exact h.elim
        · exact h.elim
  · exact h.elim
def gMax2 : List AV → Sto → Res AV := fun xs s => match xs with | [.int i, .int j] => .ok (.int (if j > i then j else i)) s | _ => .stuck
def gMin2 : List AV → Sto → Res AV := fun xs s => match xs with | [.int i, .int j] => .ok (.int (if j < i then j else i)) s | _ => .stuck
@[simp] theorem gMax2_int {i j : Int} {s : Sto} : gMax2 [.int i, .int j] s = .ok (.int (if j > i then j else i)) s := rfl
@[simp] theorem gMin2_int {i j : Int} {s : Sto} : gMin2 [.int i, .int j] s = .ok (.int (if j < i then j else i)) s := rfl
theorem NEL.max2 : NEL gMax2 := fun x s c ns vs s' h => by 
  unfold gMax2 at h
  repeat' split at h
  all_goals first | cases h | (unfold newL at h; cases h)
theorem NEL.min2 : NEL gMin2 := fun x s c ns vs s' h => by 
  unfold gMin2 at h
  repeat' split at h
  all_goals first | cases h | (unfold newL at h; cases h)
theorem DB.max2 {W : Wl} : DB W Rd.rMax2 gMax2 := fun w s x v Q S r h => by
  unfold gMax2 at h
  split at h
  · cases r with
    | cons r1 r2 => cases r2 with
      | cons r2 r3 =>
        cases r1; cases r2; cases r3
        exact ⟨_, _, rfl, h w _ (.refl w) S (.int _)⟩
  · exact h.elim
theorem DB.min2 {W : Wl} : DB W Rd.rMin2 gMin2 := fun w s x v Q S r h => by
  unfold gMin2 at h
  split at h
  · cases r with
    | cons r1 r2 => cases r2 with
      | cons r2 r3 =>
        cases r1; cases r2; cases r3
        exact ⟨_, _, rfl, h w _ (.refl w) S (.int _)⟩
  · exact h.elim
def intsOf : List AV → Option (List Int)
  | [] => some []
  | .int i :: r => (intsOf r).map (i :: ·)
  | _ :: _ => none
theorem ints_rel {W : Wl} {w : Wd} : ∀ {xs : List AV} {vs : List V} {ns : List Int}, RelL W w xs vs → intsOf xs = some ns → vs = ns.map V.int
  | _, _, _, .nil, e => by cases e; rfl
  | .int i :: _, _, _, .cons h r, e => by
    cases h
    unfold intsOf at e
    obtain ⟨ms, e1, rfl⟩ := Option.map_eq_some_iff.mp e
    rw [List.map_cons, ints_rel r e1]
theorem intsOf_map : ∀ ns : List Int, intsOf (ns.map AV.int) = some ns
  | [] => rfl
  | n :: ns => by rw [List.map_cons, intsOf, intsOf_map ns]; rfl
def boolsOf : List AV → Option (List Bool)
  | [] => some []
  | .bl i :: r => (boolsOf r).map (i :: ·)
  | _ :: _ => none
theorem bools_rel {W : Wl} {w : Wd} : ∀ {xs : List AV} {vs : List V} {ns : List Bool}, RelL W w xs vs → boolsOf xs = some ns → vs = ns.map V.bl
  | _, _, _, .nil, e => by cases e; rfl
  | .bl i :: _, _, _, .cons h r, e => by
    cases h
    unfold boolsOf at e
    obtain ⟨ms, e1, rfl⟩ := Option.map_eq_some_iff.mp e
    rw [List.map_cons, bools_rel r e1]
theorem boolsOf_map : ∀ ns : List Bool, boolsOf (ns.map AV.bl) = some ns
  | [] => rfl
  | n :: ns => by rw [List.map_cons, boolsOf, boolsOf_map ns]; rfl
def gSum : List AV → Sto → Res AV := fun xs s => match xs with | [x] => (match lstOf s x with | some ys => (match intsOf ys with | some ns => .ok (.int ns.sum) s | none => .stuck) | none => .stuck) | _ => .stuck
def gAll : List AV → Sto → Res AV := fun xs s => match xs with | [x] => (match lstOf s x with | some ys => (match boolsOf ys with | some ns => .ok (.bl (ns.all id)) s | none => .stuck) | none => .stuck) | _ => .stuck
theorem gAll_lst {x : AV} {ns : List Bool} {s : Sto} (e : lstOf s x = some (ns.map .bl)) : gAll [x] s = .ok (.bl (ns.all id)) s := by
  unfold gAll; simp only [e, boolsOf_map]
theorem NEL.sum : NEL gSum := fun x s c ns vs s' h => by 
  unfold gSum at h
  repeat' split at h
  all_goals first | cases h | (unfold newL at h; cases h)
theorem NEL.all : NEL gAll := fun x s c ns vs s' h => by 
  unfold gAll at h
  repeat' split at h
  all_goals first | cases h | (unfold newL at h; cases h)
theorem DB.sum {W : Wl} : DB W (rSum W.K) gSum := fun w s x v Q S r h => by
  unfold gSum at h
  split at h
  · cases r with
    | cons r1 r2 =>
      cases r2
      split at h
      · rename_i ys e
        split at h
        · rename_i ns e2
          obtain ⟨a, vs, h1, h2, h3⟩ := lst_at S r1 e
          subst h1
          refine ⟨a, ns, rfl, ?_, h w _ (.refl w) S (.int _)⟩
          rw [← ints_rel h3 e2]; exact h2
        · exact h.elim
      · exact h.elim
  · exact h.elim
theorem DB.all {W : Wl} : DB W (rAll W.K) gAll := fun w s x v Q S r h => by
  unfold gAll at h
  split at h
  · cases r with
    | cons r1 r2 =>
      cases r2
      split at h
      · rename_i ys e
        split at h
        · rename_i ns e2
          obtain ⟨a, vs, h1, h2, h3⟩ := lst_at S r1 e
          subst h1
          refine ⟨a, ns, rfl, ?_, h w _ (.refl w) S (.bl _)⟩
          rw [← bools_rel h3 e2]; exact h2
        · exact h.elim
      · exact h.elim
  · exact h.elim
def gTuple : List AV → Sto → Res AV := fun xs s => match xs with | [x] => (match seqOf s x with | some ys => .ok (.tup ys) s | none => .stuck) | _ => .stuck
def gList : List AV → Sto → Res AV := fun xs s => match xs with | [x] => (match seqOf s x with | some ys => newL ys s | none => .stuck) | _ => .stuck
theorem gTuple_seq {x : AV} {ys : List AV} {s : Sto} (e : seqOf s x = some ys) : gTuple [x] s = .ok (.tup ys) s := by
  unfold gTuple; simp only [e]
theorem gList_seq {x : AV} {ys : List AV} {s : Sto} (e : seqOf s x = some ys) : gList [x] s = newL ys s := by
  unfold gList; simp only [e]
theorem NEL.tuple : NEL gTuple := fun x s c ns vs s' h => by 
  unfold gTuple at h
  repeat' split at h
  all_goals first | cases h | (unfold newL at h; cases h)
theorem NEL.list : NEL gList := fun x s c ns vs s' h => by 
  unfold gList at h
  repeat' split at h
  all_goals first | cases h | (unfold newL at h; cases h)
theorem DB.tuple {W : Wl} : DB W (Gx.rTupOf W.K) gTuple := fun w s x v Q S r h => by
  unfold gTuple at h
  split at h
  · cases r with
    | cons r1 r2 =>
      cases r2
      split at h
      · rename_i ys e
        obtain ⟨a, vs, h1, h2, h3⟩ := seq_at S r1 e
        subst h1
        rcases h2 with h2 | h2
        · exact ⟨a, vs, rfl, .inl ⟨h2, newT S h3 h⟩⟩
        · exact ⟨a, vs, rfl, .inr ⟨h2, h w _ (.refl w) S (.tup h2 h3)⟩⟩
      · exact h.elim
  · exact h.elim
theorem DB.list {W : Wl} : DB W (Gx.rLstOf W.K) gList := fun w s x v Q S r h => by
  unfold gList at h
  split at h
  · cases r with
    | cons r1 r2 =>
      cases r2
      split at h
      · rename_i ys e
        obtain ⟨a, vs, h1, h2, h3⟩ := seq_at S r1 e
        subst h1
        exact ⟨a, vs, rfl, h2, newL_ok S h3 h⟩
      · exact h.elim
  · exact h.elim
def gOrd : List AV → Sto → Res AV := fun xs s => match xs with | [.str z] => if z.length = 1 then .ok (.int (z.cps.getD 0 0 : Nat)) s else .stuck | _ => .stuck
theorem NEL.ord : NEL gOrd := fun x s c ns vs s' h => by 
  unfold gOrd at h
  repeat' split at h
  all_goals first | cases h | (unfold newL at h; cases h)
theorem DB.ord {W : Wl} : DB W Gx.rOrd gOrd := fun w s x v Q S r h => by
  unfold gOrd at h
  split at h
  · split at h
    · rename_i hl
      cases r with
      | cons r1 r2 =>
        cases r1; cases r2
        exact ⟨_, rfl, hl, h w _ (.refl w) S (.int _)⟩
    · exact h.elim
  · exact h.elim
end
end Ab
set_option Elab.async false
set_option linter.all false
set_option maxRecDepth 100000
set_option maxHeartbeats 1000000
namespace Gx
open PySem PySem.Spec PyProof.Rows L2
end Gx
set_option Elab.async false
set_option linter.all false
set_option maxRecDepth 100000
set_option maxHeartbeats 1000000
namespace Ab
open PySem PySem.Spec PyProof.Rows L2
open Classical
noncomputable section
/-- a fact of each of a list -/
inductive All {α : Type} (P : α → Prop) : List α → Prop
  | nil : All P []
  | cons {a : α} {l : List α} (h : P a) (r : All P l) : All P (a :: l)
theorem All.at {α : Type} {P : α → Prop} : ∀ {l : List α}, All P l → ∀ a ∈ l, P a
  | _, .nil, a, h => by cases h
  | _, .cons h r, a, m => by
    rcases List.mem_cons.mp m with rfl | m
    · exact h
    · exact All.at r a m
def lookA (f : Str) : List (Str × AV) → Option AV
  | [] => none
  | (g, v) :: r => if g = f then some v else lookA f r
def putA (f : Str) (v : AV) : List (Str × AV) → List (Str × AV)
  | [] => [(f, v)]
  | (g, x) :: r => if g = f then (g, v) :: r else (g, x) :: putA f v r
def insAt (s : Sto) : AV → Option (String × List (Str × AV))
  | .obj i => match s.c i with | .ins c fs => some (c, fs) | _ => none
  | _ => none
theorem ins_at {W : Wl} {w : Wd} {s : Sto} {x : AV} {v : V} {c : String} {fs : List (Str × AV)} (S : Sim W w s) (r : Rel W w x v) (h : insAt s x = some (c, fs)) :
    ∃ i dx gs, x = .obj i ∧ i < s.n ∧ v = .ref (w.m i) ∧ w.H (w.m i) = some (.ins (W.κ c) dx gs) ∧ c ∈ W.live ∧ RelF W w fs gs := by
  cases r with
  | @obj i hi =>
    unfold insAt at h
    simp only at h
    split at h
    · rename_i c' fs' e
      cases h
      obtain ⟨o, h1, h2, h3, h4⟩ := cell_at S (.obj hi) e
      cases h4 with
      | ins hc r => exact ⟨i, _, _, rfl, h1, h2, h3, hc, r⟩
    · cases h
  | _ => cases h
def gFld (cs : List String) (f : Str) (x : AV) (s : Sto) : Res AV := match insAt s x with | some (c, fs) => if c ∈ cs then (match lookA f fs with | some v => .ok v s | none => .stuck) else .stuck | none => .stuck
def aFld (cs : List String) (f : Str) (fa : AE) : AE := aUn (gFld cs f) fa
section
variable {W : Wl} {E : L2.St → XK} {ta tb : TE} {fa fb : AE} {tr : TA} {fr : AA}
/-- o.f = e -/
def setF (cs : List String) (f : Str) (x y : AV) (s : Sto) : Option Sto := match x with | .obj i => (match s.c i with | .ins c fs => if c ∈ cs ∧ fs.length < 1000 then some (s.set i (.ins c (putA f y fs))) else none | _ => none) | _ => none
def oNx (σ : ASt) : Option Sto → SRes
  | some s => .nx σ s
  | none => .stuck
@[simp] theorem oNx_some {σ : ASt} {s : Sto} : oNx σ (some s) = .nx σ s := rfl
def aSFld (cs : List String) (f : Str) (fo fe : AE) : AS := fun σ s => (fe σ s).st σ fun y s1 => (fo σ s1).st σ fun x s2 => oNx σ (setF cs f x y s2)
def noErr {α : Type} : Res α → Res α
  | .ok a s => .ok a s
  | _ => .stuck
@[simp] theorem noErr_ok {α : Type} {a : α} {s : Sto} : noErr (Res.ok a s) = .ok a s := rfl
def clsIs (s : Sto) (x : AV) (c : String) (m : Str) : Bool := match insAt s x with | some (d, fs) => (decide (d = c)) && (lookA m fs).isNone | none => false
def aMeth (c : String) (m : Str) (n : Nat) (F : List AV → Sto → Res AV) (dvs : List AV) (fa : AE) (fr : AA) : AE := fun σ s => (fa σ s).bind fun x s1 => if clsIs s1 x c m = true then (fr σ s1).bind fun xs s2 => if (x :: (xs ++ dvs)).length = n then F (x :: (xs ++ dvs)) s2 else .stuck else .stuck
def isI (s : Sto) (x : AV) (c : String) : Bool := match insAt s x with | some (d, _) => decide (d = c) | none => false
def aProp (c : String) (F : List AV → Sto → Res AV) (fa : AE) : AE := fun σ s => (fa σ s).bind fun x s1 => if isI s1 x c = true then noErr (F [x] s1) else .stuck
/-- C(..) -/
def aMake (c : String) (n : Nat) (F : List AV → Sto → Res AV) (dvs : List AV) (fr : AA) : AE := fun σ s => (fr σ s).bind fun xs s1 => if (AV.obj s1.n :: (xs ++ dvs)).length = n then (F (.obj s1.n :: (xs ++ dvs)) (s1.new (.ins c []))).bind fun v s2 => if isNon v = true then .ok (.obj s1.n) s2 else .stuck else .stuck
/-- cls(..), the class in a slot -/
def aMakeV (i : Nat) (c : String) (n : Nat) (F : List AV → Sto → Res AV) (fr : AA) : AE := fun σ s => match σ[i]? with | some (some (.cls d)) => if d = c then aMake c n F [] fr σ s else .stuck | _ => .stuck
def isCls (c : String) : AV → Bool
  | .cls d => decide (d = c)
  | _ => false
/-- C.m(..), m static -/
def aSMeth (c : String) (n : Nat) (F : List AV → Sto → Res AV) (fa : AE) (fr : AA) : AE := fun σ s => (fa σ s).bind fun x s1 => if isCls c x = true then (fr σ s1).bind fun xs s2 => if (xs ++ []).length = n then F (xs ++ []) s2 else .stuck else .stuck
/-- C.m(..), m a class method -/
def aCMeth (c : String) (n : Nat) (F : List AV → Sto → Res AV) (fa : AE) (fr : AA) : AE := fun σ s => (fa σ s).bind fun x s1 => if isCls c x = true then (fr σ s1).bind fun xs s2 => if (AV.cls c :: (xs ++ [])).length = n then F (.cls c :: (xs ++ [])) s2 else .stuck else .stuck
def gAppend (x : AV) (ys : List AV) (s : Sto) : Res AV := match x, ys with
  | .obj i, [y] => (match s.c i with | .lst xs => if xs.length < sizeLine then .ok .non (s.set i (.lst (xs ++ [y]))) else .stuck | _ => .stuck)
  | _, _ => .stuck
theorem gAppend_obj {i : Nat} {y : AV} {xs : List AV} {s : Sto} (e : s.c i = .lst xs) (h : xs.length < sizeLine) : gAppend (.obj i) [y] s = .ok .non (s.set i (.lst (xs ++ [y]))) := by
  unfold gAppend; simp only [e]; exact if_pos h
def isSeqL (s : Sto) (x : AV) : Bool := (lstOf s x).isSome
theorem isSeqL_obj {i : Nat} {xs : List AV} {s : Sto} (e : s.c i = .lst xs) : isSeqL s (.obj i) = true := by unfold isSeqL; simp only [lstOf_obj e]; rfl
def aBM (g : AV → List AV → Sto → Res AV) (fa : AE) (fr : AA) : AE := fun σ s => (fa σ s).bind fun x s1 => if isSeqL s1 x = true then (fr σ s1).bind fun ys s2 => g x ys s2 else .stuck
def NEM (g : AV → List AV → Sto → Res AV) : Prop := ∀ x ys s c ns vs s', g x ys s ≠ .err c ns vs s'
def DM (W : Wl) (r : V → List V → Hp → VK → Prop) (g : AV → List AV → Sto → Res AV) : Prop := ∀ (w : Wd) (s : Sto) (x : AV) (ys : List AV) (v : V) (us : List V) (Q : VK), Sim W w s → Rel W w x v → RelL W w ys us → (g x ys s).Post (OkP W w Q) (fun _ _ _ _ => False) → r v us w.H Q
/-- a method of a list -/
theorem DE.bm {r : V → List V → Hp → VK → Prop} {g : AV → List AV → Sto → Res AV} (hr : DM W r g) (hn : NEM g) (ha : DE W E ta fa) (hb : DA W E tr fr) : DE W E (tBM W.K "list" r ta tr) (aBM g fa fr) := fun w s σ σc Q S R h => by
  refine ha w s σ σc _ S R ((post_bind_ok h).mono (fun x s1 h1 w1 v e1 S1 r1 => ?_) fun _ _ _ _ z => z)
  split at h1
  · rename_i hl
    refine ⟨?_, hb w1 s1 σ σc _ S1 (R.mono e1) ((post_bind_ok h1).mono (fun ys s2 h2 w2 us e2 S2 r2 => ?_) fun _ _ _ _ z => z.mono e1)⟩
    · unfold isSeqL at hl
      obtain ⟨xs, e⟩ := Option.isSome_iff_exists.mp hl
      obtain ⟨a, vs, rfl, k2, k3⟩ := lst_at S1 r1 e
      exact .inl ⟨rfl, vs, k2⟩
    · refine hr w2 s2 x ys v us Q S2 (r1.mono e2) r2 ?_
      cases hh : g x ys s2 with
      | ok a s3 => rw [hh] at h2; exact OkP.mono (e1.trans e2) h2
      | err c ns vs s3 => exact absurd hh (hn _ _ _ _ _ _ _)
      | stuck => rw [hh] at h2; exact h2
  · exact (show False from h1).elim
theorem NEM.append : NEM gAppend := fun x y s c ns vs s' h => by 
  unfold gAppend at h
  repeat' split at h
  all_goals first | cases h | (unfold newL at h; cases h)
theorem DM.append : DM W rAppend gAppend := fun w s x ys v us Q S rx ry h => by
  unfold gAppend at h
  split at h
  · split at h
    · rename_i i y _ xs e
      split at h
      · rename_i hl
        obtain ⟨vs, i1, i2, i3, i4⟩ := lstO_at S rx e
        cases ry with
        | @cons _ u _ _ r1 r2 =>
          cases r2
          refine ⟨_, vs, u, i2, rfl, i3, by rw [← i4.length]; exact hl, ?_⟩
          exact wr_ok S i1 (.lst (i4.append (.cons r1 .nil))) fun w' e' S' => h w' .non e' S' .non
      · exact h.elim
    · exact h.elim
  · exact h.elim
/-- x[i] = v, a list -/
def setL (x i y : AV) (s : Sto) : Option Sto := match x, i with | .obj k, .int j => (match s.c k with | .lst xs => (match ixN xs.length j with | some n => some (s.set k (.lst (xs.set n y))) | none => none) | _ => none) | _, _ => none
theorem setL_obj {k : Nat} {j : Int} {n : Nat} {y : AV} {xs : List AV} {s : Sto} (e : s.c k = .lst xs) (h : ixN xs.length j = some n) : setL (.obj k) (.int j) y s = some (s.set k (.lst (xs.set n y))) := by
  unfold setL; simp only [e, h]
def toKey : AV → Option Key
  | .int i => some (.inl i)
  | .str z => some (.inr z)
  | _ => none
theorem key_rel {w : Wd} {x : AV} {v : V} {k : Key} (r : Rel W w x v) (h : toKey x = some k) : v = kV k := by
  cases r <;> cases h <;> rfl
def valA (kvs : List (Key × AV)) (k : Key) : Option AV := match kvs with
  | [] => none
  | (j, v) :: r => if j = k then some v else valA r k
def putKA (kvs : List (Key × AV)) (k : Key) (v : AV) : List (Key × AV) :=
  if (kvs.any fun kv => decide (kv.1 = k)) = true then kvs.map (fun kv => if kv.1 = k then (kv.1, v) else kv) else kvs ++ [(k, v)]
theorem val_rel {w : Wd} {k : Key} : ∀ {fs : List (Key × AV)} {gs : List (Key × V)}, RelK W w fs gs → ∀ v, valA fs k = some v → ∃ vc, valV gs k = some vc ∧ Rel W w v vc
  | _, _, .nil, v, h => by cases h
  | (j, x) :: r, (j', y) :: r', .cons h t, v, e => by
    obtain ⟨ej, hr⟩ := h
    cases (show j = j' from ej)
    have e : (if j = k then some x else valA r k) = some v := e
    by_cases hj : j = k
    · rw [if_pos hj] at e
      cases e
      exact ⟨y, valV_pos hj, hr⟩
    · rw [if_neg hj] at e
      obtain ⟨vc, h1, h2⟩ := val_rel t v e
      exact ⟨vc, by rw [valV_neg hj]; exact h1, h2⟩
theorem any_rel {w : Wd} {k : Key} : ∀ {fs : List (Key × AV)} {gs : List (Key × V)}, RelK W w fs gs → (fs.any fun kv => decide (kv.1 = k)) = (gs.any fun kv => decide (kv.1 = k))
  | _, _, .nil => rfl
  | (j, x) :: r, (j', y) :: r', .cons h t => by
    cases (show j = j' from h.1)
    rw [List.any_cons, List.any_cons, any_rel t]
theorem mapK_rel {w : Wd} {k : Key} {x : AV} {v : V} (hx : Rel W w x v) : ∀ {fs : List (Key × AV)} {gs : List (Key × V)}, RelK W w fs gs → RelK W w (fs.map fun kv => if kv.1 = k then (kv.1, x) else kv) (gs.map fun kv => if kv.1 = k then (kv.1, v) else kv)
  | _, _, .nil => .nil
  | (j, y) :: r, (j', u) :: r', .cons h t => by
    cases (show j = j' from h.1)
    rw [List.map_cons, List.map_cons]
    refine .cons ?_ (mapK_rel hx t)
    by_cases hj : j = k
    · simp only [if_pos hj]
      exact ⟨trivial, hx⟩
    · simp only [if_neg hj]
      exact ⟨trivial, h.2⟩
theorem RelK.append {w : Wd} : ∀ {fs hs : List (Key × AV)} {gs ks : List (Key × V)}, RelK W w fs gs → RelK W w hs ks → RelK W w (fs ++ hs) (gs ++ ks)
  | _, _, _, _, .nil, h => h
  | _, _, _, _, .cons h r, k => .cons h (RelK.append r k)
theorem putK_rel {w : Wd} {k : Key} {x : AV} {v : V} (hx : Rel W w x v) {fs : List (Key × AV)} {gs : List (Key × V)} (r : RelK W w fs gs) : RelK W w (putKA fs k x) (putK gs k v) := by
  unfold putKA putK
  rw [any_rel r]
  split
  · exact mapK_rel hx r
  · exact r.append (.cons ⟨rfl, hx⟩ .nil)
def gDGet (x y : AV) (s : Sto) : Res AV := match x, toKey y with | .obj i, some k => (match s.c i with | .dic kvs => (match valA kvs k with | some v => .ok v s | none => .stuck) | _ => .stuck) | _, _ => .stuck
theorem gDGet_obj {i : Nat} {y v : AV} {k : Key} {kvs : List (Key × AV)} {s : Sto} (e : s.c i = .dic kvs) (hk : toKey y = some k) (h : valA kvs k = some v) : gDGet (.obj i) y s = .ok v s := by
  unfold gDGet; simp only [hk, e, h]
theorem DE.dget (ha : DE W E ta fa) (hb : DE W E tb fb) : DE W E (tDGet ta tb) (aOp gDGet fa fb) := fun w s σ σc Q S R h => by
  refine ha w s σ σc _ S R ((post_bind_ok h).mono (fun x s1 h1 w1 v e1 S1 r1 => ?_) fun _ _ _ _ z => z)
  refine hb w1 s1 σ σc _ S1 (R.mono e1) ((post_bind_ok h1).mono (fun y s2 h2 w2 u e2 S2 r2 => ?_) fun _ _ _ _ z => z.mono e1)
  unfold gDGet at h2
  split at h2
  · rename_i i k hk
    split at h2
    · rename_i kvs e
      split at h2
      · rename_i z ez
        obtain ⟨o, k1, k2, k3, k4⟩ := cell_at S2 (r1.mono e2) e
        cases k4 with
        | dic r =>
          obtain ⟨vc, l, rz⟩ := val_rel r z ez
          exact ⟨_, vc, k2, .inl ⟨_, k, .inl k3, key_rel r2 hk, l.symm⟩, h2 w2 _ (e1.trans e2) S2 rz⟩
      · exact (show False from h2).elim
    · exact (show False from h2).elim
  · exact (show False from h2).elim
/-- d[y] = v -/
def setD (x y z : AV) (s : Sto) : Option Sto := match x, toKey y with | .obj i, some k => (match s.c i with | .dic kvs => if kvs.length < sizeLine then some (s.set i (.dic (putKA kvs k z))) else none | _ => none) | _, _ => none
theorem setD_obj {i : Nat} {y z : AV} {k : Key} {kvs : List (Key × AV)} {s : Sto} (e : s.c i = .dic kvs) (hk : toKey y = some k) (h : kvs.length < sizeLine) : setD (.obj i) y z s = some (s.set i (.dic (putKA kvs k z))) := by
  unfold setD; simp only [hk, e, if_pos h]
theorem setD_ok {w : Wd} {s s' : Sto} {x y z : AV} {v u t : V} (S : Sim W w s) (rx : Rel W w x v) (ry : Rel W w y u) (rz : Rel W w z t) (h : setD x y z s = some s') : ∃ a w', v = .ref a ∧ DPut w.H a u t w'.H ∧ Ext w w' ∧ Sim W w' s' := by
  unfold setD at h
  split at h
  · rename_i i k hk
    split at h
    · rename_i kvs e
      split at h
      · rename_i hl
        cases h
        obtain ⟨o, k1, k2, k3, k4⟩ := cell_at S rx e
        cases k4 with
        | @dic _ gs r =>
          refine ⟨_, { w with H := upd w.H (w.m i) (.dK (putK gs k t)) }, k2, .inl ⟨gs, k, k3, key_rel ry hk, ?_, rfl⟩, .wr S k1, S.wr k1 (.dic (putK_rel rz r))⟩
          rw [← Paired.length r]; exact hl
      · cases h
    · cases h
  · cases h
theorem setL_ok {w : Wd} {s s' : Sto} {x y z : AV} {v u t : V} (S : Sim W w s) (rx : Rel W w x v) (ry : Rel W w y u) (rz : Rel W w z t) (h : setL x y z s = some s') : ∃ p xs k j w', v = .ref p ∧ u = .int k ∧ w.H p = some (.lst xs) ∧ ixN xs.length k = some j ∧ w'.H = upd w.H p (.lst (xs.set j t)) ∧ Ext w w' ∧ Sim W w' s' := by
  unfold setL at h
  split at h
  · rename_i i k
    cases ry
    split at h
    · rename_i xs e
      split at h
      · rename_i n hn
        cases h
        obtain ⟨vs, i1, i2, i3, i4⟩ := lstO_at S rx e
        exact ⟨_, vs, k, n, { w with H := upd w.H (w.m i) (.lst (vs.set n t)) }, i2, rfl, i3, by rw [← i4.length]; exact hn, rfl, .wr S i1, S.wr i1 (.lst (i4.set rz n))⟩
      · cases h
    · cases h
  · cases h
def aDPut (fd fy fv : AE) : AS := fun σ s => (fv σ s).st σ fun z s1 => (fd σ s1).st σ fun x s2 => (fy σ s2).st σ fun y s3 => oNx σ (setD x y z s3)
theorem DS.dput {td ty tv : TE} {fd fy fv : AE} (hd : DE W E td fd) (hy : DE W E ty fy) (hv : DE W E tv fv) : DS W E (sDPut td ty tv) (aDPut fd fy fv) := fun w s σ σc D S R h => by
  refine hv w s σ σc _ S R ((exp_post R h).mono (fun z s1 h1 w1 t e1 S1 r1 => ?_) fun _ _ _ _ z => z)
  refine hd w1 s1 σ σc _ S1 (R.mono e1) ((exp_post (R.mono e1) (P.mono e1 h1)).mono (fun x s2 h2 w2 v e2 S2 r2 => ?_) fun _ _ _ _ z => z)
  refine hy w2 s2 σ σc _ S2 ((R.mono e1).mono e2) ((exp_post ((R.mono e1).mono e2) (P.mono e2 h2)).mono (fun y s3 h3 w3 u e3 S3 r3 => ?_) fun _ _ _ _ z => z)
  cases e : setD x y z s3 with
  | none => rw [e] at h3; exact (show False from h3).elim
  | some s4 =>
    rw [e] at h3
    obtain ⟨a, w4, k1, k2, k3, k4⟩ := setD_ok S3 (r2.mono e3) r3 ((r1.mono e2).mono e3) e
    exact ⟨a, w4.H, k1, k2, h3 w4 σc (e3.trans k3) k4 ((((R.mono e1).mono e2).mono e3).mono k3)⟩
/-- a subscript among targets -/
def agSub (st : AV → AV → AV → Sto → Option Sto) (fo fi : AE) : AV → AS := fun z σ s => match (fo σ s).bind fun x s1 => (fi σ s1).bind fun y s2 => (match st x y z s2 with | some s3 => .ok .non s3 | none => .stuck : Res AV) with | .ok _ s3 => .nx σ s3 | _ => .stuck
theorem agSub_eq {st : AV → AV → AV → Sto → Option Sto} {fo fi : AE} {x y z : AV} {σ : ASt} {s s1 s2 s3 : Sto} (h1 : fo σ s = .ok x s1) (h2 : fi σ s1 = .ok y s2) (h3 : st x y z s2 = some s3) : agSub st fo fi z σ s = .nx σ s3 := by
  unfold agSub; simp only [h1, Res.bind_ok, h2, h3]
theorem Goes.sub {st : AV → AV → AV → Sto → Option Sto} {fo fi : AE} : Goes (agSub st fo fi) := fun z σ s => by
  unfold agSub
  split
  · exact .inl ⟨_, _, rfl⟩
  · exact .inr rfl
theorem DG.sub {tset : TSet} {st : AV → AV → AV → Sto → Option Sto} {to ti : TE} {fo fi : AE} (hs : ∀ (w : Wd) (s s' : Sto) (x y z : AV) (v u t : V) (G : Hp → Prop), Sim W w s → Rel W w x v → Rel W w y u → Rel W w z t → st x y z s = some s' → (∀ w', Ext w w' → Sim W w' s' → G w'.H) → tset v u t w.H G)
    (ho : DE W (fun _ _ _ _ => False) to fo) (hi : DE W (fun _ _ _ _ => False) ti fi) : DG W (gSub to ti tset) (agSub st fo fi) := fun w s σ σc z t Q S R r h => by
  have h : (match (fo σ s).bind fun x s1 => (fi σ s1).bind fun y s2 => (match st x y z s2 with | some s3 => .ok .non s3 | none => .stuck : Res AV) with | .ok _ s3 => .nx σ s3 | _ => .stuck : SRes).P W w _ _ := h
  cases e0 : fo σ s with
  | err => rw [e0] at h; exact (show False from h).elim
  | stuck => rw [e0] at h; exact (show False from h).elim
  | ok x s1 =>
    rw [e0] at h
    refine ho w s σ σc _ S R ?_
    rw [e0]
    intro w1 v e1 S1 r1
    simp only [Res.bind_ok] at h
    cases e2 : fi σ s1 with
    | err => rw [e2] at h; exact (show False from h).elim
    | stuck => rw [e2] at h; exact (show False from h).elim
    | ok y s2 =>
      rw [e2] at h
      refine hi w1 s1 σ σc _ S1 (R.mono e1) ?_
      rw [e2]
      intro w2 u e3 S2 r2
      simp only [Res.bind_ok] at h
      cases e4 : st x y z s2 with
      | none => rw [e4] at h; exact (show False from h).elim
      | some s3 =>
        rw [e4] at h
        exact hs w2 s2 s3 x y z v u t _ S2 (r1.mono e3) r2 ((r.mono e1).mono e3) e4 fun w' e' S' => h w' σc ((e1.trans e3).trans e') S' (((R.mono e1).mono e3).mono e')
theorem DG.subD {to ti : TE} {fo fi : AE} (ho : DE W (fun _ _ _ _ => False) to fo) (hi : DE W (fun _ _ _ _ => False) ti fi) : DG W (gSub to ti rSetD) (agSub setD fo fi) := DG.sub (fun w s s' x y z v u t G S rx ry rz e h => by
  obtain ⟨a, w', k1, k2, k3, k4⟩ := setD_ok S rx ry rz e
  exact ⟨a, w'.H, k1, k2, h w' k3 k4⟩) ho hi
theorem DG.subL {to ti : TE} {fo fi : AE} (ho : DE W (fun _ _ _ _ => False) to fo) (hi : DE W (fun _ _ _ _ => False) ti fi) : DG W (gSub to ti rSetL) (agSub setL fo fi) := DG.sub (fun w s s' x y z v u t G S rx ry rz e h => by
  obtain ⟨p, xs, k, j, w', k1, k2, k3, k4, k5, k6, k7⟩ := setL_ok S rx ry rz e
  refine ⟨p, xs, k, j, k1, k2, k3, k4, ?_⟩
  rw [← k5]; exact h w' k6 k7) ho hi
/-- {} and {k: v, ..} -/
def newD (kvs : List (Key × AV)) (s : Sto) : Res AV := .ok (.obj s.n) (s.new (.dic kvs))
def aDNew : AE := fun _ s => newD [] s
def aPairs : List (AE × AE) → ASt → Sto → Res (List (AV × AV))
  | [], _, s => .ok [] s
  | (fk, fv) :: r, σ, s => (fk σ s).bind fun x s1 => (fv σ s1).bind fun y s2 => (aPairs r σ s2).bind fun ps s3 => .ok ((x, y) :: ps) s3
def keysA : List (AV × AV) → Option (List (Key × AV))
  | [] => some []
  | (x, y) :: r => match toKey x, keysA r with | some k, some ks => some ((k, y) :: ks) | _, _ => none
def mergeA (kvs more : List (Key × AV)) : List (Key × AV) := more.foldl (fun acc kv => putKA acc kv.1 kv.2) kvs
def aDisp (fs : List (AE × AE)) : AE := fun σ s => (aPairs fs σ (s.new (.dic []))).bind fun ps s1 => match s1.c s.n, keysA ps with | .dic [], some kvs => if kvs.length ≤ 15 then .ok (.obj s.n) (s1.set s.n (.dic (mergeA [] kvs))) else .stuck | _, _ => .stuck
inductive DPs (W : Wl) (E : L2.St → XK) : List (TE × TE) → List (AE × AE) → Prop
  | nil : DPs W E [] []
  | cons {tk tv : TE} {fk fv : AE} {ts : List (TE × TE)} {fs : List (AE × AE)} (hk : DE W E tk fk) (hv : DE W E tv fv) (r : DPs W E ts fs) : DPs W E ((tk, tv) :: ts) ((fk, fv) :: fs)
theorem DPs.run {ts : List (TE × TE)} {fs : List (AE × AE)} (d : DPs W E ts fs) : ∀ (w : Wd) (s : Sto) (σ : ASt) (σc : L2.St) (Q : List (V × V) → Hp → Prop), Sim W w s → RSt W w σ σc →
    (aPairs fs σ s).Post (fun ps s' => ∀ w' qs, Ext w w' → Sim W w' s' → Paired (fun (p : AV × AV) (q : V × V) => Rel W w' p.1 q.1 ∧ Rel W w' p.2 q.2) ps qs → Q qs w'.H) (ErrP W w (E σc)) → tPairs ts σc w.H Q := by
  induction d with
  | nil => exact fun w s σ σc Q S R h => h w [] (.refl w) S .nil
  | @cons tk tv fk fv ts fs hk hv r ih =>
    intro w s σ σc Q S R h
    refine hk w s σ σc _ S R ((post_bind_ok h).mono (fun x s1 h1 w1 v e1 S1 r1 => ?_) fun _ _ _ _ z => z)
    refine hv w1 s1 σ σc _ S1 (R.mono e1) ((post_bind_ok h1).mono (fun y s2 h2 w2 u e2 S2 r2 => ?_) fun _ _ _ _ z => z.mono e1)
    refine ih w2 s2 σ σc _ S2 ((R.mono e1).mono e2) ((post_bind_ok h2).mono (fun ps s3 h3 w3 qs e3 S3 r3 => ?_) fun _ _ _ _ z => (z.mono e1).mono e2)
    exact h3 w3 _ ((e1.trans e2).trans e3) S3 (.cons ⟨(r1.mono e2).mono e3, r2.mono e3⟩ r3)
theorem keys_rel {w : Wd} : ∀ {ps : List (AV × AV)} {qs : List (V × V)} {kvs : List (Key × AV)}, Paired (fun (p : AV × AV) (q : V × V) => Rel W w p.1 q.1 ∧ Rel W w p.2 q.2) ps qs → keysA ps = some kvs → ∃ gs : List (Key × V), qs = gs.map (fun kv => (kV kv.1, kv.2)) ∧ RelK W w kvs gs
  | _, _, _, .nil, e => by cases e; exact ⟨[], rfl, .nil⟩
  | (x, y) :: r, (v, u) :: r', _, .cons h t, e => by
    unfold keysA at e
    split at e
    · rename_i k ks e1 e2
      cases e
      obtain ⟨gs, h1, h2⟩ := keys_rel t e2
      refine ⟨(k, u) :: gs, ?_, .cons ⟨rfl, h.2⟩ h2⟩
      rw [List.map_cons, ← h1]
      rw [show v = kV k from key_rel h.1 e1]
    · cases e
theorem merge_rel {w : Wd} : ∀ {more : List (Key × AV)} {moreC : List (Key × V)} {kvs : List (Key × AV)} {gs : List (Key × V)}, RelK W w more moreC → RelK W w kvs gs → RelK W w (mergeA kvs more) (mergeK gs moreC)
  | _, _, _, _, .nil, h => h
  | (k, x) :: r, (k', v) :: r', kvs, gs, .cons h t, h2 => by
    cases (show k = k' from h.1)
    show RelK W w (mergeA (putKA kvs k x) r) (mergeK (putK gs k v) r')
    exact merge_rel t (putK_rel h.2 h2)
theorem DE.disp {ts : List (TE × TE)} {fs : List (AE × AE)} (d : DPs W E ts fs) : DE W E (tDisp ts) (aDisp fs) := fun w s σ σc Q S R h p hp => by
  have g := grow_upd (o := .dK []) hp
  have e0 : Ext w (w.new p (upd w.H p (.dK []))) := .new g
  have S0 : Sim W (w.new p (upd w.H p (.dK []))) (s.new (.dic [])) := S.new hp g upd_same (.dic .nil)
  have r0 : Rel W (w.new p (upd w.H p (.dK []))) (.obj s.n) (.ref p) := Rel.new p _ S.n
  refine d.run (w.new p (upd w.H p (.dK []))) _ σ σc _ S0 (R.mono e0) ((post_bind_ok h).mono (fun ps s1 h1 w1 qs e1 S1 r1 => ?_) fun _ _ _ _ z => z.mono e0)
  split at h1
  · rename_i kvs ec ek
    split at h1
    · rename_i hl
      obtain ⟨gs, q1, q2⟩ := keys_rel r1 ek
      obtain ⟨o, k1, k2, k3, k4⟩ := cell_at S1 (r0.mono e1) ec
      have ep : p = w1.m s.n := by cases k2; rfl
      cases k4 with
      | dic r =>
        cases r
        refine ⟨by rw [ep]; exact k3, gs, q1, by rw [← Paired.length q2]; exact hl, ?_⟩
        have S2 := S1.wr (o := .dK (mergeK [] gs)) k1 (.dic (merge_rel q2 .nil))
        have e2 := Ext.wr (o := .dK (mergeK [] gs)) S1 k1
        have r2 := (r0.mono e1).mono e2
        rw [← ep] at S2 e2
        exact h1 _ _ ((e0.trans e1).trans e2) S2 (by rw [ep] at *; exact r2)
    · exact (show False from h1).elim
  · exact (show False from h1).elim
end
end
end Ab
set_option Elab.async false
set_option linter.all false
set_option maxRecDepth 100000
set_option maxHeartbeats 1000000
namespace Ab
open PySem PySem.Spec PyProof.Rows L2
open Classical
noncomputable section
def ItW (W : Wl) (w0 : Wd) (J : It) (items : List AV) (G : Sto → Prop) : Prop :=
  ∃ (n : Nat) (GC : Hp → Prop) (Y : Nat → Hp → V → Hp → Prop), Walk J n GC Y ∧ n = items.length ∧ (∀ w s, Ext w0 w → Sim W w s → G s → GC w.H) ∧
    ∀ w s i x H', Ext w0 w → Sim W w s → G s → i < n → Y i w.H x H' → ∃ y w', items[i]? = some y ∧ w'.H = H' ∧ Ext w w' ∧ Sim W w' s ∧ Rel W w' y x
abbrev AI := ASt → Sto → Res (List AV × (Sto → Prop))
def DI (W : Wl) (E : L2.St → XK) (wi : TI) (fi : AI) : Prop := ∀ (w : Wd) (s : Sto) (σ : ASt) (σc : L2.St) (R : It → Hp → Prop), Sim W w s → RSt W w σ σc →
  (fi σ s).Post (fun p s' => ∀ w' J, Ext w w' → Sim W w' s' → ItW W w' J p.1 p.2 → R J w'.H) (ErrP W w (E σc)) → wi σc w.H R
/-- x for x in a list, a tuple, a text -/
def signs (z : Str) : List AV := z.cps.toList.map fun c => .str ⟨#[c]⟩
def iterOf (x : AV) (s1 : Sto) : Res (List AV × (Sto → Prop)) := match x with
  | .tup xs => .ok (xs, fun _ => True) s1
  | .scr xs => .ok (xs, fun _ => True) s1
  | .str z => .ok (signs z, fun _ => True) s1
  | _ => match lstOf s1 x with | some xs => .ok (xs, fun s2 => lstOf s2 x = some xs) s1 | none => .stuck
@[simp] theorem iterOf_tup {xs : List AV} {s : Sto} : iterOf (.tup xs) s = .ok (xs, fun _ => True) s := rfl
@[simp] theorem iterOf_scr {xs : List AV} {s : Sto} : iterOf (.scr xs) s = .ok (xs, fun _ => True) s := rfl
@[simp] theorem iterOf_str {z : Str} {s : Sto} : iterOf (.str z) s = .ok (signs z, fun _ => True) s := rfl
def aIter (fa : AE) : AI := fun σ s => (fa σ s).bind iterOf
def iterU (K : PySem.W.Frag) (te : TE) : TI := fun σ H R => iList K te σ H R ∨ iTup K te σ H R ∨ iStr te σ H R
theorem PI.or {X : Cx} {tg e : Expr} {w1 w2 : TI} (h1 : PI X tg e w1) (h2 : PI X tg e w2) : PI X tg e (fun σ H R => w1 σ H R ∨ w2 σ H R) := ⟨fun pins s σ H R I h => h.elim (h1.run pins s σ H R I) (h2.run pins s σ H R I)⟩
theorem itw_list {W : Wl} {w0 : Wd} {s0 : Sto} {x : AV} {a : Addr} {xs : List AV} {vs : List V} (S : Sim W w0 s0) (r : Rel W w0 x (.ref a)) (G : Sto → Prop) (hG : ∀ s, G s → lstOf s x = some xs) : ItW W w0 (Itl W.K a) xs G := by
  refine ⟨xs.length, fun H => ∃ vs, SqL W.K H a vs ∧ vs.length = xs.length, fun i H x H' => H' = H ∧ ∀ ys, SqL W.K H a ys → ys[i]? = some x, ⟨fun i H hi ⟨vs, h1, h2⟩ => ⟨vs, vs[i], h1, by simp⟩, fun H ⟨vs, h1, h2⟩ => ⟨vs, h1, Nat.le_of_eq h2⟩, fun i H x H' hi h y => y⟩, rfl, fun w s e S' g => ?_, fun w s i y H' e S' g hi hy => ?_⟩
  · obtain ⟨a', vs', k1, k2, k3⟩ := lst_at S' (r.mono e) (hG s g)
    cases k1
    exact ⟨vs', k2, k3.length.symm⟩
  · obtain ⟨a', vs', k1, k2, k3⟩ := lst_at S' (r.mono e) (hG s g)
    cases k1
    obtain ⟨rfl, h2⟩ := hy
    obtain ⟨z, z1, z2⟩ := k3.getv i y (h2 vs' k2)
    exact ⟨z, w, z1, rfl, .refl w, S', z2⟩
theorem itw_tup {W : Wl} {w0 : Wd} {a : Addr} {xs : List AV} {vs : List V} (h : SqT W.K w0.H a vs) (r : RelL W w0 xs vs) (G : Sto → Prop) : ItW W w0 (Itt W.K a) xs G := by
  refine ⟨xs.length, fun H => SqT W.K H a vs, fun i H x H' => H' = H ∧ ∀ ys, SqT W.K H a ys → ys[i]? = some x, ⟨fun i H hi h1 => ⟨vs, vs[i]'(by rw [← r.length]; exact hi), h1, by simp⟩, fun H h1 => ⟨vs, h1, Nat.le_of_eq r.length.symm⟩, fun i H x H' hi h y => y⟩, rfl, fun w s e S' g => sqt_ext e h, fun w s i y H' e S' g hi hy => ?_⟩
  obtain ⟨rfl, h2⟩ := hy
  obtain ⟨z, z1, z2⟩ := (r.mono e).getv i y (h2 vs (sqt_ext e h))
  exact ⟨z, w, z1, rfl, .refl w, S', z2⟩
theorem itw_str {W : Wl} {w0 : Wd} {z : Str} (G : Sto → Prop) : ItW W w0 (Its z) (signs z) G := by
  refine ⟨z.cps.size, fun _ => True, _, walk_str, by simp [signs], fun _ _ _ _ _ => trivial, fun w s i y H' e S' g hi hy => ?_⟩
  obtain ⟨rfl, c, h2, rfl⟩ := hy
  refine ⟨.str ⟨#[c]⟩, w, ?_, rfl, .refl w, S', .str _⟩
  unfold signs
  rw [List.getElem?_map, Array.getElem?_toList, h2]
  rfl
section
variable {W : Wl} {E : L2.St → XK} {ta tb : TE} {fa fb : AE} {tr : TA} {fr : AA} {t : TT} {ft : AT} {ts : TS} {fs : AS} {tg : TG} {g : AV → AS} {wi : TI} {fi : AI}
theorem DI.iter (ha : DE W E ta fa) : DI W E (iterU W.K ta) (aIter fa) := fun w s σ σc R S Rs h => by
  cases e : fa σ s with
  | stuck =>
    have : aIter fa σ s = .stuck := by unfold aIter; rw [e]; rfl
    rw [this] at h; exact h.elim
  | err c ns vs s1 =>
    have : aIter fa σ s = .err c ns vs s1 := by unfold aIter; rw [e]; rfl
    rw [this] at h
    exact .inl (ha w s σ σc _ S Rs (by rw [e]; exact h))
  | ok x s1 =>
    have e1 : aIter fa σ s = iterOf x s1 := by unfold aIter; rw [e]; rfl
    rw [e1] at h
    unfold iterOf at h
    split at h
    · refine .inr (.inl (ha w s σ σc _ S Rs ?_))
      rw [e]
      intro w1 v x1 S1 r1
      cases r1 with
      | @tup a _ vs k1 k2 => exact ⟨a, rfl, ⟨vs, k1⟩, h w1 _ x1 S1 (itw_tup k1 k2 _)⟩
    · refine .inl (ha w s σ σc _ S Rs ?_)
      rw [e]
      intro w1 v x1 S1 r1
      cases r1 with
      | @scr a _ vs k1 k2 => exact ⟨a, rfl, ⟨vs, k1.sql⟩, h w1 _ x1 S1 (itw_list (vs := vs) S1 (.scr k1 k2) _ fun _ _ => rfl)⟩
    · refine .inr (.inr (ha w s σ σc _ S Rs ?_))
      rw [e]
      intro w1 v x1 S1 r1
      cases r1 with
      | str => exact ⟨_, rfl, h w1 _ x1 S1 (itw_str _)⟩
    · split at h
      · rename_i xs el
        refine .inl (ha w s σ σc _ S Rs ?_)
        rw [e]
        intro w1 v x1 S1 r1
        obtain ⟨a, vs, rfl, k2, k3⟩ := lst_at S1 r1 el
        exact ⟨a, rfl, ⟨vs, k2⟩, h w1 _ x1 S1 (itw_list (vs := vs) S1 r1 _ fun _ z => z)⟩
      · exact h.elim
/-- ranges -/
def rngA (lo : Int) (n : Nat) : List AV := (List.range n).map fun i => .int (lo + (i : Nat))
def aRng1 (fr : AA) : AI := fun σ s => (fr σ s).bind fun xs s1 => match xs with | [.int j] => if -(2 ^ 62) ≤ j ∧ j < 2 ^ 62 then .ok (rngA 0 j.toNat, fun _ => True) s1 else .stuck | _ => .stuck
def aRng2 (fr : AA) : AI := fun σ s => (fr σ s).bind fun xs s1 => match xs with | [.int i, .int j] => if -(2 ^ 62) ≤ i ∧ i < 2 ^ 62 ∧ -(2 ^ 62) ≤ j ∧ j < 2 ^ 62 then .ok (rngA i (j - i).toNat, fun _ => True) s1 else .stuck | _ => .stuck
theorem itw_rng {w0 : Wd} {lo : Int} {n : Nat} (G : Sto → Prop) : ItW W w0 (Itr lo n) (rngA lo n) G := by
  refine ⟨n, fun _ => True, _, walk_range, by simp [rngA], fun _ _ _ _ _ => trivial, fun w s i y H' e S' g hi hy => ?_⟩
  obtain ⟨rfl, rfl⟩ := hy
  refine ⟨.int (lo + i), w, ?_, rfl, .refl w, S', .int _⟩
  unfold rngA
  rw [List.getElem?_map, List.getElem?_range hi]
  rfl
theorem DI.rng1 (ha : DA W E tr fr) : DI W E (iRng1 tr) (aRng1 fr) := fun w s σ σc R S Rs h => by
  refine ha w s σ σc _ S Rs ((post_bind_ok h).mono (fun xs s1 h1 w1 vs e1 S1 r1 => ?_) fun _ _ _ _ z => z)
  split at h1
  · split at h1
    · rename_i hl
      cases r1 with
      | cons r1 r2 =>
        cases r1; cases r2
        exact ⟨_, rfl, hl.1, hl.2, h1 w1 _ e1 S1 (itw_rng _)⟩
    · exact (show False from h1).elim
  · exact (show False from h1).elim
theorem DI.rng2 (ha : DA W E tr fr) : DI W E (iRng2 tr) (aRng2 fr) := fun w s σ σc R S Rs h => by
  refine ha w s σ σc _ S Rs ((post_bind_ok h).mono (fun xs s1 h1 w1 vs e1 S1 r1 => ?_) fun _ _ _ _ z => z)
  split at h1
  · split at h1
    · rename_i hl
      cases r1 with
      | cons r1 r2 =>
        cases r2 with
        | cons r2 r3 =>
          cases r1; cases r2; cases r3
          exact ⟨_, _, rfl, hl, h1 w1 _ e1 S1 (itw_rng _)⟩
    · exact (show False from h1).elim
  · exact (show False from h1).elim
/-- enumerate -/
def enumA (xs : List AV) : List AV := xs.mapIdx fun i x => .tup [.int (i : Nat), x]
def aEnum (fr : AA) : AI := fun σ s => (fr σ s).bind fun xs s1 => match xs with | [x] => (match lstOf s1 x with | some ys => .ok (enumA ys, fun s2 => lstOf s2 x = some ys) s1 | none => .stuck) | _ => .stuck
theorem DI.enum (ha : DA W E tr fr) : DI W E (iEnum W.K tr) (aEnum fr) := fun w s σ σc R S Rs h => by
  refine ha w s σ σc _ S Rs ((post_bind_ok h).mono (fun xs s1 h1 w1 vs e1 S1 r1 => ?_) fun _ _ _ _ z => z)
  split at h1
  · rename_i x
    split at h1
    · rename_i ys el
      cases r1 with
      | cons r1 r2 =>
        cases r2
        obtain ⟨a, us, rfl, k2, k3⟩ := lst_at S1 r1 el
        refine ⟨a, us, rfl, k2, h1 w1 _ e1 S1 ?_⟩
        refine ⟨ys.length, fun H => ∃ vs, SqL W.K H a vs ∧ vs.length = ys.length, fun i H v H' => ∃ T x, v = .ref T ∧ H T = none ∧ H' = upd H T (.tup [.int (i : Nat), x]) ∧ ∀ xs, SqL W.K H a xs → xs[i]? = some x, ⟨fun i H hi ⟨vs, h1, h2⟩ => ⟨vs, vs[i], h1, by simp⟩, fun H ⟨vs, h1, h2⟩ => ⟨vs, h1, Nat.le_of_eq h2⟩, fun i H x H' hi h y => y⟩, by simp [enumA], fun w s e S' g => ?_, fun w s i y H' e S' g hi hy => ?_⟩
        · obtain ⟨a', vs', z1, z2, z3⟩ := lst_at S' (r1.mono e) g
          cases z1
          exact ⟨vs', z2, z3.length.symm⟩
        · obtain ⟨a', vs', z1, z2, z3⟩ := lst_at S' (r1.mono e) g
          cases z1
          obtain ⟨T, u, rfl, hT, rfl, h2⟩ := hy
          obtain ⟨z, y1, y2⟩ := z3.getv i u (h2 vs' z2)
          have gr := grow_upd (o := .tup [.int (i : Nat), u]) hT
          refine ⟨.tup [.int (i : Nat), z], _, ?_, rfl, .grow gr, S'.grow gr, .tup (.inl (.inl upd_same)) (.cons (.int _) (.cons (y2.mono (.grow gr)) .nil))⟩
          unfold enumA
          rw [List.getElem?_mapIdx, y1]
          rfl
    · exact (show False from h1).elim
  · exact (show False from h1).elim
/-- zip of two lists, or of two tuples -/
def zipA (xs ys : List AV) : List AV := (xs.zip ys).map fun p => .tup [p.1, p.2]
def aZip (fr : AA) : AI := fun σ s => (fr σ s).bind fun xs s1 => match xs with
  | [.tup a, .tup b] => .ok (zipA a b, fun _ => True) s1
  | [x, y] => (match lstOf s1 x, lstOf s1 y with | some a, some b => .ok (zipA a b, fun s2 => lstOf s2 x = some a ∧ lstOf s2 y = some b) s1 | _, _ => .stuck)
  | _ => .stuck
theorem zip_get {xs ys : List AV} {i : Nat} {x y : AV} (h1 : xs[i]? = some x) (h2 : ys[i]? = some y) : (zipA xs ys)[i]? = some (.tup [x, y]) := by
  unfold zipA
  rw [List.getElem?_map, show (xs.zip ys)[i]? = some (x, y) from List.getElem?_zip_eq_some.mpr ⟨h1, h2⟩]
  rfl
theorem DI.zip (ha : DA W E tr fr) : DI W E (RZ.iZipA W.K tr) (aZip fr) := fun w s σ σc R S Rs h => by
  refine ha w s σ σc _ S Rs ((post_bind_ok h).mono (fun xs s1 h1 w1 vs e1 S1 r1 => ?_) fun _ _ _ _ z => z)
  split at h1
  · rename_i xa xb
    cases r1 with
    | cons r1 r2 =>
      cases r2 with
      | cons r2 r3 =>
        cases r3
        cases r1 with
        | @tup a _ vs a1 a2 =>
          cases r2 with
          | @tup b _ us b1 b2 =>
            refine ⟨a, b, vs, us, rfl, .inr ⟨a1, b1, h1 w1 _ e1 S1 ?_⟩⟩
            refine ⟨min vs.length us.length, fun H => SqT W.K H a vs ∧ SqT W.K H b us, YPair (fun i => vs[i]?) (fun i => us[i]?), ?_, ?_, fun w s e S' g => ⟨sqt_ext e a1, sqt_ext e b1⟩, fun w s i y H' e S' g hi hy => ?_⟩
            · refine ⟨fun i _ hi q => ?_, fun _ q => ⟨vs, us, q.1, q.2, by omega⟩, fun i H v H' _ q y => ?_⟩
              · have h1 : i < vs.length := by omega
                have h2 : i < us.length := by omega
                exact ⟨vs, us, vs[i], us[i], q.1, q.2, by simp [h1], by simp [h2]⟩
              · obtain ⟨T, x, z, h1, h2, h3, h4, h5⟩ := y
                exact ⟨T, x, z, h1, h2, h3, h4 vs q.1, h5 us q.2⟩
            · simp [zipA, a2.length, b2.length]
            · obtain ⟨T, x, z, rfl, hT, rfl, h4, h5⟩ := hy
              obtain ⟨x', x1, x2⟩ := (a2.mono e).getv i x h4
              obtain ⟨y', y1, y2⟩ := (b2.mono e).getv i z h5
              have gr := grow_upd (o := .tup [x, z]) hT
              exact ⟨.tup [x', y'], _, zip_get x1 y1, rfl, .grow gr, S'.grow gr, .tup (.inl (.inl upd_same)) (.cons (x2.mono (.grow gr)) (.cons (y2.mono (.grow gr)) .nil))⟩
  · rename_i x y _
    split at h1
    · rename_i xa xb ea eb
      cases r1 with
      | cons r1 r2 =>
        cases r2 with
        | cons r2 r3 =>
          cases r3
          obtain ⟨a, vs, rfl, a2, a3⟩ := lst_at S1 r1 ea
          obtain ⟨b, us, rfl, b2, b3⟩ := lst_at S1 r2 eb
          refine ⟨a, b, vs, us, rfl, .inl ⟨a2, b2, h1 w1 _ e1 S1 ?_⟩⟩
          refine ⟨min xa.length xb.length, fun H => (∃ vs, SqL W.K H a vs ∧ vs.length = xa.length) ∧ ∃ us, SqL W.K H b us ∧ us.length = xb.length, fun i H v H' => ∃ T x y, v = .ref T ∧ H T = none ∧ H' = upd H T (.tup [x, y]) ∧ (∀ xs, SqL W.K H a xs → xs[i]? = some x) ∧ ∀ ys, SqL W.K H b ys → ys[i]? = some y, ?_, ?_, fun w s e S' g => ?_, fun w s i y H' e S' g hi hy => ?_⟩
          · refine ⟨fun i _ hi ⟨⟨vs, q1, q2⟩, us, q3, q4⟩ => ?_, fun _ ⟨⟨vs, q1, q2⟩, us, q3, q4⟩ => ⟨vs, us, q1, q3, by omega⟩, fun i H v H' _ q y => y⟩
            have h1 : i < vs.length := by omega
            have h2 : i < us.length := by omega
            exact ⟨vs, us, vs[i], us[i], q1, q3, by simp [h1], by simp [h2]⟩
          · simp [zipA]
          · obtain ⟨a', vs', z1, z2, z3⟩ := lst_at S' (r1.mono e) g.1
            obtain ⟨b', us', y1, y2, y3⟩ := lst_at S' (r2.mono e) g.2
            cases z1; cases y1
            exact ⟨⟨vs', z2, z3.length.symm⟩, us', y2, y3.length.symm⟩
          · obtain ⟨a', vs', z1, z2, z3⟩ := lst_at S' (r1.mono e) g.1
            obtain ⟨b', us', y1, y2, y3⟩ := lst_at S' (r2.mono e) g.2
            cases z1; cases y1
            obtain ⟨T, x, z, rfl, hT, rfl, h4, h5⟩ := hy
            obtain ⟨x', x1, x2⟩ := z3.getv i x (h4 vs' z2)
            obtain ⟨y', q1, q2⟩ := y3.getv i z (h5 us' y2)
            have gr := grow_upd (o := .tup [x, z]) hT
            exact ⟨.tup [x', y'], _, zip_get x1 q1, rfl, .grow gr, S'.grow gr, .tup (.inl (.inl upd_same)) (.cons (x2.mono (.grow gr)) (.cons (q2.mono (.grow gr)) .nil))⟩
    · exact (show False from h1).elim
  · exact (show False from h1).elim
def SRes.loop : SRes → AS → SRes
  | .nx σ s, k => k σ s
  | .ct σ s, k => k σ s
  | .bk σ s, _ => .nx σ s
  | .rt v s, _ => .rt v s
  | .err c ns vs σ s, _ => .err c ns vs σ s
  | .stuck, _ => .stuck
@[simp] theorem SRes.loop_nx {σ : ASt} {s : Sto} {f : AS} : (SRes.nx σ s).loop f = f σ s := rfl
@[simp] theorem SRes.loop_ct {σ : ASt} {s : Sto} {f : AS} : (SRes.ct σ s).loop f = f σ s := rfl
@[simp] theorem SRes.loop_bk {σ : ASt} {s : Sto} {f : AS} : (SRes.bk σ s).loop f = .nx σ s := rfl
@[simp] theorem SRes.loop_rt {v : AV} {s : Sto} {f : AS} : (SRes.rt v s).loop f = .rt v s := rfl
@[simp] theorem SRes.loop_err {c : String} {ns : List Str} {vs : List AV} {σ : ASt} {s : Sto} {f : AS} : (SRes.err c ns vs σ s).loop f = .err c ns vs σ s := rfl
@[simp] theorem SRes.loop_stuck {f : AS} : SRes.stuck.loop f = .stuck := rfl
theorem P_loop {r : SRes} {k : AS} {w : Wd} {D : Ends} (h : (r.loop k).P W w D E) (N : L2.St → Hp → Prop) (hN : ∀ w' σ σc s, Ext w w' → Sim W w' s → RSt W w' σ σc → (k σ s).P W w D E → N σc w'.H) : r.P W w { D with nx := N, ct := N, bk := D.nx } E := by
  cases r with
  | nx σ s => exact fun w' σc e S R => hN w' σ σc s e S R h
  | ct σ s => exact fun w' σc e S R => hN w' σ σc s e S R h
  | bk σ s => exact h
  | rt v s => exact h
  | err c ns vs σ s => exact h
  | stuck => exact h
def forI (G : Sto → Prop) (g : AV → AS) (b : AS) : List AV → AS
  | [] => fun σ s => if G s then .nx σ s else .stuck
  | x :: r => fun σ s => if G s then (aSeq (g x) b σ s).loop (forI G g b r) else .stuck
theorem forI_nil {G : Sto → Prop} {g : AV → AS} {b : AS} {σ : ASt} {s : Sto} (h : G s) : forI G g b [] σ s = .nx σ s := if_pos h
theorem forI_cons {G : Sto → Prop} {g : AV → AS} {b : AS} {x : AV} {r : List AV} {σ : ASt} {s : Sto} (h : G s) : forI G g b (x :: r) σ s = (aSeq (g x) b σ s).loop (forI G g b r) := if_pos h
def aFor (fi : AI) (g : AV → AS) (b : AS) : AS := fun σ s => (fi σ s).st σ fun p s1 => forI p.2 g b p.1 σ s1
theorem goes_nx {r : SRes} {w : Wd} {D : Ends} {k : AS} (h : (r.thn k).P W w D E) (g : (∃ σ' s', r = .nx σ' s') ∨ r = .stuck) (Q : L2.St → Hp → Prop) (hQ : ∀ w' σ σc s, Ext w w' → Sim W w' s → RSt W w' σ σc → (k σ s).P W w' D E → Q σc w'.H) : r.P W w ⟨Q, fun _ _ => False, fun _ _ => False, fun _ _ => False⟩ (fun _ _ _ _ => False) := by
  rcases g with ⟨σ', s', rfl⟩ | rfl
  · exact fun w' σc e S R => hQ w' σ' σc s' e S R (P.mono e h)
  · exact h
theorem DS.forS (hi : DI W E wi fi) (hg : DG W tg g) (hn : Goes g) (hb : DS W E ts fs) : DS W E (tFor wi tg ts) (aFor fi g fs) := fun w s σ σc D S R h => by
  refine hi w s σ σc _ S R ((exp_post R h).mono (fun p s1 h1 w1 J e1 S1 it => ?_) fun _ _ _ _ z => z)
  obtain ⟨items, G⟩ := p
  obtain ⟨n, GC, Y, wk, hn', hG, hY⟩ := it
  simp only at hn' hG hY h1
  refine for_it wk (fun i σc H => ∃ w' s' σ', H = w'.H ∧ Ext w1 w' ∧ Sim W w' s' ∧ RSt W w' σ' σc ∧ (forI G g fs (items.drop i) σ' s').P W w' D E) ⟨w1, s1, σ, rfl, .refl w1, S1, R.mono e1, by rw [List.drop_zero]; exact P.mono e1 h1⟩ ?_ ?_ ?_
  · rintro i σc' H hi ⟨w', s', σ', rfl, e', S', R', h'⟩
    refine hG w' s' e' S' ?_
    refine Classical.byContradiction fun ng => ?_
    cases hd : items.drop i with
    | nil => rw [hd] at h'; exact (show False from by unfold forI at h'; rw [if_neg ng] at h'; exact h')
    | cons x r => rw [hd] at h'; exact (show False from by unfold forI at h'; rw [if_neg ng] at h'; exact h')
  · rintro i x σc' H H' hi ⟨w', s', σ', rfl, e', S', R', h'⟩ hy
    have hg' : G s' := Classical.byContradiction fun ng => by
      cases hd : items.drop i with
      | nil => rw [hd] at h'; exact (show False from by unfold forI at h'; rw [if_neg ng] at h'; exact h')
      | cons x r => rw [hd] at h'; exact (show False from by unfold forI at h'; rw [if_neg ng] at h'; exact h')
    obtain ⟨y, w2, q1, rfl, e2, S2, r2⟩ := hY w' s' i x H' e' S' hg' hi hy
    have hd : items.drop i = y :: items.drop (i + 1) := by
      obtain ⟨hlt, q⟩ := List.getElem?_eq_some_iff.mp q1
      rw [List.drop_eq_getElem_cons hlt, q]
    rw [hd, forI_cons hg'] at h'
    have R2 := R'.mono e2
    refine hg w2 s' σ' σc' y x _ S2 R2 r2 ?_
    have h2 := P.mono e2 h'
    have h3 := P_loop h2 (fun σc H => ∃ w3 s3 σ3, H = w3.H ∧ Ext w1 w3 ∧ Sim W w3 s3 ∧ RSt W w3 σ3 σc ∧ (forI G g fs (items.drop (i + 1)) σ3 s3).P W w3 D E) (fun w3 σ3 σc3 s3 e3 S3 R3 k3 => ⟨w3, s3, σ3, rfl, (e'.trans e2).trans e3, S3, R3, P.mono e3 k3⟩)
    exact goes_nx h3 (hn y σ' s') _ fun w3 σ3 σc3 s3 e3 S3 R3 k3 => hb w3 s3 σ3 σc3 _ S3 R3 k3
  · rintro σc' H ⟨w', s', σ', rfl, e', S', R', h'⟩
    rw [hn', List.drop_length] at h'
    unfold forI at h'
    split at h'
    · exact h' w' σc' (.refl w') S' R'
    · exact (show False from h').elim
def whileN (c : AT) (b : AS) : Nat → AS
  | 0 => fun _ _ => .stuck
  | k + 1 => fun σ s => (c σ s).st σ fun r s1 => if r = true then (b σ s1).loop (whileN c b k) else .nx σ s1
def aWhile (c : AT) (b : AS) : AS := fun σ s => if h : ∃ k, whileN c b k σ s ≠ .stuck then whileN c b (Classical.choose h) σ s else .stuck
theorem loop_mono {r : SRes} {k1 k2 : AS} (h : ∀ σ s, k1 σ s ≠ .stuck → k2 σ s = k1 σ s) (n : r.loop k1 ≠ .stuck) : r.loop k2 = r.loop k1 := by
  cases r with
  | nx σ s => exact h σ s n
  | ct σ s => exact h σ s n
  | _ => rfl
theorem whileN_succ {c : AT} {b : AS} : ∀ (k : Nat) (σ : ASt) (s : Sto), whileN c b k σ s ≠ .stuck → whileN c b (k + 1) σ s = whileN c b k σ s
  | 0, σ, s, h => absurd rfl h
  | k + 1, σ, s, h => by
    have h' : (c σ s).st σ (fun r s1 => if r = true then (b σ s1).loop (whileN c b k) else .nx σ s1) ≠ .stuck := h
    show (c σ s).st σ (fun r s1 => if r = true then (b σ s1).loop (whileN c b (k + 1)) else .nx σ s1) = (c σ s).st σ (fun r s1 => if r = true then (b σ s1).loop (whileN c b k) else .nx σ s1)
    cases e : c σ s with
    | ok r s1 =>
      rw [e] at h'
      simp only [Res.st_ok] at h' ⊢
      cases r with
      | true =>
        simp only [if_pos] at h' ⊢
        exact loop_mono (whileN_succ k) h'
      | false => rfl
    | err => rfl
    | stuck => rfl
theorem DS.whileS (hc : DT W E t ft) (hb : DS W E ts fs) : DS W E (tWhile t ts) (aWhile ft fs) := fun w s σ σc D S R h => by
  unfold aWhile at h
  split at h
  · rename_i hex
    refine ⟨fun m σc H => ∃ w' s' σ', H = w'.H ∧ Ext w w' ∧ Sim W w' s' ∧ RSt W w' σ' σc ∧ (whileN ft fs m σ' s').P W w' D E, ⟨_, w, s, σ, rfl, .refl w, S, R, h⟩, ?_⟩
    rintro m σc' H ⟨w', s', σ', rfl, e', S', R', h'⟩
    cases m with
    | zero => exact (show False from h').elim
    | succ m =>
      have h' : ((ft σ' s').st σ' fun r s1 => if r = true then (fs σ' s1).loop (whileN ft fs m) else .nx σ' s1).P W w' D E := h'
      refine hc w' s' σ' σc' _ S' R' ((exp_post R' h').mono (fun b s1 hb1 w1 e1 S1 => ?_) fun _ _ _ _ z => z)
      cases b with
      | false => exact iteF ((show (SRes.nx σ' s1).P W w' D E from by simpa using hb1) w1 σc' e1 S1 (R'.mono e1))
      | true =>
        refine iteT ⟨fun σc H => ∃ w3 s3 σ3, H = w3.H ∧ Ext w w3 ∧ Sim W w3 s3 ∧ RSt W w3 σ3 σc ∧ (whileN ft fs m σ3 s3).P W w3 D E, fun σ2 H2 z => ⟨m, Nat.lt_succ_self m, z⟩, ?_⟩
        have h2 : ((fs σ' s1).loop (whileN ft fs m)).P W w1 D E := P.mono e1 (by simpa using hb1)
        exact hb w1 s1 σ' σc' _ S1 (R'.mono e1) (P_loop h2 _ fun w3 σ3 σc3 s3 e3 S3 R3 k3 => ⟨w3, s3, σ3, rfl, (e'.trans e1).trans e3, S3, R3, P.mono e3 k3⟩)
  · exact h.elim
end
end
end Ab
set_option Elab.async false
set_option linter.all false
set_option maxRecDepth 100000
set_option maxHeartbeats 1000000
namespace Ab
open PySem PySem.Spec PyProof.Rows L2
open Classical
noncomputable section
theorem wipe_get (σ : L2.St) (j : Nat) : ∀ vs : List Nat, (wipe σ vs)[j]? = if j ∈ vs ∧ j < σ.length then some none else σ[j]?
  | [] => by simp [wipe]
  | v :: vs => by
    have ih := wipe_get σ j vs
    have hl := wipe_length σ vs
    show ((wipe σ vs).set v none)[j]? = _
    rw [List.getElem?_set, hl, ih]
    by_cases hv : v = j
    · subst hv
      by_cases hj : v < σ.length
      · simp [hj]
      · simp [hj]
    · have : (j ∈ v :: vs) = (j ∈ vs) := by
        simp only [List.mem_cons, eq_iff_iff]
        exact ⟨fun z => z.elim (fun z => absurd z.symm hv) id, .inr⟩
      simp only [if_neg hv, this]
theorem wipe_set {σ : L2.St} {i : Nat} {x : Option V} {vs : List Nat} (h : i ∈ vs) : wipe (σ.set i x) vs = wipe σ vs := by
  refine List.ext_getElem? fun j => ?_
  rw [wipe_get, wipe_get, List.length_set, List.getElem?_set]
  by_cases hij : i = j
  · subst hij
    by_cases hl : i < σ.length
    · simp [h, hl]
    · simp [hl]
  · simp [hij]
theorem wipe_wipe {σ : L2.St} {vs : List Nat} : wipe (wipe σ vs) vs = wipe σ vs := by
  refine List.ext_getElem? fun j => ?_
  rw [wipe_get, wipe_length]
  by_cases h : j ∈ vs ∧ j < σ.length
  · rw [if_pos h, wipe_get, if_pos h]
  · rw [if_neg h]
/-- a target that stores in these slots alone -/
def WT (tg : TG) (vs : List Nat) : Prop := ∀ v σ H (Q Q' : L2.St → Hp → Prop), (∀ σ2 H2, wipe σ2 vs = wipe σ vs → Q σ2 H2 → Q' σ2 H2) → tg v σ H Q → tg v σ H Q'
def WTs (tg : TGs) (vs : List Nat) : Prop := ∀ v σ H (Q Q' : L2.St → Hp → Prop), (∀ σ2 H2, wipe σ2 vs = wipe σ vs → Q σ2 H2 → Q' σ2 H2) → tg v σ H Q → tg v σ H Q'
theorem WT.name {i : Nat} {vs : List Nat} (h : i ∈ vs) : WT (gName i) vs := fun v σ H Q Q' f q => f _ _ (wipe_set h) q
theorem WTs.nil {vs : List Nat} : WTs gNil vs := fun v σ H Q Q' f q => ⟨q.1, f _ _ rfl q.2⟩
theorem WTs.cons {t : TG} {u : TGs} {vs : List Nat} (h1 : WT t vs) (h2 : WTs u vs) : WTs (gCons t u) vs := fun v σ H Q Q' f q => by
  obtain ⟨x, r, e, q⟩ := q
  exact ⟨x, r, e, h1 x σ H _ _ (fun σ2 H2 e2 q2 => h2 r σ2 H2 Q Q' (fun σ3 H3 e3 q3 => f σ3 H3 (e3.trans e2) q3) q2) q⟩
theorem WT.tup {K : PySem.W.Frag} {n : Nat} {u : TGs} {vs : List Nat} (h : WTs u vs) : WT (gTup K n u) vs := fun v σ H Q Q' f q => by
  obtain ⟨a, xs, e, h1, h2, q⟩ := q
  exact ⟨a, xs, e, h1, h2, h xs σ H Q Q' f q⟩
def aYes : AT := fun _ s => .ok true s
theorem DT.yes {W : Wl} {E : L2.St → XK} : DT W E tYes aYes := fun w s σ σc Q S R h => h w (.refl w) S
def lcI (k : Nat) (G : Sto → Prop) (g : AV → AS) (ft : AT) (fe : AE) (σ0 : ASt) : List AV → Sto → Option Sto
  | [] => fun s => if G s then some s else none
  | x :: r => fun s => if G s then (match g x σ0 s with
    | .nx σ2 s2 => (match ft σ2 s2 with
      | .ok true s3 => (match fe σ2 s3 with
        | .ok y s4 => (match s4.c k with | .lst acc => if acc.length < sizeLine then lcI k G g ft fe σ0 r (s4.set k (.lst (acc ++ [y]))) else none | _ => none)
        | _ => none)
      | .ok false s3 => lcI k G g ft fe σ0 r s3
      | _ => none)
    | _ => none) else none
def oObj (k : Nat) : Option Sto → Res AV
  | some s => .ok (.obj k) s
  | none => .stuck
@[simp] theorem oObj_some {k : Nat} {s : Sto} : oObj k (some s) = .ok (.obj k) s := rfl
def aLc (fi : AI) (g : AV → AS) (ft : AT) (fe : AE) (vs : List Nat) : AE := fun σ s => (fi σ s).bind fun p s1 => oObj s1.n (lcI s1.n p.2 g ft fe (wipeA σ vs) p.1 (s1.new (.lst [])))
section
variable {W : Wl} {E : L2.St → XK} {ta tb te : TE} {fa fb fe : AE} {tr : TA} {fr : AA} {t : TT} {ft : AT} {ts : TS} {fs : AS} {tg : TG} {g : AV → AS} {wi : TI} {fi : AI}
theorem lcI_G {k : Nat} {G : Sto → Prop} {σ0 : ASt} {l : List AV} {s s' : Sto} (h : lcI k G g ft fe σ0 l s = some s') : G s := Classical.byContradiction fun ng => by
  cases l with
  | nil => rw [show lcI k G g ft fe σ0 [] s = none from if_neg ng] at h; cases h
  | cons x r =>
    unfold lcI at h
    rw [if_neg ng] at h
    cases h
theorem DE.lc {vs : List Nat} (hi : DI W E wi fi) (hg : DG W tg g) (hn : Goes g) (hw : WT tg vs) (ht : DT W (fun _ _ _ _ => False) t ft) (he : DE W (fun _ _ _ _ => False) te fe) : DE W E (tLc wi tg t te vs) (aLc fi g ft fe vs) := fun w s σ σc Q S R h => by
  refine hi w s σ σc _ S R ((post_bind_ok h).mono (fun p s1 h1 w1 J e1 S1 it => ?_) fun _ _ _ _ z => z)
  obtain ⟨items, G⟩ := p
  obtain ⟨n, GC, Y, wk, hn', hG, hY⟩ := it
  simp only at hn' hG hY h1
  cases el : lcI s1.n G g ft fe (wipeA σ vs) items (s1.new (.lst [])) with
  | none => rw [el] at h1; exact (show False from h1).elim
  | some sf =>
    rw [el] at h1
    have h1 : OkP W w Q (.obj s1.n) sf := h1
    intro D hD
    have gr := grow_upd (o := .lst []) hD
    have e2 : Ext w1 (w1.new D (upd w1.H D (.lst []))) := .new gr
    have S2 : Sim W (w1.new D (upd w1.H D (.lst []))) (s1.new (.lst [])) := S1.new hD gr upd_same (.lst .nil)
    have rD : Rel W (w1.new D (upd w1.H D (.lst []))) (.obj s1.n) (.ref D) := Rel.new D _ S1.n
    refine lc_it wk (fun i H => ∃ w' s', H = w'.H ∧ Ext (w1.new D (upd w1.H D (.lst []))) w' ∧ Sim W w' s' ∧ lcI s1.n G g ft fe (wipeA σ vs) (items.drop i) s' = some sf) ⟨_, _, rfl, .refl _, S2, by rw [List.drop_zero]; exact el⟩ ?_ ?_ ?_
    · rintro i H hi ⟨w', s', rfl, e', S', h'⟩
      exact hG w' s' (e2.trans e') S' (lcI_G h')
    · rintro i x H H' hi ⟨w', s', rfl, e', S', h'⟩ hy
      have hg' := lcI_G h'
      obtain ⟨y, w2, q1, rfl, e3, S3, r3⟩ := hY w' s' i x H' (e2.trans e') S' hg' hi hy
      have hd : items.drop i = y :: items.drop (i + 1) := by
        obtain ⟨hlt, q⟩ := List.getElem?_eq_some_iff.mp q1
        rw [List.drop_eq_getElem_cons hlt, q]
      rw [hd] at h'
      unfold lcI at h'
      rw [if_pos hg'] at h'
      have R3 : RSt W w2 (wipeA σ vs) (wipe σc vs) := ((((R.mono e1).mono e2).mono e').mono e3).wipe vs
      refine hw x (wipe σc vs) w2.H _ _ (fun σ2 H2 ew q => ⟨by rw [ew, wipe_wipe], q⟩) (hg w2 s' (wipeA σ vs) (wipe σc vs) y x _ S3 R3 r3 ?_)
      split at h'
      · rename_i σ2 s2 eg
        rw [eg]
        intro w3 σ3c x3 S4 R4
        refine ht w3 s2 σ2 σ3c _ S4 R4 ?_
        split at h'
        · rename_i s3 et
          rw [et]
          intro w4 x4 S5
          refine iteT (he w4 s3 σ2 σ3c _ S5 (R4.mono x4) ?_)
          split at h'
          · rename_i z s4 ee
            rw [ee]
            intro w5 zc x5 S6 r6
            split at h'
            · rename_i acc ec
              split at h'
              · rename_i hl
                have xx := (((e'.trans e3).trans x3).trans x4).trans x5
                obtain ⟨accc, k1, k2, k3, k4⟩ := lstO_at S6 (rD.mono xx) ec
                have ed : D = w5.m s1.n := by cases k2; rfl
                refine ⟨accc, by rw [ed]; exact k3, by rw [← k4.length]; exact hl, ?_⟩
                exact ⟨{ w5 with H := upd w5.H (w5.m s1.n) (.lst (accc ++ [zc])) }, _, by rw [← ed], xx.trans (.wr S6 k1), S6.wr k1 (.lst (k4.append (.cons r6 .nil))), h'⟩
              · cases h'
            · cases h'
          · cases h'
        · rename_i s3 et
          rw [et]
          intro w4 x4 S5
          exact iteF ⟨w4, s3, rfl, ((e'.trans e3).trans x3).trans x4, S5, h'⟩
        · cases h'
      · cases h'
    · rintro H ⟨w', s', rfl, e', S', h'⟩
      rw [hn', List.drop_length] at h'
      have hg' := lcI_G h'
      have : lcI s1.n G g ft fe (wipeA σ vs) [] s' = some s' := if_pos hg'
      rw [this] at h'
      cases h'
      exact h1 w' _ ((e1.trans e2).trans e') S' (rD.mono e')
def bnames : List String := ["NoneType", "bool", "int", "str", "tuple", "list", "dict"]
def cvl (W : Wl) (n : String) : Value := if n ∈ bnames then .type n else .ref (W.κ n)
structure KitOk (W : Wl) (kit : String → String → Option Bool) : Prop where
  kit : ∀ a b r, (a ∈ bnames ∨ a ∈ W.live ∨ a ∈ W.xlive) → kit a b = some r → PySem.W.kitOne W.K (cvl W a) (cvl W b) = some r
  ins : ∀ c ∈ W.live, c ∉ bnames ∧ C8.InsC W.K (W.κ c)
  exc : ∀ c ∈ W.xlive, c ∉ bnames ∧ ExcC W.K (W.κ c)
def tyN (s : Sto) : AV → Option String
  | .non => some "NoneType"
  | .bl _ => some "bool"
  | .int _ => some "int"
  | .str _ => some "str"
  | .tup _ => some "tuple"
  | .obj i => (match s.c i with | .lst _ => some "list" | .dic _ => some "dict" | .ins c _ => some c)
  | .exn c _ _ => some c
  | _ => none
def clsN : AV → Option String
  | .ty n => some n
  | .cls c => some c
  | _ => none
def clsOk : AV → Bool
  | .ty n => decide (n ∈ bnames)
  | .cls n => decide (n ∉ bnames)
  | _ => false
def gIsi (kit : String → String → Option Bool) : List AV → Sto → Res AV := fun xs s => match xs with
  | [x, c] => (match tyN s x, clsN c with | some a, some b => (match kit a b with | some r => if clsOk c = true then .ok (.bl r) s else .stuck | none => .stuck) | _, _ => .stuck)
  | _ => .stuck
theorem NEL.isi {kit : String → String → Option Bool} : NEL (gIsi kit) := fun x s c ns vs s' h => by 
  unfold gIsi at h
  repeat' split at h
  all_goals first | cases h | (unfold newL at h; cases h)
theorem gIsi_ty {kit : String → String → Option Bool} {x : AV} {a n : String} {r : Bool} {s : Sto} (h1 : tyN s x = some a) (h2 : kit a n = some r) (h3 : n ∈ bnames) : gIsi kit [x, .ty n] s = .ok (.bl r) s := by
  unfold gIsi
  simp only [h1, clsN, h2]
  exact if_pos (decide_eq_true h3)
def rIsiU (K : PySem.W.Frag) : List V → Hp → VK → Prop := fun xs H Q => rIsi K xs H Q ∨ Gx.rIsK K xs H Q
theorem call_isiU {X : Cx} : CallR X (.builtin "isinstance") (rIsiU X.K) := CallR.or call_isi Gx.call_isK
theorem sqt_ty {K : PySem.W.Frag} {H : Hp} {a : Addr} {vs : List V} (h : SqT K H a vs) : TyX K H (.ref a) (.type "tuple") := by
  rcases h with (h | ⟨o, h⟩) | ⟨o, its, n, h1, h2, h3, h4⟩
  · exact .base (.tup h)
  · exact .fTuple h
  · exact .kTuple h1 h2
theorem DB.isi {kit : String → String → Option Bool} (ko : KitOk W kit) : DB W (rIsiU W.K) (gIsi kit) := fun w s xs v Q S r h => by
  unfold gIsi at h
  split at h
  · rename_i x c
    cases r with
    | @cons _ vx _ _ r1 r2 => cases r2 with
      | @cons _ vcl _ _ r2 r3 =>
        cases r3
        split at h
        · rename_i a b ea eb
          split at h
          · rename_i rr ek
            split at h
            · rename_i hc
              have hq := h w (.bl rr) (.refl w) S (.bl _)
              have hcl : ∃ u, ClsV vcl u ∧ u = cvl W b := by
                cases r2 with
                | ty =>
                  cases eb
                  exact ⟨_, .ty _, (if_pos (of_decide_eq_true hc)).symm⟩
                | cls =>
                  cases eb
                  exact ⟨_, .own _, (if_neg (of_decide_eq_true hc)).symm⟩
                | _ => cases hc
              obtain ⟨u, u1, rfl⟩ := hcl
              have base : ∀ {T : Value}, TyX W.K w.H vx T → T = cvl W a → (a ∈ bnames ∨ a ∈ W.live ∨ a ∈ W.xlive) → rIsiU W.K [vx, vcl] w.H Q := fun {T} hT e hm => by
                subst e
                exact .inl ⟨vx, vcl, _, _, rr, rfl, u1, hT, ko.kit a b rr hm ek, hq⟩
              cases r1 with
              | non => cases ea; exact base (.base .non) (if_pos (by decide)).symm (.inl (by decide))
              | bl => cases ea; exact base (.base (.bl _)) (if_pos (by decide)).symm (.inl (by decide))
              | int => cases ea; exact base (.base (.int _)) (if_pos (by decide)).symm (.inl (by decide))
              | str => cases ea; exact base (.base (.str _)) (if_pos (by decide)).symm (.inl (by decide))
              | ty => cases ea
              | cls => cases ea
              | raw => cases ea
              | scr => cases ea
              | tup h1 h2 => cases ea; exact base (sqt_ty h1) (if_pos (by decide)).symm (.inl (by decide))
              | @obj i hi =>
                have ea : (match s.c i with | .lst _ => some "list" | .dic _ => some "dict" | .ins c _ => some c : Option String) = some a := ea
                cases ec : s.c i with
                | lst xs =>
                  rw [ec] at ea
                  cases ea
                  obtain ⟨vs, k1, k2, k3, k4⟩ := lstO_at S (.obj hi) ec
                  exact base (.base (.lst k3)) (if_pos (by decide)).symm (.inl (by decide))
                | dic kvs =>
                  rw [ec] at ea
                  cases ea
                  obtain ⟨o, k1, k2, k3, k4⟩ := cell_at S (.obj hi) ec
                  cases k4
                  exact base (.base (.dK k3)) (if_pos (by decide)).symm (.inl (by decide))
                | ins c fs =>
                  rw [ec] at ea
                  cases ea
                  obtain ⟨o, k1, k2, k3, k4⟩ := cell_at S (.obj hi) ec
                  cases k4 with
                  | ins hl rf =>
                    obtain ⟨n1, ic⟩ := ko.ins _ hl
                    exact base (.base (.ins k3 ic.cl ic.ha ic.hn ic.htk ic.hm)) (if_neg n1).symm (.inr (.inl hl))
              | @exn _ ax d ns xs vs hl hx hd hln rv =>
                cases ea
                obtain ⟨n1, ec⟩ := ko.exc _ hl
                refine .inr ⟨ax, _, d, _, vcl, _, rr, rfl, ec, hx, hd, fun u hu => u1.eq hu, ?_, hq⟩
                have := ko.kit _ b rr (.inr (.inr hl)) ek
                rw [show cvl W _ = .ref (W.κ _) from if_neg n1] at this
                exact this
            · exact h.elim
          · exact h.elim
        · exact h.elim
  · exact h.elim
def gBits (x : AV) (s : Sto) : Res AV := match x with | .int i => .ok (.int (Builtin.Int.intBits i : Nat)) s | _ => .stuck
@[simp] theorem gBits_int {i : Int} {s : Sto} : gBits (.int i) s = .ok (.int (Builtin.Int.intBits i : Nat)) s := rfl
theorem DE.bits (ha : DE W E ta fa) : DE W E (tBits ta) (aUn gBits fa) := fun w s σ σc Q S R h => by
  refine ha w s σ σc _ S R ((post_bind_ok h).mono (fun x s1 h1 w1 v e1 S1 r1 => ?_) fun _ _ _ _ z => z)
  cases r1 with
  | int i => exact ⟨i, rfl, h1 w1 _ e1 S1 (.int _)⟩
  | _ => exact (show False from h1).elim
/-- raise C(v) -/
def raiseK (c : String) (fl : Str) (σ : ASt) : List AV → Sto → SRes
  | [v], s => .err c [fl] [v] σ s
  | _, _ => .stuck
def aRaise (c : String) (fl : Str) (fr : AA) : AS := fun σ s => (fr σ s).st σ (raiseK c fl σ)
theorem DS.raise {c : String} {fl : Str} {Wx : WX} (hc : c ∈ W.xlive) (ha : DA W (fun σ cls d H => Wx cls d σ H) tr fr) : DS W (fun σ cls d H => Wx cls d σ H) (fun _ σ H => tMkO (W.κ c) (Gx.spExc (W.κ c) fl) [] tr σ H fun cls d H' => Wx cls d σ H') (aRaise c fl fr) := fun w s σ σc D S R h => by
  refine ha w s σ σc _ S R ((exp_post R h).mono (fun xs s1 h1 w1 vs e1 S1 r1 => ?_) fun _ _ _ _ z => z)
  match xs, vs, r1, h1 with
  | [x], [v], .cons rx .nil, h1 =>
    refine Gx.mkO (C := W.κ c) (fl := fl) (v := v) (H := w1.H) (Q := fun cls d H' => Wx cls d σc H') fun d H' hd ex k => ?_
    exact h1 { w1 with H := H' } σc d (e1.trans (.grow ex)) (S1.grow ex) ((R.mono e1).mono (.grow ex)) ⟨hc, [v], k, rfl, .cons (rx.mono (.grow ex)) .nil⟩
/-- what is caught -/
abbrev HdA := (String → Option Bool) × Option Nat × AS
def SRes.clr (i : Nat) : SRes → SRes
  | .nx σ s => .nx (σ.set i none) s
  | .bk σ s => .bk (σ.set i none) s
  | .ct σ s => .ct (σ.set i none) s
  | .rt v s => .rt v s
  | _ => .stuck
@[simp] theorem SRes.clr_nx {i : Nat} {σ : ASt} {s : Sto} : (SRes.nx σ s).clr i = .nx (σ.set i none) s := rfl
@[simp] theorem SRes.clr_rt {i : Nat} {v : AV} {s : Sto} : (SRes.rt v s).clr i = .rt v s := rfl
def SRes.noX : SRes → SRes
  | .err _ _ _ _ _ => .stuck
  | r => r
@[simp] theorem SRes.noX_nx {σ : ASt} {s : Sto} : (SRes.nx σ s).noX = .nx σ s := rfl
@[simp] theorem SRes.noX_rt {v : AV} {s : Sto} : (SRes.rt v s).noX = .rt v s := rfl
def aHand (c : String) (ns : List Str) (vs : List AV) (σ : ASt) (s : Sto) : List HdA → SRes
  | [] => .err c ns vs σ s
  | (m, none, f) :: r => (match m c with | some true => (f σ s).noX | some false => aHand c ns vs σ s r | none => .stuck)
  | (m, some i, f) :: r => (match m c with | some true => (f (σ.set i (some (.exn c ns vs))) s).clr i | some false => aHand c ns vs σ s r | none => .stuck)
def aTry (f : AS) (hs : List HdA) : AS := fun σ s => match f σ s with | .err c ns vs σ' s' => aHand c ns vs σ' s' hs | r => r
/-- an error forgets the slots -/
def SRes.forget (n : Nat) : SRes → SRes
  | .err c ns vs _ s => .err c ns vs (List.replicate n none) s
  | r => r
@[simp] theorem SRes.forget_nx {n : Nat} {σ : ASt} {s : Sto} : (SRes.nx σ s).forget n = .nx σ s := rfl
@[simp] theorem SRes.forget_rt {n : Nat} {v : AV} {s : Sto} : (SRes.rt v s).forget n = .rt v s := rfl
@[simp] theorem SRes.forget_err {n : Nat} {c : String} {ns : List Str} {vs : List AV} {σ : ASt} {s : Sto} : (SRes.err c ns vs σ s).forget n = .err c ns vs (List.replicate n none) s := rfl
def aForget (n : Nat) (f : AS) : AS := fun σ s => (f σ s).forget n
theorem rst_none {w : Wd} : ∀ (σc : L2.St), RSt W w (List.replicate σc.length none) σc
  | [] => .nil
  | _ :: σc => .cons trivial (rst_none σc)
theorem DS.forget {n : Nat} {Wx : WX} (h : DS W (fun _ cls d H => ∀ σ : L2.St, σ.length = n → Wx cls d σ H) ts fs) : DS W (fun σ cls d H => Wx cls d σ H) ts (aForget n fs) := fun w s σ σc D S R z => by
  refine h w s σ σc D S R ?_
  have z : ((fs σ s).forget n).P W w D _ := z
  cases e : fs σ s with
  | err c ns vs σ' s' =>
    rw [e] at z
    exact fun w' σc' d e' S' R' x σ2 hl => z w' σ2 d e' S' (by rw [← hl]; exact rst_none σ2) x
  | nx σ' s' => rw [e] at z; exact z
  | rt v s' => rw [e] at z; exact z
  | bk σ' s' => rw [e] at z; exact z
  | ct σ' s' => rw [e] at z; exact z
  | stuck => rw [e] at z; exact z
/-- the call within -/
def aAsk (f : Addr) (ask : Sto → Res AV) : AE := fun σ s => match σ[0]? with | some (some (AV.raw a)) => if a = f then ask s else .stuck | _ => .stuck
end
/-- a world that has grown out of one -/
abbrev Wl.at (W : Wl) (w0 : Wd) : Wl := { toWc := W.toWc, inv := fun w => Ext w0 w, cl := fun _ _ e h => h.trans e }
theorem Sim.at {W : Wl} {w : Wd} {s : Sto} (S : Sim W w s) : Sim (W.at w) w s := ⟨S.n, S.inj, S.cell, S.tab, .refl w⟩
theorem DE.ask {W : Wl} {w0 : Wd} {s0 : Sto} {f c' : Addr} {q : Str} {tl : XK → Hp → VK → Prop} {ask : Sto → Res AV} {Ek : XK} (S0 : Sim W w0 s0) (hc : w0.H c' = some (LamX.CodeO c' q))
    (ha : ∀ (E : XK) (w' : Wd) (s' : Sto) (Q' : VK), Ext w0 w' → Sim W w' s' → (ask s').Post (OkP W w' Q') (ErrP W w' E) → tl E w'.H Q') :
    DE (W.at w0) (fun _ => Ek) (fun σZ HZ Q => σZ[0]? = some (some (.ref f)) ∧ HZ c' = some (LamX.CodeO c' q) ∧ tl Ek HZ Q) (aAsk f ask) := fun w s σ σc Q S R h => by
  have e0 : Ext w0 w := S.inv
  have sw : ∀ {w' : Wd} {s' : Sto}, Sim (W.at w0) w' s' → Sim W w' s' := fun {w' s'} S' => ⟨S'.n, S'.inj, S'.cell, S'.tab, W.cl _ _ S'.inv S0.inv⟩
  have ws : ∀ {w' : Wd} {s' : Sto}, Ext w0 w' → Sim W w' s' → Sim (W.at w0) w' s' := fun {w' s'} e S' => ⟨S'.n, S'.inj, S'.cell, S'.tab, e⟩
  unfold aAsk at h
  split at h
  · rename_i a ea
    split at h
    · rename_i haf
      subst haf
      obtain ⟨v, h1, h2⟩ := R.get 0 _ ea
      cases h2
      refine ⟨h1, e0.im _ _ hc trivial, ha Ek w s Q e0 (sw S) (h.mono (fun v s' z w2 vc e2 S2 r2 => z w2 vc e2 (ws (e0.trans e2) S2) r2) fun c ns vs s' z w2 d e2 S2 x => z w2 d e2 (ws (e0.trans e2) S2) x)⟩
    · exact h.elim
  · exact h.elim
theorem KitOk.at {W : Wl} {w0 : Wd} {kit : String → String → Option Bool} (k : KitOk W kit) : KitOk (W.at w0) kit := ⟨k.kit, k.ins, k.exc⟩
theorem relL_ints {W : Wc} {w : Wd} : ∀ ns : List Int, RelL W w (ns.map .int) (ns.map V.int)
  | [] => .nil
  | n :: ns => .cons (.int n) (relL_ints ns)
/-- the law is run -/
def s0 : Sto := ⟨0, fun _ => .lst []⟩
theorem law_run {W : Wl} {N : List Str} {k : Nat} {f : AS} {ts : TS} {H : Hp} {a : Addr} {ns : List Int} {Q : VK} (hinv : ∀ w, W.inv w) (hS : SqF W.K H a (ns.map V.int)) (hT : LamX.Tabs W.T H) (hlaw : ∃ s', aDef k f [.scr (ns.map .int)] s0 = .ok (.bl true) s') (hk : 1 + k = N.length)
    (hs : DS W (fun _ _ _ _ => False) ts f) (hQ : ∀ H', Q (.bl true) H') : ts { nx := fun _ H' => Q .non H', rt := Q } (L2.start N [.ref a]) H := by
  obtain ⟨s', e⟩ := hlaw
  refine DS.dfn (k := k) (n := 1) (Ek := fun _ _ _ => False) ⟨⟨fun _ => 0, 0, H⟩, s0, [.scr (ns.map .int)], rfl, ⟨rfl, fun i j hi => absurd hi (Nat.not_lt_zero i), fun i hi => absurd hi (Nat.not_lt_zero i), hT, hinv _⟩, .cons (.scr hS ?_) .nil, rfl, ?_⟩ hk hs
  · exact relL_ints ns
  · rw [e]
    intro w' vc e' S' r
    cases r
    exact hQ _
end
end Ab
set_option Elab.async false
set_option linter.all false
set_option maxRecDepth 100000
set_option maxHeartbeats 1000000
namespace Ab
open PySem PySem.Spec PyProof.Rows L2
open Classical
noncomputable section
/-- a class's bases, itself first -/
def anc : String → List String
  | "Counter" => ["Counter", "Source"]
  | "Draws" => ["Draws"]
  | "PooledDraws" => ["PooledDraws", "Draws"]
  | "DrawError" => ["DrawError", "ValueError", "Exception"]
  | "BadWord" => ["BadWord", "DrawError", "ValueError", "Exception"]
  | "BadState" => ["BadState", "DrawError", "ValueError", "Exception"]
  | "BadSteps" => ["BadSteps", "DrawError", "ValueError", "Exception"]
  | "BadSeed" => ["BadSeed", "DrawError", "ValueError", "Exception"]
  | "BadNumber" => ["BadNumber", "DrawError", "ValueError", "Exception"]
  | "BadThings" => ["BadThings", "DrawError", "ValueError", "Exception"]
  | "BadSource" => ["BadSource", "DrawError", "ValueError", "Exception"]
  | "BadPolynomial" => ["BadPolynomial", "DrawError", "ValueError", "Exception"]
  | "BadDegree" => ["BadDegree", "DrawError", "ValueError", "Exception"]
  | "BadBits" => ["BadBits", "DrawError", "ValueError", "Exception"]
  | "BadRank" => ["BadRank", "DrawError", "ValueError", "Exception"]
  | "BadStep" => ["BadStep", "DrawError", "ValueError", "Exception"]
  | "BadSplit" => ["BadSplit", "DrawError", "ValueError", "Exception"]
  | "BadTape" => ["BadTape", "DrawError", "ValueError", "Exception"]
  | "BadRange" => ["BadRange", "DrawError", "ValueError", "Exception"]
  | "BadRow" => ["BadRow", "DrawError", "ValueError", "Exception"]
  | "BadWeights" => ["BadWeights", "DrawError", "ValueError", "Exception"]
  | "BadOrder" => ["BadOrder", "DrawError", "ValueError", "Exception"]
  | "BadText" => ["BadText", "DrawError", "ValueError", "Exception"]
  | "Shortage" => ["Shortage", "LookupError"]
  | "Exhausted" => ["Exhausted", "Shortage", "LookupError"]
  | "NoRow" => ["NoRow", "Shortage", "LookupError"]
  | "NoStream" => ["NoStream", "Shortage", "LookupError"]
  | "NothingToUndo" => ["NothingToUndo", "Shortage", "LookupError"]
  | "RunError" => ["RunError", "RuntimeError"]
  | "TooLong" => ["TooLong", "RunError", "RuntimeError"]
  | "Unsteady" => ["Unsteady", "RunError", "RuntimeError"]
  | "Aside" => ["Aside"]
  | "Leaping" => ["Leaping", "Source"]
  | "Linear" => ["Linear", "Source"]
  | "Order" => ["Order"]
  | "Reservoir" => ["Reservoir"]
  | "Session" => ["Session"]
  | "Source" => ["Source"]
  | "Scripted" => ["Scripted", "Source"]
  | "Streams" => ["Streams"]
  | "Recording" => ["Recording", "Source"]
  | "Twisted" => ["Twisted", "Source"]
  | "Table" => ["Table"]
  | "Urn" => ["Urn"]
  | "bool" => ["bool", "int"]
  | c => [c]
def xnames : List String := ["ValueError", "LookupError", "RuntimeError", "Exception", "BaseException", "KeyError", "IndexError", "TypeError"]
def kitP (a b : String) : Option Bool := if a ∈ bnames ∧ b ∈ xnames then none else some (decide (b ∈ anc a))
def kitB (b : String) : String → String → Option Bool := fun a b' => if b' = b then kitP a b' else none
theorem kitB_self {a b : String} : kitB b a b = kitP a b := if_pos rfl
theorem kitE {a b : String} {t : Bool} {va vb : Value} {W : Wl} (h : kitP a b = some t) (ha : cvl W a = va) (hb : cvl W b = vb) (f : PySem.W.kitOne W.K va vb = some t) : ∀ r, kitP a b = some r → PySem.W.kitOne W.K (cvl W a) (cvl W b) = some r := fun r e => by
  rw [h] at e
  cases e
  rw [ha, hb]
  exact f
theorem kitOk_of {W : Wl} {b : String} (h1 : All (fun a => ∀ r, kitP a b = some r → PySem.W.kitOne W.K (cvl W a) (cvl W b) = some r) bnames) (h2 : All (fun a => ∀ r, kitP a b = some r → PySem.W.kitOne W.K (cvl W a) (cvl W b) = some r) W.live) (h3 : All (fun a => ∀ r, kitP a b = some r → PySem.W.kitOne W.K (cvl W a) (cvl W b) = some r) W.xlive)
    (hi : All (fun c => c ∉ bnames ∧ C8.InsC W.K (W.κ c)) W.live) (hx : All (fun c => c ∉ bnames ∧ ExcC W.K (W.κ c)) W.xlive) : KitOk W (kitB b) where
  kit := fun a b' r hm e => by
    unfold kitB at e
    split at e
    · rename_i hb
      subst hb
      rcases hm with hm | hm | hm
      · exact h1.at a hm r e
      · exact h2.at a hm r e
      · exact h3.at a hm r e
    · cases e
  ins := fun c hc => hi.at c hc
  exc := fun c hc => hx.at c hc
def tyB (s : Sto) : AV → Option String
  | .non => some "NoneType"
  | .bl _ => some "bool"
  | .int _ => some "int"
  | .str _ => some "str"
  | .tup _ => some "tuple"
  | .obj i => (match s.c i with | .lst _ => some "list" | .dic _ => some "dict" | .ins _ _ => none)
  | _ => none
def isObj : AV → Bool
  | .obj _ => true
  | _ => false
def ownK : AV → Sto → Res AV := fun v s => if isObj v = true then .ok v s else .stuck
@[simp] theorem ownK_obj {i : Nat} {s : Sto} : ownK (.obj i) s = .ok (.obj i) s := rfl
def gOwn (c : String) (ts : List String) (F : List AV → Sto → Res AV) (x y : AV) (s : Sto) : Res AV := if isI s x c = true then (match tyB s y with | some t => if t ∈ ts then (F [x, y] s).bind ownK else .stuck | none => .stuck) else .stuck
def aOwn (c : String) (ts : List String) (n : Nat) (F : List AV → Sto → Res AV) (fa fb : AE) : AE := fun σ s => (fa σ s).bind fun x s1 => (fb σ s1).bind fun y s2 => gOwn c ts F x y s2
theorem tyB_rel {W : Wl} {w : Wd} {s : Sto} {x : AV} {v : V} {t : String} (S : Sim W w s) (r : Rel W w x v) (h : tyB s x = some t) : TyX W.K w.H v (.type t) := by
  cases r with
  | non => cases h; exact .base .non
  | bl => cases h; exact .base (.bl _)
  | int => cases h; exact .base (.int _)
  | str => cases h; exact .base (.str _)
  | ty => cases h
  | cls => cases h
  | raw => cases h
  | scr => cases h
  | exn => cases h
  | tup h1 h2 => cases h; exact sqt_ty h1
  | @obj i hi =>
    have h : (match s.c i with | .lst _ => some "list" | .dic _ => some "dict" | .ins _ _ => none : Option String) = some t := h
    cases ec : s.c i with
    | lst xs =>
      rw [ec] at h
      cases h
      obtain ⟨vs, k1, k2, k3, k4⟩ := lstO_at S (.obj hi) ec
      exact .base (.lst k3)
    | dic kvs =>
      rw [ec] at h
      cases h
      obtain ⟨o, k1, k2, k3, k4⟩ := cell_at S (.obj hi) ec
      cases k4
      exact .base (.dK k3)
    | ins c fs => rw [ec] at h; cases h
theorem DE.own {W : Wl} {Ek : XK} {ta tb : TE} {fa fb : AE} {c : String} {nm : String} {ts : List String} {F : List AV → Sto → Res AV} {k : Nat} (ht : All (fun t => Gx.OwnT W.K (W.κ c) nm t) ts) (ha : DE W (fun _ => Ek) ta fa) (hb : DE W (fun _ => Ek) tb fb) :
    DE W (fun _ => Ek) (tOp (Gx.rOwnX W.K (W.κ c) nm (spF W 2 F) Ek) ta tb) (aOwn c ts k F fa fb) := fun w s σ σc Q S R h => by
  refine ha w s σ σc _ S R ((post_bind_ok h).mono (fun x s1 h1 w1 v e1 S1 r1 => ?_) fun _ _ _ _ z => z)
  refine hb w1 s1 σ σc _ S1 (R.mono e1) ((post_bind_ok h1).mono (fun y s2 h2 w2 u e2 S2 r2 => ?_) fun _ _ _ _ z => z.mono e1)
  unfold gOwn at h2
  split at h2
  · rename_i hi
    split at h2
    · rename_i t et
      split at h2
      · rename_i htm
        have hx : ∃ fs, insAt s2 x = some (c, fs) := by
          unfold isI at hi
          split at hi
          · rename_i d fs e
            cases of_decide_eq_true hi
            exact ⟨fs, e⟩
          · cases hi
        obtain ⟨fs, hx⟩ := hx
        obtain ⟨i, dx, gs, rfl, k2, rfl, k3, k4, k5⟩ := ins_at S2 (r1.mono e2) hx
        refine ⟨_, dx, gs, t, rfl, tyB_rel S2 r2 et, ht.at t htm, k3, w2, s2, [.obj i, y], rfl, S2, (.cons (r1.mono e2) (.cons r2 .nil)), rfl, ?_⟩
        refine (post_bind_ok h2).mono (fun v' s3 h3 w3 vc e3 S3 r3 => ?_) fun _ _ _ _ z => (z.mono e1).mono e2
        unfold ownK at h3
        split at h3
        · rename_i ho
          cases r3 with
          | obj hj => exact ⟨⟨_, rfl⟩, h3 w3 _ ((e1.trans e2).trans e3) S3 (.obj hj)⟩
          | _ => cases ho
        · exact (show False from h3).elim
      · exact (show False from h2).elim
    · exact (show False from h2).elim
  · exact (show False from h2).elim
end
end Ab
set_option Elab.async false
set_option linter.all false
set_option maxRecDepth 100000
set_option maxHeartbeats 1000000
namespace Ab
open PySem PySem.Spec PyProof.Rows L2
open Classical
mutual
def Cl (n : Nat) : AV → Prop
  | .obj i => i < n
  | .tup xs => ClL n xs
  | .scr xs => ClL n xs
  | .exn _ _ xs => ClL n xs
  | _ => True
def ClL (n : Nat) : List AV → Prop
  | [] => True
  | x :: xs => Cl n x ∧ ClL n xs
end
@[simp] theorem Cl_non {n : Nat} : Cl n .non = True := by simp only [Cl]
@[simp] theorem Cl_bl {n : Nat} {b : Bool} : Cl n (.bl b) = True := by simp only [Cl]
@[simp] theorem Cl_int {n : Nat} {b : Int} : Cl n (.int b) = True := by simp only [Cl]
@[simp] theorem Cl_str {n : Nat} {b : Str} : Cl n (.str b) = True := by simp only [Cl]
@[simp] theorem Cl_cls {n : Nat} {b : String} : Cl n (.cls b) = True := by simp only [Cl]
@[simp] theorem Cl_obj {n i : Nat} : Cl n (.obj i) = (i < n) := by simp only [Cl]
@[simp] theorem Cl_tup {n : Nat} {xs : List AV} : Cl n (.tup xs) = ClL n xs := by simp only [Cl]
@[simp] theorem ClL_nil {n : Nat} : ClL n [] = True := by simp only [ClL]
@[simp] theorem ClL_cons {n : Nat} {x : AV} {xs : List AV} : ClL n (x :: xs) = (Cl n x ∧ ClL n xs) := by simp only [ClL]
theorem ClL_all {n : Nat} : ∀ {xs : List AV}, ClL n xs ↔ ∀ x ∈ xs, Cl n x
  | [] => by simp
  | x :: xs => by simp [ClL_all (xs := xs)]
def ClC (n : Nat) : Cell → Prop
  | .lst xs => ClL n xs
  | .ins _ fs => ∀ p ∈ fs, Cl n p.2
  | .dic kvs => ∀ p ∈ kvs, Cl n p.2
section
variable {W : Wc} {w : Wd}
mutual
theorem Rel.cl {W : Wc} {w : Wd} : ∀ {x : AV} {v : V}, Rel W w x v → Cl w.n x
  | _, _, .non => by simp
  | _, _, .bl b => by simp
  | _, _, .int i => by simp
  | _, _, .str s => by simp
  | _, _, .ty n => by simp only [Cl]
  | _, _, .cls c => by simp
  | _, _, .raw a => by simp only [Cl]
  | _, _, .obj h => by simp only [Cl]; exact h
  | _, _, .tup h r => by simp only [Cl]; exact RelL.cl r
  | _, _, .scr h r => by simp only [Cl]; exact RelL.cl r
  | _, _, .exn hc h hd hl r => by simp only [Cl]; exact RelL.cl r
theorem RelL.cl {W : Wc} {w : Wd} : ∀ {x : List AV} {v : List V}, RelL W w x v → ClL w.n x
  | _, _, .nil => by simp
  | _, _, .cons h r => by simp only [ClL]; exact ⟨Rel.cl h, RelL.cl r⟩
end
mutual
theorem Rel.cut {W : Wc} {w : Wd} {n : Nat} : ∀ {x : AV} {v : V}, Rel W w x v → Cl n x → Rel W { w with n := n } x v
  | _, _, .non, _ => .non
  | _, _, .bl b, _ => .bl b
  | _, _, .int i, _ => .int i
  | _, _, .str s, _ => .str s
  | _, _, .ty n, _ => .ty n
  | _, _, .cls c, _ => .cls c
  | _, _, .raw a, _ => .raw a
  | _, _, .obj h, c => .obj (w := { w with n := n }) (by simp only [Cl] at c; exact c)
  | _, _, .tup h r, c => .tup h (RelL.cut r (by simp only [Cl] at c; exact c))
  | _, _, .scr h r, c => .scr h (RelL.cut r (by simp only [Cl] at c; exact c))
  | _, _, .exn hc h hd hl r, c => .exn hc h hd hl (RelL.cut r (by simp only [Cl] at c; exact c))
theorem RelL.cut {W : Wc} {w : Wd} {n : Nat} : ∀ {x : List AV} {v : List V}, RelL W w x v → ClL n x → RelL W { w with n := n } x v
  | _, _, .nil, _ => .nil
  | _, _, .cons h r, c => .cons (Rel.cut h (by simp only [ClL] at c; exact c.1)) (RelL.cut r (by simp only [ClL] at c; exact c.2))
end
theorem RelF.cl : ∀ {fs : List (Str × AV)} {gs : List (Str × V)}, RelF W w fs gs → ∀ p ∈ fs, Cl w.n p.2
  | _, _, .nil, p, h => by cases h
  | _, _, .cons h r, p, hp => by
    rcases List.mem_cons.mp hp with rfl | hp
    · exact h.2.cl
    · exact RelF.cl r p hp
theorem RelK.cl : ∀ {fs : List (Key × AV)} {gs : List (Key × V)}, RelK W w fs gs → ∀ p ∈ fs, Cl w.n p.2
  | _, _, .nil, p, h => by cases h
  | _, _, .cons h r, p, hp => by
    rcases List.mem_cons.mp hp with rfl | hp
    · exact h.2.cl
    · exact RelK.cl r p hp
theorem RelF.cut {n : Nat} : ∀ {fs : List (Str × AV)} {gs : List (Str × V)}, RelF W w fs gs → (∀ p ∈ fs, Cl n p.2) → RelF W { w with n := n } fs gs
  | _, _, .nil, _ => .nil
  | _, _, .cons h r, c => .cons ⟨h.1, h.2.cut (c _ List.mem_cons_self)⟩ (RelF.cut r fun p hp => c p (List.mem_cons_of_mem _ hp))
theorem RelK.cut {n : Nat} : ∀ {fs : List (Key × AV)} {gs : List (Key × V)}, RelK W w fs gs → (∀ p ∈ fs, Cl n p.2) → RelK W { w with n := n } fs gs
  | _, _, .nil, _ => .nil
  | _, _, .cons h r, c => .cons ⟨h.1, h.2.cut (c _ List.mem_cons_self)⟩ (RelK.cut r fun p hp => c p (List.mem_cons_of_mem _ hp))
theorem CRel.cl {c : Cell} {o : HO} (h : CRel W w c o) : ClC w.n c := by
  cases h with
  | lst r => exact r.cl
  | ins hc r => exact RelF.cl r
  | dic r => exact RelK.cl r
theorem CRel.cut {c : Cell} {o : HO} {n : Nat} (h : CRel W w c o) (k : ClC n c) : CRel W { w with n := n } c o := by
  cases h with
  | lst r => exact .lst (r.cut k)
  | ins hc r => exact .ins hc (RelF.cut r k)
  | dic r => exact .dic (RelK.cut r k)
end
/-- what stood is as it was, or names what stood alone -/
def Clean (s s' : Sto) : Prop := s.n ≤ s'.n ∧ ∀ i, i < s.n → s'.c i = s.c i ∨ ClC s.n (s'.c i)
def Sto.cut (s' s : Sto) : Sto := ⟨s.n, fun i => if i < s.n then s'.c i else s.c i⟩
theorem Clean.refl (s : Sto) : Clean s s := ⟨Nat.le_refl _, fun _ _ => .inl rfl⟩
theorem Clean.new {s t : Sto} {x : Cell} (h : Clean s t) : Clean s (t.new x) := ⟨Nat.le_succ_of_le h.1, fun i hi => by
  show (if i = t.n then x else t.c i) = s.c i ∨ ClC s.n (if i = t.n then x else t.c i)
  rw [if_neg (by have := h.1; omega)]
  exact h.2 i hi⟩
theorem Clean.set {s t : Sto} {i : Nat} {x : Cell} (h : Clean s t) (c : s.n ≤ i ∨ ClC s.n x) : Clean s (t.set i x) := ⟨h.1, fun j hj => by
  show (if j = i then x else t.c j) = s.c j ∨ ClC s.n (if j = i then x else t.c j)
  by_cases e : j = i
  · rw [if_pos e]
    rcases c with c | c
    · omega
    · exact .inr c
  · rw [if_neg e]
    exact h.2 j hj⟩
theorem cut_self (s : Sto) : s.cut s = s := by
  unfold Sto.cut
  simp
theorem cut_eq {s t : Sto} (h : ∀ i, i < s.n → t.c i = s.c i) : t.cut s = s := by
  unfold Sto.cut
  cases s with
  | mk n c =>
    simp only [Sto.mk.injEq, true_and]
    funext i
    by_cases hi : i < n
    · simp only [if_pos hi]; exact h i hi
    · simp only [if_neg hi]
noncomputable section
def gcR {α : Type} (cl : Nat → α → Prop) (s : Sto) : Res α → Res α
  | .ok v s' => if cl s.n v ∧ Clean s s' then .ok v (s'.cut s) else .ok v s'
  | .err c ns vs s' => if ClL s.n vs ∧ Clean s s' then .err c ns vs (s'.cut s) else .err c ns vs s'
  | .stuck => .stuck
def gcF (F : List AV → Sto → Res AV) : List AV → Sto → Res AV := fun args s => gcR Cl s (F args s)
def gcE (f : AE) : AE := fun σ s => gcR Cl s (f σ s)
def gcB (s : Sto) : Res Bool → Res Bool
  | .ok v s' => if Clean s s' then .ok v (s'.cut s) else .ok v s'
  | .err c ns vs s' => .err c ns vs s'
  | .stuck => .stuck
def gcT (f : AT) : AT := fun σ s => gcB s (f σ s)
theorem gcF_eq {F : List AV → Sto → Res AV} {args : List AV} {s s' : Sto} {v : AV} (h : F args s = .ok v s') (hv : Cl s.n v) (hc : Clean s s') : gcF F args s = .ok v (s'.cut s) := by
  unfold gcF gcR
  rw [h]
  exact if_pos ⟨hv, hc⟩
theorem gcF_raw {F : List AV → Sto → Res AV} {args : List AV} {s s' : Sto} {v : AV} (h : F args s = .ok v s') (hv : ¬ Cl s.n v) : gcF F args s = .ok v s' := by
  unfold gcF gcR
  rw [h]
  exact if_neg fun z => hv z.1
theorem gcT_eq {f : AT} {σ : ASt} {s s' : Sto} {b : Bool} (h : f σ s = .ok b s') (hc : Clean s s') : gcT f σ s = .ok b (s'.cut s) := by
  unfold gcT gcB
  rw [h]
  exact if_pos hc
section
variable {W : Wl}
theorem sim_cut {w w' : Wd} {s s' : Sto} (S : Sim W w s) (e : Ext w w') (S' : Sim W w' s') (hc : Clean s s') : Ext w { w' with n := s.n } ∧ Sim W { w' with n := s.n } (s'.cut s) := by
  have en : Ext w { w' with n := s.n } := ⟨Nat.le_of_eq S.n, e.m, e.im⟩
  refine ⟨en, rfl, fun i j hi hj q => S'.inj i j (Nat.lt_of_lt_of_le hi hc.1) (Nat.lt_of_lt_of_le hj hc.1) q, fun i hi => ?_, S'.tab, W.cl _ _ en S.inv⟩
  have hi : i < s.n := hi
  obtain ⟨o, h1, h2⟩ := S'.cell i (Nat.lt_of_lt_of_le hi hc.1)
  have ec : (s'.cut s).c i = s'.c i := if_pos hi
  refine ⟨o, h1, ?_⟩
  rw [ec]
  refine h2.cut ?_
  rcases hc.2 i hi with h | h
  · rw [h]
    obtain ⟨o', k1, k2⟩ := S.cell i hi
    rw [← S.n]
    exact k2.cl
  · exact h
theorem gc_post {w : Wd} {s : Sto} {r : Res AV} {Q : VK} {E : XK} (S : Sim W w s) (h : (gcR Cl s r).Post (OkP W w Q) (ErrP W w E)) : r.Post (OkP W w Q) (ErrP W w E) := by
  cases r with
  | ok v s' =>
    have h : (if Cl s.n v ∧ Clean s s' then .ok v (s'.cut s) else .ok v s' : Res AV).Post (OkP W w Q) (ErrP W w E) := h
    split at h
    · rename_i hc
      intro w' vc e' S' r'
      obtain ⟨k1, k2⟩ := sim_cut S e' S' hc.2
      exact (show OkP W w Q v (s'.cut s) from h) { w' with n := s.n } vc k1 k2 (r'.cut hc.1)
    · exact h
  | err c ns vs s' =>
    have h : (if ClL s.n vs ∧ Clean s s' then .err c ns vs (s'.cut s) else .err c ns vs s' : Res AV).Post (OkP W w Q) (ErrP W w E) := h
    split at h
    · rename_i hc
      intro w' d e' S' x
      obtain ⟨k1, k2⟩ := sim_cut S e' S' hc.2
      obtain ⟨x1, us, x2, x3, x4⟩ := x
      exact (show ErrP W w E c ns vs (s'.cut s) from h) { w' with n := s.n } d k1 k2 ⟨x1, us, x2, x3, x4.cut hc.1⟩
    · exact h
  | stuck => exact h
theorem spF_gc {n : Nat} {F : List AV → Sto → Res AV} {vs : List V} {H : Hp} {Q : VK} {E : XK} (h : spF W n (gcF F) vs H Q E) : spF W n F vs H Q E := by
  obtain ⟨w, s, args, e, S, R, hn, p⟩ := h
  exact ⟨w, s, args, e, S, R, hn, gc_post S p⟩
theorem DE.gc {E : L2.St → XK} {te : TE} {f : AE} (h : DE W E te f) : DE W E te (gcE f) := fun w s σ σc Q S R p => h w s σ σc Q S R (gc_post S p)
theorem DT.gc {E : L2.St → XK} {tt : TT} {f : AT} (h : DT W E tt f) : DT W E tt (gcT f) := fun w s σ σc Q S R p => by
  refine h w s σ σc Q S R ?_
  have p : (gcB s (f σ s)).Post (OkB W w Q) (ErrP W w (E σc)) := p
  cases e : f σ s with
  | ok v s' =>
    rw [e] at p
    have p : (if Clean s s' then .ok v (s'.cut s) else .ok v s' : Res Bool).Post (OkB W w Q) (ErrP W w (E σc)) := p
    split at p
    · rename_i hc
      intro w' e' S'
      obtain ⟨k1, k2⟩ := sim_cut S e' S' hc
      exact (show OkB W w Q v (s'.cut s) from p) { w' with n := s.n } k1 k2
    · exact p
  | err c ns vs s' => rw [e] at p; exact p
  | stuck => rw [e] at p; exact p
end
end
end Ab
set_option Elab.async false
set_option linter.all false
set_option maxRecDepth 100000
set_option maxHeartbeats 1000000
namespace Gx
open PySem PySem.Spec PyProof.Rows L2
end Gx
namespace Ab
open PySem PySem.Spec PyProof.Rows L2
open Classical
noncomputable section
inductive CL : List AV → List String → Prop
  | nil : CL [] []
  | ty {n : String} {xs : List AV} {bs : List String} (h : n ∈ bnames) (r : CL xs bs) : CL (.ty n :: xs) (n :: bs)
  | cls {n : String} {xs : List AV} {bs : List String} (h : n ∉ bnames) (r : CL xs bs) : CL (.cls n :: xs) (n :: bs)
end
end Ab
set_option Elab.async false
set_option linter.all false
set_option maxRecDepth 100000
set_option maxHeartbeats 4000000
namespace Gx
open PySem PySem.Spec PyProof.Rows L2
section
variable {P : Program} {w : World} {K : PySem.W.Frag} {mg mb : Str → Option Value} {k : Nat} {fa a : Addr} {cs : List (Addr × Addr)} {fd : FuncData} {x : Str} {sp : Sp} {t : Shared} {vs : List Value} {ns : List Int}
/-- the abstract heap at the law's call: the script and the tables -/
structure Hp0F (P : Program) (w : World) (K : PySem.W.Frag) (cs : List (Addr × Addr)) (a : Addr) (ns : List Int) (h : Heap) (H : Hp) : Prop where
  tab : ∀ p ∈ cs, H p.2 = some (.tbl #[])
  only : ∀ b, H b = none ∨ b ∈ cs.map (·.2) ∨ ∃ o xs, H b = some (.frz o (.lst xs))
  seq : Ab.SqF K H a (ns.map V.int)
  ok : HOk P w H h
  dom : ∀ b, H b ≠ none → b = a ∨ b ∈ cs.map (·.2)
  scr : H a ≠ none → K.lookup a = none
theorem hp0F (KX : K.In t.heap) (hT : ∀ p ∈ cs, t.heap.get? p.2 = some { cls := .none, data := .fields #[] }) (ha : t.heap.get? a = some { cls := .type "list", data := .seq vs.toArray }) (hi : IntsAre vs ns) (hl : ns.length ≤ sizeLine) :
    ∃ H, Hp0F P w K cs a ns t.heap H := by
  have rv := vals_ints hi
  have isT : ∀ b ∈ cs.map (·.2), t.heap.get? b = some { cls := .none, data := .fields #[] } := fun b hb => by
    obtain ⟨p, hp, rfl⟩ := List.mem_map.mp hb
    exact hT p hp
  have aT : a ∉ cs.map (·.2) := fun z => by
    have q := isT a z
    rw [ha] at q
    cases congrArg Obj.data (Option.some.inj q)
  have mem : ∀ p ∈ cs, p.2 ∈ cs.map (·.2) := fun p hp => List.mem_map.mpr ⟨p, hp, rfl⟩
  cases hk : K.lookup a with
  | some o =>
    have e := KX a o hk
    rw [ha] at e
    cases e
    refine ⟨fun b => if b ∈ cs.map (·.2) then some (.tbl #[]) else none, fun p hp => if_pos (mem p hp), fun b => ?_,
      .inr ⟨_, vs.toArray, _, hk, rfl, rfl, rfl, by rw [List.size_toArray, hi.length]; exact hl, by simpa using rv⟩, fun b u z => ?_, fun b z => ?_, fun z => absurd (if_neg aT) z⟩
    · by_cases hb : b ∈ cs.map (·.2)
      · exact .inr (.inl hb)
      · exact .inl (if_neg hb)
    · by_cases hb : b ∈ cs.map (·.2)
      · cases (if_pos hb).symm.trans z
        exact isT b hb
      · cases (if_neg hb).symm.trans z
    · by_cases hb : b ∈ cs.map (·.2)
      · exact .inr hb
      · exact absurd (if_neg hb) z
  | none =>
    refine ⟨fun b => if b = a then some (.frz { cls := .type "list", data := .seq vs.toArray } (.lst (ns.map V.int))) else if b ∈ cs.map (·.2) then some (.tbl #[]) else none,
      fun p hp => ?_, fun b => ?_, .inl ⟨{ cls := .type "list", data := .seq vs.toArray }, if_pos rfl⟩, fun b u z => ?_, fun b z => ?_, fun _ => hk⟩
    · have np : ¬ p.2 = a := fun z => aT (z ▸ mem p hp)
      exact (if_neg np).trans (if_pos (mem p hp))
    · by_cases hb : b = a
      · exact .inr (.inr ⟨_, _, if_pos hb⟩)
      · by_cases hc : b ∈ cs.map (·.2)
        · exact .inr (.inl hc)
        · exact .inl ((if_neg hb).trans (if_neg hc))
    · by_cases hb : b = a
      · cases (if_pos hb).symm.trans z
        subst hb
        exact ⟨ha, by rw [List.length_map]; exact hl, vs, _, rv, ha⟩
      · have z1 := (if_neg hb).symm.trans z
        by_cases hc : b ∈ cs.map (·.2)
        · cases (if_pos hc).symm.trans z1
          exact isT b hc
        · cases (if_neg hc).symm.trans z1
    · by_cases hb : b = a
      · exact .inl hb
      · by_cases hc : b ∈ cs.map (·.2)
        · exact .inr hc
        · exact absurd ((if_neg hb).trans (if_neg hc)) z
theorem callF (KX : K.In t.heap) (hns : t.heap.Ns mainGlobals mg) (hb : t.heap.Ns builtinsNs mb) (hbb : ∀ x : Str, x ≠ "__name__" → mb x = bootBuiltins x) (hlim : t.heap.NoLimit) (hg : t.gens = #[])
    (hT : ∀ p ∈ cs, t.heap.get? p.2 = some { cls := .none, data := .fields #[] }) (nT : ∀ p ∈ cs, K.lookup p.2 = none) (C : ∀ p ∈ cs, PySem.W.CodeHd t.heap p.1 p.2)
    (hbm : ∃ (bm : Addr) (ob : Obj), mg "__builtins__" = some (.ref bm) ∧ bm ≠ builtinsNs ∧ t.heap.get? bm = some ob ∧ ob.cls = .type "module" ∧ ob.dict = some builtinsNs ∧ ob.data = .plain)
    (ha : t.heap.get? a = some { cls := .type "list", data := .seq vs.toArray }) (hi : IntsAre vs ns) (hl : ns.length ≤ sizeLine) (hr : Room k callerA)
    (F : ∀ base : Heap, K.In base → base.Ns mainGlobals mg → (∀ p ∈ cs, LamX.TabB base mg p.1 p.2) → FnG P w K mg base k fa fd [x] sp) (hbind : ∀ (s : Shared) (u : Value), BindsTo s fd ⟨[u], []⟩ [(x, u)])
    (hsp : ∀ H : Hp, (∀ p ∈ cs, H p.2 = some (.tbl #[])) → Ab.SqF K H a (ns.map V.int) → sp [.ref a] H (fun v _ => v = .bl true) C8.E0) :
    codeAny (model P w) callerA (.call (.ref fa) ⟨[.ref a], []⟩) (fun r s' => r = .ok (.ret (.bool true)) ∧ OldK t.heap s'.heap ∧ s'.os = t.os ∧ AllBare s'.gens) t := by
  obtain ⟨H, Z⟩ := hp0F (P := P) (w := w) KX hT ha hi hl
  have see : ∀ {b : Addr} {o : Obj}, t.heap.get? b = some o → H b = none → (hidT t.heap H).get? b = some o := fun e n => hidT_get e n
  -- what is neither a list nor a table is not tracked
  have off : ∀ {b : Addr} {o : Obj}, t.heap.get? b = some o → (∀ ws n, o.data ≠ .seq ws n) → o.data ≠ .fields #[] → H b = none := fun {b o} e h1 h2 => by
    cases q : H b with
    | none => rfl
    | some u =>
      rcases Z.dom b (by rw [q]; simp) with e1 | e1
      · rw [e1, ha] at e
        cases e
        exact (h1 _ _ rfl).elim
      · obtain ⟨p, hp, rfl⟩ := List.mem_map.mp e1
        rw [hT p hp] at e
        cases e
        exact (h2 rfl).elim
  have offD : ∀ {b : Addr} {o : Obj} {es : Array DictEntry} {ep : Nat}, t.heap.get? b = some o → o.data = .dict es ep → H b = none := fun {b o es ep} e d =>
    off e (fun ws n z => by rw [d] at z; cases z) (fun z => by rw [d] at z; cases z)
  have nsOk : ∀ {b : Addr} {m : Str → Option Value}, t.heap.Ns b m → (hidT t.heap H).Ns b m := fun {b m} hh => by
    obtain ⟨o, es, ep, e, d, r⟩ := hh
    exact ⟨o, es, ep, see e (offD e d), d, r⟩
  have kOk : K.In (hidT t.heap H) := fun b o e => by
    refine see (KX b o e) ?_
    cases q : H b with
    | none => rfl
    | some u =>
      rcases Z.dom b (by rw [q]; simp) with e1 | e1
      · subst e1
        rw [Z.scr (by rw [q]; simp)] at e
        cases e
      · obtain ⟨p, hp, rfl⟩ := List.mem_map.mp e1
        rw [nT p hp] at e
        cases e
  have lim : (hidT t.heap H).NoLimit := by
    obtain ⟨mc, h1, h2⟩ := hlim
    exact ⟨mc, nsOk h1, h2⟩
  have hM : L2.Mod K mg (hidT t.heap H) := ⟨kOk, nsOk hns, ⟨mb, nsOk hb, hbb⟩, lim⟩
  have TB : ∀ p ∈ cs, LamX.TabB (hidT t.heap H) mg p.1 p.2 := fun p hp => by
    have hp2 := hT p hp
    refine ⟨?_, ?_, fun z => ?_⟩
    · obtain ⟨o, us, file, tf, flags, tg, inF, text, tt, e1, r1, r2, r3, r4, r5, r6, r7, r8, hne⟩ := C p hp
      refine ⟨o, us, file, tf, flags, tg, inF, text, tt, see e1 (off e1 (fun ws n z => ?_) fun z => ?_), r1, r2, r3, r4, r5, r6, r7, r8, hne⟩
      · rw [r2] at z; cases z
      · rw [r2] at z; cases z; simp at r3
    · obtain ⟨bm, ob, b1, b2, b3, b4, b5, b6⟩ := hbm
      refine ⟨bm, ob, b1, b2, fun q => ?_, fun q => ?_, see b3 (off b3 (fun ws n z => ?_) fun z => ?_), b4, b5, b6⟩
      · obtain ⟨o, es, ep, e, hd, _⟩ := hns
        rw [q, e] at b3; cases b3; rw [hd] at b6; cases b6
      · rw [q, hp2] at b3; cases b3; cases b6
      · rw [b6] at z; cases z
      · rw [b6] at z; cases z
    · obtain ⟨o, es, ep, e, hd, _⟩ := hns
      rw [z, hp2] at e; cases e; cases hd
  have nil : ∀ b : Addr, b ∉ ([] : List Addr) := fun b z => by simp at z
  have e0 : Env0 P w K mg (hidT t.heap H) callerA [] t H := ⟨rfl, hM, fun b o e => of_hidT e, Nat.le_of_eq (hidT_size _ _), trivial, fun b z => absurd z (nil b), Z.ok, .of_eq hg⟩
  have go := (F _ kOk (nsOk hns) TB).run callerA [] t H ⟨[.ref a], []⟩ [.ref a] [.ref a] _ rfl hr e0 (hbind t (.ref a)) (.cons rfl .nil) (hsp H Z.tab Z.seq)
  refine codeAny_mono go fun res s2 hres => ?_
  match res, hres with
  | .ok .next, h => exact h.elim
  | .ok .brk, h => exact h.elim
  | .ok .cont, h => exact h.elim
  | .error e, h => exact (show False from h).elim
  | .ok (.ret u), h =>
    obtain ⟨v, H', os, bare, un, ok2, r', q⟩ := h
    obtain rfl : v = .bl true := q
    obtain rfl : u = Value.bool true := r'
    have same : ∀ b o, b ∉ cs.map (·.2) → t.heap.get? b = some o → s2.heap.get? b = some o := fun b o nb e => by
      rcases Z.only b with z | z | ⟨ob, xs, z⟩
      · exact un.keep b o e z (nil b) (nil b)
      · exact absurd z nb
      · obtain ⟨e1, _⟩ := Z.ok b _ z
        obtain ⟨e2, _⟩ := ok2 b _ (un.frzs b ob _ z)
        rw [e] at e1
        cases e1
        exact e2
    have grown : ∀ p ∈ cs, ∃ more : Array Value, s2.heap.get? p.2 = some { cls := .none, data := .fields more } := fun p hp => by
      obtain ⟨more, z⟩ := un.tbls p.2 #[] (Z.tab p hp)
      exact ⟨_, ok2 p.2 _ z⟩
    refine ⟨rfl, ⟨fun b o e => ?_, fun b o e => ?_⟩, os, bare⟩
    · by_cases hb : b ∈ cs.map (·.2)
      · obtain ⟨p, hp, rfl⟩ := List.mem_map.mp hb
        obtain ⟨more, hm⟩ := grown p hp
        rw [hT p hp] at e
        cases e
        exact .inr (.inl ⟨((C p hp).tab (hT p hp)).isCodeTable, rfl, #[], more, rfl, by rw [Array.empty_append]; exact hm⟩)
      · exact .inl (same b o hb e)
    · by_cases hb : b ∈ cs.map (·.2)
      · obtain ⟨p, hp, rfl⟩ := List.mem_map.mp hb
        obtain ⟨more, hm⟩ := grown p hp
        exact ⟨_, hm⟩
      · exact ⟨o, same b o hb e⟩
end
/-- what is known of the law's promise -/
def LawF (l : PySem.W.OpenLaw) (w : World) (K : PySem.W.Frag) (k : Nat) (x : Str) (mg : Str → Option Value) (fa : Addr) (h : Heap) : Prop :=
  ∃ (fd : FuncData) (cs : List (Addr × Addr)) (sp : Sp), (∀ p ∈ cs, h.get? p.2 = some { cls := .none, data := .fields #[] }) ∧ (∀ p ∈ cs, K.lookup p.2 = none) ∧ (∀ p ∈ cs, PySem.W.CodeHd h p.1 p.2) ∧
    (∀ (s : Shared) (u : Value), BindsTo s fd ⟨[u], []⟩ [(x, u)]) ∧
    (∀ (H : Hp) (a : Addr) (ns : List Int), ns.length ≤ 63 → (∀ z ∈ ns, Builtin.Int.intBits z ≤ 1048576) → (∀ p ∈ cs, H p.2 = some (.tbl #[])) → Ab.SqF K H a (ns.map V.int) → sp [.ref a] H (fun v _ => v = .bl true) C8.E0) ∧
    ∀ base : Heap, K.In base → base.Ns mainGlobals mg → (∀ p ∈ cs, LamX.TabB base mg p.1 p.2) → FnG l.prog w K mg base k fa fd [x] sp
theorem walkF {l : PySem.W.OpenLaw} {k : Nat} {q : Program} {loose : List Str} {XP : (Str → Option Value) → Heap → Prop} {YP : World → Heap → Prop} {d : DefRec} {K : Params → PySem.W.Frag} {x : Str}
    (hn : l.most = some 63) (hdf : d.params.defaults = []) (hr : Room k callerA) (hY : ∀ (w : World) (h : Heap), YP w h → (K w.params).In h)
    (F : ∀ (w : World) (mg : Str → Option Value) (fa : Addr) (h : Heap), YP w h → (K w.params).In h → h.Ns mainGlobals mg → mg d.name = some (.ref fa) → LawF l w (K w.params) k x mg fa h) :
    PySem.W.WalkO q loose XP YP l.row.toRowW d [] (fun f vs => PySem.call f vs) := by
  refine Att.attach_callB hn hdf ?_
  intro w s0 t mg mb fa o pm cd doc a vs ns G Y ho hd hcd hmg hobj hints hlen hbits hg
  have KX := hY w _ Y
  obtain ⟨fd, cs, sp, hT, nT, C, hb, hsp, hF⟩ := F w mg fa _ Y KX G.T.g hmg
  exact callF KX G.T.g G.T.b G.T.builtins G.T.nolimit hg hT nT C G.T.bmain hobj hints (Nat.le_trans hlen (by decide)) hr hF hb fun H hH hS => hsp H a ns hlen hbits hH hS
end Gx
set_option Elab.async false
set_option linter.all false
set_option maxRecDepth 100000
set_option maxHeartbeats 1000000
namespace Ab
open PySem PySem.Spec PyProof.Rows L2
theorem gc0 {F : List AV → Sto → Res AV} {args : List AV} {s : Sto} {v : AV} (h : F args s = .ok v s) (hv : Cl s.n v) : gcF F args s = .ok v s := by
  rw [gcF_eq h hv (.refl s), cut_self]
theorem gc1 {F : List AV → Sto → Res AV} {args : List AV} {s s' : Sto} {v : AV} (h : F args s = .ok v s') (hv : Cl s.n v) (hc : Clean s s') (e : s'.cut s = s) : gcF F args s = .ok v s := by
  rw [gcF_eq h hv hc, e]
theorem gcT0 {f : AT} {σ : ASt} {s s' : Sto} {b : Bool} (h : f σ s = .ok b s') (hc : Clean s s') (e : s'.cut s = s) : gcT f σ s = .ok b s := by
  rw [gcT_eq h hc, e]
@[simp] theorem Sto.new_n {s : Sto} {x : Cell} : (s.new x).n = s.n + 1 := rfl
@[simp] theorem Sto.set_n {s : Sto} {i : Nat} {x : Cell} : (s.set i x).n = s.n := rfl
@[simp] theorem Sto.new_at {s : Sto} {x : Cell} : (s.new x).c s.n = x := if_pos rfl
@[simp] theorem Sto.set_at {s : Sto} {x : Cell} {i : Nat} : (s.set i x).c i = x := if_pos rfl
theorem Sto.set_ne {s : Sto} {x : Cell} {i j : Nat} (h : j ≠ i) : (s.set i x).c j = s.c j := if_neg h
end Ab
namespace Ab
open PySem PySem.Spec PyProof.Rows L2
/-- a small number of things -/
theorem sizeLine_ge {n : Nat} : ((n ≤ sizeLine) = (n ≤ sizeLine)) := rfl
theorem kz : True = True := rfl
@[simp] theorem lookA_hd {f : Str} {v : AV} {r : List (Str × AV)} : lookA f ((f, v) :: r) = some v := if_pos rfl
end Ab
set_option Elab.async false
set_option linter.all false
set_option maxRecDepth 100000
set_option maxHeartbeats 1000000
namespace Ab
open PySem PySem.Spec PyProof.Rows L2
open Classical
structure Dn where
  nx : ASt → Sto → Prop
  rt : AV → Sto → Prop
  bk : ASt → Sto → Prop
  ct : ASt → Sto → Prop
  er : String → List Str → List AV → ASt → Sto → Prop
def SRes.A : SRes → Dn → Prop
  | .nx σ s, D => D.nx σ s
  | .rt v s, D => D.rt v s
  | .bk σ s, D => D.bk σ s
  | .ct σ s, D => D.ct σ s
  | .err c ns vs σ s, D => D.er c ns vs σ s
  | .stuck, _ => False
section
variable {α β : Type} {r r' : Res α} {P : α → Sto → Prop} {R : String → List Str → List AV → Sto → Prop} {q q' : SRes} {D : Dn}
theorem post_ok {a : α} {s : Sto} : (Res.ok a s).Post P R ↔ P a s := Iff.rfl
theorem post_err {c : String} {ns : List Str} {vs : List AV} {s : Sto} : (Res.err c ns vs s : Res α).Post P R ↔ R c ns vs s := Iff.rfl
theorem A_nx {σ : ASt} {s : Sto} : (SRes.nx σ s).A D ↔ D.nx σ s := Iff.rfl
theorem A_rt {v : AV} {s : Sto} : (SRes.rt v s).A D ↔ D.rt v s := Iff.rfl
theorem A_bk {σ : ASt} {s : Sto} : (SRes.bk σ s).A D ↔ D.bk σ s := Iff.rfl
theorem A_ct {σ : ASt} {s : Sto} : (SRes.ct σ s).A D ↔ D.ct σ s := Iff.rfl
theorem A_err {c : String} {ns : List Str} {vs : List AV} {σ : ASt} {s : Sto} : (SRes.err c ns vs σ s).A D ↔ D.er c ns vs σ s := Iff.rfl
theorem A_thn {f : AS} : (q.thn f).A D ↔ q.A ⟨fun σ s => (f σ s).A D, D.rt, D.bk, D.ct, D.er⟩ := by cases q <;> exact Iff.rfl
theorem A_st {σ : ASt} {k : α → Sto → SRes} : (r.st σ k).A D ↔ r.Post (fun a s => (k a s).A D) (fun c ns vs s => D.er c ns vs σ s) := by cases r <;> exact Iff.rfl
theorem A_loop {f : AS} : (q.loop f).A D ↔ q.A ⟨fun σ s => (f σ s).A D, D.rt, D.nx, fun σ s => (f σ s).A D, D.er⟩ := by cases q <;> exact Iff.rfl
theorem post_fn {q : SRes} {P : AV → Sto → Prop} : q.fn.Post P R ↔ q.A ⟨fun _ s => P .non s, P, fun _ _ => False, fun _ _ => False, fun c ns vs _ s => R c ns vs s⟩ := by cases q <;> exact Iff.rfl
theorem A_forget {n : Nat} : (q.forget n).A D ↔ q.A ⟨D.nx, D.rt, D.bk, D.ct, fun c ns vs _ s => D.er c ns vs (List.replicate n none) s⟩ := by cases q <;> exact Iff.rfl
theorem A_clr {i : Nat} : (q.clr i).A D ↔ q.A ⟨fun σ s => D.nx (σ.set i none) s, D.rt, fun σ s => D.bk (σ.set i none) s, fun σ s => D.ct (σ.set i none) s, fun _ _ _ _ _ => False⟩ := by cases q <;> exact Iff.rfl
theorem A_noX : q.noX.A D ↔ q.A ⟨D.nx, D.rt, D.bk, D.ct, fun _ _ _ _ _ => False⟩ := by cases q <;> exact Iff.rfl
theorem A_try {f : AS} {hs : List HdA} {σ : ASt} {s : Sto} : (aTry f hs σ s).A D ↔ (f σ s).A ⟨D.nx, D.rt, D.bk, D.ct, fun c ns vs σ' s' => (aHand c ns vs σ' s' hs).A D⟩ := by
  unfold aTry
  cases f σ s <;> exact Iff.rfl
theorem post_noErr : (noErr r).Post P R ↔ r.Post P (fun _ _ _ _ => False) := by cases r <;> exact Iff.rfl
theorem post_ite {c : Prop} [Decidable c] {a b : Res α} : (if c then a else b).Post P R ↔ (c → a.Post P R) ∧ (¬ c → b.Post P R) := by
  by_cases h : c
  · simp [h]
  · simp [h]
theorem A_ite {c : Prop} [Decidable c] {a b : SRes} : (if c then a else b).A D ↔ (c → a.A D) ∧ (¬ c → b.A D) := by
  by_cases h : c
  · simp [h]
  · simp [h]
end
@[simp] theorem Clean_refl (s : Sto) : Clean s s = True := eq_true (.refl s)
/-- a cell of a store that grew -/
theorem at_new {s : Sto} {x : Cell} {i : Nat} (h : i < s.n) : (s.new x).c i = s.c i := if_neg (Nat.ne_of_lt h)
section
variable {P : AV → Sto → Prop} {R : String → List Str → List AV → Sto → Prop}
theorem post_gcF {F : List AV → Sto → Res AV} {args : List AV} {s : Sto} : (gcF F args s).Post P R ↔ (F args s).Post (fun v s' => if Cl s.n v ∧ Clean s s' then P v (s'.cut s) else P v s') (fun c ns vs s' => if ClL s.n vs ∧ Clean s s' then R c ns vs (s'.cut s) else R c ns vs s') := by
  unfold gcF gcR
  cases F args s with
  | ok v s' =>
    show (if Cl s.n v ∧ Clean s s' then (Res.ok v (s'.cut s) : Res AV) else .ok v s').Post P R ↔ if Cl s.n v ∧ Clean s s' then P v (s'.cut s) else P v s'
    split <;> exact Iff.rfl
  | err c ns vs s' =>
    show (if ClL s.n vs ∧ Clean s s' then (Res.err c ns vs (s'.cut s) : Res AV) else .err c ns vs s').Post P R ↔ if ClL s.n vs ∧ Clean s s' then R c ns vs (s'.cut s) else R c ns vs s'
    split <;> exact Iff.rfl
  | stuck => exact Iff.rfl
theorem post_gcE {f : AE} {σ : ASt} {s : Sto} : (gcE f σ s).Post P R ↔ (f σ s).Post (fun v s' => if Cl s.n v ∧ Clean s s' then P v (s'.cut s) else P v s') (fun c ns vs s' => if ClL s.n vs ∧ Clean s s' then R c ns vs (s'.cut s) else R c ns vs s') := by
  unfold gcE gcR
  cases f σ s with
  | ok v s' =>
    show (if Cl s.n v ∧ Clean s s' then (Res.ok v (s'.cut s) : Res AV) else .ok v s').Post P R ↔ if Cl s.n v ∧ Clean s s' then P v (s'.cut s) else P v s'
    split <;> exact Iff.rfl
  | err c ns vs s' =>
    show (if ClL s.n vs ∧ Clean s s' then (Res.err c ns vs (s'.cut s) : Res AV) else .err c ns vs s').Post P R ↔ if ClL s.n vs ∧ Clean s s' then R c ns vs (s'.cut s) else R c ns vs s'
    split <;> exact Iff.rfl
  | stuck => exact Iff.rfl
theorem post_gcT {f : AT} {P : Bool → Sto → Prop} {σ : ASt} {s : Sto} : (gcT f σ s).Post P R ↔ (f σ s).Post (fun v s' => if Clean s s' then P v (s'.cut s) else P v s') R := by
  unfold gcT gcB
  cases f σ s with
  | ok v s' =>
    show (if Clean s s' then (Res.ok v (s'.cut s) : Res Bool) else .ok v s').Post P R ↔ if Clean s s' then P v (s'.cut s) else P v s'
    split <;> exact Iff.rfl
  | err c ns vs s' => exact Iff.rfl
  | stuck => exact Iff.rfl
/-- what a def returns, as an equation -/
theorem res_ok {r : Res AV} {v : AV} {s : Sto} (h : r.Post (fun v' s' => v' = v ∧ s' = s) (fun _ _ _ _ => False)) : r = .ok v s := by
  cases r with
  | ok v' s' => obtain ⟨rfl, rfl⟩ := h; rfl
  | err => exact h.elim
  | stuck => exact h.elim
end
theorem forI_A {G : Sto → Prop} {g : AV → AS} {b : AS} {D : Dn} (I : Nat → ASt → Sto → Prop) : ∀ (xs : List AV) (k : Nat) {σ : ASt} {s : Sto}, I k σ s →
    (∀ i x σ s, xs[i]? = some x → I (k + i) σ s → G s ∧ (aSeq (g x) b σ s).A ⟨I (k + i + 1), D.rt, D.nx, I (k + i + 1), D.er⟩) → (∀ σ s, I (k + xs.length) σ s → G s ∧ D.nx σ s) → (forI G g b xs σ s).A D
  | [], k, σ, s, h, st, fin => by
    obtain ⟨g, h⟩ := fin σ s h
    rw [forI_nil g]
    exact h
  | x :: xs, k, σ, s, h, st, fin => by
    obtain ⟨g0, h0⟩ := st 0 x σ s rfl h
    rw [forI_cons g0, A_loop]
    have nxt : ∀ σ s, I (k + 1) σ s → (forI G g b xs σ s).A D := fun σ s h => forI_A I xs (k + 1) h (fun i y σ s e hI => by
      have := st (i + 1) y σ s (by simpa using e) (by rw [show k + (i + 1) = k + 1 + i by omega]; exact hI)
      rw [show k + (i + 1) = k + 1 + i by omega] at this
      exact this) (fun σ s hI => fin σ s (by rw [List.length_cons, show k + (xs.length + 1) = k + 1 + xs.length by omega]; exact hI))
    cases e : aSeq (g x) b σ s with
    | nx σ' s' => rw [e] at h0; exact nxt _ _ h0
    | ct σ' s' => rw [e] at h0; exact nxt _ _ h0
    | bk σ' s' => rw [e] at h0; exact h0
    | rt v s' => rw [e] at h0; exact h0
    | err c ns vs σ' s' => rw [e] at h0; exact h0
    | stuck => rw [e] at h0; exact h0
/-- a loop, its turns counted -/
theorem for_A {G : Sto → Prop} {g : AV → AS} {b : AS} {D : Dn} {xs : List AV} {σ : ASt} {s : Sto} (I : Nat → ASt → Sto → Prop) (h : I 0 σ s)
    (st : ∀ i x σ s, xs[i]? = some x → I i σ s → G s ∧ (aSeq (g x) b σ s).A ⟨I (i + 1), D.rt, D.nx, I (i + 1), D.er⟩) (fin : ∀ σ s, I xs.length σ s → G s ∧ D.nx σ s) : (forI G g b xs σ s).A D :=
  forI_A I xs 0 h (fun i x σ s e hI => by rw [Nat.zero_add] at hI ⊢; exact st i x σ s e hI) (fun σ s hI => fin σ s (by rw [Nat.zero_add] at hI; exact hI))
theorem rngA_get {lo : Int} {n i : Nat} {x : AV} (h : (rngA lo n)[i]? = some x) : i < n ∧ x = .int (lo + i) := by
  unfold rngA at h
  rw [List.getElem?_map] at h
  by_cases hi : i < n
  · rw [List.getElem?_range hi] at h
    exact ⟨hi, (Option.some.inj h).symm⟩
  · rw [List.getElem?_eq_none (by rw [List.length_range]; omega)] at h
    cases h
theorem rngA_len {lo : Int} {n : Nat} : (rngA lo n).length = n := by
  unfold rngA
  rw [List.length_map, List.length_range]
theorem enumA_get {xs : List AV} {i : Nat} {x : AV} (h : (enumA xs)[i]? = some x) : ∃ y, xs[i]? = some y ∧ x = .tup [.int i, y] := by
  unfold enumA at h
  rw [List.getElem?_mapIdx] at h
  cases e : xs[i]? with
  | none => rw [e] at h; cases h
  | some y => rw [e] at h; exact ⟨y, rfl, (Option.some.inj h).symm⟩
/-- for x in range(n) -/
theorem for_rng {G : Sto → Prop} {g : AV → AS} {b : AS} {D : Dn} {n : Nat} {lo : Int} {σ : ASt} {s : Sto} (I : Nat → ASt → Sto → Prop) (h : I 0 σ s)
    (st : ∀ (i : Nat) σ s, i < n → I i σ s → G s ∧ (aSeq (g (.int (lo + i))) b σ s).A ⟨I (i + 1), D.rt, D.nx, I (i + 1), D.er⟩) (fin : ∀ σ s, I n σ s → G s ∧ D.nx σ s) : (forI G g b (rngA lo n) σ s).A D :=
  for_A I h (fun i x σ s e hI => by
    obtain ⟨hi, rfl⟩ := rngA_get e
    exact st i σ s hi hI) (fun σ s hI => fin σ s (by rw [rngA_len] at hI; exact hI))
/-- [.. for x in ..]: the rows are told one by one -/
theorem lcI_P {k : Nat} {G : Sto → Prop} {g : AV → AS} {ft : AT} {fe : AE} {σ0 : ASt} {P : AV → Sto → Prop} {R : String → List Str → List AV → Sto → Prop} (I : Nat → List AV → Sto → Prop) : ∀ (xs : List AV) (j : Nat) (acc : List AV) {s : Sto}, I j acc s → s.c k = .lst acc → acc.length + xs.length ≤ sizeLine →
    (∀ i x acc s, xs[i]? = some x → I (j + i) acc s → s.c k = .lst acc → G s ∧ (g x σ0 s).A ⟨fun σ2 s2 => (ft σ2 s2).Post (fun b s3 => (b = true → (fe σ2 s3).Post (fun y s4 => s4.c k = .lst acc ∧ I (j + i + 1) (acc ++ [y]) (s4.set k (.lst (acc ++ [y])))) (fun _ _ _ _ => False)) ∧ (b = false → s3.c k = .lst acc ∧ I (j + i + 1) acc s3)) (fun _ _ _ _ => False), fun _ _ => False, fun _ _ => False, fun _ _ => False, fun _ _ _ _ _ => False⟩) →
    (∀ acc s, I (j + xs.length) acc s → s.c k = .lst acc → G s ∧ P (.obj k) s) → (oObj k (lcI k G g ft fe σ0 xs s)).Post P R
  | [], j, acc, s, h, hk, hl, st, fin => by
    obtain ⟨g0, h0⟩ := fin acc s h hk
    rw [show lcI k G g ft fe σ0 [] s = some s from if_pos g0]
    exact h0
  | x :: xs, j, acc, s, h, hk, hl, st, fin => by
    obtain ⟨g0, h0⟩ := st 0 x acc s rfl h hk
    have hl' : acc.length + xs.length + 1 ≤ sizeLine := by simpa [Nat.add_assoc] using hl
    have nxt : ∀ acc' s', acc'.length ≤ acc.length + 1 → I (j + 1) acc' s' → s'.c k = .lst acc' → (oObj k (lcI k G g ft fe σ0 xs s')).Post P R := fun acc' s' hl2 h hk =>
      lcI_P I xs (j + 1) acc' h hk (by omega) (fun i y acc s e hI hk => by
        have := st (i + 1) y acc s (by simpa using e) (by rw [show j + (i + 1) = j + 1 + i by omega]; exact hI) hk
        rw [show j + (i + 1) = j + 1 + i by omega] at this
        exact this) (fun acc s hI hk => fin acc s (by rw [List.length_cons, show j + (xs.length + 1) = j + 1 + xs.length by omega]; exact hI) hk)
    rw [show lcI k G g ft fe σ0 (x :: xs) s = (match g x σ0 s with
      | .nx σ2 s2 => (match ft σ2 s2 with
        | .ok true s3 => (match fe σ2 s3 with
          | .ok y s4 => (match s4.c k with | .lst acc => if acc.length < sizeLine then lcI k G g ft fe σ0 xs (s4.set k (.lst (acc ++ [y]))) else none | _ => none)
          | _ => none)
        | .ok false s3 => lcI k G g ft fe σ0 xs s3
        | _ => none)
      | _ => none) from if_pos g0]
    cases e : g x σ0 s with
    | nx σ2 s2 =>
      rw [e] at h0
      have h0 : (ft σ2 s2).Post _ _ := h0
      cases e2 : ft σ2 s2 with
      | ok b s3 =>
        rw [e2] at h0
        cases b with
        | true =>
          have h1 := h0.1 rfl
          cases e3 : fe σ2 s3 with
          | ok y s4 =>
            rw [e3] at h1
            obtain ⟨k1, k2⟩ := h1
            simp only [e2, e3, k1]
            rw [if_pos (by omega)]
            exact nxt _ _ (by simp) k2 Sto.set_at
          | err => rw [e3] at h1; exact h1.elim
          | stuck => rw [e3] at h1; exact h1.elim
        | false =>
          obtain ⟨k1, k2⟩ := h0.2 rfl
          simp only [e2]
          exact nxt _ _ (Nat.le_succ _) k2 k1
      | err => rw [e2] at h0; exact h0.elim
      | stuck => rw [e2] at h0; exact h0.elim
    | rt => rw [e] at h0; exact h0.elim
    | bk => rw [e] at h0; exact h0.elim
    | ct => rw [e] at h0; exact h0.elim
    | err => rw [e] at h0; exact h0.elim
    | stuck => rw [e] at h0; exact h0.elim
/-- while: the turns that are left -/
theorem whileN_A {c : AT} {b : AS} {D : Dn} (I : Nat → ASt → Sto → Prop) (st : ∀ n σ s, I n σ s → (c σ s).Post (fun r s1 => (r = true → (b σ s1).A ⟨fun σ s => ∃ m, m < n ∧ I m σ s, D.rt, D.nx, fun σ s => ∃ m, m < n ∧ I m σ s, D.er⟩) ∧ (r = false → D.nx σ s1)) (fun c ns vs s => D.er c ns vs σ s)) :
    ∀ (n : Nat) (σ : ASt) (s : Sto), I n σ s → ∃ k, (whileN c b k σ s).A D := fun n => by
  induction n using Nat.strongRecOn with
  | _ n ih =>
    intro σ s h
    have h0 := st n σ s h
    cases e : c σ s with
    | ok r s1 =>
      rw [e] at h0
      cases r with
      | false =>
        refine ⟨1, ?_⟩
        show ((c σ s).st σ fun r s1 => if r = true then (b σ s1).loop (whileN c b 0) else .nx σ s1).A D
        rw [e]
        exact h0.2 rfl
      | true =>
        have h1 := h0.1 rfl
        have big : ∀ (k : Nat), ((b σ s1).loop (whileN c b k)).A D → ∃ k, (whileN c b k σ s).A D := fun k hk => ⟨k + 1, by
          show ((c σ s).st σ fun r s1 => if r = true then (b σ s1).loop (whileN c b k) else .nx σ s1).A D
          rw [e]
          exact hk⟩
        cases e1 : b σ s1 with
        | nx σ' s' =>
          rw [e1] at h1
          obtain ⟨m, hm, hI⟩ := h1
          obtain ⟨k, hk⟩ := ih m hm σ' s' hI
          exact big k (by rw [e1]; exact hk)
        | ct σ' s' =>
          rw [e1] at h1
          obtain ⟨m, hm, hI⟩ := h1
          obtain ⟨k, hk⟩ := ih m hm σ' s' hI
          exact big k (by rw [e1]; exact hk)
        | bk σ' s' => rw [e1] at h1; exact big 0 (by rw [e1]; exact h1)
        | rt v s' => rw [e1] at h1; exact big 0 (by rw [e1]; exact h1)
        | err c ns vs σ' s' => rw [e1] at h1; exact big 0 (by rw [e1]; exact h1)
        | stuck => rw [e1] at h1; exact h1.elim
    | err c' ns vs s1 =>
      rw [e] at h0
      refine ⟨1, ?_⟩
      show ((c σ s).st σ fun r s1 => if r = true then (b σ s1).loop (whileN c b 0) else .nx σ s1).A D
      rw [e]
      exact h0
    | stuck => rw [e] at h0; exact h0.elim
theorem A_ne {q : SRes} {D : Dn} (h : q.A D) : q ≠ .stuck := fun e => by rw [e] at h; exact h
theorem whileN_le {c : AT} {b : AS} {k : Nat} {σ : ASt} {s : Sto} (h : whileN c b k σ s ≠ .stuck) : ∀ m, whileN c b (k + m) σ s = whileN c b k σ s
  | 0 => rfl
  | m + 1 => by
    have ih := whileN_le h m
    rw [← ih, show k + (m + 1) = k + m + 1 from rfl]
    exact whileN_succ _ _ _ (by rw [ih]; exact h)
theorem while_A {c : AT} {b : AS} {D : Dn} {σ : ASt} {s : Sto} (I : Nat → ASt → Sto → Prop) (n : Nat) (h : I n σ s) (st : ∀ n σ s, I n σ s → (c σ s).Post (fun r s1 => (r = true → (b σ s1).A ⟨fun σ s => ∃ m, m < n ∧ I m σ s, D.rt, D.nx, fun σ s => ∃ m, m < n ∧ I m σ s, D.er⟩) ∧ (r = false → D.nx σ s1)) (fun c ns vs s => D.er c ns vs σ s)) :
    (aWhile c b σ s).A D := by
  obtain ⟨k, hk⟩ := whileN_A I st n σ s h
  have hx : ∃ k, whileN c b k σ s ≠ .stuck := ⟨k, A_ne hk⟩
  unfold aWhile
  rw [dif_pos hx]
  have hc := Classical.choose_spec hx
  rcases Nat.le_total (Classical.choose hx) k with hle | hle
  · have := whileN_le hc (k - Classical.choose hx)
    rw [Nat.add_sub_cancel' hle] at this
    rw [← this]
    exact hk
  · have := whileN_le (A_ne hk) (Classical.choose hx - k)
    rw [Nat.add_sub_cancel' hle] at this
    rw [this]
    exact hk
/-- an index in bounds, of a row whose values are alike -/
theorem atI_all {xs : List AV} {i : Int} (h0 : 0 ≤ i) (h1 : i < xs.length) : ∃ x, x ∈ xs ∧ atI xs i = some x := by
  obtain ⟨j, rfl⟩ := Int.eq_ofNat_of_zero_le h0
  have hi : j < xs.length := by omega
  exact ⟨xs[j], List.getElem_mem hi, atI_nat (List.getElem?_eq_getElem hi)⟩
/-- nothing that stood has changed -/
structure Gb (s s' : Sto) : Prop where
  n : s.n ≤ s'.n
  c : ∀ i, i < s.n → s'.c i = s.c i
theorem Gb.refl (s : Sto) : Gb s s := ⟨Nat.le_refl _, fun _ _ => rfl⟩
theorem Gb.trans {s t u : Sto} (a : Gb s t) (b : Gb t u) : Gb s u := ⟨Nat.le_trans a.n b.n, fun i h => (b.c i (Nat.lt_of_lt_of_le h a.n)).trans (a.c i h)⟩
theorem Gb.new {s t : Sto} {x : Cell} (a : Gb s t) : Gb s (t.new x) := a.trans ⟨Nat.le_succ _, fun i h => at_new h⟩
theorem Gb.set {s t : Sto} {i : Nat} {x : Cell} (a : Gb s t) (h : s.n ≤ i) : Gb s (t.set i x) := ⟨a.n, fun j hj => (Sto.set_ne (by omega)).trans (a.c j hj)⟩
theorem Gb.clean {s t : Sto} (a : Gb s t) : Clean s t := ⟨a.n, fun i h => .inl (a.c i h)⟩
theorem Gb.cut {s t : Sto} (a : Gb s t) : t.cut s = s := cut_eq a.c
section
variable {P : AV → Sto → Prop} {R : String → List Str → List AV → Sto → Prop}
theorem gcF_g {F : List AV → Sto → Res AV} {args : List AV} {s : Sto} (h : (F args s).Post (fun v s' => Cl s.n v ∧ Gb s s' ∧ P v s) (fun c ns vs s' => ClL s.n vs ∧ Gb s s' ∧ R c ns vs s)) : (gcF F args s).Post P R :=
  post_gcF.mpr (h.mono (fun v s' z => by rw [if_pos ⟨z.1, z.2.1.clean⟩, z.2.1.cut]; exact z.2.2) fun c ns vs s' z => by rw [if_pos ⟨z.1, z.2.1.clean⟩, z.2.1.cut]; exact z.2.2)
theorem gcE_g {f : AE} {σ : ASt} {s : Sto} (h : (f σ s).Post (fun v s' => Cl s.n v ∧ Gb s s' ∧ P v s) (fun c ns vs s' => ClL s.n vs ∧ Gb s s' ∧ R c ns vs s)) : (gcE f σ s).Post P R :=
  post_gcE.mpr (h.mono (fun v s' z => by rw [if_pos ⟨z.1, z.2.1.clean⟩, z.2.1.cut]; exact z.2.2) fun c ns vs s' z => by rw [if_pos ⟨z.1, z.2.1.clean⟩, z.2.1.cut]; exact z.2.2)
theorem gcT_g {f : AT} {P : Bool → Sto → Prop} {σ : ASt} {s : Sto} (h : (f σ s).Post (fun v s' => Gb s s' ∧ P v s) R) : (gcT f σ s).Post P R :=
  post_gcT.mpr (h.mono (fun v s' z => by rw [if_pos z.1.clean, z.1.cut]; exact z.2) fun _ _ _ _ z => z)
end
/-- nothing that stood has changed, but what is at d -/
structure Gd (d : Nat) (s s' : Sto) : Prop where
  n : s.n ≤ s'.n
  c : ∀ i, i < s.n → i ≠ d → s'.c i = s.c i
theorem Gd.refl (d : Nat) (s : Sto) : Gd d s s := ⟨Nat.le_refl _, fun _ _ _ => rfl⟩
theorem Gd.trans {d : Nat} {s t u : Sto} (a : Gd d s t) (b : Gd d t u) : Gd d s u := ⟨Nat.le_trans a.n b.n, fun i h e => (b.c i (Nat.lt_of_lt_of_le h a.n) e).trans (a.c i h e)⟩
theorem Gd.set {d : Nat} {s t : Sto} {x : Cell} (a : Gd d s t) : Gd d s (t.set d x) := ⟨a.n, fun i h e => (Sto.set_ne e).trans (a.c i h e)⟩
theorem Gd.new {d : Nat} {s t : Sto} {x : Cell} (a : Gd d s t) : Gd d s (t.new x) := ⟨Nat.le_succ_of_le a.n, fun i h e => (at_new (Nat.lt_of_lt_of_le h a.n)).trans (a.c i h e)⟩
theorem Gd.cut {d : Nat} {s t : Sto} (a : Gd d s t) (h : d < s.n) : t.cut s = s.set d (t.c d) := by
  unfold Sto.cut Sto.set
  simp only [Sto.mk.injEq, true_and]
  funext i
  by_cases e : i = d
  · subst e; simp [h]
  · by_cases hi : i < s.n
    · simp [hi, e, a.c i hi e]
    · simp [hi, e]
theorem Gd.clean {d : Nat} {s t : Sto} (a : Gd d s t) (h : ClC s.n (t.c d)) : Clean s t := ⟨a.n, fun i hi => by
  by_cases e : i = d
  · subst e; exact .inr h
  · exact .inl (a.c i hi e)⟩
theorem ok_of_post {r : Res AV} {v : AV} (h : r.Post (fun v' _ => v' = v) (fun _ _ _ _ => False)) : ∃ s', r = .ok v s' := by
  cases r with
  | ok v' s' => cases (show v' = v from h); exact ⟨s', rfl⟩
  | err => exact h.elim
  | stuck => exact h.elim
theorem ex_of_post {α : Type} {r : Res α} {P : α → Sto → Prop} (h : r.Post P (fun _ _ _ _ => False)) : ∃ v s', P v s' ∧ r = .ok v s' := by
  cases r with
  | ok v s' => exact ⟨v, s', h, rfl⟩
  | err => exact h.elim
  | stuck => exact h.elim
section
variable {P : AV → Sto → Prop} {R : String → List Str → List AV → Sto → Prop}
theorem post_addL {t : Sto} {i j : Nat} {a b : List AV} (h1 : t.c i = .lst a) (h2 : t.c j = .lst b) (h : a.length + b.length ≤ 1000) (q : P (.obj t.n) (t.new (.lst (a ++ b)))) : (gAdd (.obj i) (.obj j) t).Post P R := by
  rw [gAdd_lst h1 h2 (Nat.le_trans h (by decide))]
  exact q
theorem post_ix {x : AV} {xs : List AV} {i : Int} {s : Sto} (h : seqOf s x = some xs) (h0 : 0 ≤ i) (h1 : i < xs.length) (q : ∀ v, v ∈ xs → P v s) : (gIx x (.int i) s).Post P R := by
  obtain ⟨v, h2, h3⟩ := atI_all h0 h1
  rw [gIx_seq h h3]
  exact q v h2
end
theorem at_old {s : Sto} {x : Cell} {i : Nat} {c : Cell} (h : i < s.n) (e : s.c i = c) : (s.new x).c i = c := (at_new h).trans e
/-- a comprehension, its rows counted -/
theorem lc_P {k : Nat} {G : Sto → Prop} {g : AV → AS} {ft : AT} {fe : AE} {σ0 : ASt} {P : AV → Sto → Prop} {R : String → List Str → List AV → Sto → Prop} {xs : List AV} {s : Sto} (I : Nat → List AV → Sto → Prop) (h : I 0 [] s) (hk : s.c k = .lst []) (hl : xs.length ≤ 1000)
    (st : ∀ i x acc s, xs[i]? = some x → I i acc s → s.c k = .lst acc → G s ∧ (g x σ0 s).A ⟨fun σ2 s2 => (ft σ2 s2).Post (fun b s3 => (b = true → (fe σ2 s3).Post (fun y s4 => s4.c k = .lst acc ∧ I (i + 1) (acc ++ [y]) (s4.set k (.lst (acc ++ [y])))) (fun _ _ _ _ => False)) ∧ (b = false → s3.c k = .lst acc ∧ I (i + 1) acc s3)) (fun _ _ _ _ => False), fun _ _ => False, fun _ _ => False, fun _ _ => False, fun _ _ _ _ _ => False⟩)
    (fin : ∀ acc s, I xs.length acc s → s.c k = .lst acc → G s ∧ P (.obj k) s) : (oObj k (lcI k G g ft fe σ0 xs s)).Post P R :=
  lcI_P I xs 0 [] h hk (Nat.le_trans (show _ ≤ 1000 by simpa using hl) (by decide)) (fun i x acc s e hI hc => by
    rw [Nat.zero_add] at hI ⊢
    exact st i x acc s e hI hc) (fun acc s hI hc => by
    rw [Nat.zero_add] at hI
    exact fin acc s hI hc)
end Ab
set_option Elab.async false
set_option linter.all false
set_option maxRecDepth 100000
set_option maxHeartbeats 1000000
namespace Ab
open PySem PySem.Spec PyProof.Rows L2
open Classical
noncomputable section
def Kb {α β : Type} (k : α → Sto → Res β) (P : β → Sto → Prop) (R : String → List Str → List AV → Sto → Prop) : α → Sto → Prop := fun a s => (k a s).Post P R
def Kst {α : Type} (k : α → Sto → SRes) (D : Dn) : α → Sto → Prop := fun a s => (k a s).A D
def Rst (σ : ASt) (D : Dn) : String → List Str → List AV → Sto → Prop := fun c ns vs s => D.er c ns vs σ s
def Dn.thn (f : AS) (D : Dn) : Dn := ⟨fun σ s => (f σ s).A D, D.rt, D.bk, D.ct, D.er⟩
def Dn.lp (f : AS) (D : Dn) : Dn := ⟨fun σ s => (f σ s).A D, D.rt, D.nx, fun σ s => (f σ s).A D, D.er⟩
def Dn.fn (P : AV → Sto → Prop) (R : String → List Str → List AV → Sto → Prop) : Dn := ⟨fun _ s => P .non s, P, fun _ _ => False, fun _ _ => False, fun c ns vs _ s => R c ns vs s⟩
def Dn.fg (n : Nat) (D : Dn) : Dn := ⟨D.nx, D.rt, D.bk, D.ct, fun c ns vs _ s => D.er c ns vs (List.replicate n none) s⟩
def Dn.cl (i : Nat) (D : Dn) : Dn := ⟨fun σ s => D.nx (σ.set i none) s, D.rt, fun σ s => D.bk (σ.set i none) s, fun σ s => D.ct (σ.set i none) s, fun _ _ _ _ _ => False⟩
def Dn.nX (D : Dn) : Dn := ⟨D.nx, D.rt, D.bk, D.ct, fun _ _ _ _ _ => False⟩
def Dn.tr (hs : List HdA) (D : Dn) : Dn := ⟨D.nx, D.rt, D.bk, D.ct, fun c ns vs σ' s' => (aHand c ns vs σ' s' hs).A D⟩
section
variable {α β : Type} {r r' : Res α} {q q' : SRes} {D : Dn}
theorem k_bind {k : α → Sto → Res β} {P : β → Sto → Prop} {R : String → List Str → List AV → Sto → Prop} : (r.bind k).Post P R ↔ r.Post (Kb k P R) R := Res.post_bind
theorem k_Kb {k : α → Sto → Res β} {P : β → Sto → Prop} {R : String → List Str → List AV → Sto → Prop} {a : α} {s : Sto} : Kb k P R a s ↔ (k a s).Post P R := Iff.rfl
theorem k_st {σ : ASt} {k : α → Sto → SRes} : (r.st σ k).A D ↔ r.Post (Kst k D) (Rst σ D) := A_st
theorem k_Kst {k : α → Sto → SRes} {a : α} {s : Sto} : Kst k D a s ↔ (k a s).A D := Iff.rfl
theorem k_Rst {σ : ASt} {c : String} {ns : List Str} {vs : List AV} {s : Sto} : Rst σ D c ns vs s ↔ D.er c ns vs σ s := Iff.rfl
theorem k_thn {f : AS} : (q.thn f).A D ↔ q.A (D.thn f) := A_thn
theorem k_loop {f : AS} : (q.loop f).A D ↔ q.A (D.lp f) := A_loop
theorem k_fn {P : AV → Sto → Prop} {R : String → List Str → List AV → Sto → Prop} : q.fn.Post P R ↔ q.A (Dn.fn P R) := post_fn
theorem k_forget {n : Nat} : (q.forget n).A D ↔ q.A (D.fg n) := A_forget
theorem k_clr {i : Nat} : (q.clr i).A D ↔ q.A (D.cl i) := A_clr
theorem k_noX : q.noX.A D ↔ q.A D.nX := A_noX
theorem k_try {f : AS} {hs : List HdA} {σ : ASt} {s : Sto} : (aTry f hs σ s).A D ↔ (f σ s).A (D.tr hs) := A_try
theorem k_stuck {P : α → Sto → Prop} {R : String → List Str → List AV → Sto → Prop} : (Res.stuck : Res α).Post P R ↔ False := Iff.rfl
theorem k_Astuck : SRes.stuck.A D ↔ False := Iff.rfl
theorem k_iteS {c : Prop} [Decidable c] {a : Res α} {P : α → Sto → Prop} {R : String → List Str → List AV → Sto → Prop} : (if c then a else Res.stuck).Post P R ↔ c ∧ a.Post P R := by
  by_cases h : c
  · simp [h]
  · simp [h, k_stuck]
theorem k_AiteS {c : Prop} [Decidable c] {a : SRes} : (if c then a else SRes.stuck).A D ↔ c ∧ a.A D := by
  by_cases h : c
  · simp [h]
  · simp [h, k_Astuck]
end
def grd {α : Type} (c : Prop) [Decidable c] (r : Res α) : Res α := if c then r else .stuck
def grdS (c : Prop) [Decidable c] (r : SRes) : SRes := if c then r else .stuck
theorem grd_pos {α : Type} {c : Prop} [Decidable c] {a : Res α} (h : c) : grd c a = a := if_pos h
theorem grdS_pos {c : Prop} [Decidable c] {a : SRes} (h : c) : grdS c a = a := if_pos h
theorem k_grd {α : Type} {c : Prop} [Decidable c] {a : Res α} {P : α → Sto → Prop} {R : String → List Str → List AV → Sto → Prop} : (grd c a).Post P R ↔ c ∧ a.Post P R := k_iteS
theorem k_grdS {c : Prop} [Decidable c] {a : SRes} {D : Dn} : (grdS c a).A D ↔ c ∧ a.A D := k_AiteS
theorem k_ite {α : Type} {c : Prop} [Decidable c] {x y : Res α} {P : α → Sto → Prop} {R : String → List Str → List AV → Sto → Prop} : (if c then x else y).Post P R ↔ (c → x.Post P R) ∧ (¬ c → y.Post P R) := post_ite
theorem k_Aite {c : Prop} [Decidable c] {x y : SRes} {D : Dn} : (if c then x else y).A D ↔ (c → x.A D) ∧ (¬ c → y.A D) := A_ite
theorem d_thn_nx {D : Dn} {f : AS} {σ : ASt} {s : Sto} : (D.thn f).nx σ s ↔ (f σ s).A D := Iff.rfl
theorem d_thn_bk {D : Dn} {f : AS} {σ : ASt} {s : Sto} : (D.thn f).bk σ s ↔ D.bk σ s := Iff.rfl
theorem d_thn_ct {D : Dn} {f : AS} {σ : ASt} {s : Sto} : (D.thn f).ct σ s ↔ D.ct σ s := Iff.rfl
theorem d_thn_rt {D : Dn} {f : AS} {v : AV} {s : Sto} : (D.thn f).rt v s ↔ D.rt v s := Iff.rfl
theorem d_thn_er {D : Dn} {f : AS} {σ : ASt} {s : Sto} {c : String} {ns : List Str} {vs : List AV} : (D.thn f).er c ns vs σ s ↔ D.er c ns vs σ s := Iff.rfl
theorem d_lp_nx {D : Dn} {f : AS} {σ : ASt} {s : Sto} : (D.lp f).nx σ s ↔ (f σ s).A D := Iff.rfl
theorem d_lp_bk {D : Dn} {f : AS} {σ : ASt} {s : Sto} : (D.lp f).bk σ s ↔ D.nx σ s := Iff.rfl
theorem d_lp_ct {D : Dn} {f : AS} {σ : ASt} {s : Sto} : (D.lp f).ct σ s ↔ (f σ s).A D := Iff.rfl
theorem d_lp_rt {D : Dn} {f : AS} {v : AV} {s : Sto} : (D.lp f).rt v s ↔ D.rt v s := Iff.rfl
theorem d_lp_er {D : Dn} {f : AS} {σ : ASt} {s : Sto} {c : String} {ns : List Str} {vs : List AV} : (D.lp f).er c ns vs σ s ↔ D.er c ns vs σ s := Iff.rfl
theorem d_fg_nx {D : Dn} {f : Nat} {σ : ASt} {s : Sto} : (D.fg f).nx σ s ↔ D.nx σ s := Iff.rfl
theorem d_fg_bk {D : Dn} {f : Nat} {σ : ASt} {s : Sto} : (D.fg f).bk σ s ↔ D.bk σ s := Iff.rfl
theorem d_fg_ct {D : Dn} {f : Nat} {σ : ASt} {s : Sto} : (D.fg f).ct σ s ↔ D.ct σ s := Iff.rfl
theorem d_fg_rt {D : Dn} {f : Nat} {v : AV} {s : Sto} : (D.fg f).rt v s ↔ D.rt v s := Iff.rfl
theorem d_fg_er {D : Dn} {f : Nat} {σ : ASt} {s : Sto} {c : String} {ns : List Str} {vs : List AV} : (D.fg f).er c ns vs σ s ↔ D.er c ns vs (List.replicate f none) s := Iff.rfl
theorem d_cl_nx {D : Dn} {f : Nat} {σ : ASt} {s : Sto} : (D.cl f).nx σ s ↔ D.nx (σ.set f none) s := Iff.rfl
theorem d_cl_bk {D : Dn} {f : Nat} {σ : ASt} {s : Sto} : (D.cl f).bk σ s ↔ D.bk (σ.set f none) s := Iff.rfl
theorem d_cl_ct {D : Dn} {f : Nat} {σ : ASt} {s : Sto} : (D.cl f).ct σ s ↔ D.ct (σ.set f none) s := Iff.rfl
theorem d_cl_rt {D : Dn} {f : Nat} {v : AV} {s : Sto} : (D.cl f).rt v s ↔ D.rt v s := Iff.rfl
theorem d_cl_er {D : Dn} {f : Nat} {σ : ASt} {s : Sto} {c : String} {ns : List Str} {vs : List AV} : (D.cl f).er c ns vs σ s ↔ False := Iff.rfl
theorem d_tr_nx {D : Dn} {f : List HdA} {σ : ASt} {s : Sto} : (D.tr f).nx σ s ↔ D.nx σ s := Iff.rfl
theorem d_tr_bk {D : Dn} {f : List HdA} {σ : ASt} {s : Sto} : (D.tr f).bk σ s ↔ D.bk σ s := Iff.rfl
theorem d_tr_ct {D : Dn} {f : List HdA} {σ : ASt} {s : Sto} : (D.tr f).ct σ s ↔ D.ct σ s := Iff.rfl
theorem d_tr_rt {D : Dn} {f : List HdA} {v : AV} {s : Sto} : (D.tr f).rt v s ↔ D.rt v s := Iff.rfl
theorem d_tr_er {D : Dn} {f : List HdA} {σ : ASt} {s : Sto} {c : String} {ns : List Str} {vs : List AV} : (D.tr f).er c ns vs σ s ↔ (aHand c ns vs σ s f).A D := Iff.rfl
theorem d_nX_nx {D : Dn} {σ : ASt} {s : Sto} : D.nX.nx σ s ↔ D.nx σ s := Iff.rfl
theorem d_nX_bk {D : Dn} {σ : ASt} {s : Sto} : D.nX.bk σ s ↔ D.bk σ s := Iff.rfl
theorem d_nX_ct {D : Dn} {σ : ASt} {s : Sto} : D.nX.ct σ s ↔ D.ct σ s := Iff.rfl
theorem d_nX_rt {D : Dn} {v : AV} {s : Sto} : D.nX.rt v s ↔ D.rt v s := Iff.rfl
theorem d_nX_er {D : Dn} {σ : ASt} {s : Sto} {c : String} {ns : List Str} {vs : List AV} : D.nX.er c ns vs σ s ↔ False := Iff.rfl
theorem d_fn_nx {P : AV → Sto → Prop} {R : String → List Str → List AV → Sto → Prop} {σ : ASt} {s : Sto} : (Dn.fn P R).nx σ s ↔ P .non s := Iff.rfl
theorem d_fn_bk {P : AV → Sto → Prop} {R : String → List Str → List AV → Sto → Prop} {σ : ASt} {s : Sto} : (Dn.fn P R).bk σ s ↔ False := Iff.rfl
theorem d_fn_ct {P : AV → Sto → Prop} {R : String → List Str → List AV → Sto → Prop} {σ : ASt} {s : Sto} : (Dn.fn P R).ct σ s ↔ False := Iff.rfl
theorem d_fn_rt {P : AV → Sto → Prop} {R : String → List Str → List AV → Sto → Prop} {v : AV} {s : Sto} : (Dn.fn P R).rt v s ↔ P v s := Iff.rfl
theorem d_fn_er {P : AV → Sto → Prop} {R : String → List Str → List AV → Sto → Prop} {σ : ASt} {s : Sto} {c : String} {ns : List Str} {vs : List AV} : (Dn.fn P R).er c ns vs σ s ↔ R c ns vs s := Iff.rfl
def opK1 (g : AV → AV → Sto → Res AV) (fb : AE) (σ : ASt) : AV → Sto → Res AV := fun x s1 => (fb σ s1).bind (g x)
theorem e_op {fa fb : AE} {σ : ASt} {s : Sto} {g : AV → AV → Sto → Res AV} : aOp g fa fb σ s = (fa σ s).bind (opK1 g fb σ) := rfl
theorem e_opK {fb : AE} {σ : ASt} {s : Sto} {g : AV → AV → Sto → Res AV} {x : AV} : opK1 g fb σ x s = (fb σ s).bind (g x) := rfl
theorem e_un {fa : AE} {σ : ASt} {s : Sto} {g : AV → Sto → Res AV} : aUn g fa σ s = (fa σ s).bind g := rfl
theorem e_cb {fr : AA} {σ : ASt} {s : Sto} {g : List AV → Sto → Res AV} : aCB g fr σ s = (fr σ s).bind g := rfl
theorem e_nil {σ : ASt} {s : Sto} : aNil σ s = .ok [] s := rfl
theorem e_c {v : AV} {σ : ASt} {s : Sto} : aC v σ s = .ok v s := rfl
def consK2 (x : AV) : List AV → Sto → Res (List AV) := fun xs s => .ok (x :: xs) s
def consK1 (fr : AA) (σ : ASt) : AV → Sto → Res (List AV) := fun x s1 => (fr σ s1).bind (consK2 x)
theorem e_cons {fa : AE} {fr : AA} {σ : ASt} {s : Sto} : aCons fa fr σ s = (fa σ s).bind (consK1 fr σ) := rfl
theorem e_consK {fr : AA} {σ : ASt} {s : Sto} {x : AV} : consK1 fr σ x s = (fr σ s).bind (consK2 x) := rfl
theorem e_consK2 {x : AV} {xs : List AV} {s : Sto} : consK2 x xs s = .ok (x :: xs) s := rfl
def andK (fb : AE) (σ : ASt) : AV → Sto → Res AV := fun x s1 => match x with | .bl true => fb σ s1 | .bl false => .ok (.bl false) s1 | _ => .stuck
def orK (fb : AE) (σ : ASt) : AV → Sto → Res AV := fun x s1 => match x with | .bl false => fb σ s1 | .bl true => .ok (.bl true) s1 | _ => .stuck
theorem e_and {fa fb : AE} {σ : ASt} {s : Sto} : aAndV fa fb σ s = (fa σ s).bind (andK fb σ) := rfl
theorem e_or {fa fb : AE} {σ : ASt} {s : Sto} : aOrV fa fb σ s = (fa σ s).bind (orK fb σ) := rfl
theorem e_andK {fb : AE} {σ : ASt} {s : Sto} {b : Bool} : andK fb σ (.bl b) s = if b = true then fb σ s else .ok (.bl false) s := by cases b <;> rfl
theorem e_orK {fb : AE} {σ : ASt} {s : Sto} {b : Bool} : orK fb σ (.bl b) s = if b = true then .ok (.bl true) s else fb σ s := by cases b <;> rfl
def notK  : AV → Sto → Res AV := fun x s1 => match x with | .bl b => .ok (.bl (!b)) s1 | _ => .stuck
theorem e_not {fa : AE} {σ : ASt} {s : Sto} : aNotV fa σ s = (fa σ s).bind notK := rfl
theorem e_notK {b : Bool} {s : Sto} : notK (.bl b) s = .ok (.bl (!b)) s := rfl
def testK  : AV → Sto → Res Bool := fun x s1 => match x with | .bl b => .ok b s1 | _ => .stuck
theorem e_test {fa : AE} {σ : ASt} {s : Sto} : aTest fa σ s = (fa σ s).bind testK := rfl
theorem e_testK {b : Bool} {s : Sto} : testK (.bl b) s = .ok b s := rfl
def tandK (u : AT) (σ : ASt) : Bool → Sto → Res Bool := fun b s1 => if b = true then u σ s1 else .ok false s1
def torK (u : AT) (σ : ASt) : Bool → Sto → Res Bool := fun b s1 => if b = true then .ok true s1 else u σ s1
def tnotK  : Bool → Sto → Res Bool := fun b s1 => .ok (!b) s1
theorem e_tand {t u : AT} {σ : ASt} {s : Sto} : aAnd t u σ s = (t σ s).bind (tandK u σ) := rfl
theorem e_tandK {u : AT} {σ : ASt} {s : Sto} {b : Bool} : tandK u σ b s = if b = true then u σ s else .ok false s := rfl
theorem e_tor {t u : AT} {σ : ASt} {s : Sto} : aOr t u σ s = (t σ s).bind (torK u σ) := rfl
theorem e_torK {u : AT} {σ : ASt} {s : Sto} {b : Bool} : torK u σ b s = if b = true then .ok true s else u σ s := rfl
theorem e_tnot {t : AT} {σ : ASt} {s : Sto} : aNot t σ s = (t σ s).bind tnotK := rfl
theorem e_tnotK {b : Bool} {s : Sto} : tnotK b s = .ok (!b) s := rfl
theorem e_yes {σ : ASt} {s : Sto} : aYes σ s = .ok true s := rfl
def ifK (fa fb : AE) (σ : ASt) : Bool → Sto → Res AV := fun b s1 => if b = true then fa σ s1 else fb σ s1
theorem e_if {fa fb : AE} {t : AT} {σ : ASt} {s : Sto} : aIf t fa fb σ s = (t σ s).bind (ifK fa fb σ) := rfl
theorem e_ifK {fa fb : AE} {σ : ASt} {s : Sto} {b : Bool} : ifK fa fb σ b s = if b = true then fa σ s else fb σ s := rfl
def chK3 (r' : AV → AV → Sto → Res AV) (fc : AE) (σ : ASt) (y : AV) : AV → Sto → Res AV := fun z s3 => match z with | .bl true => (fc σ s3).bind (r' y) | .bl false => .ok (.bl false) s3 | _ => .stuck
def chK2 (r r' : AV → AV → Sto → Res AV) (fc : AE) (σ : ASt) (x : AV) : AV → Sto → Res AV := fun y s2 => (r x y s2).bind (chK3 r' fc σ y)
def chK1 (r r' : AV → AV → Sto → Res AV) (fb fc : AE) (σ : ASt) : AV → Sto → Res AV := fun x s1 => (fb σ s1).bind (chK2 r r' fc σ x)
theorem e_ch {fa fb fc : AE} {σ : ASt} {s : Sto} {r r' : AV → AV → Sto → Res AV} : aChain r r' fa fb fc σ s = (fa σ s).bind (chK1 r r' fb fc σ) := rfl
theorem e_chK1 {fb fc : AE} {σ : ASt} {s : Sto} {r r' : AV → AV → Sto → Res AV} {x : AV} : chK1 r r' fb fc σ x s = (fb σ s).bind (chK2 r r' fc σ x) := rfl
theorem e_chK2 {fc : AE} {σ : ASt} {s : Sto} {r r' : AV → AV → Sto → Res AV} {x y : AV} : chK2 r r' fc σ x y s = (r x y s).bind (chK3 r' fc σ y) := rfl
theorem e_chK3 {fc : AE} {σ : ASt} {s : Sto} {r' : AV → AV → Sto → Res AV} {y : AV} {b : Bool} : chK3 r' fc σ y (.bl b) s = if b = true then (fc σ s).bind (r' y) else .ok (.bl false) s := by cases b <;> rfl
def tupK  : List AV → Sto → Res AV := fun xs s1 => if xs.length ≤ sizeLine then .ok (.tup xs) s1 else .stuck
def lstK  : List AV → Sto → Res AV := fun xs s1 => if xs.length ≤ sizeLine then newL xs s1 else .stuck
theorem e_tup {fr : AA} {σ : ASt} {s : Sto} : aTup fr σ s = (fr σ s).bind tupK := rfl
theorem e_tupK {xs : List AV} {s : Sto} : tupK xs s = grd (xs.length ≤ sizeLine) (.ok (.tup xs) s) := rfl
theorem e_lst {fr : AA} {σ : ASt} {s : Sto} : aLst fr σ s = (fr σ s).bind lstK := rfl
theorem e_lstK {xs : List AV} {s : Sto} : lstK xs s = grd (xs.length ≤ sizeLine) (newL xs s) := rfl
theorem e_newL {xs : List AV} {s : Sto} : newL xs s = .ok (.obj s.n) (s.new (.lst xs)) := rfl
def callK (n : Nat) (F : List AV → Sto → Res AV) (dvs : List AV) : List AV → Sto → Res AV := fun xs s1 => if (xs ++ dvs).length = n then F (xs ++ dvs) s1 else .stuck
theorem e_call {fr : AA} {σ : ASt} {s : Sto} {n : Nat} {F : List AV → Sto → Res AV} {dvs : List AV} : aCall n F dvs fr σ s = (fr σ s).bind (callK n F dvs) := rfl
theorem e_callK {n : Nat} {F : List AV → Sto → Res AV} {dvs : List AV} {xs : List AV} {s : Sto} : callK n F dvs xs s = grd ((xs ++ dvs).length = n) (F (xs ++ dvs) s) := rfl
def methK2 (n : Nat) (F : List AV → Sto → Res AV) (dvs : List AV) (x : AV) : List AV → Sto → Res AV := fun xs s2 => if (x :: (xs ++ dvs)).length = n then F (x :: (xs ++ dvs)) s2 else .stuck
def methK (c : String) (m : Str) (n : Nat) (F : List AV → Sto → Res AV) (dvs : List AV) (fr : AA) (σ : ASt) : AV → Sto → Res AV := fun x s1 => if clsIs s1 x c m = true then (fr σ s1).bind (methK2 n F dvs x) else .stuck
theorem e_meth {fa : AE} {fr : AA} {σ : ASt} {s : Sto} {n : Nat} {F : List AV → Sto → Res AV} {dvs : List AV} {c : String} {m : Str} : aMeth c m n F dvs fa fr σ s = (fa σ s).bind (methK c m n F dvs fr σ) := rfl
theorem e_methK {fr : AA} {σ : ASt} {s : Sto} {n : Nat} {F : List AV → Sto → Res AV} {dvs : List AV} {c : String} {m : Str} {x : AV} : methK c m n F dvs fr σ x s = grd (clsIs s x c m = true) ((fr σ s).bind (methK2 n F dvs x)) := rfl
theorem e_methK2 {n : Nat} {F : List AV → Sto → Res AV} {dvs : List AV} {x : AV} {xs : List AV} {s : Sto} : methK2 n F dvs x xs s = grd ((x :: (xs ++ dvs)).length = n) (F (x :: (xs ++ dvs)) s) := rfl
def propK (c : String) (F : List AV → Sto → Res AV) : AV → Sto → Res AV := fun x s1 => if isI s1 x c = true then noErr (F [x] s1) else .stuck
theorem e_prop {fa : AE} {σ : ASt} {s : Sto} {F : List AV → Sto → Res AV} {c : String} : aProp c F fa σ s = (fa σ s).bind (propK c F) := rfl
theorem e_propK {F : List AV → Sto → Res AV} {c : String} {x : AV} {s : Sto} : propK c F x s = grd (isI s x c = true) (noErr (F [x] s)) := rfl
def makeK2 (o : Nat) : AV → Sto → Res AV := fun v s2 => if isNon v = true then .ok (.obj o) s2 else .stuck
def makeK (c : String) (n : Nat) (F : List AV → Sto → Res AV) (dvs : List AV) : List AV → Sto → Res AV := fun xs s1 => if (AV.obj s1.n :: (xs ++ dvs)).length = n then (F (.obj s1.n :: (xs ++ dvs)) (s1.new (.ins c []))).bind (makeK2 s1.n) else .stuck
theorem e_make {fr : AA} {σ : ASt} {s : Sto} {n : Nat} {F : List AV → Sto → Res AV} {dvs : List AV} {c : String} : aMake c n F dvs fr σ s = (fr σ s).bind (makeK c n F dvs) := rfl
theorem e_makeK {n : Nat} {F : List AV → Sto → Res AV} {dvs : List AV} {c : String} {xs : List AV} {s : Sto} : makeK c n F dvs xs s = grd ((AV.obj s.n :: (xs ++ dvs)).length = n) ((F (.obj s.n :: (xs ++ dvs)) (s.new (.ins c []))).bind (makeK2 s.n)) := rfl
theorem e_makeK2 {o : Nat} {s : Sto} : makeK2 o .non s = .ok (.obj o) s := rfl
theorem e_makeV {fr : AA} {σ : ASt} {s : Sto} {n : Nat} {F : List AV → Sto → Res AV} {c : String} {i : Nat} {d : String} : aMakeV i c n F fr σ s = match σ[i]? with | some (some (.cls d)) => if d = c then aMake c n F [] fr σ s else .stuck | _ => .stuck := rfl
def smK2 (n : Nat) (F : List AV → Sto → Res AV) : List AV → Sto → Res AV := fun xs s2 => if (xs ++ []).length = n then F (xs ++ []) s2 else .stuck
def smK (c : String) (n : Nat) (F : List AV → Sto → Res AV) (fr : AA) (σ : ASt) : AV → Sto → Res AV := fun x s1 => if isCls c x = true then (fr σ s1).bind (smK2 n F) else .stuck
theorem e_sm {fa : AE} {fr : AA} {σ : ASt} {s : Sto} {n : Nat} {F : List AV → Sto → Res AV} {c : String} : aSMeth c n F fa fr σ s = (fa σ s).bind (smK c n F fr σ) := rfl
theorem e_smK {fr : AA} {σ : ASt} {s : Sto} {n : Nat} {F : List AV → Sto → Res AV} {c : String} {x : AV} : smK c n F fr σ x s = grd (isCls c x = true) ((fr σ s).bind (smK2 n F)) := rfl
theorem e_smK2 {n : Nat} {F : List AV → Sto → Res AV} {xs : List AV} {s : Sto} : smK2 n F xs s = grd ((xs ++ []).length = n) (F (xs ++ []) s) := rfl
def cmK2 (c : String) (n : Nat) (F : List AV → Sto → Res AV) : List AV → Sto → Res AV := fun xs s2 => if (AV.cls c :: (xs ++ [])).length = n then F (.cls c :: (xs ++ [])) s2 else .stuck
def cmK (c : String) (n : Nat) (F : List AV → Sto → Res AV) (fr : AA) (σ : ASt) : AV → Sto → Res AV := fun x s1 => if isCls c x = true then (fr σ s1).bind (cmK2 c n F) else .stuck
theorem e_cm {fa : AE} {fr : AA} {σ : ASt} {s : Sto} {n : Nat} {F : List AV → Sto → Res AV} {c : String} : aCMeth c n F fa fr σ s = (fa σ s).bind (cmK c n F fr σ) := rfl
theorem e_cmK {fr : AA} {σ : ASt} {s : Sto} {n : Nat} {F : List AV → Sto → Res AV} {c : String} {x : AV} : cmK c n F fr σ x s = grd (isCls c x = true) ((fr σ s).bind (cmK2 c n F)) := rfl
theorem e_cmK2 {n : Nat} {F : List AV → Sto → Res AV} {c : String} {xs : List AV} {s : Sto} : cmK2 c n F xs s = grd ((AV.cls c :: (xs ++ [])).length = n) (F (.cls c :: (xs ++ [])) s) := rfl
def slK3 (x : AV) (l : Option Int) : Option Int → Sto → Res AV := fun u s3 => gSl x l u s3
def slK2 (fh : AO) (σ : ASt) (x : AV) : Option Int → Sto → Res AV := fun l s2 => (fh σ s2).bind (slK3 x l)
def slK1 (fl fh : AO) (σ : ASt) : AV → Sto → Res AV := fun x s1 => (fl σ s1).bind (slK2 fh σ x)
theorem e_sl {fa : AE} {σ : ASt} {s : Sto} {fl fh : AO} : aSl fa fl fh σ s = (fa σ s).bind (slK1 fl fh σ) := rfl
theorem e_slK1 {σ : ASt} {s : Sto} {fl fh : AO} {x : AV} : slK1 fl fh σ x s = (fl σ s).bind (slK2 fh σ x) := rfl
theorem e_slK2 {σ : ASt} {s : Sto} {fh : AO} {x : AV} {l : Option Int} : slK2 fh σ x l s = (fh σ s).bind (slK3 x l) := rfl
theorem e_slK3 {s : Sto} {x : AV} {l h : Option Int} : slK3 x l h s = gSl x l h s := rfl
def partK  : AV → Sto → Res (Option Int) := fun x s1 => match x with | .int i => .ok (some i) s1 | _ => .stuck
theorem e_part {fa : AE} {σ : ASt} {s : Sto} : aPart fa σ s = (fa σ s).bind partK := rfl
theorem e_partK {i : Int} {s : Sto} : partK (.int i) s = .ok (some i) s := rfl
theorem e_nopart {σ : ASt} {s : Sto} : aNoPart σ s = .ok none s := rfl
def revK  : AV → Sto → Res AV := fun x s1 => match lstOf s1 x with | some xs => newL xs.reverse s1 | none => .stuck
theorem e_rev {fa : AE} {σ : ASt} {s : Sto} : aRev fa σ s = (fa σ s).bind revK := rfl
def bmK (g : AV → List AV → Sto → Res AV) (fr : AA) (σ : ASt) : AV → Sto → Res AV := fun x s1 => if isSeqL s1 x = true then (fr σ s1).bind (g x) else .stuck
theorem e_bm {fa : AE} {fr : AA} {σ : ASt} {s : Sto} {g : AV → List AV → Sto → Res AV} : aBM g fa fr σ s = (fa σ s).bind (bmK g fr σ) := rfl
theorem e_bmK {fr : AA} {σ : ASt} {s : Sto} {g : AV → List AV → Sto → Res AV} {x : AV} : bmK g fr σ x s = grd (isSeqL s x = true) ((fr σ s).bind (g x)) := rfl
def prK3 (x y : AV) : List (AV × AV) → Sto → Res (List (AV × AV)) := fun ps s3 => .ok ((x, y) :: ps) s3
def prK2 (r : List (AE × AE)) (σ : ASt) (x : AV) : AV → Sto → Res (List (AV × AV)) := fun y s2 => (aPairs r σ s2).bind (prK3 x y)
def prK1 (fv : AE) (r : List (AE × AE)) (σ : ASt) : AV → Sto → Res (List (AV × AV)) := fun x s1 => (fv σ s1).bind (prK2 r σ x)
def dispK (n : Nat) : List (AV × AV) → Sto → Res AV := fun ps s1 => match s1.c n, keysA ps with | .dic [], some kvs => if kvs.length ≤ 15 then .ok (.obj n) (s1.set n (.dic (mergeA [] kvs))) else .stuck | _, _ => .stuck
theorem e_pr {fa fb : AE} {σ : ASt} {s : Sto} {r : List (AE × AE)} : aPairs ((fa, fb) :: r) σ s = (fa σ s).bind (prK1 fb r σ) := rfl
theorem e_pr0 {σ : ASt} {s : Sto} : aPairs [] σ s = .ok [] s := rfl
theorem e_prK1 {fb : AE} {σ : ASt} {s : Sto} {r : List (AE × AE)} {x : AV} : prK1 fb r σ x s = (fb σ s).bind (prK2 r σ x) := rfl
theorem e_prK2 {σ : ASt} {s : Sto} {r : List (AE × AE)} {x y : AV} : prK2 r σ x y s = (aPairs r σ s).bind (prK3 x y) := rfl
theorem e_prK3 {s : Sto} {x y : AV} {ps : List (AV × AV)} : prK3 x y ps s = .ok ((x, y) :: ps) s := rfl
theorem e_disp {σ : ASt} {s : Sto} {fs : List (AE × AE)} : aDisp fs σ s = (aPairs fs σ (s.new (.dic []))).bind (dispK s.n) := rfl
theorem e_dispK {s1 : Sto} {n : Nat} {ps : List (AV × AV)} {kvs : List (Key × AV)} (h : s1.c n = .dic []) (k : keysA ps = some kvs) (l : kvs.length ≤ 15) : dispK n ps s1 = .ok (.obj n) (s1.set n (.dic (mergeA [] kvs))) := by unfold dispK; simp only [h, k, if_pos l]
theorem e_dnew {σ : ASt} {s : Sto} : aDNew σ s = .ok (.obj s.n) (s.new (.dic [])) := rfl
def ownK1 (c : String) (ts : List String) (F : List AV → Sto → Res AV) (fb : AE) (σ : ASt) : AV → Sto → Res AV := fun x s1 => (fb σ s1).bind (gOwn c ts F x)
theorem e_own {fa fb : AE} {σ : ASt} {s : Sto} {n : Nat} {F : List AV → Sto → Res AV} {c : String} {ts : List String} : aOwn c ts n F fa fb σ s = (fa σ s).bind (ownK1 c ts F fb σ) := rfl
theorem e_ownK {fb : AE} {σ : ASt} {s : Sto} {F : List AV → Sto → Res AV} {c : String} {ts : List String} {x : AV} : ownK1 c ts F fb σ x s = (fb σ s).bind (gOwn c ts F x) := rfl
def lcK (g : AV → AS) (ft : AT) (fe : AE) (vs : List Nat) (σ : ASt) : List AV × (Sto → Prop) → Sto → Res AV := fun p s1 => oObj s1.n (lcI s1.n p.2 g ft fe (wipeA σ vs) p.1 (s1.new (.lst [])))
theorem e_lc {fa : AE} {t : AT} {σ : ASt} {s : Sto} {fi : AI} {g : AV → AS} {vs : List Nat} : aLc fi g t fa vs σ s = (fi σ s).bind (lcK g t fa vs σ) := rfl
theorem e_lcK {fa : AE} {t : AT} {σ : ASt} {s : Sto} {g : AV → AS} {vs : List Nat} {xs : List AV} {G : Sto → Prop} : lcK g t fa vs σ (xs, G) s = oObj s.n (lcI s.n G g t fa (wipeA σ vs) xs (s.new (.lst []))) := rfl
theorem e_iter {fa : AE} {σ : ASt} {s : Sto} : aIter fa σ s = (fa σ s).bind iterOf := rfl
def rng1K  : List AV → Sto → Res (List AV × (Sto → Prop)) := fun xs s1 => match xs with | [.int j] => if -(2 ^ 62) ≤ j ∧ j < 2 ^ 62 then .ok (rngA 0 j.toNat, fun _ => True) s1 else .stuck | _ => .stuck
def rng2K  : List AV → Sto → Res (List AV × (Sto → Prop)) := fun xs s1 => match xs with | [.int i, .int j] => if -(2 ^ 62) ≤ i ∧ i < 2 ^ 62 ∧ -(2 ^ 62) ≤ j ∧ j < 2 ^ 62 then .ok (rngA i (j - i).toNat, fun _ => True) s1 else .stuck | _ => .stuck
theorem e_rng1 {fr : AA} {σ : ASt} {s : Sto} : aRng1 fr σ s = (fr σ s).bind rng1K := rfl
theorem e_rng1K {j : Int} {s : Sto} : rng1K [.int j] s = grd (-(2 ^ 62) ≤ j ∧ j < 2 ^ 62) (.ok (rngA 0 j.toNat, fun _ => True) s) := rfl
theorem e_rng2 {fr : AA} {σ : ASt} {s : Sto} : aRng2 fr σ s = (fr σ s).bind rng2K := rfl
theorem e_rng2K {i j : Int} {s : Sto} : rng2K [.int i, .int j] s = grd (-(2 ^ 62) ≤ i ∧ i < 2 ^ 62 ∧ -(2 ^ 62) ≤ j ∧ j < 2 ^ 62) (.ok (rngA i (j - i).toNat, fun _ => True) s) := rfl
def enumK  : List AV → Sto → Res (List AV × (Sto → Prop)) := fun xs s1 => match xs with | [x] => (match lstOf s1 x with | some ys => .ok (enumA ys, fun s2 => lstOf s2 x = some ys) s1 | none => .stuck) | _ => .stuck
theorem e_enum {fr : AA} {σ : ASt} {s : Sto} : aEnum fr σ s = (fr σ s).bind enumK := rfl
theorem e_enumK {x : AV} {ys : List AV} {s : Sto} (h : lstOf s x = some ys) : enumK [x] s = .ok (enumA ys, fun s2 => lstOf s2 x = some ys) s := by unfold enumK; simp only [h]
theorem post_enum {x : AV} {ys : List AV} {s : Sto} {P : List AV × (Sto → Prop) → Sto → Prop} {R : String → List Str → List AV → Sto → Prop} (h : lstOf s x = some ys) (q : P (enumA ys, fun s2 => lstOf s2 x = some ys) s) : (enumK [x] s).Post P R := by rw [e_enumK h]; exact q
theorem iterOf_l {i : Nat} {ys : List AV} {s : Sto} (h : lstOf s (.obj i) = some ys) : iterOf (.obj i) s = .ok (ys, fun s2 => lstOf s2 (.obj i) = some ys) s := by
  show (match lstOf s (.obj i) with | some xs => (.ok (xs, fun s2 => lstOf s2 (.obj i) = some xs) s : Res (List AV × (Sto → Prop))) | none => .stuck) = _
  rw [h]
def dropK (σ : ASt) : AV → Sto → SRes := fun _ s1 => .nx σ s1
theorem s_drop {fa : AE} {σ : ASt} {s : Sto} : aDrop fa σ s = (fa σ s).st σ (dropK σ) := rfl
theorem s_dropK {σ : ASt} {s : Sto} {v : AV} : dropK σ v s = .nx σ s := rfl
def retK  : AV → Sto → SRes := fun v s1 => .rt v s1
theorem s_ret {fa : AE} {σ : ASt} {s : Sto} : aRet fa σ s = (fa σ s).st σ retK := rfl
theorem s_retK {v : AV} {s : Sto} : retK v s = .rt v s := rfl
theorem s_retN {σ : ASt} {s : Sto} : aRetN σ s = .rt .non s := rfl
theorem s_next {σ : ASt} {s : Sto} : aNext σ s = .nx σ s := rfl
theorem s_break {σ : ASt} {s : Sto} : aBreak σ s = .bk σ s := rfl
theorem s_cont {σ : ASt} {s : Sto} : aCont σ s = .ct σ s := rfl
theorem s_seq {f1 f2 : AS} {σ : ASt} {s : Sto} : aSeq f1 f2 σ s = (f1 σ s).thn f2 := rfl
def ifSK (f g : AS) (σ : ASt) : Bool → Sto → SRes := fun b s1 => if b = true then f σ s1 else g σ s1
theorem s_if {t : AT} {f1 f2 : AS} {σ : ASt} {s : Sto} : aIfS t f1 f2 σ s = (t σ s).st σ (ifSK f1 f2 σ) := rfl
theorem s_ifK {f1 f2 : AS} {σ : ASt} {s : Sto} {b : Bool} : ifSK f1 f2 σ b s = if b = true then f1 σ s else f2 σ s := rfl
def asgK (g : AV → AS) (σ : ASt) : AV → Sto → SRes := fun v s1 => g v σ s1
theorem s_asg {fa : AE} {σ : ASt} {s : Sto} {g : AV → AS} : aAsg fa g σ s = (fa σ s).st σ (asgK g σ) := rfl
theorem s_asgK {σ : ASt} {s : Sto} {g : AV → AS} {v : AV} : asgK g σ v s = g v σ s := rfl
theorem s_name {σ : ASt} {s : Sto} {i : Nat} {v : AV} : agName i v σ s = .nx (σ.set i (some v)) s := rfl
theorem s_par {fr : AA} {σ : ASt} {s : Sto} {i j : Nat} : aPar i j fr σ s = (fr σ s).st σ (parK i j σ) := rfl
theorem s_parK {σ : ASt} {s : Sto} {i j : Nat} {v u : AV} : parK i j σ [v, u] s = .nx ((σ.set i (some v)).set j (some u)) s := rfl
theorem s_par3 {fr : AA} {σ : ASt} {s : Sto} {i j l : Nat} : aPar3 i j l fr σ s = (fr σ s).st σ (parK3 i j l σ) := rfl
theorem s_parK3 {σ : ASt} {s : Sto} {i j l : Nat} {v u w : AV} : parK3 i j l σ [v, u, w] s = .nx (((σ.set i (some v)).set j (some u)).set l (some w)) s := rfl
theorem s_gnil {σ : ASt} {s : Sto} : agNil [] σ s = .nx σ s := rfl
theorem s_gcons {σ : ASt} {s : Sto} {g : AV → AS} {h : List AV → AS} {x : AV} {r : List AV} : agCons g h (x :: r) σ s = (g x σ s).thn (h r) := rfl
theorem s_gtup {σ : ASt} {s : Sto} {n : Nat} {g : List AV → AS} {xs : List AV} : agTup n g (.tup xs) σ s = grdS (xs.length = n) (g xs σ s) := rfl
def forK (g : AV → AS) (b : AS) (σ : ASt) : List AV × (Sto → Prop) → Sto → SRes := fun p s1 => forI p.2 g b p.1 σ s1
theorem s_for {f1 : AS} {σ : ASt} {s : Sto} {fi : AI} {g : AV → AS} : aFor fi g f1 σ s = (fi σ s).st σ (forK g f1 σ) := rfl
theorem s_forK {f1 : AS} {σ : ASt} {s : Sto} {g : AV → AS} {xs : List AV} {G : Sto → Prop} : forK g f1 σ (xs, G) s = forI G g f1 xs σ s := rfl
theorem s_raise {fr : AA} {σ : ASt} {s : Sto} {c : String} {fl : Str} : aRaise c fl fr σ s = (fr σ s).st σ (raiseK c fl σ) := rfl
theorem s_raiseK {σ : ASt} {s : Sto} {c : String} {fl : Str} {v : AV} : raiseK c fl σ [v] s = .err c [fl] [v] σ s := rfl
def sfK2 (cs : List String) (f : Str) (σ : ASt) (y : AV) : AV → Sto → SRes := fun x s2 => oNx σ (setF cs f x y s2)
def sfK1 (cs : List String) (f : Str) (fo : AE) (σ : ASt) : AV → Sto → SRes := fun y s1 => (fo σ s1).st σ (sfK2 cs f σ y)
theorem s_sf {fa fb : AE} {σ : ASt} {s : Sto} {cs : List String} {f : Str} : aSFld cs f fa fb σ s = (fb σ s).st σ (sfK1 cs f fa σ) := rfl
theorem s_sfK1 {fa : AE} {σ : ASt} {s : Sto} {cs : List String} {f : Str} {y : AV} : sfK1 cs f fa σ y s = (fa σ s).st σ (sfK2 cs f σ y) := rfl
theorem s_sfK2 {σ : ASt} {s : Sto} {cs : List String} {f : Str} {x y : AV} : sfK2 cs f σ y x s = oNx σ (setF cs f x y s) := rfl
def dpK3 (σ : ASt) (z x : AV) : AV → Sto → SRes := fun y s3 => oNx σ (setD x y z s3)
def dpK2 (fy : AE) (σ : ASt) (z : AV) : AV → Sto → SRes := fun x s2 => (fy σ s2).st σ (dpK3 σ z x)
def dpK1 (fd fy : AE) (σ : ASt) : AV → Sto → SRes := fun z s1 => (fd σ s1).st σ (dpK2 fy σ z)
theorem s_dp {fa fb fc : AE} {σ : ASt} {s : Sto} : aDPut fa fb fc σ s = (fc σ s).st σ (dpK1 fa fb σ) := rfl
theorem s_dpK1 {fa fb : AE} {σ : ASt} {s : Sto} {z : AV} : dpK1 fa fb σ z s = (fa σ s).st σ (dpK2 fb σ z) := rfl
theorem s_dpK2 {fb : AE} {σ : ASt} {s : Sto} {x z : AV} : dpK2 fb σ z x s = (fb σ s).st σ (dpK3 σ z x) := rfl
theorem s_dpK3 {σ : ASt} {s : Sto} {x y z : AV} : dpK3 σ z x y s = oNx σ (setD x y z s) := rfl
theorem s_forget {f1 : AS} {σ : ASt} {s : Sto} {n : Nat} : aForget n f1 σ s = (f1 σ s).forget n := rfl
theorem s_def {k : Nat} {f : AS} {args : List AV} {s : Sto} : aDef k f args s = (f (args.map some ++ List.replicate k none) s).fn := rfl
theorem s_fld {fa : AE} {σ : ASt} {s : Sto} {cs : List String} {f : Str} : aFld cs f fa σ s = (fa σ s).bind (gFld cs f) := rfl
end
end Ab
set_option Elab.async false
set_option linter.all false
set_option maxRecDepth 100000
set_option maxHeartbeats 1000000
namespace Ab
open PySem PySem.Spec PyProof.Rows L2
open Classical
theorem u65 {k : Nat} {A : Around} (r : Room k A) : A.units + 65 < cLine := by have := r.un; omega
noncomputable section
section
variable {W : Wl} {E : L2.St → XK} {ta tb to tv te : TE} {fa fb fo fv : AE} {tr : TA} {fr : AA}
def augK (i : Nat) (g : AV → AV → Sto → Res AV) (σ : ASt) (x : AV) : AV → Sto → SRes := fun y s1 => (g x y s1).st σ fun z s2 => .nx (σ.set i (some z)) s2
def aAug (i : Nat) (g : AV → AV → Sto → Res AV) (fa : AE) : AS := fun σ s => (aVar i σ s).st σ fun x _ => (fa σ s).st σ (augK i g σ x)
theorem DS.aug {i : Nat} {r : R2} {g : AV → AV → Sto → Res AV} (hr : DR W r g) (hg : NE2 g) (ha : DE W E ta fa) : DS W E (tAug i ta r) (aAug i g fa) := fun w s σ σc D S R h => by
  unfold aAug aVar at h
  split at h
  · rename_i x e
    obtain ⟨vc, h1, h2⟩ := R.get i x e
    have h : ((fa σ s).st σ (augK i g σ x)).P W w D E := h
    refine ⟨vc, h1, ha w s σ σc _ S R ((exp_post R h).mono (fun y s1 k1 w1 u e1 S1 r1 => ?_) fun _ _ _ _ z => z)⟩
    refine hr w1 s1 x y vc u _ S1 (h2.mono e1) r1 ?_
    have k1 : ((g x y s1).st σ fun z s2 => .nx (σ.set i (some z)) s2).P W w D E := k1
    cases hh : g x y s1 with
    | err c ns vs s3 => exact absurd hh (hg _ _ _ _ _ _ _)
    | stuck => rw [hh] at k1; exact k1.elim
    | ok z s2 =>
      rw [hh] at k1
      intro w2 zc e2 S2 r2
      exact k1 w2 _ (e1.trans e2) S2 ((R.mono (e1.trans e2)).set (x := some z) (v := some zc) r2 i)
  · exact h.elim
end
def gMulT : AV → AV → Sto → Res AV := fun x y s => match x, y with
  | .tup a, .int k => if a ≠ [] ∧ 2 ≤ k ∧ k ≤ 1000 ∧ a.length ≤ 1000 then .ok (.tup (List.replicate k.toNat a).flatten) s else .stuck
  | x, y => gMul x y s
@[simp] theorem gMulT_int {i j : Int} {s : Sto} : gMulT (.int i) (.int j) s = gMul (.int i) (.int j) s := rfl
@[simp] theorem gMulT_str {i : Str} {j : Int} {s : Sto} : gMulT (.str i) (.int j) s = gMul (.str i) (.int j) s := rfl
@[simp] theorem gMulT_obj {i : Nat} {j : Int} {s : Sto} : gMulT (.obj i) (.int j) s = gMul (.obj i) (.int j) s := rfl
end
end Ab
namespace Ab
open PySem PySem.Spec PyProof.Rows L2
open Classical
end Ab
namespace Gx
open PySem PySem.Spec PyProof.Rows L2
def StarB (fd : FuncData) (pv : Str) : Prop := ∀ rest : List Value, bindArgs fd ⟨rest, []⟩ = (newTuple rest >>= fun t => pure [(pv, t)])
theorem starB_of {fd : FuncData} {pv : Str} (h0 : bindArgs fd ⟨[], []⟩ = (newTuple [] >>= fun t => pure [(pv, t)])) (h1 : ∀ r rs, bindArgs fd ⟨r :: rs, []⟩ = (newTuple (r :: rs) >>= fun t => pure [(pv, t)])) : StarB fd pv
  | [] => h0
  | r :: rs => h1 r rs
structure CalXS (P : Program) (w : World) (K : PySem.W.Frag) (mg : Str → Option Value) (base : Heap) (k : Nat) (x : Str) (sp : Sp) : Prop where
  ex : ∃ f, FnR P w K mg base (CX P w) k f sp ∧ mg x = some (.ref f) ∧ PySem.W.keepIn K (.ref f) = true
theorem calXS {P : Program} {w : World} {K : PySem.W.Frag} {mg : Str → Option Value} {base : Heap} {x pv : Str} {st : Stmt} {f : Addr} {fd : FuncData} {N : List Str} {k : Nat} {sp : Sp} (F : C8.Def K mg x st f fd) (b : StarB fd pv) (S : FnScope N [pv] (C8.fnScope st))
    (hbody : ∀ (cdv : Value) (A : Around) (outer : List Env) (s : Shared) (H : Hp) (vs : List V) (Q : VK) (E : XK), Room k (A.deeper (envOfC x (C8.fnScope st) s.heap.objs.size f cdv)) → sp vs H Q E →
      ∃ t, PSs (cxOf (CX P w) P w K mg base N x (C8.fnScope st) f cdv A outer s H E) (C8.fnBody st) t ∧ t { nx := fun _ H' => Q .non H', rt := Q } (start N vs) H) :
    CalXS P w K mg base (k + 1) x (fun vs H Q E => vs.length ≤ sizeLine ∧ ∀ p, H p = Option.none → sp [V.ref p] (upd H p (.tup vs)) Q E) := by
  obtain ⟨oc, od, dV, kV, doc, pm, an, cdv, ct, osl, rfl, lk, hcd⟩ := F.fn.ex
  refine ⟨f, ?_, F.mgf, F.kp⟩
  have h := StX.fn_star (ps := []) lk hcd S StX.cxUp (fun us rest hl => by
    cases us with
    | nil => exact b rest
    | cons => cases hl) (hbody cdv)
  exact fun A outer s H us vs Q E hr e0 r hs => h A outer s H us vs Q E hr e0 r ⟨[], vs, rfl, rfl, hs.1, hs.2⟩
def tCallR (sp : Sp) (E : XK) (t : TA) : TE := fun σ H Q => t σ H fun vs H1 => sp vs H1 Q E
theorem pe_cxS {X : Cx} {k j : Nat} {x : Str} {sp : Sp} {p pos : Pos} {e : Expr} {es : List Expr} {t : TA} {W : WX} {E : XK} (c : CalXS X.prog X.w X.K X.mg X.base k x sp) (tk : Takes X W) (hW : ∀ cls d σ H, E cls d H → W cls d σ H) (hr : Room j X.A) (hk : k ≤ j) (hg : Gl X x) (ha : PA X (e :: es) t)
    (hdb : (x == ("__debug__" : Str)) = false := by decide) (he : starEach (e :: es) X.env = (false, eval e X.env) :: starEach es X.env := by rfl) (hpl : (backTo pos (starEach es X.env)).any (·.1) = false := by rfl) :
    PE X (.Call (.Name x p) (e :: es) [] pos) (tCallR sp E t) := by
  obtain ⟨f, F, hm, kp⟩ := c.ex
  refine ⟨fun pins s σ H Q I h => ?_⟩
  exact wpAny_Call_Name_kw (ld_glob I hg hm (PySem.W.callWith_K (h₀ := X.base) I.ok.mod.kin kp (thn (ha.run pos pins s σ H _ I h) fun us s1 ⟨vs, H1, I1, r, q⟩ => ⟨I1.kIn, wpAny_call (run_fnR F (hr.mono hk) (passes_call tk hW) I1 r q)⟩) he hpl) hdb)
end Gx
namespace Ab
open PySem PySem.Spec PyProof.Rows L2
open Classical
noncomputable section
def spS (W : Wl) (F : List AV → Sto → Res AV) : Sp := fun vs H Q E => vs.length ≤ sizeLine ∧ ∀ p, H p = none → spF W 1 F [V.ref p] (upd H p (.tup vs)) Q E
def callSK (F : List AV → Sto → Res AV) : List AV → Sto → Res AV := fun xs s1 => if xs.length ≤ sizeLine then F [.tup xs] s1 else .stuck
def aCallS (F : List AV → Sto → Res AV) (fr : AA) : AE := fun σ s => (fr σ s).bind (callSK F)
theorem e_callS {F : List AV → Sto → Res AV} {fr : AA} {σ : ASt} {s : Sto} : aCallS F fr σ s = (fr σ s).bind (callSK F) := rfl
theorem e_callSK {F : List AV → Sto → Res AV} {xs : List AV} {s : Sto} : callSK F xs s = grd (xs.length ≤ sizeLine) (F [.tup xs] s) := rfl
theorem DE.callStar {W : Wl} {F : List AV → Sto → Res AV} {Ek : XK} {tr : TA} {fr : AA} (ha : DA W (fun _ => Ek) tr fr) : DE W (fun _ => Ek) (Gx.tCallR (spS W F) Ek tr) (aCallS F fr) := fun w s σ σc Q S R h => by
  refine ha w s σ σc _ S R ((post_bind_ok h).mono (fun xs s1 h1 w1 vs e1 S1 r1 => ?_) fun _ _ _ _ z => z)
  unfold callSK at h1
  split at h1
  · rename_i hl
    refine ⟨by rw [← r1.length]; exact hl, fun p hp => ?_⟩
    have g := grow_upd (o := .tup vs) hp
    exact ⟨{ w1 with H := upd w1.H p (.tup vs) }, s1, [.tup xs], rfl, S1.grow g, .cons (.tup (.inl (.inl upd_same)) (r1.mono (.grow g))) .nil, rfl, post_mono (e1.trans (.grow g)) h1⟩
  · exact (show False from h1).elim
end
end Ab
namespace Ab
open PySem PySem.Spec PyProof.Rows L2
open Classical
end Ab
set_option Elab.async false
set_option linter.all false
set_option maxRecDepth 100000
set_option maxHeartbeats 1000000
namespace Gx
open PySem PySem.Spec PyProof.Rows L2 GenW
end Gx
namespace Ab
open PySem PySem.Spec PyProof.Rows L2
open Classical
noncomputable section
def SRes.hd (y : Option AV) : SRes → SRes
  | .nx σ s => .nx (y :: σ) s
  | .bk σ s => .bk (y :: σ) s
  | .ct σ s => .ct (y :: σ) s
  | .err c ns vs σ s => .err c ns vs (y :: σ) s
  | .rt _ _ => .stuck
  | .stuck => .stuck
def aPl (f : AS) : AS := fun σ s => match σ with
  | some (.tup ys) :: σ' => (f σ' s).hd (some (.tup ys))
  | _ => .stuck
@[simp] theorem aPl_at {f : AS} {ys : List AV} {σ : ASt} {s : Sto} : aPl f (some (.tup ys) :: σ) s = (f σ s).hd (some (.tup ys)) := rfl
def SRes.PG (W : Wl) (r : SRes) (w : Wd) (D : GEnds) (E : XK) : Prop := match r with
  | .nx σ s => ∃ ys σ0, σ = some (.tup ys) :: σ0 ∧ ∀ w' σc ysc, Ext w w' → Sim W w' s → RSt W.toWc w' σ0 σc → RelL W.toWc w' ys ysc → D.nx ysc σc w'.H
  | .bk σ s => ∃ ys σ0, σ = some (.tup ys) :: σ0 ∧ ∀ w' σc ysc, Ext w w' → Sim W w' s → RSt W.toWc w' σ0 σc → RelL W.toWc w' ys ysc → D.bk ysc σc w'.H
  | .ct σ s => ∃ ys σ0, σ = some (.tup ys) :: σ0 ∧ ∀ w' σc ysc, Ext w w' → Sim W w' s → RSt W.toWc w' σ0 σc → RelL W.toWc w' ys ysc → D.ct ysc σc w'.H
  | .err c ns vs σ s => ErrP W w E c ns vs s
  | .rt _ _ => False
  | .stuck => False
theorem SRes.PG.mono {W : Wl} {r : SRes} {w w2 : Wd} {D : GEnds} {E : XK} (e : Ext w w2) (h : r.PG W w D E) : r.PG W w2 D E := by
  cases r with
  | nx σ s => obtain ⟨ys, σ0, rfl, k⟩ := h; exact ⟨ys, σ0, rfl, fun w' σc ysc e' => k w' σc ysc (e.trans e')⟩
  | bk σ s => obtain ⟨ys, σ0, rfl, k⟩ := h; exact ⟨ys, σ0, rfl, fun w' σc ysc e' => k w' σc ysc (e.trans e')⟩
  | ct σ s => obtain ⟨ys, σ0, rfl, k⟩ := h; exact ⟨ys, σ0, rfl, fun w' σc ysc e' => k w' σc ysc (e.trans e')⟩
  | err c ns vs σ s => exact fun w' d e' => h w' d (e.trans e')
  | rt v s => exact h
  | stuck => exact h
def Frm (f : AS) : Prop := ∀ σ s, f σ s = .stuck ∨ ∃ ys σ0, σ = some (AV.tup ys) :: σ0
theorem frm_match {k : List AV → ASt → SRes} {σ : ASt} : (match σ with | some (.tup ys) :: σ' => k ys σ' | _ => .stuck : SRes) = .stuck ∨ ∃ ys σ0, σ = some (AV.tup ys) :: σ0 := by
  match σ with
  | some (.tup ys) :: σ' => exact .inr ⟨_, _, rfl⟩
  | [] => exact .inl rfl
  | none :: _ => exact .inl rfl
  | some (.non) :: _ => exact .inl rfl
  | some (.bl _) :: _ => exact .inl rfl
  | some (.int _) :: _ => exact .inl rfl
  | some (.str _) :: _ => exact .inl rfl
  | some (.ty _) :: _ => exact .inl rfl
  | some (.cls _) :: _ => exact .inl rfl
  | some (.obj _) :: _ => exact .inl rfl
  | some (.raw _) :: _ => exact .inl rfl
  | some (.scr _) :: _ => exact .inl rfl
  | some (.exn _ _ _) :: _ => exact .inl rfl
theorem Frm.pl {f : AS} : Frm (aPl f) := fun σ s => frm_match
theorem Frm.seq {f g : AS} (h : Frm f) : Frm (aSeq f g) := fun σ s => by
  rcases h σ s with e | e
  · left; unfold aSeq; rw [e]; rfl
  · exact .inr e
structure DGn (W : Wl) (E : XK) (tg : TGn) (f : AS) : Prop where
  frm : Frm f
  run : ∀ (w : Wd) (s : Sto) (σ : ASt) (σc : L2.St) (ys : List AV) (ysc : List V) (D : GEnds), Sim W w s → RSt W.toWc w σ σc → RelL W.toWc w ys ysc → (f (some (.tup ys) :: σ) s).PG W w D E → tg D ysc σc w.H
section
variable {W : Wl} {E : XK} {ts : TS} {f g : AS} {te : TE} {fe : AE} {tg ug : TGn}
theorem DGn.pl (hs : DS W (fun _ => E) ts f) : DGn W E (tPlain ts) (aPl f) := ⟨Frm.pl, fun w s σ σc ys ysc D S R Y h => by
  refine hs w s σ σc (D.at ysc) S R ?_
  have h : ((f σ s).hd (some (.tup ys))).PG W w D E := h
  cases e : f σ s with
  | nx σ' s' =>
    rw [e] at h
    obtain ⟨ys', σ0, e2, k⟩ := h
    cases e2
    exact fun w' σc' e' S' R' => k w' σc' ysc e' S' R' (Y.mono e')
  | bk σ' s' =>
    rw [e] at h
    obtain ⟨ys', σ0, e2, k⟩ := h
    cases e2
    exact fun w' σc' e' S' R' => k w' σc' ysc e' S' R' (Y.mono e')
  | ct σ' s' =>
    rw [e] at h
    obtain ⟨ys', σ0, e2, k⟩ := h
    cases e2
    exact fun w' σc' e' S' R' => k w' σc' ysc e' S' R' (Y.mono e')
  | rt v s' => rw [e] at h; exact (show False from h).elim
  | err c ns vs σ' s' => rw [e] at h; exact fun w' σc' d e' S' R' x => h w' d e' S' x
  | stuck => rw [e] at h; exact (show False from h).elim⟩
theorem DGn.nil : DGn W E (tPlain fun D σ H => D.nx σ H) (aPl aNext) := DGn.pl DS.next
theorem DGn.seq (hf : DGn W E tg f) (hg : DGn W E ug g) : DGn W E (tGThen tg ug) (aSeq f g) := ⟨hf.frm.seq, fun w s σ σc ys ysc D S R Y h => by
  refine hf.run w s σ σc ys ysc _ S R Y ?_
  have h : ((f (some (.tup ys) :: σ) s).thn g).PG W w D E := h
  cases e : f (some (.tup ys) :: σ) s with
  | nx σ' s' =>
    rw [e] at h
    have h : (g σ' s').PG W w D E := h
    rcases hg.frm σ' s' with e2 | ⟨ys', σ0, rfl⟩
    · rw [e2] at h; exact (show False from h).elim
    · exact ⟨ys', σ0, rfl, fun w' σc' ysc' e' S' R' Y' => hg.run w' s' σ0 σc' ys' ysc' D S' R' Y' (h.mono e')⟩
  | bk σ' s' => rw [e] at h; exact h
  | ct σ' s' => rw [e] at h; exact h
  | rt v s' => rw [e] at h; exact h
  | err c ns vs σ' s' => rw [e] at h; exact h
  | stuck => rw [e] at h; exact h⟩
/-- a generator's promise -/
def spGF (W : Wl) (n : Nat) (F : List AV → Sto → Res AV) : SpG := fun vs H cont E => ∃ (w : Wd) (s : Sto) (args : List AV), H = w.H ∧ Sim W w s ∧ RelL W.toWc w args vs ∧ args.length = n ∧
  (F args s).Post (fun v s' => ∃ ys, v = .tup ys ∧ ∀ w' ysc, Ext w w' → Sim W w' s' → RelL W.toWc w' ys ysc → cont ysc w'.H) (ErrP W w E)
theorem spGF.len {n : Nat} {F : List AV → Sto → Res AV} {vs : List V} {H : Hp} {Q : List V → Hp → Prop} {E : XK} (h : spGF W n F vs H Q E) : vs.length = n := by
  obtain ⟨w, s, args, rfl, S, R, hn, p⟩ := h
  rw [← R.length]; exact hn
def toL (r : Res AV) : Res AV := r.bind fun v s => match v with | .tup ys => newL ys s | _ => .stuck
@[simp] theorem toL_ok {ys : List AV} {s : Sto} : toL (.ok (.tup ys) s) = newL ys s := rfl
@[simp] theorem toL_err {c : String} {ns : List Str} {vs : List AV} {s : Sto} : toL (.err c ns vs s) = .err c ns vs s := rfl
variable {ta : TE} {tr : TA} {fa : AE} {fr : AA}
end
end
end Ab
namespace Ab
open PySem PySem.Spec PyProof.Rows L2
open Classical
end Ab
namespace Ab
open PySem PySem.Spec PyProof.Rows L2
open Classical
end Ab
namespace Gx
open PySem PySem.Spec PyProof.Rows L2
end Gx
namespace Ab
open PySem PySem.Spec PyProof.Rows L2
open Classical
noncomputable section
def Rows (xs : List AV) : Prop := ∃ rows : List (List Int), xs = rows.map (fun r => AV.tup (r.map AV.int)) ∧ rows.Nodup ∧ rows.length < 64
end
end Ab
namespace Ab
open PySem PySem.Spec PyProof.Rows L2 GenW
def rInt1 : List V → Hp → VK → Prop := fun xs H Q => (∃ i, xs = [.int i] ∧ Q (.int i) H) ∨ ∃ k, xs = [.bl k] ∧ Q (.int (if k then 1 else 0)) H
theorem call_int1' {X : Cx} : CallR X (.type "int") rInt1 := call_int1
/-- int of a whole number or of True, False -/
def gIntOf : List AV → Sto → Res AV := fun xs s => match xs with | [.int i] => .ok (.int i) s | [.bl b] => .ok (.int (if b then 1 else 0)) s | _ => .stuck
@[simp] theorem gIntOf_int {i : Int} {s : Sto} : gIntOf [.int i] s = .ok (.int i) s := rfl
@[simp] theorem gIntOf_bl {b : Bool} {s : Sto} : gIntOf [.bl b] s = .ok (.int (if b then 1 else 0)) s := rfl
theorem NEL.intOf : NEL gIntOf := fun x s c ns vs s' h => by 
  unfold gIntOf at h
  repeat' split at h
  all_goals first | cases h | (unfold newL at h; cases h)
theorem DB.intOf {W : Wl} : DB W rInt1 gIntOf := fun w s x v Q S r h => by
  unfold gIntOf at h
  split at h
  · cases r with
    | cons r1 r2 =>
      cases r1; cases r2
      exact .inl ⟨_, rfl, h w _ (.refl w) S (.int _)⟩
  · cases r with
    | cons r1 r2 =>
      cases r1; cases r2
      exact .inr ⟨_, rfl, h w _ (.refl w) S (.int _)⟩
  · exact h.elim
end Ab
set_option Elab.async false
set_option linter.all false
set_option maxRecDepth 100000
set_option maxHeartbeats 1000000
set_option Elab.async false
set_option linter.all false
set_option maxRecDepth 100000
set_option maxHeartbeats 1000000
namespace Ab
open PySem PySem.Spec PyProof.Rows L2
open Classical
noncomputable section
section
variable {W : Wl} {E : L2.St → XK} {ta te : TE} {fa fe : AE} {t1 t2 : TA} {f1 f2 : AA}
theorem RelL.at {w : Wd} {xs : List AV} {vs : List V} (h : RelL W w xs vs) : ∀ i : Nat, (xs[i]? = none ∧ vs[i]? = none) ∨ ∃ x v, xs[i]? = some x ∧ vs[i]? = some v ∧ Rel W w x v := by
  induction xs generalizing vs with
  | nil => cases h; exact fun i => .inl ⟨rfl, rfl⟩
  | cons x xs ih =>
    cases h with
    | cons h t =>
      intro i
      cases i with
      | zero => exact .inr ⟨_, _, rfl, rfl, h⟩
      | succ i => exact ih t i
end
end
end Ab
set_option Elab.async false
set_option linter.all false
set_option maxRecDepth 100000
set_option maxHeartbeats 1000000
namespace Gx
open PySem PySem.Spec PyProof.Rows L2 GenW
end Gx
namespace Ab
open PySem PySem.Spec PyProof.Rows L2 GenW
open Classical
end Ab
set_option Elab.async false
set_option linter.all false
set_option maxRecDepth 100000
set_option maxHeartbeats 1000000
namespace PySem
theorem newE_any {v : Value} {o : Obj} {HH : Heap → Prop} (B : Begins v o HH) :
    Meets (Builtin.«enumerate.__new__» ⟨[.type "enumerate", v], []⟩) (fun _ R s => HH s.heap ∧
      R (.ok (.ret (.ref (s.heap.push o).objs.size))) { s with heap := (s.heap.push o).push { cls := .type "enumerate", data := .fields #[.none, .bool false, .ref s.heap.objs.size, rawInt 0, .none, .none] } }) :=
  .of_wp fun P w A R st => fun ⟨g1, g2⟩ => by
    obtain ⟨hp, a1, a2, a3, a4⟩ := st
    have hsub := sub_enumerate
    have go : ∀ {A' : Around} {E Q : Value → Shared → Prop}, Q (.ref hp.objs.size) ⟨hp.push o, a1, a2, a3, a4⟩ → wpAny (model P w) A' (pyIter v) Q E ⟨hp, a1, a2, a3, a4⟩ := fun q => B.iter P w _ _ ⟨hp, a1, a2, a3, a4⟩ _ g1 q
    wp_walk using go
    refine wpAny_stack_any fun _ => wpAny_pure ?_
    split
    · rename_i c _ _ _ _ _
      cases (c == Value.type "enumerate")
      all_goals wp_walk using go
      all_goals exact ⟨_, rfl, g2⟩
    · wp_walk using go
      exact ⟨_, rfl, g2⟩
end PySem
namespace Gx
open PySem PySem.Spec PyProof.Rows L2
/-- the tuple at a, its items in new pairs -/
def ItE (K : PySem.W.Frag) (a : Addr) : It :=
  ⟨fun i H => ∃ (xs : List V) (x : V), SqT K H a xs ∧ xs[i]? = some x, fun i H v H' => ∃ T x, v = .ref T ∧ H T = none ∧ H' = upd H T (.tup [.int (i : Nat), x]) ∧ ∀ xs, SqT K H a xs → xs[i]? = some x, fun i H => ∃ xs : List V, SqT K H a xs ∧ xs.length ≤ i⟩
theorem turnE {P : Program} {w : World} {K : PySem.W.Frag} {es : List Expr} {n : Nat} {ps : Pos} (a e it : Addr) :
    Turn P w K (.Tuple es n ps) (ItE K a) [e, it] e (fun i h => (∃ old, IsEnum h e it ((i : Nat) : Int) old) ∧ h.IsTupleIter it a i ∧ e ≠ it ∧ e ≠ a ∧ a ≠ it) where
  mem := List.mem_cons_self
  obj := fun i h st b hb => by
    obtain ⟨⟨old, k1⟩, ⟨o, k2, _, k3⟩, _⟩ := st
    simp only [List.mem_cons, List.not_mem_nil, or_false] at hb
    rcases hb with rfl | rfl
    · exact ⟨_, k1, fun v q => nomatch q⟩
    · exact ⟨o, k2, fun v q => by rw [k3] at q; cases q⟩
  keep := fun i h h' ⟨⟨old, k1⟩, k2, k3⟩ k => ⟨⟨old, k e List.mem_cons_self _ k1⟩, k2.at fun o q => k it (.tail _ List.mem_cons_self) o q, k3⟩
  item := by
    rintro X rfl rfl rfl hc i pins s σ H E I hf ⟨⟨old, k1⟩, k2, n1, n2, n3⟩ ⟨xs, x, hq, hx⟩
    obtain ⟨its, rv, p, hz⟩ := I.tuple hq
    have p : s.heap.IsTuple a its.toArray := p
    obtain ⟨u, hu, ru⟩ := rv.get hx
    have le : e < s.heap.objs.size := Heap.lt_size k1
    have li : it < s.heap.objs.size := by obtain ⟨_, q, _⟩ := k2; exact Heap.lt_size q
    have il : i < its.toArray.size := by
      have := (List.getElem?_eq_some_iff.mp hu).1
      simpa using this
    refine wpAny_pyNext_enum_itemD (Draws.tuple (prog := X.prog) (w := X.w) (A := X.A.in1) (show X.A.in1.handled = none from I.ok.hd hc) it a n3 its.toArray) k1 ⟨k2, p⟩ il n1 (by simp [n1, n2]) fun y h' tk hy ho ⟨hit', _⟩ hT hsz hk => ?_
    have hy : u = y := by
      have hy : its.toArray[i]? = some y := hy
      rw [List.getElem?_toArray, hu] at hy
      exact Option.some.inj hy
    subst hy
    refine ⟨_, rfl, wpAny_letOwnedTupleGo_enum (s := { s with heap := h', toks := tk + 1 }) ho fun h'' he' sb => ?_⟩
    have hT2 : h''.get? s.heap.objs.size = some { cls := .type "tuple", data := .seq #[.int i tk, u] } := (sb.2 _ (Nat.ne_of_gt le)).trans hT
    have new : ObjOk X.prog X.w (upd H s.heap.objs.size (.tup [.int (i : Nat), x])) h'' s.heap.objs.size (.tup [.int (i : Nat), x]) :=
      ⟨show 2 ≤ sizeLine by decide, [.int i tk, u], .cons ⟨_, rfl⟩ (.cons ru .nil), ⟨_, hT2, rfl, _, rfl⟩⟩
    have I1 : Inv X pins σ (upd H s.heap.objs.size (.tup [.int (i : Nat), x])) { s with heap := h'', toks := tk + 1 } :=
      I.turnedNew (t' := tk + 1) (ch := [e, it]) (fun b ob hb q => (sb.2 b fun z => hb (by simp [z])).trans (hk b ob (fun z => hb (by simp [z])) (fun z => hb (by simp [z])) q)) hf (Nat.le_refl _) new
    refine ⟨.ref s.heap.objs.size, _, I1, rfl, ⟨_, x, rfl, I.hok.fresh (Nat.le_refl _), rfl, fun ys hy => by rw [I.tuple_inj hy hq]; exact hx⟩, ⟨⟨u, ?_⟩, hit'.at fun o q => (sb.2 it (Ne.symm n1)).trans q, n1, n2, n3⟩, fun b hb => ?_⟩
    · rw [show ((i + 1 : Nat) : Int) = (i : Int) + 1 by omega]
      exact he'
    · have hb' : b < s.heap.objs.size := by
        simp only [List.mem_cons, List.not_mem_nil, or_false] at hb
        rcases hb with rfl | rfl
        · exact le
        · exact li
      rw [upd_ne (Nat.ne_of_lt hb')]
      exact (hf b hb).1
  done := by
    rintro X rfl rfl rfl hc i pins s σ H E I hf ⟨⟨old, k1⟩, k2, n1, n2, n3⟩ ⟨xs, hq, hx⟩
    obtain ⟨its, rv, p, hz⟩ := I.tuple hq
    have p : s.heap.IsTuple a its.toArray := p
    obtain ⟨f0, f1, f2, f3, f4, f5⟩ := hf it (.tail _ List.mem_cons_self)
    have hl := rv.length
    have hne : its.toArray[i]? = none := by simp; omega
    exact endE (I.ok.hd hc) k1 k2 p hne fun h' eb => ⟨rfl, I.turned (t' := s.toks) (fun b o hb q => eb b o hb q) f0 f1 f3 f4 f5⟩
  self := fun A i s Q E ⟨⟨_, k1⟩, _⟩ h => wpAny_pyIter_enum k1 h
where
  endE {P : Program} {w : World} {A : Around} {E : Value → Shared → Prop} {s : Shared} {e it l : Addr} {i : Nat} {items : Array Value} {old : Value} {Q : Option Value → Shared → Prop} (hh : A.handled = none)
    (he : IsEnum s.heap e it i old) (hit : s.heap.IsTupleIter it l i) (hl : s.heap.IsTuple l items) (hx : items[i]? = none) (hQ : ∀ h', Heap.ExtBut it s.heap h' → Q none { s with heap := h' }) :
    wpAny (model P w) A (pyNext (.ref e)) Q E s := by
    unfold pyNext
    refine wpAny_bind (wpAny_attempt (wpAny_callSpecial?_slot (name := Str.ofString "__next__") ⟨_, he, rfl⟩ F.slot_enumerate_next (wpAny_call_entry F.slot_enumerate_next ⟨_, he, rfl⟩ F.entry_enumerate_next ?_ (F.args_enumerate_next_1 _))))
    show wpAny _ _ (field (.ref e) 2 >>= _) _ _ _
    refine wpAny_bind (wpAny_field he rfl (x := .ref it) rfl ?_)
    refine wpAny_bind (wpAny_nextOf_tuple_end hh hit hl hx fun h' x k1 ⟨o, k2, k3⟩ => ?_)
    exact wpAny_bind (wpAny_isInstance (T := "StopIteration") (b := true) ⟨o, k2, k3⟩ isSubtype_stop (wpAny_pure (hQ _ k1)))
def iEnT (K : PySem.W.Frag) (ta : TA) : TI := fun σ H R => ta σ H fun vs H1 => ∃ a xs, vs = [.ref a] ∧ SqT K H1 a xs ∧ R (ItE K a) H1
theorem pi_enT {X : Cx} {e : Expr} {ta : TA} {p pos tp : Pos} {es : List Expr} {n : Nat} (hg : Gl X "enumerate") (hm : X.mg "enumerate" = none) (ha : PA X [e] ta) (hs : starEach [e] X.env = [(false, eval e X.env)] := by rfl) :
    PI X (.Tuple es n tp) (.Call (.Name "enumerate" p) [e] [] pos) (iEnT X.K ta) := ⟨fun pins s σ H R I h => by
  refine Call_ (ld_blt I hg hm boot_enumerate (PyProof.Rows.callWith_type1 (thn (ha.run pos pins s σ H _ I h) fun us s1 ⟨vs, H1, I1, r1, a, xs, ex, hq, q⟩ => ?_) hs rfl))
  subst ex
  cases r1 with
  | cons r rr =>
    cases rr
    cases r
    obtain ⟨its, rv, p', hz⟩ := I1.tuple hq
    have p' : s1.heap.IsTuple a its.toArray := p'
    have la : a < s1.heap.objs.size := by obtain ⟨o, q, _⟩ := id p'; exact Heap.lt_size q
    refine callType_new F.called_enumerate (by decide) (F.typeCall_enumerate_1 _) (F.newCall_enumerate_1 _) (fun obj => F.args_object_init_2 obj _) F.entry_enumerate_new (newE_any (begins_tuple a its.toArray)) ⟨p', ?_⟩
    obtain ⟨o, ho⟩ : ∃ o : Obj, o = { cls := .type "tuple_iterator", data := .fields #[.ref a, .int 0 0] } := ⟨_, rfl⟩
    rw [← ho]
    have of : o.isFreed = false := by rw [ho]; rfl
    have sz : (s1.heap.push o).objs.size = s1.heap.objs.size + 1 := Heap.size_push ..
    show _ ∧ _
    rw [sz]
    have he : IsEnum ((s1.heap.push o).push { cls := .type "enumerate", data := .fields #[.none, .bool false, .ref s1.heap.objs.size, rawInt 0, .none, .none] }) (s1.heap.objs.size + 1) s1.heap.objs.size 0 .none := by
      have := Heap.get?_push_size (s1.heap.push o) (o := { cls := .type "enumerate", data := .fields #[.none, .bool false, .ref s1.heap.objs.size, rawInt 0, .none, .none] }) rfl
      rw [sz] at this; exact this
    refine ⟨⟨_, he, rfl⟩, wpAny_pyIter_enum he ?_⟩
    have kk : ∀ b ob, s1.heap.get? b = some ob → ((s1.heap.push o).push { cls := .type "enumerate", data := .fields #[.none, .bool false, .ref s1.heap.objs.size, rawInt 0, .none, .none] }).get? b = some ob := fun b ob q => Heap.get?_push_of_some _ (Heap.get?_push_of_some _ q)
    have hti : ((s1.heap.push o).push { cls := .type "enumerate", data := .fields #[.none, .bool false, .ref s1.heap.objs.size, rawInt 0, .none, .none] }).IsTupleIter s1.heap.objs.size a 0 := ⟨o, Heap.get?_push_of_some _ (Heap.get?_push_size _ of), by rw [ho]; first | done | rfl, by rw [ho]; first | done | rfl⟩
    refine ⟨s1.heap.objs.size + 1, [s1.heap.objs.size + 1, s1.heap.objs.size], _, _, H1, rfl, I1.kept (t' := s1.toks) kk, turnE a (s1.heap.objs.size + 1) s1.heap.objs.size, ⟨⟨.none, he⟩, hti, Nat.succ_ne_self _, Nat.ne_of_gt (Nat.lt_succ_of_lt la), Nat.ne_of_lt la⟩, fun b hb => ?_, q⟩
    have hle : s1.heap.objs.size ≤ b := by
      simp only [List.mem_cons, List.not_mem_nil, or_false] at hb
      rcases hb with rfl | rfl
      · exact Nat.le_succ _
      · exact Nat.le_refl _
    exact I1.fpOk hle (I1.hok.fresh hle)⟩
end Gx
set_option Elab.async false
set_option linter.all false
set_option maxRecDepth 100000
set_option maxHeartbeats 4000000
namespace Gx
open PySem PySem.Spec PyProof.Rows L2
end Gx
set_option Elab.async false
set_option linter.all false
set_option maxRecDepth 100000
set_option maxHeartbeats 4000000
set_option exponentiation.threshold 2000
namespace Gx
open PySem PySem.Spec PyProof.Rows L2
end Gx
set_option Elab.async false
set_option linter.all false
set_option maxRecDepth 100000
set_option maxHeartbeats 4000000
set_option exponentiation.threshold 2000
namespace Gx
open PySem PySem.Spec PyProof.Rows L2
end Gx
set_option Elab.async false
set_option linter.all false
set_option maxRecDepth 100000
set_option maxHeartbeats 1000000
namespace Ab
open PySem PySem.Spec PyProof.Rows L2
open Classical
noncomputable section
section
variable {W : Wl} {E : L2.St → XK} {tr : TA} {fr : AA}
def enumUK : List AV → Sto → Res (List AV × (Sto → Prop)) := fun xs s1 => match xs with
  | [.tup ys] => .ok (enumA ys, fun _ => True) s1
  | xs => enumK xs s1
theorem enumUK_of {xs : List AV} {s1 : Sto} (c : ¬ ∃ ys, xs = [.tup ys]) : enumUK xs s1 = enumK xs s1 := by
  unfold enumUK
  split
  · exact absurd ⟨_, rfl⟩ c
  · rfl
def aEnumU (fr : AA) : AI := fun σ s => (fr σ s).bind enumUK
def enU (K : PySem.W.Frag) (ta : TA) : TI := fun σ H R => iEnum K ta σ H R ∨ Gx.iEnT K ta σ H R
theorem itw_enT {w0 : Wd} {a : Addr} {xs : List AV} {vs : List V} (h : SqT W.K w0.H a vs) (r : RelL W w0 xs vs) (G : Sto → Prop) : ItW W w0 (Gx.ItE W.K a) (enumA xs) G := by
  have hl := r.length
  refine ⟨xs.length, fun H => ∃ e, SqT W.K H a vs ∧ e = vs.length, fun i H v H' => ∃ T x, v = .ref T ∧ H T = none ∧ H' = upd H T (.tup [.int (i : Nat), x]) ∧ vs[i]? = some x, ⟨fun i H hi ⟨_, h1, h2⟩ => ⟨vs, vs[i], h1, by simp⟩, fun H ⟨_, h1, h2⟩ => ⟨vs, h1, Nat.le_of_eq hl.symm⟩, fun i H x H' hi ⟨_, h1, _⟩ ⟨T, x', y1, y2, y3, y4⟩ => ⟨T, x', y1, y2, y3, y4 vs h1⟩⟩, by simp [enumA], fun w s e S' g => ⟨_, sqt_ext e h, rfl⟩, fun w s i y H' e S' g hi hy => ?_⟩
  obtain ⟨T, u, rfl, hT, rfl, h2⟩ := hy
  obtain ⟨z, y1, y2⟩ := (r.mono e).getv i u h2
  have gr := grow_upd (o := .tup [.int (i : Nat), u]) hT
  refine ⟨.tup [.int (i : Nat), z], _, ?_, rfl, .grow gr, S'.grow gr, .tup (.inl (.inl upd_same)) (.cons (.int _) (.cons (y2.mono (.grow gr)) .nil))⟩
  unfold enumA
  rw [List.getElem?_mapIdx, y1]
  rfl
theorem DI.enumU (ha : DA W E tr fr) : DI W E (enU W.K tr) (aEnumU fr) := fun w s σ σc R S Rs h => by
  cases e : fr σ s with
  | stuck =>
    have : aEnumU fr σ s = .stuck := by unfold aEnumU; rw [e]; rfl
    rw [this] at h; exact h.elim
  | err c ns vs s1 =>
    have : aEnumU fr σ s = .err c ns vs s1 := by unfold aEnumU; rw [e]; rfl
    rw [this] at h
    exact .inl (ha w s σ σc _ S Rs (by rw [e]; exact h))
  | ok xs s1 =>
    have e1 : aEnumU fr σ s = enumUK xs s1 := by unfold aEnumU; rw [e]; rfl
    rw [e1] at h
    by_cases c : ∃ ys, xs = [.tup ys]
    · obtain ⟨ys, rfl⟩ := c
      refine .inr (ha w s σ σc _ S Rs ?_)
      rw [e]
      intro w1 v x1 S1 r1
      cases r1 with
      | cons r1 r2 =>
        cases r2
        cases r1 with
        | @tup a _ vs k1 k2 => exact ⟨a, vs, rfl, k1, h w1 _ x1 S1 (itw_enT k1 k2 _)⟩
    · have e2 : aEnum fr σ s = enumUK xs s1 := by
        rw [e_enum, e, Res.bind_ok, enumUK_of c]
      rw [← e2] at h
      exact .inl (DI.enum ha w s σ σc R S Rs h)
theorem e_enumU {σ : ASt} {s : Sto} : aEnumU fr σ s = (fr σ s).bind enumUK := rfl
theorem e_enumUT {ys : List AV} {s : Sto} : enumUK [.tup ys] s = .ok (enumA ys, fun _ => True) s := rfl
def gMulV : AV → AV → Sto → Res AV := fun x y s => match x, y with
  | .tup a, .int k => if a ≠ [] ∧ -1000 ≤ k ∧ k ≤ 1000 ∧ a.length ≤ 1000 then .ok (.tup (List.replicate k.toNat a).flatten) s else .stuck
  | x, y => gMul x y s
@[simp] theorem gMulV_int {i j : Int} {s : Sto} : gMulV (.int i) (.int j) s = gMul (.int i) (.int j) s := rfl
@[simp] theorem gMulV_str {i : Str} {j : Int} {s : Sto} : gMulV (.str i) (.int j) s = gMul (.str i) (.int j) s := rfl
@[simp] theorem gMulV_obj {i : Nat} {j : Int} {s : Sto} : gMulV (.obj i) (.int j) s = gMul (.obj i) (.int j) s := rfl
theorem s_aug {i : Nat} {g : AV → AV → Sto → Res AV} {fa : AE} {σ : ASt} {s : Sto} {x : AV} (h : σ[i]? = some (some x)) : aAug i g fa σ s = (fa σ s).st σ (augK i g σ x) := by
  unfold aAug aVar
  simp only [h]
  rfl
end
end
end Ab
set_option Elab.async false
set_option linter.all false
set_option maxRecDepth 100000
set_option maxHeartbeats 1000000
namespace Gx
open PySem PySem.Spec PyProof.Rows L2
end Gx
set_option Elab.async false
set_option linter.all false
set_option maxRecDepth 100000
set_option maxHeartbeats 1000000
namespace Ab
open PySem PySem.Spec PyProof.Rows L2
open Classical
end Ab
set_option Elab.async false
set_option linter.all false
set_option maxRecDepth 100000
set_option maxHeartbeats 4000000
namespace Gx
open PySem PySem.Spec PyProof.Rows L2
end Gx
set_option Elab.async false
set_option linter.all false
set_option maxRecDepth 100000
set_option maxHeartbeats 2000000
namespace Ab
open PySem PySem.Spec PyProof.Rows L2
section
def aMNil : AV → AS := fun _ => aNext
def aMAny (f : AS) : AV → AS := fun _ => f
def aMCase (k : Str) (fb : AS) (fr : AV → AS) : AV → AS := fun x σ s => match x with | .str y => if y = k then fb σ s else fr (.str y) σ s | _ => .stuck
def aMCase2 (k l : Str) (fb : AS) (fr : AV → AS) : AV → AS := aMCase k fb (aMCase l fb fr)
def aMatch (fa : AE) (fc : AV → AS) : AS := fun σ s => (fa σ s).st σ fun x s1 => fc x σ s1
variable {W : Wl} {E : L2.St → XK}
def DMt (W : Wl) (E : L2.St → XK) (tc : V → TS) (fc : AV → AS) : Prop := ∀ (w : Wd) (s : Sto) (σ : ASt) (σc : L2.St) (D : Ends) (x : AV) (v : V), Sim W w s → RSt W w σ σc → Rel W w x v → (fc x σ s).P W w D E → tc v D σc w.H
theorem DMt.nil : DMt W E Mt.tEnd aMNil := fun w s σ σc D x v S R r h => h w σc (.refl w) S R
theorem DMt.any {tb : TS} {fb : AS} (hb : DS W E tb fb) : DMt W E (Mt.tAny tb) (aMAny fb) := fun w s σ σc D x v S R r h => hb w s σ σc D S R h
theorem DS.match {ta : TE} {fa : AE} {tc : V → TS} {fc : AV → AS} (ha : DE W E ta fa) (hc : DMt W E tc fc) : DS W E (Mt.tMatch ta tc) (aMatch fa fc) := fun w s σ σc D S R h =>
  ha w s σ σc _ S R ((exp_post R h).mono (fun v s1 h1 w1 vc e1 S1 r1 => hc w1 s1 σ σc D v vc S1 (R.mono e1) r1 (P.mono e1 h1)) fun _ _ _ _ z => z)
end
section
noncomputable def gMulB : AV → AV → Sto → Res AV := fun x y s => match x, y with
  | .tup [a], .int k => if 2 ≤ k ∧ k ≤ 100000 then .ok (.tup (List.replicate k.toNat [a]).flatten) s else gMulV (.tup [a]) (.int k) s
  | x, y => gMulV x y s
@[simp] theorem gMulB_int {i j : Int} {s : Sto} : gMulB (.int i) (.int j) s = gMul (.int i) (.int j) s := rfl
@[simp] theorem gMulB_str {i : Str} {j : Int} {s : Sto} : gMulB (.str i) (.int j) s = gMul (.str i) (.int j) s := rfl
@[simp] theorem gMulB_obj {i : Nat} {j : Int} {s : Sto} : gMulB (.obj i) (.int j) s = gMul (.obj i) (.int j) s := rfl
end
section
variable {k l : Str} {fb : AS} {fr : AV → AS} {y : Str} {x : AV} {σ : ASt} {s : Sto} {fa : AE} {fc : AV → AS}
theorem e_match : aMatch fa fc σ s = (fa σ s).st σ fun x s1 => fc x σ s1 := rfl
theorem e_mcase : aMCase k fb fr (.str y) σ s = if y = k then fb σ s else fr (.str y) σ s := rfl
theorem e_mcase2 : aMCase2 k l fb fr (.str y) σ s = if y = k then fb σ s else if y = l then fb σ s else fr (.str y) σ s := rfl
theorem e_many : aMAny fb x σ s = fb σ s := rfl
theorem e_mnil : aMNil x σ s = .nx σ s := rfl
end
end Ab
set_option Elab.async false
set_option linter.all false
set_option maxRecDepth 100000
set_option maxHeartbeats 1000000
set_option Elab.async false
set_option linter.all false
set_option maxRecDepth 100000
set_option maxHeartbeats 1000000
namespace Ab
open PySem PySem.Spec PyProof.Rows L2
open Classical
noncomputable section
/-- a tuple == () -/
def gEq0 : AV → AV → Sto → Res AV := fun x y s => match x, y with
  | .tup (_ :: _), .tup [] => .ok (.bl false) s
  | x, y => gEq x y s
@[simp] theorem gEq0_tup {a : AV} {l : List AV} {s : Sto} : gEq0 (.tup (a :: l)) (.tup []) s = .ok (.bl false) s := rfl
end
end Ab
set_option Elab.async false
set_option linter.all false
set_option maxRecDepth 100000
set_option maxHeartbeats 1000000
set_option Elab.async false
set_option linter.all false
set_option maxRecDepth 100000
set_option maxHeartbeats 1000000
namespace Ab
open PySem PySem.Spec PyProof.Rows L2
open Classical
noncomputable section
section
variable {W : Wl} {E : L2.St → XK} {ta tb td : TE} {fa fb fd : AE}
/-- d.get(y, z) -/
def isDic (s : Sto) (x : AV) : Prop := ∃ i kvs, x = .obj i ∧ s.c i = .dic kvs
def gGet2 (x y z : AV) (s : Sto) : Res AV := match x, toKey y with | .obj i, some k => (match s.c i with | .dic kvs => .ok ((valA kvs k).getD z) s | _ => .stuck) | _, _ => .stuck
def aGet2 (fd fa fb : AE) : AE := fun σ s => (fd σ s).bind fun x s1 => if isDic s1 x then (fa σ s1).bind fun y s2 => (fb σ s2).bind fun z s3 => gGet2 x y z s3 else .stuck
def get2K (fa fb : AE) (σ : ASt) : AV → Sto → Res AV := fun x s1 => if isDic s1 x then (fa σ s1).bind fun y s2 => (fb σ s2).bind fun z s3 => gGet2 x y z s3 else .stuck
theorem e_get2 {σ : ASt} {s : Sto} : aGet2 fd fa fb σ s = (fd σ s).bind (get2K fa fb σ) := rfl
end
theorem ints_relE {W : Wc} {w : Wd} (ns : List Int) : RelL W w (ns.map .int) (ns.map V.int) := by
  induction ns with
  | nil => exact .nil
  | cons n ns ih => exact .cons (.int _) ih
/-- sorted(..) of a list of ints -/
def srt (ns : List Int) : List Int := ns.mergeSort (fun a b => decide (a ≤ b))
theorem srt_perm (ns : List Int) : (srt ns).Perm ns := List.mergeSort_perm _ _
theorem srt_ord (ns : List Int) : (srt ns).Pairwise (· ≤ ·) := by
  have := List.pairwise_mergeSort (le := fun a b : Int => decide (a ≤ b)) (fun a b c h1 h2 => by simp at *; omega) (fun a b => by simp; omega) ns
  exact this.imp fun h => by simpa using h
theorem ord_uniq : ∀ {l m : List Int}, l.Perm m → l.Pairwise (· ≤ ·) → m.Pairwise (· ≤ ·) → l = m
  | [], m, p, _, _ => (List.perm_nil.mp p.symm).symm
  | a :: l, [], p, _, _ => absurd (List.perm_nil.mp p) (by simp)
  | a :: l, b :: m, p, h1, h2 => by
    rw [List.pairwise_cons] at h1 h2
    have ha : a ∈ b :: m := p.subset List.mem_cons_self
    have hb : b ∈ a :: l := p.symm.subset List.mem_cons_self
    have e : a = b := by
      rcases List.mem_cons.mp ha with e | ha
      · exact e
      · rcases List.mem_cons.mp hb with e | hb
        · exact e.symm
        · exact Int.le_antisymm (h1.1 _ hb) (h2.1 _ ha)
    subst e
    rw [ord_uniq (p.cons_inv) h1.2 h2.2]
theorem srt_uniq {ns l : List Int} (p : l.Perm ns) (h : l.Pairwise (· ≤ ·)) : l = srt ns := ord_uniq (p.trans (srt_perm ns).symm) h (srt_ord ns)
def gSorted : List AV → Sto → Res AV := fun xs s => match xs with | [x] => (match lstOf s x with | some ys => (match intsOf ys with | some ns => newL ((srt ns).map .int) s | none => .stuck) | none => .stuck) | _ => .stuck
theorem gSorted_lst {x : AV} {ns : List Int} {s : Sto} (e : lstOf s x = some (ns.map .int)) : gSorted [x] s = newL ((srt ns).map .int) s := by
  unfold gSorted; simp only [e, intsOf_map]
theorem NEL.sorted : NEL gSorted := fun x s c ns vs s' h => by 
  unfold gSorted at h
  repeat' split at h
  all_goals first | cases h | (unfold newL at h; cases h)
theorem DB.sorted {W : Wl} : DB W (rSortedI W.K) gSorted := fun w s x v Q S r h => by
  unfold gSorted at h
  split at h
  · cases r with
    | cons r1 r2 =>
      cases r2
      split at h
      · rename_i ys e
        split at h
        · rename_i ns e2
          obtain ⟨a, vs, h1, h2, h3⟩ := lst_at S r1 e
          subst h1
          have hv := ints_rel h3 e2
          subst hv
          refine ⟨a, ns, rfl, h2, fun l p pm po hp => ?_⟩
          cases srt_uniq pm po
          exact newL_ok S (ints_relE _) h p hp
        · exact h.elim
      · exact h.elim
  · exact h.elim
def augSK (g : AV → AV → Sto → Res AV) (σ : ASt) (o i x y : AV) (s : Sto) : SRes := (g x y s).st σ fun z s2 => oNx σ (setL o i z s2)
def getLN (o i : AV) (s : Sto) : Option AV := match o, i with | .obj j, .int k => (match s.c j with | .lst xs => if 0 ≤ k ∧ k < 2 ^ 63 then xs[k.toNat]? else none | _ => none) | _, _ => none
def augS2 (g : AV → AV → Sto → Res AV) (fe : AE) (σ : ASt) (o i : AV) (s : Sto) : SRes := match getLN o i s with | some x => (fe σ s).st σ (augSK g σ o i x) | none => .stuck
def augS1 (g : AV → AV → Sto → Res AV) (fi fe : AE) (σ : ASt) (o : AV) (s : Sto) : SRes := (fi σ s).st σ (augS2 g fe σ o)
def aAugS (g : AV → AV → Sto → Res AV) (fo fi fe : AE) : AS := fun σ s => (fo σ s).st σ (augS1 g fi fe σ)
theorem s_augS {g : AV → AV → Sto → Res AV} {fo fi fe : AE} {σ : ASt} {s : Sto} : aAugS g fo fi fe σ s = (fo σ s).st σ (augS1 g fi fe σ) := rfl
theorem s_augS1 {g : AV → AV → Sto → Res AV} {fi fe : AE} {σ : ASt} {s : Sto} {o : AV} : augS1 g fi fe σ o s = (fi σ s).st σ (augS2 g fe σ o) := rfl
/-- lists of the very same things are equal -/
def gEqS : AV → AV → Sto → Res AV := fun x y s => match lstOf s x, lstOf s y with
  | some xs, some ys => if xs = ys ∧ xs.all (smA 19) = true then .ok (.bl true) s else gEq x y s
  | _, _ => gEq x y s
@[simp] theorem gEqS_int {i j : Int} {s : Sto} : gEqS (.int i) (.int j) s = .ok (.bl (decide (i = j))) s := gEq_int
@[simp] theorem gEqS_str {i j : Str} {s : Sto} : gEqS (.str i) (.str j) s = .ok (.bl (decide (i = j))) s := gEq_str
@[simp] theorem gEqS_bl {i j : Bool} {s : Sto} : gEqS (.bl i) (.bl j) s = .ok (.bl (decide (i = j))) s := gEq_bl
@[simp] theorem gEqS_tup {i : List AV} {j : AV} {s : Sto} : gEqS (.tup i) j s = gEq (.tup i) j s := rfl
def gMulW : AV → AV → Sto → Res AV := fun x y s => match x, y with
  | .tup [a], .int k => if 1000 < k ∧ k ≤ 100000 then .ok (.tup (List.replicate k.toNat [a]).flatten) s else gMulV (.tup [a]) (.int k) s
  | x, y => gMulV x y s
@[simp] theorem gMulW_int {i j : Int} {s : Sto} : gMulW (.int i) (.int j) s = gMul (.int i) (.int j) s := rfl
@[simp] theorem gMulW_str {i : Str} {j : Int} {s : Sto} : gMulW (.str i) (.int j) s = gMul (.str i) (.int j) s := rfl
@[simp] theorem gMulW_obj {i : Nat} {j : Int} {s : Sto} : gMulW (.obj i) (.int j) s = gMul (.obj i) (.int j) s := rfl
end
end Ab
namespace Gx
open PySem PySem.Spec PyProof.Rows L2
end Gx
namespace Ab
open PySem PySem.Spec PyProof.Rows L2
open Classical
end Ab
namespace Gx
open PySem PySem.Spec PyProof.Rows L2
end Gx
namespace Ab
open PySem PySem.Spec PyProof.Rows L2
open Classical
end Ab
namespace Gx
open PySem PySem.Spec PyProof.Rows L2
end Gx
namespace Ab
open PySem PySem.Spec PyProof.Rows L2
open Classical
noncomputable section
def aMethS (c : String) (m : Str) (F : List AV → Sto → Res AV) (fa : AE) (fr : AA) : AE := fun σ s => (fa σ s).bind fun x s1 => if clsIs s1 x c m = true then (fr σ s1).bind fun xs s2 => if xs.length ≤ sizeLine then F [x, .tup xs] s2 else .stuck else .stuck
section
variable {c : String} {m : Str} {F : List AV → Sto → Res AV} {fa : AE} {fr : AA} {σ : ASt} {s : Sto} {x : AV} {xs : List AV}
def mSK2 (F : List AV → Sto → Res AV) (x : AV) : List AV → Sto → Res AV := fun xs s2 => if xs.length ≤ sizeLine then F [x, .tup xs] s2 else .stuck
def mSK1 (c : String) (m : Str) (F : List AV → Sto → Res AV) (fr : AA) (σ : ASt) : AV → Sto → Res AV := fun x s1 => if clsIs s1 x c m = true then (fr σ s1).bind (mSK2 F x) else .stuck
theorem e_methS : aMethS c m F fa fr σ s = (fa σ s).bind (mSK1 c m F fr σ) := rfl
theorem e_methS1 : mSK1 c m F fr σ x s = grd (clsIs s x c m = true) ((fr σ s).bind (mSK2 F x)) := rfl
theorem e_methS2 : mSK2 F x xs s = grd (xs.length ≤ sizeLine) (F [x, .tup xs] s) := rfl
end
end
end Ab
namespace Ab
open PySem PySem.Spec PyProof.Rows L2
open Classical
noncomputable section
def lcIX (k : Nat) (G : Sto → Prop) (g : AV → AS) (ft : AT) (fe : AE) (σ0 : ASt) : List AV → Sto → Res AV
  | [] => fun s => if G s then .ok (.obj k) s else .stuck
  | x :: r => fun s => if G s then (match g x σ0 s with
    | .nx σ2 s2 => (match ft σ2 s2 with
      | .ok true s3 => (match fe σ2 s3 with
        | .ok y s4 => (match s4.c k with | .lst acc => if acc.length < sizeLine then lcIX k G g ft fe σ0 r (s4.set k (.lst (acc ++ [y]))) else .stuck | _ => .stuck)
        | .err c ns vs s4 => .err c ns vs s4
        | .stuck => .stuck)
      | .ok false s3 => lcIX k G g ft fe σ0 r s3
      | .err c ns vs s3 => .err c ns vs s3
      | .stuck => .stuck)
    | _ => .stuck) else .stuck
def aLcX (fi : AI) (g : AV → AS) (ft : AT) (fe : AE) (vs : List Nat) : AE := fun σ s => (fi σ s).bind fun p s1 => lcIX s1.n p.2 g ft fe (wipeA σ vs) p.1 (s1.new (.lst []))
section
variable {σ : ASt} {s : Sto} {fi : AI} {g : AV → AS} {ft : AT} {fe : AE} {vs : List Nat}
def lcXK (g : AV → AS) (ft : AT) (fe : AE) (vs : List Nat) (σ : ASt) : List AV × (Sto → Prop) → Sto → Res AV := fun p s1 => lcIX s1.n p.2 g ft fe (wipeA σ vs) p.1 (s1.new (.lst []))
theorem e_lcX : aLcX fi g ft fe vs σ s = (fi σ s).bind (lcXK g ft fe vs σ) := rfl
theorem e_lcXK {xs : List AV} {G : Sto → Prop} : lcXK g ft fe vs σ (xs, G) s = lcIX s.n G g ft fe (wipeA σ vs) xs (s.new (.lst [])) := rfl
end
end
end Ab
set_option Elab.async false
set_option linter.all false
set_option maxRecDepth 100000
set_option maxHeartbeats 2000000
namespace Gx
open PySem PySem.Spec PyProof.Rows L2
end Gx
set_option Elab.async false
set_option linter.all false
set_option maxRecDepth 100000
set_option maxHeartbeats 1000000
namespace Ab
open PySem PySem.Spec PyProof.Rows L2
open Classical
end Ab
set_option Elab.async false
set_option linter.all false
set_option maxRecDepth 100000
set_option maxHeartbeats 2000000
namespace Ab
open PySem PySem.Spec PyProof.Rows L2 Lv
open Classical
noncomputable section
abbrev LKx (γ ρ : Type) := Nat → ASt → γ → Sto → ρ
/-- what follows a generator's statement -/
structure LKs (γ ρ : Type) where
  nx : LKx γ ρ
  bk : LKx γ ρ
  ct : LKx γ ρ
  rt : Nat → AV → γ → Sto → ρ
/-- the consumer: what it does with an item -/
structure LHd (γ ρ : Type) where
  cb : AV → γ → Sto → (γ → Sto → ρ) → ρ
  bad : ρ
abbrev AL := ∀ γ ρ : Type, LHd γ ρ → LKs γ ρ → LKx γ ρ
def aLP (f : AS) : AL := fun _ _ h k n σ c s => match f σ s with
  | .nx σ s => k.nx n σ c s
  | .bk σ s => k.bk n σ c s
  | .ct σ s => k.ct n σ c s
  | .rt v s => k.rt n v c s
  | _ => h.bad
def aLNil : AL := fun _ _ h k n σ c s => k.nx n σ c s
def aLSeq (f g : AL) : AL := fun γ ρ h k n σ c s => f γ ρ h { k with nx := g γ ρ h k } n σ c s
def aLYd (fe : AE) : AL := fun _ _ h k n σ c s => if n < sizeLine then (match fe σ s with | .ok x s1 => h.cb x c s1 fun c' s' => k.nx (n + 1) σ c' s' | _ => h.bad) else h.bad
def loopL (G : Sto → Prop) (g : AV → AS) (b : AL) : List AV → AL
  | [] => fun _ _ h k n σ c s => if G s then k.nx n σ c s else h.bad
  | x :: r => fun γ ρ h k n σ c s => if G s then (match g x σ s with | .nx σ' s' => b γ ρ h { nx := loopL G g b r γ ρ h k, ct := loopL G g b r γ ρ h k, bk := k.nx, rt := k.rt } n σ' c s' | _ => h.bad) else h.bad
def aLFor (fi : AI) (g : AV → AS) (b : AL) : AL := fun γ ρ h k n σ c s => match fi σ s with | .ok p s1 => loopL p.2 g b p.1 γ ρ h k n σ c s1 | _ => h.bad
/-- a generator def -/
abbrev FL := ∀ γ ρ : Type, LHd γ ρ → (γ → Sto → ρ) → List AV → γ → Sto → ρ
def aLDef (m : Nat) (f : AL) : FL := fun γ ρ h fin xs c s => f γ ρ h { nx := fun _ _ c s => fin c s, bk := fun _ _ _ _ => h.bad, ct := fun _ _ _ _ => h.bad, rt := fun _ v c s => if v = .non then fin c s else h.bad } 0 (xs.map some ++ List.replicate m none) c s
section
variable (W : Wl)
abbrev E0c : L2.St → XK := fun _ _ _ _ => False
/-- the consumer's reading follows -/
def CbOk {γ ρ C : Type} (R : Wd → γ → C → Prop) (Good : ρ → Prop) (cb : CB C) (h : LHd γ ρ) (w0 : Wd) : Prop := ∀ (w : Wd) (s : Sto) (x : AV) (v : V) (c : γ) (cc : C) (K : C → Hp → Prop) (kk : γ → Sto → ρ), Ext w0 w → Sim W w s → Rel W w x v → R w c cc →
  (∀ w' s' c' cc', Ext w w' → Sim W w' s' → R w' c' cc' → Good (kk c' s') → K cc' w'.H) → Good (h.cb x c s kk) → cb v cc w.H K
structure KOk {γ ρ C : Type} (R : Wd → γ → C → Prop) (Good : ρ → Prop) (D : LEnds C) (k : LKs γ ρ) (w0 : Wd) : Prop where
  nx : ∀ n w s σ σc c cc, Ext w0 w → Sim W w s → RSt W w σ σc → R w c cc → Good (k.nx n σ c s) → D.nx n σc cc w.H
  bk : ∀ n w s σ σc c cc, Ext w0 w → Sim W w s → RSt W w σ σc → R w c cc → Good (k.bk n σ c s) → D.bk n σc cc w.H
  ct : ∀ n w s σ σc c cc, Ext w0 w → Sim W w s → RSt W w σ σc → R w c cc → Good (k.ct n σ c s) → D.ct n σc cc w.H
  rt : ∀ n w s x v c cc, Ext w0 w → Sim W w s → Rel W w x v → R w c cc → Good (k.rt n x c s) → D.rt n v cc w.H
/-- places that stay related -/
def Mono {γ C : Type} (R : Wd → γ → C → Prop) : Prop := ∀ w w' c cc, Ext w w' → R w c cc → R w' c cc
/-- a reading of a generator's statement -/
def DL (t : ∀ C, TL C) (f : AL) : Prop := ∀ (γ ρ C : Type) (R : Wd → γ → C → Prop) (Good : ρ → Prop) (cb : CB C) (D : LEnds C) (h : LHd γ ρ) (k : LKs γ ρ) (w : Wd) (s : Sto) (σ : ASt) (σc : L2.St) (c : γ) (cc : C) (n : Nat),
  Mono R → ¬ Good h.bad → CbOk W R Good cb h w → KOk W R Good D k w → Sim W w s → RSt W w σ σc → R w c cc → Good (f γ ρ h k n σ c s) → t C cb D n σc cc w.H
/-- a generator def's promise -/
def spL (m : Nat) (F : FL) : SpL := fun C vs H cb fin cc => ∃ (γ ρ : Type) (R : Wd → γ → C → Prop) (Good : ρ → Prop) (h : LHd γ ρ) (kf : γ → Sto → ρ) (w : Wd) (s : Sto) (args : List AV) (c : γ), H = w.H ∧ Sim W w s ∧ RelL W w args vs ∧ args.length = m ∧ R w c cc ∧ Mono R ∧ ¬ Good h.bad ∧ CbOk W R Good cb h w ∧
  (∀ w' s' c' cc', Ext w w' → Sim W w' s' → R w' c' cc' → Good (kf c' s') → fin cc' w'.H) ∧ Good (F γ ρ h kf args c s)
end
section
variable {W : Wl}
theorem CbOk.mono {γ ρ C : Type} {R : Wd → γ → C → Prop} {Good : ρ → Prop} {cb : CB C} {h : LHd γ ρ} {w w' : Wd} (e : Ext w w') (o : CbOk W R Good cb h w) : CbOk W R Good cb h w' := fun w2 s x v c cc K kk e2 => o w2 s x v c cc K kk (e.trans e2)
theorem KOk.mono {γ ρ C : Type} {R : Wd → γ → C → Prop} {Good : ρ → Prop} {D : LEnds C} {k : LKs γ ρ} {w w' : Wd} (e : Ext w w') (o : KOk W R Good D k w) : KOk W R Good D k w' :=
  ⟨fun n w2 s σ σc c cc e2 => o.nx n w2 s σ σc c cc (e.trans e2), fun n w2 s σ σc c cc e2 => o.bk n w2 s σ σc c cc (e.trans e2), fun n w2 s σ σc c cc e2 => o.ct n w2 s σ σc c cc (e.trans e2), fun n w2 s x v c cc e2 => o.rt n w2 s x v c cc (e.trans e2)⟩
theorem DL.plain {t : TS} {f : AS} (d : DS W E0c t f) : DL W (fun _ => tLPlain t) (aLP f) := fun γ ρ C R Good cb D h k w s σ σc c cc n hm hb _ ko S Rs Rc g => by
  refine d w s σ σc (D.at n cc) S Rs ?_
  unfold aLP at g
  cases e : f σ s with
  | nx σ' s' => rw [e] at g; exact fun w' σc' e' S' R' => ko.nx n w' s' σ' σc' c cc e' S' R' (hm _ _ _ _ e' Rc) g
  | bk σ' s' => rw [e] at g; exact fun w' σc' e' S' R' => ko.bk n w' s' σ' σc' c cc e' S' R' (hm _ _ _ _ e' Rc) g
  | ct σ' s' => rw [e] at g; exact fun w' σc' e' S' R' => ko.ct n w' s' σ' σc' c cc e' S' R' (hm _ _ _ _ e' Rc) g
  | rt v s' => rw [e] at g; exact fun w' vc e' S' r' => ko.rt n w' s' v vc c cc e' S' r' (hm _ _ _ _ e' Rc) g
  | err => rw [e] at g; exact absurd g hb
  | stuck => rw [e] at g; exact absurd g hb
theorem DL.nil : DL W (fun _ => tLNil) aLNil := fun γ ρ C R Good cb D h k w s σ σc c cc n _ _ _ ko S Rs Rc g => ko.nx n w s σ σc c cc (.refl w) S Rs Rc g
theorem DL.seq {t u : ∀ C, TL C} {f g : AL} (a : DL W t f) (b : DL W u g) : DL W (fun C => tLThen (t C) (u C)) (aLSeq f g) := fun γ ρ C R Good cb D h k w s σ σc c cc n hm hb co ko S Rs Rc gd =>
  a γ ρ C R Good cb _ h { k with nx := g γ ρ h k } w s σ σc c cc n hm hb co ⟨fun n' w' s' σ' σc' c' cc' e' S' R' Rc' g' => b γ ρ C R Good cb D h k w' s' σ' σc' c' cc' n' hm hb (co.mono e') (ko.mono e') S' R' Rc' g', ko.bk, ko.ct, ko.rt⟩ S Rs Rc gd
theorem DL.yd {te : TE} {fe : AE} (d : DE W E0c te fe) : DL W (fun _ => tLYield te) (aLYd fe) := fun γ ρ C R Good cb D h k w s σ σc c cc n hm hb co ko S Rs Rc g => by
  unfold aLYd at g
  split at g
  · rename_i hn
    refine ⟨hn, d w s σ σc _ S Rs ?_⟩
    cases e : fe σ s with
    | ok x s1 =>
      rw [e] at g
      intro w1 v e1 S1 r1
      exact co w1 s1 x v c cc _ _ e1 S1 r1 (hm _ _ _ _ e1 Rc) (fun w' s' c' cc' e' S' Rc' g' => ko.nx (n + 1) w' s' σ σc c' cc' (e1.trans e') S' (Rs.mono (e1.trans e')) Rc' g') g
    | err => rw [e] at g; exact absurd g hb
    | stuck => rw [e] at g; exact absurd g hb
  · exact absurd g hb
/-- a for over an iterator, in a generator -/
theorem lfor_it {C : Type} {J : It} {n : Nat} {G : Hp → Prop} {Y : Nat → Hp → V → Hp → Prop} (w : Walk J n G Y) {g : TG} {tb : TL C} {cb : CB C} {D : LEnds C} {k : Nat} {σ : L2.St} {cc : C} {H : Hp} (Pv : Nat → Nat → L2.St → C → Hp → Prop) (h0 : Pv 0 k σ cc H) (hG : ∀ i k σ cc H, i ≤ n → Pv i k σ cc H → G H)
    (hs : ∀ i x k σ cc H H', i < n → Pv i k σ cc H → Y i H x H' → g x σ H' fun σ2 H2 => tb cb { D with nx := Pv (i + 1), ct := Pv (i + 1), bk := D.nx } k σ2 cc H2) (hd : ∀ k σ cc H, Pv n k σ cc H → D.nx k σ cc H) :
    ∃ W : Nat → Nat → Nat → L2.St → C → Hp → Prop, (∃ m, W 0 m k σ cc H) ∧ ∀ i m k σ cc H, W i m k σ cc H →
      (J.stop i H ∧ D.nx k σ cc H) ∨ (J.go i H ∧ ∃ N : Nat → L2.St → C → Hp → Prop, (∀ k' σ' cc' H', N k' σ' cc' H' → ∃ m', m' < m ∧ W (i + 1) m' k' σ' cc' H') ∧ ∀ x H', J.yld i H x H' → g x σ H' fun σ2 H2 => tb cb { D with nx := N, ct := N, bk := D.nx } k σ2 cc H2) := by
  refine ⟨fun i m k σ cc H => m = n - i ∧ i ≤ n ∧ Pv i k σ cc H, ⟨n, by simp, Nat.zero_le _, h0⟩, ?_⟩
  rintro i m k σ cc H ⟨rfl, hi, p⟩
  have q := hG i k σ cc H hi p
  by_cases hlt : i < n
  · exact .inr ⟨w.goes i H hlt q, Pv (i + 1), fun k' σ' cc' H' p' => ⟨n - (i + 1), by omega, rfl, hlt, p'⟩, fun x H' y => hs i x k σ cc H H' hlt p (w.yields i H x H' hlt q y)⟩
  · have e : i = n := by omega
    subst e
    exact .inl ⟨w.stops H q, hd k σ cc H p⟩
theorem DL.for {wi : TI} {fi : AI} {tg : TG} {g : AV → AS} {t : ∀ C, TL C} {f : AL} (hi : DI W E0c wi fi) (hg : DG W tg g) (hn : Goes g) (hb : DL W t f) : DL W (fun C => tLFor wi tg (t C)) (aLFor fi g f) := fun γ ρ C R Good cb D h k w s σ σc c cc n hm hbad co ko S Rs Rc gd => by
  refine hi w s σ σc _ S Rs ?_
  unfold aLFor at gd
  cases e : fi σ s with
  | err => rw [e] at gd; exact absurd gd hbad
  | stuck => rw [e] at gd; exact absurd gd hbad
  | ok p s1 =>
    rw [e] at gd
    obtain ⟨items, G⟩ := p
    intro w1 J e1 S1 it
    obtain ⟨nn, GC, Y, wk, hn', hG, hY⟩ := it
    simp only at hn' hG hY gd
    refine lfor_it wk (fun i kk σc cc H => ∃ w' s' σ' c', H = w'.H ∧ Ext w1 w' ∧ Sim W w' s' ∧ RSt W w' σ' σc ∧ R w' c' cc ∧ Good (loopL G g f (items.drop i) γ ρ h k kk σ' c' s')) ⟨w1, s1, σ, c, rfl, .refl w1, S1, Rs.mono e1, hm _ _ _ _ e1 Rc, by rw [List.drop_zero]; exact gd⟩ ?_ ?_ ?_
    · rintro i kk σc' cc' H hi ⟨w', s', σ', c', rfl, e', S', R', Rc', h'⟩
      refine hG w' s' e' S' (Classical.byContradiction fun ng => ?_)
      cases hd : items.drop i with
      | nil => rw [hd] at h'; unfold loopL at h'; rw [if_neg ng] at h'; exact hbad h'
      | cons x r => rw [hd] at h'; unfold loopL at h'; rw [if_neg ng] at h'; exact hbad h'
    · rintro i x kk σc' cc' H H' hi ⟨w', s', σ', c', rfl, e', S', R', Rc', h'⟩ hy
      have hg' : G s' := Classical.byContradiction fun ng => by
        cases hd : items.drop i with
        | nil => rw [hd] at h'; unfold loopL at h'; rw [if_neg ng] at h'; exact hbad h'
        | cons x r => rw [hd] at h'; unfold loopL at h'; rw [if_neg ng] at h'; exact hbad h'
      obtain ⟨y, w2, q1, rfl, e2, S2, r2⟩ := hY w' s' i x H' e' S' hg' hi hy
      have hd : items.drop i = y :: items.drop (i + 1) := by
        obtain ⟨hlt, q⟩ := List.getElem?_eq_some_iff.mp q1
        rw [List.drop_eq_getElem_cons hlt, q]
      rw [hd] at h'
      unfold loopL at h'
      rw [if_pos hg'] at h'
      have R2 := R'.mono e2
      refine hg w2 s' σ' σc' y x _ S2 R2 r2 ?_
      rcases hn y σ' s' with ⟨σ3, s3, e3⟩ | e3
      · rw [e3] at h' ⊢
        intro w3 σc3 e4 S3 R3
        have ex := (e'.trans e2).trans e4
        exact hb γ ρ C R Good cb _ h { nx := loopL G g f (items.drop (i + 1)) γ ρ h k, ct := loopL G g f (items.drop (i + 1)) γ ρ h k, bk := k.nx, rt := k.rt } w3 s3 σ3 σc3 c' cc' kk hm hbad (co.mono (e1.trans ex)) ⟨fun n' w4 s4 σ4 σc4 c4 cc4 e5 S4 R4 Rc4 g4 => ⟨w4, s4, σ4, c4, rfl, ex.trans e5, S4, R4, Rc4, g4⟩, fun n' w4 s4 σ4 σc4 c4 cc4 e5 S4 R4 Rc4 g4 => ko.nx n' w4 s4 σ4 σc4 c4 cc4 ((e1.trans ex).trans e5) S4 R4 Rc4 g4,
          fun n' w4 s4 σ4 σc4 c4 cc4 e5 S4 R4 Rc4 g4 => ⟨w4, s4, σ4, c4, rfl, ex.trans e5, S4, R4, Rc4, g4⟩, fun n' w4 s4 x4 v4 c4 cc4 e5 S4 r4 Rc4 g4 => ko.rt n' w4 s4 x4 v4 c4 cc4 ((e1.trans ex).trans e5) S4 r4 Rc4 g4⟩ S3 R3 (hm _ _ _ _ (e2.trans e4) Rc') h'
      · rw [e3] at h'
        exact absurd h' hbad
    · rintro kk σc' cc' H ⟨w', s', σ', c', rfl, e', S', R', Rc', h'⟩
      rw [hn', List.drop_length] at h'
      unfold loopL at h'
      split at h'
      · exact ko.nx kk w' s' σ' σc' c' cc' (e1.trans e') S' R' Rc' h'
      · exact absurd h' hbad
/-- the loop's body, its end given to what follows -/
def SRes.cps (r : SRes) (kk : ASt → Sto → SRes) : SRes := match r with
  | .nx σ s => kk σ s
  | .ct σ s => kk σ s
  | .bk σ s => .nx σ s
  | .rt v s => .rt v s
  | .err c ns vs σ s => .stuck
  | .stuck => .stuck
def hLc (g : AV → AS) (ft : AT) (fe : AE) (σ : ASt) (vs : List Nat) : LHd (List AV) (Res AV) := ⟨fun x ys s kk => match g x (wipeA σ vs) s with
  | .nx σ2 s2 => (match ft σ2 s2 with
    | .ok true s3 => (match fe σ2 s3 with
      | .ok y s4 => if ys.length < sizeLine then kk (ys ++ [y]) s4 else .stuck
      | _ => .stuck)
    | .ok false s3 => kk ys s3
    | _ => .stuck)
  | _ => .stuck, .stuck⟩
def aLcG (F : FL) (fr : AA) (g : AV → AS) (ft : AT) (fe : AE) (vs : List Nat) : AE := fun σ s => (fr σ s).bind fun xs s1 => F (List AV) (Res AV) (hLc g ft fe σ vs) (fun ys s => newL ys s) xs [] s1
theorem cbLc_ok {tg : TG} {g : AV → AS} {tt : TT} {ft : AT} {te : TE} {fe : AE} {vs : List Nat} {σ : ASt} {σc : L2.St} {P : AV → Sto → Prop} {Rr : String → List Str → List AV → Sto → Prop} {w0 : Wd} (R0 : RSt W.toWc w0 σ σc) (hg : DG W tg g) (hn : Goes g) (hw : WT tg vs) (ht : DT W E0c tt ft) (he : DE W E0c te fe) :
    CbOk W (fun w ys zs => RelL W.toWc w ys zs) (fun r : Res AV => r.Post P Rr) (cbLc tg tt te σc vs) (hLc g ft fe σ vs) w0 := fun w s x v ys zs K kk e S r R hK gd => by
  have Rw : RSt W.toWc w (wipeA σ vs) (wipe σc vs) := (R0.mono e).wipe vs
  refine hw v (wipe σc vs) w.H _ _ (fun σ2 H2 ew q => ⟨by rw [ew, wipe_wipe], q⟩) (hg w s (wipeA σ vs) (wipe σc vs) x v _ S Rw r ?_)
  have gd : ((hLc g ft fe σ vs).cb x ys s kk).Post P Rr := gd
  unfold hLc at gd
  simp only at gd
  rcases hn x (wipeA σ vs) s with ⟨σ1, s1, e1⟩ | e1
  · rw [e1] at gd ⊢
    simp only at gd
    intro w1 σc1 x1 S1 R1
    refine ht w1 s1 σ1 σc1 _ S1 R1 ?_
    cases et : ft σ1 s1 with
    | err => rw [et] at gd; exact (show False from gd).elim
    | stuck => rw [et] at gd; exact (show False from gd).elim
    | ok bb s2 =>
      rw [et] at gd
      intro w2 x2 S2
      cases bb with
      | false => exact hK w2 s2 ys zs (x1.trans x2) S2 (R.mono (x1.trans x2)) gd
      | true =>
        refine he w2 s2 σ1 σc1 _ S2 (R1.mono x2) ?_
        simp only at gd
        cases ee : fe σ1 s2 with
        | err => rw [ee] at gd; exact (show False from gd).elim
        | stuck => rw [ee] at gd; exact (show False from gd).elim
        | ok y s3 =>
          rw [ee] at gd
          simp only at gd
          intro w3 yc x3 S3 r3
          have Rz := R.mono ((x1.trans x2).trans x3)
          split at gd
          · rename_i hl
            exact ⟨by rw [← Rz.length]; exact hl, hK w3 s3 (ys ++ [y]) (zs ++ [yc]) ((x1.trans x2).trans x3) S3 (Rz.append (.cons r3 .nil)) gd⟩
          · exact (show False from gd).elim
  · rw [e1] at gd
    exact (show False from gd).elim
theorem DL.dfn {t : ∀ C, TL C} {f : AL} {k n : Nat} {N : List Str} {C : Type} {H : Hp} {vs : List V} {cb : CB C} {fin : C → Hp → Prop} {cc : C} (h : spL W n (aLDef k f) C vs H cb fin cc) (hk : n + k = N.length) (hs : DL W t f) :
    t C cb { nx := fun _ _ σ' H' => fin σ' H', rt := fun _ v σ' H' => v = .non ∧ fin σ' H' } 0 (L2.start N vs) cc H := by
  obtain ⟨γ, ρ, R, Good, hd, kf, w, s, args, c, rfl, S, rl, hn, Rc, hm, hb, co, hf, gd⟩ := h
  have hv := rl.length
  have e : L2.start N vs = vs.map some ++ List.replicate k none := by
    unfold L2.start
    rw [show N.length - vs.length = k from by omega]
  rw [e]
  exact hs γ ρ C R Good cb _ hd _ w s _ _ c cc 0 hm hb co ⟨fun n' w' s' σ' σc' c' cc' e' S' R' Rc' g' => hf w' s' c' cc' e' S' Rc' g', fun n' w' s' σ' σc' c' cc' e' S' R' Rc' g' => (hb g').elim, fun n' w' s' σ' σc' c' cc' e' S' R' Rc' g' => (hb g').elim,
    fun n' w' s' x v c' cc' e' S' r' Rc' g' => by
      dsimp only at g'
      split at g'
      · rename_i hx
        subst hx
        cases r'
        exact ⟨rfl, hf w' s' c' cc' e' S' Rc' g'⟩
      · exact (hb g').elim⟩ S (RSt.start rl) Rc gd
end
end
end Ab
set_option Elab.async false
set_option linter.all false
set_option maxRecDepth 100000
set_option maxHeartbeats 1000000
namespace Ab
open PySem PySem.Spec PyProof.Rows L2
open Classical
noncomputable section
abbrev numS (i : Int) : Str := Str.ofString (toString i)
def fmtK : AV → Sto → Res AV := fun x s => match x with
  | .str y => if y.length ≤ sizeLine then .ok (.str y) s else .stuck
  | .int i => if i.natAbs.log2 < 1920 then .ok (.str (numS i)) s else .stuck
  | _ => .stuck
def aFmt (fe : AE) : AE := fun σ s => (fe σ s).bind fmtK
theorem e_fmt {fe : AE} {σ : ASt} {s : Sto} : aFmt fe σ s = (fe σ s).bind fmtK := rfl
def jsK (k : Str → Sto → Res AV) (acc : Str) : AV → Sto → Res AV := fun x s => match x with
  | .str y => if (acc ++ y).length ≤ sizeLine then k (acc ++ y) s else .stuck
  | _ => .stuck
def jsA : List AE → Str → ASt → Sto → Res AV
  | [], acc, _, s => .ok (.str acc) s
  | f :: fs, acc, σ, s => (f σ s).bind (jsK (fun a s => jsA fs a σ s) acc)
def aJs (fs : List AE) : AE := fun σ s => jsA fs Str.empty σ s
theorem e_js {fs : List AE} {σ : ASt} {s : Sto} : aJs fs σ s = jsA fs Str.empty σ s := rfl
theorem e_jsN {acc : Str} {σ : ASt} {s : Sto} : jsA [] acc σ s = .ok (.str acc) s := rfl
theorem e_jsC {f : AE} {fs : List AE} {acc : Str} {σ : ASt} {s : Sto} : jsA (f :: fs) acc σ s = (f σ s).bind (jsK (fun a s => jsA fs a σ s) acc) := rfl
def rJoin (K : PySem.W.Frag) : V → List V → Hp → VK → Prop := fun x xs H Q => ∃ a p, ∃ ys : List Str, x = .str a ∧ xs = [.ref p] ∧ (SqL K H p (ys.map V.str) ∨ SqT K H p (ys.map V.str)) ∧ (ys.map (·.length)).sum + ys.length * a.length ≤ 16777216 ∧ Q (.str (Txt.join a ys)) H
def strsA : List AV → Option (List Str)
  | [] => some []
  | .str y :: r => (strsA r).map fun ys => y :: ys
  | _ :: _ => none
theorem strsA_eq {xs : List AV} {ys : List Str} (h : strsA xs = some ys) : xs = ys.map AV.str := by
  induction xs generalizing ys with
  | nil => cases h; rfl
  | cons x r ih =>
    cases x with
    | str y =>
      have h : (strsA r).map (fun ys => y :: ys) = some ys := h
      cases e : strsA r with
      | none => rw [e] at h; cases h
      | some zs => rw [e] at h; cases h; rw [ih e]; rfl
    | _ => cases h
theorem relL_strs {W : Wc} {w : Wd} {ys : List Str} {vs : List V} (h : RelL W w (ys.map AV.str) vs) : vs = ys.map V.str := by
  induction ys generalizing vs with
  | nil => cases h; rfl
  | cons y r ih => cases h with | cons h1 h2 => cases h1; rw [ih h2]; rfl
def gJoin (a : Str) : AV → Sto → Res AV := fun y s => match y with
  | .obj i => (match s.c i with
    | .lst xs => (match strsA xs with
      | some ys => if (ys.map (·.length)).sum + ys.length * a.length ≤ 16777216 then .ok (.str (Txt.join a ys)) s else .stuck
      | none => .stuck)
    | _ => .stuck)
  | _ => .stuck
def joinK (fe : AE) (σ : ASt) : AV → Sto → Res AV := fun x s => match x with
  | .str a => (fe σ s).bind (gJoin a)
  | _ => .stuck
def aJoin (fo fe : AE) : AE := fun σ s => (fo σ s).bind (joinK fe σ)
theorem e_join {fo fe : AE} {σ : ASt} {s : Sto} : aJoin fo fe σ s = (fo σ s).bind (joinK fe σ) := rfl
theorem e_joinK {fe : AE} {σ : ASt} {a : Str} {s : Sto} : joinK fe σ (.str a) s = (fe σ s).bind (gJoin a) := rfl
theorem DE.join {W : Wl} {E : L2.St → XK} {to te : TE} {fo fe : AE} (ho : DE W E to fo) (he : DE W E te fe) : DE W E (tM1 (rJoin W.K) to te) (aJoin fo fe) := fun w s σ σc Q S R h => by
  refine ho w s σ σc _ S R ((post_bind_ok h).mono (fun x s1 h1 w1 v e1 S1 r1 => ?_) fun _ _ _ _ z => z)
  unfold joinK at h1
  split at h1
  · rename_i a
    cases r1
    refine ⟨⟨a, rfl⟩, he w1 s1 σ σc _ S1 (R.mono e1) ((post_bind_ok h1).mono (fun y s2 h2 w2 u e2 S2 r2 => ?_) fun _ _ _ _ z => z.mono e1)⟩
    unfold gJoin at h2
    split at h2
    · rename_i i
      split at h2
      · rename_i xs ec
        split at h2
        · rename_i ys es
          split at h2
          · rename_i hl
            obtain ⟨vs, k1, rfl, k3, k4⟩ := lstO_at S2 r2 ec
            rw [strsA_eq es] at k4
            rw [relL_strs k4] at k3
            exact ⟨a, _, ys, rfl, rfl, .inl (SqL.of k3), hl, h2 w2 _ (e1.trans e2) S2 (.str _)⟩
          · exact h2.elim
        · exact h2.elim
      · exact h2.elim
    · exact h2.elim
  · exact h1.elim
end
end Ab
set_option Elab.async false
set_option linter.all false
set_option maxRecDepth 100000
set_option maxHeartbeats 2000000
namespace Lv
open PySem PySem.Spec PyProof.Rows L2 GenW Gx
end Lv
set_option Elab.async false
set_option linter.all false
set_option maxRecDepth 100000
set_option maxHeartbeats 1000000
namespace Ab
open PySem PySem.Spec PyProof.Rows L2
open Classical
end Ab
set_option Elab.async false
set_option linter.all false
set_option maxRecDepth 100000
set_option maxHeartbeats 2000000
namespace Ab
open PySem PySem.Spec PyProof.Rows L2 Lv
open Classical
noncomputable section
def aLIf (ft : AT) (a b : AL) : AL := fun γ ρ h k n σ c s => match ft σ s with
  | .ok true s1 => a γ ρ h k n σ c s1
  | .ok false s1 => b γ ρ h k n σ c s1
  | _ => h.bad
section
variable {W : Wl}
theorem DL.if {tc : TT} {ft : AT} {t u : ∀ C, TL C} {a b : AL} (hc : DT W E0c tc ft) (ha : DL W t a) (hb : DL W u b) : DL W (fun C => tLIf tc (t C) (u C)) (aLIf ft a b) := fun γ ρ C R Good cb D h k w s σ σc c cc n hm hbad co ko S Rs Rc gd => by
  refine hc w s σ σc _ S Rs ?_
  unfold aLIf at gd
  cases e : ft σ s with
  | err => rw [e] at gd; exact absurd gd hbad
  | stuck => rw [e] at gd; exact absurd gd hbad
  | ok v s1 =>
    rw [e] at gd
    intro w1 e1 S1
    cases v with
    | true => exact ha γ ρ C R Good cb D h k w1 s1 σ σc c cc n hm hbad (co.mono e1) (ko.mono e1) S1 (Rs.mono e1) (hm _ _ _ _ e1 Rc) gd
    | false => exact hb γ ρ C R Good cb D h k w1 s1 σ σc c cc n hm hbad (co.mono e1) (ko.mono e1) S1 (Rs.mono e1) (hm _ _ _ _ e1 Rc) gd
/-- the arguments of a generator def -/
def aCArgs (n : Nat) (fr : AA) : AA := fun σ s => (fr σ s).bind fun xs s2 => if xs.length = n then .ok xs s2 else .stuck
theorem DE.lcC {E : L2.St → XK} {F : FL} {n : Nat} {tr : TA} {fr : AA} {tg : TG} {g : AV → AS} {tt : TT} {ft : AT} {te : TE} {fe : AE} {vs : List Nat} (hr : DA W E tr fr) (hg : DG W tg g) (hn : Goes g) (hw : WT tg vs) (ht : DT W E0c tt ft) (he : DE W E0c te fe) :
    DE W E (tLcG (tCallL n (spL W n F) [] tr) tg tt te vs) (aLcG F (aCArgs n fr) g ft fe vs) := fun w s σ σc Q S R h => by
  unfold aLcG at h
  have h := post_bind_ok h
  refine hr w s σ σc _ S R ((post_bind_ok h).mono (fun xs s2 h2 w2 us e2 S2 r2 => ?_) fun _ _ _ _ z => z)
  split at h2
  · rename_i hl
    have R2 := R.mono e2
    have rl : RelL W.toWc w2 xs (us ++ []) := by rw [List.append_nil]; exact r2
    refine ⟨by rw [← rl.length]; exact hl, List AV, Res AV, fun w ys zs => RelL W.toWc w ys zs, fun r => r.Post (OkP W w2 Q) (ErrP W w2 (E σc)), hLc g ft fe σ _, fun ys s => newL ys s, w2, s2, _, [], rfl, S2, rl, hl, .nil, fun _ _ _ _ e r => r.mono e, fun z => z, cbLc_ok R2 hg hn hw ht he, fun w' s' c' cc' e' S' R' g' => newL_ok S' R' (OkP.mono e' g'), ?_⟩
    exact post_mono e2 h2
  · exact (show False from h2).elim
end
end
end Ab
set_option Elab.async false
set_option linter.all false
set_option maxRecDepth 100000
set_option maxHeartbeats 4000000
set_option exponentiation.threshold 3000
namespace Pf
open PySem PySem.Spec PyProof.Rows L2 Ab
noncomputable section
def B_is_integer : AS := (aRet (aAndV (aCB (gIsi (kitB "int")) (aCons (aVar 0) (aCons (aC (.ty "int")) aNil))) (aNotV (aCB (gIsi (kitB "bool")) (aCons (aVar 0) (aCons (aC (.ty "bool")) aNil))))))
def F_is_integer : List AV → Sto → Res AV := gcF (aDef 0 B_is_integer)
def B_s3_product : AS := (aSeq (aAsg (aC (.int 0)) (agName 2))
  (aSeq (aAsg (aVar 0) (agName 3))
  (aSeq (aAsg (aVar 1) (agName 4))
  (aSeq (aWhile (aTest (aOp gGt (aVar 4) (aC (.int 0)))) (aSeq (aIfS (aTest (aOp gEq (aOp gAnd (aVar 4) (aC (.int 1))) (aC (.int 1)))) (aAsg (aOp gXor (aVar 2) (aVar 3)) (agName 2)) aNext)
  (aSeq (aAsg (aOp gShl (aVar 3) (aC (.int 1))) (agName 3))
  (aAsg (aOp gShr (aVar 4) (aC (.int 1))) (agName 4)))))
  (aRet (aVar 2))))))
def F_s3_product : List AV → Sto → Res AV := gcF (aDef 3 B_s3_product)
def B_s3_parts : AS := (aSeq (aAsg (aC (.int 0)) (agName 2))
  (aSeq (aAsg (aVar 0) (agName 3))
  (aSeq (aAsg (aUn gBits (aVar 1)) (agName 4))
  (aSeq (aWhile (aTest (aOp gGe (aUn gBits (aVar 3)) (aVar 4))) (aSeq (aAsg (aOp gMinus (aUn gBits (aVar 3)) (aVar 4)) (agName 5))
  (aSeq (aAsg (aOp gOr (aVar 2) (aOp gShl (aC (.int 1)) (aVar 5))) (agName 2))
  (aAsg (aOp gXor (aVar 3) (aOp gShl (aVar 1) (aVar 5))) (agName 3)))))
  (aRet (aTup (aCons (aVar 2) (aCons (aVar 3) aNil))))))))
def F_s3_parts : List AV → Sto → Res AV := gcF (aDef 4 B_s3_parts)
def B_s3_primes : AS := (aSeq (aPar3 1 2 3 (aCons (aLst aNil) (aCons (aVar 0) (aCons (aC (.int 2)) aNil))))
  (aSeq (aWhile (aTest (aOp gLe (aOp gMul (aVar 3) (aVar 3)) (aVar 2))) (aSeq (aIfS (aTest (aOp gEq (aOp gMod (aVar 2) (aVar 3)) (aC (.int 0)))) (aSeq (aDrop (aBM gAppend (aVar 1) (aCons (aVar 3) aNil)))
  (aWhile (aTest (aOp gEq (aOp gMod (aVar 2) (aVar 3)) (aC (.int 0)))) (aAsg (aOp gFdiv (aVar 2) (aVar 3)) (agName 2)))) aNext)
  (aAug 3 (gI0 fun i j => .int (i + j)) (aC (.int 1)))))
  (aRet (aIf (aTest (aOp gGt (aVar 2) (aC (.int 1)))) (aOp gAdd (aVar 1) (aLst (aCons (aVar 2) aNil))) (aVar 1)))))
def F_s3_primes : List AV → Sto → Res AV := gcF (aDef 3 B_s3_primes)
def B__law_begun : AS := (aSeq (aAsg (aOp gAdd (aC (.int 32452843)) (aOp gMul (aC (.int 41)) (aCB gLen (aCons (aVar 0) aNil)))) (agName 1))
  (aSeq (aFor (aEnumU (aCons (aVar 0) aNil)) (agTup 2 (agCons (agName 2) (agCons (agName 3) agNil))) (aAsg (aOp gMod (aOp gAdd (aOp gAdd (aOp gMul (aVar 1) (aC (.int 998244353))) (aVar 3)) (aOp gMul (aC (.int 104723)) (aVar 2))) (aC (.int 2305843009213693951))) (agName 1)))
  (aRet (aDisp [((aC (.str "mixed")), (aVar 1)), ((aC (.str "great")), (aLc (aIter (aVar 0)) (agName 3) (aTest (aOp gGe (aVar 3) (aOp gPow (aC (.int 10)) (aC (.int 18))))) (aVar 3) [3])), ((aC (.str "turn")), (aC (.int 0)))]))))
def F__law_begun : List AV → Sto → Res AV := gcF (aDef 3 B__law_begun)
def B__law_next : AS := (aSeq (aAsg (aTup (aCons (aOp gAdd (aOp gDGet (aVar 0) (aC (.str "turn"))) (aC (.int 1))) (aCons (aOp gDGet (aVar 0) (aC (.str "great"))) aNil))) (agTup 2 (agCons (agSub setD (aVar 0) (aC (.str "turn"))) (agCons (agName 2) agNil))))
  (aSeq (aAsg (aOp gMod (aOp gDGet (aVar 0) (aC (.str "turn"))) (aCB gMax2 (aCons (aC (.int 1)) (aCons (aCB gLen (aCons (aVar 2) aNil)) aNil)))) (agName 3))
  (aSeq (aIfS (gcT (aAnd (aTest (aOp gNe (aVar 2) (aLst aNil))) (aTest (aOp gGt (aOp gIx (aVar 2) (aVar 3)) (aC (.int 0)))))) (aSeq (aAsg (aOp gMod (aOp gIx (aVar 2) (aVar 3)) (aVar 1)) (agName 4))
  (aSeq (aAsg (aOp gFdiv (aOp gIx (aVar 2) (aVar 3)) (aVar 1)) (agSub setL (aVar 2) (aVar 3)))
  (aRet (aVar 4)))) aNext)
  (aSeq (aAsg (aOp gAdd (aOp gAdd (aOp gMul (aOp gDGet (aVar 0) (aC (.str "mixed"))) (aC (.int 6364136223846793))) (aOp gMul (aC (.int 1442695040888963)) (aOp gDGet (aVar 0) (aC (.str "turn"))))) (aC (.int 11))) (agName 5))
  (aSeq (aDPut (aVar 0) (aC (.str "mixed")) (aOp gMod (aVar 5) (aC (.int 2305843009213693951))))
  (aRet (aOp gMod (aOp gFdiv (aOp gDGet (aVar 0) (aC (.str "mixed"))) (aC (.int 32749))) (aVar 1))))))))
def F__law_next : List AV → Sto → Res AV := gcF (aDef 4 B__law_next)
def B__law_number : AS := (aSeq (aAsg (aC (.int 0)) (agName 1))
  (aSeq (aFor (aIter (aVar 0)) (agName 2) (aAsg (aOp gXor (aVar 1) (aOp gShl (aC (.int 1)) (aVar 2))) (agName 1)))
  (aRet (aVar 1))))
def F__law_number : List AV → Sto → Res AV := gcF (aDef 2 B__law_number)
def B_s3_is_whole : AS := (aRet (aAndV (aCall 1 F_is_integer [] (aCons (aVar 0) aNil)) (aChain gLe gLe (aVar 1) (aVar 0) (aVar 2))))
def F_s3_is_whole : List AV → Sto → Res AV := gcF (aDef 0 B_s3_is_whole)
def B_s3_power : AS := (aSeq (aAsg (gcE (aOp gIx (aCall 2 F_s3_parts [] (aCons (aC (.int 1)) (aCons (aVar 2) aNil))) (aC (.int 1)))) (agName 3))
  (aSeq (aAsg (gcE (aOp gIx (aCall 2 F_s3_parts [] (aCons (aVar 0) (aCons (aVar 2) aNil))) (aC (.int 1)))) (agName 4))
  (aSeq (aAsg (aVar 1) (agName 5))
  (aSeq (aWhile (aTest (aOp gGt (aVar 5) (aC (.int 0)))) (aSeq (aIfS (aTest (aOp gEq (aOp gAnd (aVar 5) (aC (.int 1))) (aC (.int 1)))) (aAsg (gcE (aOp gIx (aCall 2 F_s3_parts [] (aCons (aCall 2 F_s3_product [] (aCons (aVar 3) (aCons (aVar 4) aNil))) (aCons (aVar 2) aNil))) (aC (.int 1)))) (agName 3)) aNext)
  (aSeq (aAsg (gcE (aOp gIx (aCall 2 F_s3_parts [] (aCons (aCall 2 F_s3_product [] (aCons (aVar 4) (aCons (aVar 4) aNil))) (aCons (aVar 2) aNil))) (aC (.int 1)))) (agName 4))
  (aAsg (aOp gShr (aVar 5) (aC (.int 1))) (agName 5)))))
  (aRet (aVar 3))))))
def F_s3_power : List AV → Sto → Res AV := gcF (aDef 3 B_s3_power)
def B_s3_common : AS := (aSeq (aWhile (aTest (aOp gGt (aVar 1) (aC (.int 0)))) (aPar 0 1 (aCons (aVar 1) (aCons (aOp gIx (aCall 2 F_s3_parts [] (aCons (aVar 0) (aCons (aVar 1) aNil))) (aC (.int 1))) aNil))))
  (aRet (aVar 0)))
def F_s3_common : List AV → Sto → Res AV := gcF (aDef 0 B_s3_common)
def B_s3_twice : AS := (aSeq (aAsg (gcE (aOp gIx (aCall 2 F_s3_parts [] (aCons (aVar 0) (aCons (aVar 2) aNil))) (aC (.int 1)))) (agName 3))
  (aSeq (aFor (aRng1 (aCons (aVar 1) aNil)) (agName 4) (aAsg (gcE (aOp gIx (aCall 2 F_s3_parts [] (aCons (aCall 2 F_s3_product [] (aCons (aVar 3) (aCons (aVar 3) aNil))) (aCons (aVar 2) aNil))) (aC (.int 1)))) (agName 3)))
  (aRet (aVar 3))))
def F_s3_twice : List AV → Sto → Res AV := gcF (aDef 2 B_s3_twice)
def B__law_pick : AS := (aRet (aOp gIx (aVar 1) (aCall 2 F__law_next [] (aCons (aVar 0) (aCons (aCB gLen (aCons (aVar 1) aNil)) aNil)))))
def F__law_pick : List AV → Sto → Res AV := gcF (aDef 0 B__law_pick)
def B__law_poly : AS := (aSeq (aAsg (aCall 2 F__law_next [] (aCons (aVar 0) (aCons (aC (.int 5)) aNil))) (agName 2))
  (aSeq (aIfS (aTest (aOp gEq (aVar 2) (aC (.int 0)))) (aRet (aOp gIx (aLst (aCons (aC (.int 0)) (aCons (aC (.int 1)) (aCons (aC (.int 2)) (aCons (aC (.int 3)) (aCons (aC (.int 7)) (aCons (aC (.int 11)) aNil))))))) (aCall 2 F__law_next [] (aCons (aVar 0) (aCons (aC (.int 6)) aNil))))) aNext)
  (aSeq (aIfS (aTest (aOp gEq (aVar 2) (aC (.int 1)))) (aRet (aCall 1 F__law_number [] (aCons (aLc (aRng1 (aCons (aC (.int 4)) aNil)) (agName 3) aYes (aCall 2 F__law_next [] (aCons (aVar 0) (aCons (aVar 1) aNil))) [3]) aNil))) aNext)
  (aRet (aCall 2 F__law_next [] (aCons (aVar 0) (aCons (aOp gShl (aC (.int 1)) (aOp gAdd (aC (.int 2)) (aCall 2 F__law_next [] (aCons (aVar 0) (aCons (aOp gMinus (aVar 1) (aC (.int 2))) aNil))))) aNil)))))))
def F__law_poly : List AV → Sto → Res AV := gcF (aDef 2 B__law_poly)
def B_is_polynomial : AS := (aRet (aCall 3 F_s3_is_whole [] (aCons (aVar 0) (aCons (aC (.int 0)) (aCons (aOp gMinus (aOp gShl (aC (.int 1)) (aC (.int 512))) (aC (.int 1))) aNil)))))
def F_is_polynomial : List AV → Sto → Res AV := gcF (aDef 0 B_is_polynomial)
def B_s3_need : AS := (aFor (aIter (aVar 0)) (agName 1) (aIfS (gcT (aNot (aTest (aCall 1 F_is_polynomial [] (aCons (aVar 1) aNil))))) aNever aNext))
def F_s3_need : List AV → Sto → Res AV := gcF (aDef 1 B_s3_need)
def B_s3_need_modulus : AS := (aIfS (gcT (aOr (aNot (aTest (aCall 1 F_is_polynomial [] (aCons (aVar 0) aNil)))) (aTest (aOp gEq (aVar 0) (aC (.int 0)))))) aNever aNext)
def F_s3_need_modulus : List AV → Sto → Res AV := gcF (aDef 0 B_s3_need_modulus)
def B_degree : AS := (aSeq (aDrop (aCallS F_s3_need (aCons (aVar 0) aNil)))
  (aRet (aOp gMinus (aUn gBits (aVar 0)) (aC (.int 1)))))
def F_degree : List AV → Sto → Res AV := gcF (aDef 0 B_degree)
def B_added : AS := (aSeq (aDrop (aCallS F_s3_need (aCons (aVar 0) (aCons (aVar 1) aNil))))
  (aRet (aOp gXor (aVar 0) (aVar 1))))
def F_added : List AV → Sto → Res AV := gcF (aDef 0 B_added)
def B_multiplied : AS := (aSeq (aDrop (aCallS F_s3_need (aCons (aVar 0) (aCons (aVar 1) aNil))))
  (aRet (aCall 2 F_s3_product [] (aCons (aVar 0) (aCons (aVar 1) aNil)))))
def F_multiplied : List AV → Sto → Res AV := gcF (aDef 0 B_multiplied)
def B_divided : AS := (aSeq (aDrop (aCallS F_s3_need (aCons (aVar 0) aNil)))
  (aSeq (aDrop (aCall 1 F_s3_need_modulus [] (aCons (aVar 1) aNil)))
  (aRet (aCall 2 F_s3_parts [] (aCons (aVar 0) (aCons (aVar 1) aNil))))))
def F_divided : List AV → Sto → Res AV := gcF (aDef 0 B_divided)
def B_common : AS := (aSeq (aDrop (aCallS F_s3_need (aCons (aVar 0) (aCons (aVar 1) aNil))))
  (aRet (aCall 2 F_s3_common [] (aCons (aVar 0) (aCons (aVar 1) aNil)))))
def F_common : List AV → Sto → Res AV := gcF (aDef 0 B_common)
def B_power_of : AS := (aSeq (aDrop (aCallS F_s3_need (aCons (aVar 0) aNil)))
  (aSeq (aIfS (gcT (aNot (aTest (aCall 3 F_s3_is_whole [] (aCons (aVar 1) (aCons (aC (.int 0)) (aCons (aOp gShl (aC (.int 1)) (aC (.int 64))) aNil))))))) aNever aNext)
  (aSeq (aDrop (aCall 1 F_s3_need_modulus [] (aCons (aVar 2) aNil)))
  (aRet (aCall 3 F_s3_power [] (aCons (aVar 0) (aCons (aVar 1) (aCons (aVar 2) aNil))))))))
def F_power_of : List AV → Sto → Res AV := gcF (aDef 0 B_power_of)
def B_inverse_of : AS := (aSeq (aDrop (aCallS F_s3_need (aCons (aVar 0) aNil)))
  (aSeq (aDrop (aCall 1 F_s3_need_modulus [] (aCons (aVar 1) aNil)))
  (aSeq (aPar 2 3 (aCons (aVar 1) (aCons (aOp gIx (aCall 2 F_s3_parts [] (aCons (aVar 0) (aCons (aVar 1) aNil))) (aC (.int 1))) aNil)))
  (aSeq (aAsg (aTup (aCons (aC (.int 0)) (aCons (aC (.int 1)) aNil))) (agTup 2 (agCons (agName 4) (agCons (agName 5) agNil))))
  (aSeq (aWhile (aTest (aOp gGt (aVar 3) (aC (.int 0)))) (aSeq (aAsg (aCall 2 F_s3_parts [] (aCons (aVar 2) (aCons (aVar 3) aNil))) (agTup 2 (agCons (agName 6) (agCons (agName 7) agNil))))
  (aSeq (aPar 2 3 (aCons (aVar 3) (aCons (aVar 7) aNil)))
  (aPar 4 5 (aCons (aVar 5) (aCons (aOp gXor (aVar 4) (aCall 2 F_s3_product [] (aCons (aVar 6) (aCons (aVar 5) aNil)))) aNil))))))
  (aRet (aIf (aTest (aOp gEq (aVar 2) (aC (.int 1)))) (aOp gIx (aCall 2 F_s3_parts [] (aCons (aVar 4) (aCons (aVar 1) aNil))) (aC (.int 1))) (aC (.non)))))))))
def F_inverse_of : List AV → Sto → Res AV := gcF (aDef 6 B_inverse_of)
def B_is_irreducible : AS := (aSeq (aDrop (aCallS F_s3_need (aCons (aVar 0) aNil)))
  (aSeq (aAsg (aOp gMinus (aUn gBits (aVar 0)) (aC (.int 1))) (agName 1))
  (aSeq (aIfS (gcT (aOr (aTest (aOp gLt (aVar 1) (aC (.int 1)))) (aTest (aOp gNe (aCall 3 F_s3_twice [] (aCons (aC (.int 2)) (aCons (aVar 1) (aCons (aVar 0) aNil)))) (aOp gIx (aCall 2 F_s3_parts [] (aCons (aC (.int 2)) (aCons (aVar 0) aNil))) (aC (.int 1))))))) (aRet (aC (.bl false))) aNext)
  (aRet (aCB gAll (aCons (aLc (aIter (aCall 1 F_s3_primes [] (aCons (aVar 1) aNil))) (agName 2) aYes (aOp gEq (aCall 2 F_s3_common [] (aCons (aVar 0) (aCons (aOp gXor (aCall 3 F_s3_twice [] (aCons (aC (.int 2)) (aCons (aOp gFdiv (aVar 1) (aVar 2)) (aCons (aVar 0) aNil)))) (aC (.int 2))) aNil))) (aC (.int 1))) [2]) aNil))))))
def F_is_irreducible : List AV → Sto → Res AV := gcF (aDef 2 B_is_irreducible)
def B_factors_of : AS := (aSeq (aDrop (aCall 1 F_s3_need_modulus [] (aCons (aVar 0) aNil)))
  (aSeq (aIfS (gcT (aTest (aOp gGt (aOp gMinus (aUn gBits (aVar 0)) (aC (.int 1))) (aC (.int 16))))) aNever aNext)
  (aSeq (aPar3 1 2 3 (aCons (aLst aNil) (aCons (aVar 0) (aCons (aC (.int 2)) aNil))))
  (aSeq (aWhile (aTest (aOp gLe (aOp gMul (aC (.int 2)) (aOp gMinus (aUn gBits (aVar 3)) (aC (.int 1)))) (aOp gMinus (aUn gBits (aVar 2)) (aC (.int 1))))) (aSeq (aAsg (aCall 2 F_s3_parts [] (aCons (aVar 2) (aCons (aVar 3) aNil))) (agTup 2 (agCons (agName 4) (agCons (agName 5) agNil))))
  (aIfS (aTest (aOp gEq (aVar 5) (aC (.int 0)))) (aSeq (aDrop (aBM gAppend (aVar 1) (aCons (aVar 3) aNil)))
  (aAsg (aVar 4) (agName 2))) (aAug 3 (gI0 fun i j => .int (i + j)) (aC (.int 1))))))
  (aRet (aCB gTuple (aCons (aIf (aTest (aOp gGt (aVar 2) (aC (.int 1)))) (aOp gAdd (aVar 1) (aLst (aCons (aVar 2) aNil))) (aVar 1)) aNil)))))))
def F_factors_of : List AV → Sto → Res AV := gcF (aDef 5 B_factors_of)
def BL_irreducibles : AL := (aLSeq (aLP (aIfS (gcT (aNot (aTest (aCall 3 F_s3_is_whole [] (aCons (aVar 0) (aCons (aC (.int 1)) (aCons (aC (.int 10)) aNil))))))) aNever aNext))
  (aLSeq (aLFor (aRng2 (aCons (aOp gShl (aC (.int 1)) (aVar 0)) (aCons (aOp gShl (aC (.int 2)) (aVar 0)) aNil))) (agName 1) (aLSeq (aLIf (gcT (aTest (aCall 1 F_is_irreducible [] (aCons (aVar 1) aNil)))) (aLSeq (aLYd (aVar 1))
  aLNil) aLNil)
  aLNil))
  aLNil))
def FL_irreducibles : FL := aLDef 1 BL_irreducibles
def B_order_of : AS := (aSeq (aDrop (aCallS F_s3_need (aCons (aVar 0) aNil)))
  (aSeq (aIfS (gcT (aOr (aNot (aTest (aCall 1 F_is_polynomial [] (aCons (aVar 1) aNil)))) (aNot (aTest (aCall 1 F_is_irreducible [] (aCons (aVar 1) aNil)))))) aNever aNext)
  (aSeq (aAsg (aOp gMinus (aUn gBits (aVar 1)) (aC (.int 1))) (agName 2))
  (aSeq (aIfS (aTest (aOp gGt (aVar 2) (aC (.int 32)))) aNever aNext)
  (aSeq (aIfS (gcT (aTest (aOp gEq (aOp gIx (aCall 2 F_s3_parts [] (aCons (aVar 0) (aCons (aVar 1) aNil))) (aC (.int 1))) (aC (.int 0))))) aNever aNext)
  (aSeq (aAsg (aOp gMinus (aOp gShl (aC (.int 1)) (aVar 2)) (aC (.int 1))) (agName 3))
  (aSeq (aFor (aIter (aCall 1 F_s3_primes [] (aCons (aVar 3) aNil))) (agName 4) (aWhile (aAnd (aTest (aOp gEq (aOp gMod (aVar 3) (aVar 4)) (aC (.int 0)))) (aTest (aOp gEq (aCall 3 F_s3_power [] (aCons (aVar 0) (aCons (aOp gFdiv (aVar 3) (aVar 4)) (aCons (aVar 1) aNil)))) (aC (.int 1))))) (aAsg (aOp gFdiv (aVar 3) (aVar 4)) (agName 3))))
  (aRet (aVar 3)))))))))
def F_order_of : List AV → Sto → Res AV := gcF (aDef 3 B_order_of)
def B__law_ring_right : AS := (aSeq (aIfS (gcT (aOr (aTest (aOp gNe (aCall 2 F_multiplied [] (aCons (aVar 0) (aCons (aVar 1) aNil))) (aCall 2 F_multiplied [] (aCons (aVar 1) (aCons (aVar 0) aNil))))) (aTest (aOp gNe (aCall 2 F_multiplied [] (aCons (aCall 2 F_multiplied [] (aCons (aVar 0) (aCons (aVar 1) aNil))) (aCons (aVar 2) aNil))) (aCall 2 F_multiplied [] (aCons (aVar 0) (aCons (aCall 2 F_multiplied [] (aCons (aVar 1) (aCons (aVar 2) aNil))) aNil))))))) (aRet (aC (.bl false))) aNext)
  (aSeq (aIfS (gcT (aOr (aTest (aOp gNe (aCall 2 F_multiplied [] (aCons (aVar 0) (aCons (aCall 2 F_added [] (aCons (aVar 1) (aCons (aVar 2) aNil))) aNil))) (aCall 2 F_added [] (aCons (aCall 2 F_multiplied [] (aCons (aVar 0) (aCons (aVar 1) aNil))) (aCons (aCall 2 F_multiplied [] (aCons (aVar 0) (aCons (aVar 2) aNil))) aNil))))) (aTest (aOp gNe (aCall 2 F_added [] (aCons (aCall 2 F_added [] (aCons (aVar 0) (aCons (aVar 1) aNil))) (aCons (aVar 1) aNil))) (aVar 0))))) (aRet (aC (.bl false))) aNext)
  (aSeq (aIfS (gcT (aTest (aOp gNe (aCall 2 F_multiplied [] (aCons (aCall 2 F_added [] (aCons (aVar 0) (aCons (aVar 1) aNil))) (aCons (aCall 2 F_added [] (aCons (aVar 0) (aCons (aVar 1) aNil))) aNil))) (aCall 2 F_added [] (aCons (aCall 2 F_multiplied [] (aCons (aVar 0) (aCons (aVar 0) aNil))) (aCons (aCall 2 F_multiplied [] (aCons (aVar 1) (aCons (aVar 1) aNil))) aNil)))))) (aRet (aC (.bl false))) aNext)
  (aSeq (aIfS (gcT (aAnd (aTest (aOp gGt (aVar 0) (aC (.int 0)))) (aAnd (aTest (aOp gGt (aVar 1) (aC (.int 0)))) (aTest (aOp gNe (aCall 1 F_degree [] (aCons (aCall 2 F_multiplied [] (aCons (aVar 0) (aCons (aVar 1) aNil))) aNil)) (aOp gAdd (aCall 1 F_degree [] (aCons (aVar 0) aNil)) (aCall 1 F_degree [] (aCons (aVar 1) aNil)))))))) (aRet (aC (.bl false))) aNext)
  (aRet (aOp gEq (aLst (aCons (aCall 2 F_multiplied [] (aCons (aVar 0) (aCons (aC (.int 0)) aNil))) (aCons (aCall 2 F_multiplied [] (aCons (aC (.int 1)) (aCons (aVar 0) aNil))) (aCons (aCall 2 F_added [] (aCons (aVar 0) (aCons (aVar 0) aNil))) aNil)))) (aLst (aCons (aC (.int 0)) (aCons (aVar 0) (aCons (aC (.int 0)) aNil))))))))))
def F__law_ring_right : List AV → Sto → Res AV := gcF (aDef 0 B__law_ring_right)
def B__law_divisors_right : AS := (aSeq (aAsg (aCall 2 F_divided [] (aCons (aCall 2 F_added [] (aCons (aCall 2 F_multiplied [] (aCons (aVar 0) (aCons (aVar 2) aNil))) (aCons (aVar 1) aNil))) (aCons (aVar 2) aNil))) (agTup 2 (agCons (agName 3) (agCons (agName 4) agNil))))
  (aSeq (aIfS (gcT (aTest (aOp gNe (aLst (aCons (aVar 3) (aCons (aVar 4) aNil))) (aLst (aCons (aCall 2 F_added [] (aCons (aVar 0) (aCons (aOp gIx (aCall 2 F_divided [] (aCons (aVar 1) (aCons (aVar 2) aNil))) (aC (.int 0))) aNil))) (aCons (aOp gIx (aCall 2 F_divided [] (aCons (aVar 1) (aCons (aVar 2) aNil))) (aC (.int 1))) aNil)))))) (aRet (aC (.bl false))) aNext)
  (aSeq (aAsg (aCall 2 F_common [] (aCons (aVar 0) (aCons (aVar 2) aNil))) (agName 5))
  (aSeq (aIfS (gcT (aOr (aTest (aOp gNe (aOp gIx (aCall 2 F_divided [] (aCons (aVar 0) (aCons (aVar 5) aNil))) (aC (.int 1))) (aC (.int 0)))) (aOr (aTest (aOp gNe (aOp gIx (aCall 2 F_divided [] (aCons (aVar 2) (aCons (aVar 5) aNil))) (aC (.int 1))) (aC (.int 0)))) (aTest (aOp gNe (aCall 2 F_common [] (aCons (aOp gIx (aCall 2 F_divided [] (aCons (aVar 1) (aCons (aVar 2) aNil))) (aC (.int 1))) (aCons (aVar 2) aNil))) (aCall 2 F_common [] (aCons (aVar 1) (aCons (aVar 2) aNil)))))))) (aRet (aC (.bl false))) aNext)
  (aSeq (aAsg (aCall 2 F_inverse_of [] (aCons (aVar 0) (aCons (aVar 2) aNil))) (agName 6))
  (aSeq (aIfS (aTest (aOp gNe (aOp gIsN (aVar 6) (aC (.non))) (aOp gNe (aVar 5) (aC (.int 1))))) (aRet (aC (.bl false))) aNext)
  (aRet (aOrV (aOp gIsN (aVar 6) (aC (.non))) (aAndV (aOp gEq (aOp gIx (aCall 2 F_divided [] (aCons (aCall 2 F_multiplied [] (aCons (aVar 0) (aCons (aVar 6) aNil))) (aCons (aVar 2) aNil))) (aC (.int 1))) (aOp gIx (aCall 2 F_divided [] (aCons (aC (.int 1)) (aCons (aVar 2) aNil))) (aC (.int 1)))) (aOp gLt (aVar 6) (aVar 2)))))))))))
def F__law_divisors_right : List AV → Sto → Res AV := gcF (aDef 4 B__law_divisors_right)
def B__law_field_right : AS := (aSeq (aPar 2 3 (aCons (aCall 1 F_degree [] (aCons (aVar 1) aNil)) (aCons (aOp gIx (aCall 2 F_divided [] (aCons (aVar 0) (aCons (aVar 1) aNil))) (aC (.int 1))) aNil)))
  (aSeq (aIfS (gcT (aTest (aOp gNe (aCall 3 F_power_of [] (aCons (aVar 0) (aCons (aOp gShl (aC (.int 1)) (aVar 2)) (aCons (aVar 1) aNil)))) (aVar 3)))) (aRet (aC (.bl false))) aNext)
  (aSeq (aIfS (aTest (aOp gEq (aVar 3) (aC (.int 0)))) (aRet (aOp gIsN (aCall 2 F_inverse_of [] (aCons (aVar 0) (aCons (aVar 1) aNil))) (aC (.non)))) aNext)
  (aSeq (aAsg (aCall 2 F_order_of [] (aCons (aVar 0) (aCons (aVar 1) aNil))) (agName 4))
  (aSeq (aIfS (gcT (aOr (aTest (aOp gNe (aCall 2 F_inverse_of [] (aCons (aVar 0) (aCons (aVar 1) aNil))) (aCall 3 F_power_of [] (aCons (aVar 0) (aCons (aOp gMinus (aOp gShl (aC (.int 1)) (aVar 2)) (aC (.int 2))) (aCons (aVar 1) aNil)))))) (aTest (aOp gNe (aOp gMod (aOp gMinus (aOp gShl (aC (.int 1)) (aVar 2)) (aC (.int 1))) (aVar 4)) (aC (.int 0)))))) (aRet (aC (.bl false))) aNext)
  (aRet (aAndV (aOp gEq (aCall 3 F_power_of [] (aCons (aVar 0) (aCons (aVar 4) (aCons (aVar 1) aNil)))) (aOp gIx (aCall 2 F_divided [] (aCons (aC (.int 1)) (aCons (aVar 1) aNil))) (aC (.int 1)))) (aOp gEq (aCall 2 F_order_of [] (aCons (aCall 2 F_multiplied [] (aCons (aVar 0) (aCons (aVar 0) aNil))) (aCons (aVar 1) aNil))) (aVar 4)))))))))
def F__law_field_right : List AV → Sto → Res AV := gcF (aDef 3 B__law_field_right)
def B_law : AS := (aSeq (aAsg (aCall 1 F__law_begun [] (aCons (aVar 0) aNil)) (agName 1))
  (aSeq (aAsg (aLcG FL_irreducibles (aCArgs 1 (aCons (aOp gAdd (aC (.int 2)) (aCall 2 F__law_next [] (aCons (aVar 1) (aCons (aC (.int 6)) aNil)))) aNil)) (agName 3) aYes (aVar 3) [3]) (agName 2))
  (aSeq (aFor (aRng1 (aCons (aOp gAdd (aC (.int 2)) (aCB gMin2 (aCons (aC (.int 6)) (aCons (aCB gLen (aCons (aVar 0) aNil)) aNil)))) aNil)) (agName 4) (aSeq (aPar3 5 6 7 (aCons (aCall 2 F__law_poly [] (aCons (aVar 1) (aCons (aC (.int 40)) aNil))) (aCons (aCall 2 F__law_poly [] (aCons (aVar 1) (aCons (aC (.int 40)) aNil))) (aCons (aCall 2 F__law_poly [] (aCons (aVar 1) (aCons (aC (.int 40)) aNil))) aNil))))
  (aSeq (aAsg (aOp gAdd (aC (.int 1)) (aCall 2 F__law_next [] (aCons (aVar 1) (aCons (aOp gShl (aC (.int 1)) (aC (.int 20))) aNil)))) (agName 8))
  (aSeq (aIfS (gcT (aOr (aNot (aTest (aCall 3 F__law_ring_right [] (aCons (aVar 5) (aCons (aVar 6) (aCons (aVar 7) aNil)))))) (aNot (aTest (aCall 3 F__law_divisors_right [] (aCons (aVar 5) (aCons (aVar 6) (aCons (aVar 8) aNil)))))))) (aRet (aC (.bl false))) aNext)
  (aSeq (aIfS (gcT (aNot (aTest (aCall 3 F__law_divisors_right [] (aCons (aVar 6) (aCons (aVar 8) (aCons (aOp gAdd (aOp gMod (aVar 7) (aC (.int 64))) (aC (.int 1))) aNil))))))) (aRet (aC (.bl false))) aNext)
  (aSeq (aAsg (aCall 2 F__law_pick [] (aCons (aVar 1) (aCons (aVar 2) aNil))) (agName 3))
  (aSeq (aIfS (gcT (aOr (aNot (aTest (aCall 2 F__law_field_right [] (aCons (aVar 5) (aCons (aVar 3) aNil))))) (aOr (aNot (aTest (aCall 2 F__law_field_right [] (aCons (aVar 6) (aCons (aVar 3) aNil))))) (aNot (aTest (aCall 1 F_is_irreducible [] (aCons (aVar 3) aNil))))))) (aRet (aC (.bl false))) aNext)
  (aSeq (aPar 9 10 (aCons (aOp gAdd (aC (.int 1)) (aCall 2 F__law_next [] (aCons (aVar 1) (aCons (aC (.int 255)) aNil)))) (aCons (aOp gAdd (aC (.int 1)) (aCall 2 F__law_next [] (aCons (aVar 1) (aCons (aC (.int 255)) aNil)))) aNil)))
  (aSeq (aAsg (aCB gSorted (aCons (aLc (aIter (aOp gAdd (aCall 1 F_factors_of [] (aCons (aVar 9) aNil)) (aCall 1 F_factors_of [] (aCons (aVar 10) aNil)))) (agName 12) aYes (aCB gIntOf (aCons (aVar 12) aNil)) [12]) aNil)) (agName 11))
  (aSeq (aIfS (gcT (aTest (aOp gNe (aCB gList (aCons (aCall 1 F_factors_of [] (aCons (aCall 2 F_multiplied [] (aCons (aVar 9) (aCons (aVar 10) aNil))) aNil)) aNil)) (aVar 11)))) (aRet (aC (.bl false))) aNext)
  (aIfS (gcT (aTest (aOp gNe (aCall 1 F_is_irreducible [] (aCons (aVar 9) aNil)) (aOp gEq (aCB gLen (aCons (aCall 1 F_factors_of [] (aCons (aVar 9) aNil)) aNil)) (aC (.int 1)))))) (aRet (aC (.bl false))) aNext)))))))))))
  (aRet (aC (.bl true))))))
def F_law : List AV → Sto → Res AV := aDef 12 B_law
end
end Pf
set_option Elab.async false
set_option linter.all false
set_option maxRecDepth 100000
set_option maxHeartbeats 4000000
set_option exponentiation.threshold 3000
namespace Pf
open PySem PySem.Spec PyProof.Rows L2 Ab
def top (i : Nat) : Stmt := PySem.Challenge.pw_drawstate_k75_whole_rings_and_fields_of.main.body.getD i (.Pass ⟨0, 0, 0, 0⟩)
abbrev s_is_integer : Stmt := top 6
theorem sc_is_integer : FnScope ["value"] ["value"] (C8.fnScope s_is_integer) := C8.fnScope_by (by decide +kernel)
abbrev s_s3_is_whole : Stmt := top 12
theorem sc_s3_is_whole : FnScope ["value", "least", "most"] ["value", "least", "most"] (C8.fnScope s_s3_is_whole) := C8.fnScope_by (by decide +kernel)
abbrev s_is_polynomial : Stmt := top 13
theorem sc_is_polynomial : FnScope ["value"] ["value"] (C8.fnScope s_is_polynomial) := C8.fnScope_by (by decide +kernel)
abbrev s_s3_need : Stmt := top 14
theorem sc_s3_need : FnScope ["values", "value"] ["values"] (C8.fnScope s_s3_need) := C8.fnScope_by (by decide +kernel)
abbrev s_s3_need_modulus : Stmt := top 15
theorem sc_s3_need_modulus : FnScope ["value"] ["value"] (C8.fnScope s_s3_need_modulus) := C8.fnScope_by (by decide +kernel)
abbrev s_s3_product : Stmt := top 16
theorem sc_s3_product : FnScope ["first", "second", "found", "shifted", "rest"] ["first", "second"] (C8.fnScope s_s3_product) := C8.fnScope_by (by decide +kernel)
abbrev s_s3_parts : Stmt := top 17
theorem sc_s3_parts : FnScope ["number", "modulus", "quotient", "rest", "width", "shift"] ["number", "modulus"] (C8.fnScope s_s3_parts) := C8.fnScope_by (by decide +kernel)
abbrev s_s3_power : Stmt := top 18
theorem sc_s3_power : FnScope ["number", "steps", "modulus", "found", "square", "left"] ["number", "steps", "modulus"] (C8.fnScope s_s3_power) := C8.fnScope_by (by decide +kernel)
abbrev s_s3_common : Stmt := top 19
theorem sc_s3_common : FnScope ["first", "second"] ["first", "second"] (C8.fnScope s_s3_common) := C8.fnScope_by (by decide +kernel)
abbrev s_degree : Stmt := top 20
theorem sc_degree : FnScope ["number"] ["number"] (C8.fnScope s_degree) := C8.fnScope_by (by decide +kernel)
abbrev s_added : Stmt := top 21
theorem sc_added : FnScope ["first", "second"] ["first", "second"] (C8.fnScope s_added) := C8.fnScope_by (by decide +kernel)
abbrev s_multiplied : Stmt := top 22
theorem sc_multiplied : FnScope ["first", "second"] ["first", "second"] (C8.fnScope s_multiplied) := C8.fnScope_by (by decide +kernel)
abbrev s_divided : Stmt := top 23
theorem sc_divided : FnScope ["number", "modulus"] ["number", "modulus"] (C8.fnScope s_divided) := C8.fnScope_by (by decide +kernel)
abbrev s_common : Stmt := top 24
theorem sc_common : FnScope ["first", "second"] ["first", "second"] (C8.fnScope s_common) := C8.fnScope_by (by decide +kernel)
abbrev s_power_of : Stmt := top 25
theorem sc_power_of : FnScope ["number", "steps", "modulus"] ["number", "steps", "modulus"] (C8.fnScope s_power_of) := C8.fnScope_by (by decide +kernel)
abbrev s_inverse_of : Stmt := top 26
theorem sc_inverse_of : FnScope ["number", "modulus", "old", "new", "before", "after", "quotient", "rest"] ["number", "modulus"] (C8.fnScope s_inverse_of) := C8.fnScope_by (by decide +kernel)
abbrev s_s3_primes : Stmt := top 27
theorem sc_s3_primes : FnScope ["number", "found", "rest", "one"] ["number"] (C8.fnScope s_s3_primes) := C8.fnScope_by (by decide +kernel)
abbrev s_s3_twice : Stmt := top 28
theorem sc_s3_twice : FnScope ["number", "times", "modulus", "found", "turn"] ["number", "times", "modulus"] (C8.fnScope s_s3_twice) := C8.fnScope_by (by decide +kernel)
abbrev s_is_irreducible : Stmt := top 29
theorem sc_is_irreducible : FnScope ["number", "size", "prime"] ["number"] (C8.fnScope s_is_irreducible) := C8.fnScope_by (by decide +kernel)
abbrev s_factors_of : Stmt := top 30
theorem sc_factors_of : FnScope ["number", "found", "rest", "one", "quotient", "left"] ["number"] (C8.fnScope s_factors_of) := C8.fnScope_by (by decide +kernel)
abbrev s_irreducibles : Stmt := top 31
theorem sc_irreducibles : GScope ["size", "number"] ["size"] (C8.fnScope s_irreducibles) := Gx.gscope_by (by decide +kernel)
abbrev s_order_of : Stmt := top 32
theorem sc_order_of : FnScope ["number", "modulus", "size", "found", "prime"] ["number", "modulus"] (C8.fnScope s_order_of) := C8.fnScope_by (by decide +kernel)
abbrev s__law_begun : Stmt := top 34
theorem sc__law_begun : FnScope ["_law_script", "_law_blend", "_law_k", "_law_cell"] ["_law_script"] (C8.fnScope s__law_begun) := C8.fnScope_by (by decide +kernel)
abbrev s__law_next : Stmt := top 35
theorem sc__law_next : FnScope ["_law_draw", "_law_below", "_law_great", "_law_at", "_law_found", "_law_blend"] ["_law_draw", "_law_below"] (C8.fnScope s__law_next) := C8.fnScope_by (by decide +kernel)
abbrev s__law_pick : Stmt := top 36
theorem sc__law_pick : FnScope ["_law_draw", "_law_some"] ["_law_draw", "_law_some"] (C8.fnScope s__law_pick) := C8.fnScope_by (by decide +kernel)
abbrev s__law_number : Stmt := top 38
theorem sc__law_number : FnScope ["_law_spots", "_law_found", "_law_at"] ["_law_spots"] (C8.fnScope s__law_number) := C8.fnScope_by (by decide +kernel)
abbrev s__law_poly : Stmt := top 39
theorem sc__law_poly : FnScope ["_law_draw", "_law_many", "_law_way", "_law_turn"] ["_law_draw", "_law_many"] (C8.fnScope s__law_poly) := C8.fnScope_by (by decide +kernel)
abbrev s__law_ring_right : Stmt := top 40
theorem sc__law_ring_right : FnScope ["_law_a", "_law_b", "_law_c"] ["_law_a", "_law_b", "_law_c"] (C8.fnScope s__law_ring_right) := C8.fnScope_by (by decide +kernel)
abbrev s__law_divisors_right : Stmt := top 41
theorem sc__law_divisors_right : FnScope ["_law_a", "_law_b", "_law_m", "_law_quotient", "_law_rest", "_law_most", "_law_back"] ["_law_a", "_law_b", "_law_m"] (C8.fnScope s__law_divisors_right) := C8.fnScope_by (by decide +kernel)
abbrev s__law_field_right : Stmt := top 42
theorem sc__law_field_right : FnScope ["_law_a", "_law_m", "_law_size", "_law_rest", "_law_many"] ["_law_a", "_law_m"] (C8.fnScope s__law_field_right) := C8.fnScope_by (by decide +kernel)
abbrev s_law : Stmt := top 43
theorem sc_law : FnScope ["_law_script", "_law_draw", "_law_some", "_law_one", "_law_turn", "_law_a", "_law_b", "_law_c", "_law_m", "_law_near", "_law_far", "_law_whole", "_law_part"] ["_law_script"] (C8.fnScope s_law) := C8.fnScope_by (by decide +kernel)
structure Txt (K : PySem.W.Frag) (mg : Str → Option Value) : Prop where
  d_is_integer : ∃ f fd, C8.Def K mg "is_integer" s_is_integer f fd ∧ Binds K fd ["value"] []
  d_s3_is_whole : ∃ f fd, C8.Def K mg "s3_is_whole" s_s3_is_whole f fd ∧ Binds K fd ["value", "least", "most"] []
  d_is_polynomial : ∃ f fd, C8.Def K mg "is_polynomial" s_is_polynomial f fd ∧ Binds K fd ["value"] []
  d_s3_need : ∃ f fd, C8.Def K mg "s3_need" s_s3_need f fd ∧ Gx.StarB fd "values"
  d_s3_need_modulus : ∃ f fd, C8.Def K mg "s3_need_modulus" s_s3_need_modulus f fd ∧ Binds K fd ["value"] []
  d_s3_product : ∃ f fd, C8.Def K mg "s3_product" s_s3_product f fd ∧ Binds K fd ["first", "second"] []
  d_s3_parts : ∃ f fd, C8.Def K mg "s3_parts" s_s3_parts f fd ∧ Binds K fd ["number", "modulus"] []
  d_s3_power : ∃ f fd, C8.Def K mg "s3_power" s_s3_power f fd ∧ Binds K fd ["number", "steps", "modulus"] []
  d_s3_common : ∃ f fd, C8.Def K mg "s3_common" s_s3_common f fd ∧ Binds K fd ["first", "second"] []
  d_degree : ∃ f fd, C8.Def K mg "degree" s_degree f fd ∧ Binds K fd ["number"] []
  d_added : ∃ f fd, C8.Def K mg "added" s_added f fd ∧ Binds K fd ["first", "second"] []
  d_multiplied : ∃ f fd, C8.Def K mg "multiplied" s_multiplied f fd ∧ Binds K fd ["first", "second"] []
  d_divided : ∃ f fd, C8.Def K mg "divided" s_divided f fd ∧ Binds K fd ["number", "modulus"] []
  d_common : ∃ f fd, C8.Def K mg "common" s_common f fd ∧ Binds K fd ["first", "second"] []
  d_power_of : ∃ f fd, C8.Def K mg "power_of" s_power_of f fd ∧ Binds K fd ["number", "steps", "modulus"] []
  d_inverse_of : ∃ f fd, C8.Def K mg "inverse_of" s_inverse_of f fd ∧ Binds K fd ["number", "modulus"] []
  d_s3_primes : ∃ f fd, C8.Def K mg "s3_primes" s_s3_primes f fd ∧ Binds K fd ["number"] []
  d_s3_twice : ∃ f fd, C8.Def K mg "s3_twice" s_s3_twice f fd ∧ Binds K fd ["number", "times", "modulus"] []
  d_is_irreducible : ∃ f fd, C8.Def K mg "is_irreducible" s_is_irreducible f fd ∧ Binds K fd ["number"] []
  d_factors_of : ∃ f fd, C8.Def K mg "factors_of" s_factors_of f fd ∧ Binds K fd ["number"] []
  d_irreducibles : ∃ f fd, C8.Def K mg "irreducibles" s_irreducibles f fd ∧ Binds K fd ["size"] []
  d_order_of : ∃ f fd, C8.Def K mg "order_of" s_order_of f fd ∧ Binds K fd ["number", "modulus"] []
  d__law_begun : ∃ f fd, C8.Def K mg "_law_begun" s__law_begun f fd ∧ Binds K fd ["_law_script"] []
  d__law_next : ∃ f fd, C8.Def K mg "_law_next" s__law_next f fd ∧ Binds K fd ["_law_draw", "_law_below"] []
  d__law_pick : ∃ f fd, C8.Def K mg "_law_pick" s__law_pick f fd ∧ Binds K fd ["_law_draw", "_law_some"] []
  d__law_number : ∃ f fd, C8.Def K mg "_law_number" s__law_number f fd ∧ Binds K fd ["_law_spots"] []
  d__law_poly : ∃ f fd, C8.Def K mg "_law_poly" s__law_poly f fd ∧ Binds K fd ["_law_draw", "_law_many"] []
  d__law_ring_right : ∃ f fd, C8.Def K mg "_law_ring_right" s__law_ring_right f fd ∧ Binds K fd ["_law_a", "_law_b", "_law_c"] []
  d__law_divisors_right : ∃ f fd, C8.Def K mg "_law_divisors_right" s__law_divisors_right f fd ∧ Binds K fd ["_law_a", "_law_b", "_law_m"] []
  d__law_field_right : ∃ f fd, C8.Def K mg "_law_field_right" s__law_field_right f fd ∧ Binds K fd ["_law_a", "_law_m"] []
  d_law : ∃ f fd, C8.Def K mg "law" s_law f fd ∧ Binds K fd ["_law_script"] [] ∧ ∀ (s : Shared) (v : Value), BindsTo s fd ⟨[v], []⟩ [("_law_script", v)]
  c_MOST_DIGITS : ∃ u, mg "MOST_DIGITS" = some u ∧ RelV (.int 512) u
  c_MOST_FACTORED : ∃ u, mg "MOST_FACTORED" = some u ∧ RelV (.int 16) u
  c_MOST_LISTED : ∃ u, mg "MOST_LISTED" = some u ∧ RelV (.int 10) u
  c_MOST_ORDER : ∃ u, mg "MOST_ORDER" = some u ∧ RelV (.int 32) u
  b_all : mg "all" = none
  b_bool : mg "bool" = none
  b_enumerate : mg "enumerate" = none
  b_int : mg "int" = none
  b_isinstance : mg "isinstance" = none
  b_len : mg "len" = none
  b_list : mg "list" = none
  b_max : mg "max" = none
  b_min : mg "min" = none
  b_range : mg "range" = none
  b_sorted : mg "sorted" = none
  b_tuple : mg "tuple" = none
abbrev Wk (K : PySem.W.Frag) (κ : String → Addr) : Wl := { K := K, κ := κ, T := [], live := [], xlive := [], inv := fun _ => True, cl := fun _ _ _ _ => trivial }
section
variable {P : Program} {w : World} {K : PySem.W.Frag} {mg : Str → Option Value} {base : Heap} {κ : String → Addr}
theorem kit_int (T : Txt K mg ) : KitOk (Wk K (fun _ => (0 : Addr))) (kitB "int") := kitOk_of (.cons (kitE (show kitP "NoneType" "int" = some false by decide) (if_pos (by decide)) (if_pos (by decide)) Sx.kb_NoneType_int) (.cons (kitE (show kitP "bool" "int" = some true by decide) (if_pos (by decide)) (if_pos (by decide)) Sx.kb_bool_int) (.cons (kitE (show kitP "int" "int" = some true by decide) (if_pos (by decide)) (if_pos (by decide)) Sx.kb_int_int) (.cons (kitE (show kitP "str" "int" = some false by decide) (if_pos (by decide)) (if_pos (by decide)) Sx.kb_str_int) (.cons (kitE (show kitP "tuple" "int" = some false by decide) (if_pos (by decide)) (if_pos (by decide)) Sx.kb_tuple_int) (.cons (kitE (show kitP "list" "int" = some false by decide) (if_pos (by decide)) (if_pos (by decide)) Sx.kb_list_int) (.cons (kitE (show kitP "dict" "int" = some false by decide) (if_pos (by decide)) (if_pos (by decide)) Sx.kb_dict_int) .nil))))))) .nil .nil .nil .nil
theorem kit_bool (T : Txt K mg ) : KitOk (Wk K (fun _ => (0 : Addr))) (kitB "bool") := kitOk_of (.cons (kitE (show kitP "NoneType" "bool" = some false by decide) (if_pos (by decide)) (if_pos (by decide)) Sx.kb_NoneType_bool) (.cons (kitE (show kitP "bool" "bool" = some true by decide) (if_pos (by decide)) (if_pos (by decide)) Sx.kb_bool_bool) (.cons (kitE (show kitP "int" "bool" = some false by decide) (if_pos (by decide)) (if_pos (by decide)) Sx.kb_int_bool) (.cons (kitE (show kitP "str" "bool" = some false by decide) (if_pos (by decide)) (if_pos (by decide)) Sx.kb_str_bool) (.cons (kitE (show kitP "tuple" "bool" = some false by decide) (if_pos (by decide)) (if_pos (by decide)) Sx.kb_tuple_bool) (.cons (kitE (show kitP "list" "bool" = some false by decide) (if_pos (by decide)) (if_pos (by decide)) Sx.kb_list_bool) (.cons (kitE (show kitP "dict" "bool" = some false by decide) (if_pos (by decide)) (if_pos (by decide)) Sx.kb_dict_bool) .nil))))))) .nil .nil .nil .nil
theorem calx_is_integer (T : Txt K mg ) : Gx.CalX P w K mg base 1 "is_integer" (spF (Wk K (fun _ => (0 : Addr))) 1 F_is_integer) := by
  obtain ⟨f, fd, F, b⟩ := T.d_is_integer
  refine Gx.calX F b sc_is_integer (fun vs H Q E h => spF.len h) (fun cdv A outer s H vs Q E hr h => ?_)
  have hu := hu_of hr
  have hu64 := hr.units
  have hu65 := Ab.u65 hr
  exact ⟨_, (pss_one (ps_ret (pe_and (pe_callB (show CallR _ _ (Ab.rIsiU K) by exact Ab.call_isiU) (by rfl) T.b_isinstance (by decide +kernel) (pa_cons (pv 0) (pa_cons (pe_bltn (v := .ty "int") (by rfl) T.b_int (by decide +kernel) rfl) pa_nil))) (pe_one (pe_not (pe_callB (show CallR _ _ (Ab.rIsiU K) by exact Ab.call_isiU) (by rfl) T.b_isinstance (by decide +kernel) (pa_cons (pv 0) (pa_cons (pe_bltn (v := .ty "bool") (by rfl) T.b_bool (by decide +kernel) rfl) pa_nil)))))))), Ab.DS.dfn (spF_gc h) rfl (DS.ret (DE.andV (DE.cb (DB.isi (kit_int T)) (DA.cons DE.var (DA.cons (DE.c fun _ => .ty _) DA.nil)) NEL.isi) (DE.notV (DE.cb (DB.isi (kit_bool T)) (DA.cons DE.var (DA.cons (DE.c fun _ => .ty _) DA.nil)) NEL.isi))))⟩
theorem calx_s3_product (T : Txt K mg ) : Gx.CalX P w K mg base 1 "s3_product" (spF (Wk K (fun _ => (0 : Addr))) 2 F_s3_product) := by
  obtain ⟨f, fd, F, b⟩ := T.d_s3_product
  refine Gx.calX F b sc_s3_product (fun vs H Q E h => spF.len h) (fun cdv A outer s H vs Q E hr h => ?_)
  have hu := hu_of hr
  have hu64 := hr.units
  have hu65 := Ab.u65 hr
  exact ⟨_, (pss_cons (ps_set (i := 2) sc_s3_product.nd rfl (.inl rfl) pe_int)
      (pss_cons (ps_set (i := 3) sc_s3_product.nd rfl (.inl rfl) (pv 0))
      (pss_cons (ps_set (i := 4) sc_s3_product.nd rfl (.inl rfl) (pv 1))
      (pss_cons (ps_while (passes_of rfl) (pt_cmpR op_gt (pv 4) pe_int (nomark _)) (pss_cons (ps_if (pt_cmpR (show OpR _ _ (Ab.rEqU K) by exact Ab.op_eqU hu64) (pe_op op_and (pv 4) pe_int) pe_int (nomark _)) (pss_one (ps_set (i := 2) sc_s3_product.nd rfl (.inl rfl) (pe_op op_xor (pv 2) (pv 3)))) pss_nil)
      (pss_cons (ps_set (i := 3) sc_s3_product.nd rfl (.inl rfl) (pe_op op_shlW (pv 3) pe_int))
      (pss_one (ps_set (i := 4) sc_s3_product.nd rfl (.inl rfl) (pe_op op_shr (pv 4) pe_int))))))
      (pss_one (ps_ret (pv 2))))))), Ab.DS.dfn (spF_gc h) rfl (DS.seq (DS.asg (DE.c fun _ => .int _) DG.name Goes.name)
      (DS.seq (DS.asg DE.var DG.name Goes.name)
      (DS.seq (DS.asg DE.var DG.name Goes.name)
      (DS.seq (DS.whileS (DT.test (DE.op (DR.i0 fun _ _ _ => .bl _) DE.var (DE.c fun _ => .int _) NE2.i0)) (DS.seq (DS.ifs (DT.test (DE.op DR.eq (DE.op (DR.i0 fun _ _ _ => .int _) DE.var (DE.c fun _ => .int _) NE2.i0) (DE.c fun _ => .int _) NE2.eq)) (DS.asg (DE.op (DR.i0 fun _ _ _ => .int _) DE.var DE.var NE2.i0) DG.name Goes.name) DS.next)
      (DS.seq (DS.asg (DE.op (DR.i fun _ _ _ => .int _) DE.var (DE.c fun _ => .int _) NE2.i) DG.name Goes.name)
      (DS.asg (DE.op (DR.i fun _ _ _ => .int _) DE.var (DE.c fun _ => .int _) NE2.i) DG.name Goes.name))))
      (DS.ret DE.var)))))⟩
theorem calx_s3_parts (T : Txt K mg ) : Gx.CalX P w K mg base 1 "s3_parts" (spF (Wk K (fun _ => (0 : Addr))) 2 F_s3_parts) := by
  obtain ⟨f, fd, F, b⟩ := T.d_s3_parts
  refine Gx.calX F b sc_s3_parts (fun vs H Q E h => spF.len h) (fun cdv A outer s H vs Q E hr h => ?_)
  have hu := hu_of hr
  have hu64 := hr.units
  have hu65 := Ab.u65 hr
  exact ⟨_, (pss_cons (ps_set (i := 2) sc_s3_parts.nd rfl (.inl rfl) pe_int)
      (pss_cons (ps_set (i := 3) sc_s3_parts.nd rfl (.inl rfl) (pv 0))
      (pss_cons (ps_set (i := 4) sc_s3_parts.nd rfl (.inl rfl) (pe_bits (pv 1)))
      (pss_cons (ps_while (passes_of rfl) (pt_cmpR op_ge (pe_bits (pv 3)) (pv 4) (nomark _)) (pss_cons (ps_set (i := 5) sc_s3_parts.nd rfl (.inl rfl) (pe_op op_sub (pe_bits (pv 3)) (pv 4)))
      (pss_cons (ps_set (i := 2) sc_s3_parts.nd rfl (.inl rfl) (pe_op op_or (pv 2) (pe_op op_shlW pe_int (pv 5))))
      (pss_one (ps_set (i := 3) sc_s3_parts.nd rfl (.inl rfl) (pe_op op_xor (pv 3) (pe_op op_shlW (pv 1) (pv 5))))))))
      (pss_one (ps_ret (pe_tup (pa_cons (pv 2) (pa_cons (pv 3) pa_nil))))))))), Ab.DS.dfn (spF_gc h) rfl (DS.seq (DS.asg (DE.c fun _ => .int _) DG.name Goes.name)
      (DS.seq (DS.asg DE.var DG.name Goes.name)
      (DS.seq (DS.asg (DE.bits DE.var) DG.name Goes.name)
      (DS.seq (DS.whileS (DT.test (DE.op (DR.i0 fun _ _ _ => .bl _) (DE.bits DE.var) DE.var NE2.i0)) (DS.seq (DS.asg (DE.op (DR.i0 fun _ _ _ => .int _) (DE.bits DE.var) DE.var NE2.i0) DG.name Goes.name)
      (DS.seq (DS.asg (DE.op (DR.i0 fun _ _ _ => .int _) DE.var (DE.op (DR.i fun _ _ _ => .int _) (DE.c fun _ => .int _) DE.var NE2.i) NE2.i0) DG.name Goes.name)
      (DS.asg (DE.op (DR.i0 fun _ _ _ => .int _) DE.var (DE.op (DR.i fun _ _ _ => .int _) DE.var DE.var NE2.i) NE2.i0) DG.name Goes.name))))
      (DS.ret (DE.tup (DA.cons DE.var (DA.cons DE.var DA.nil))))))))⟩
theorem calx_s3_primes (T : Txt K mg ) : Gx.CalX P w K mg base 1 "s3_primes" (spF (Wk K (fun _ => (0 : Addr))) 1 F_s3_primes) := by
  obtain ⟨f, fd, F, b⟩ := T.d_s3_primes
  refine Gx.calX F b sc_s3_primes (fun vs H Q E h => spF.len h) (fun cdv A outer s H vs Q E hr h => ?_)
  have hu := hu_of hr
  have hu64 := hr.units
  have hu65 := Ab.u65 hr
  exact ⟨_, (pss_cons (ps_par3 (i := 1) (j := 2) (l := 3) rfl sc_s3_primes.nd rfl rfl rfl (by decide) (by decide) (by decide) rfl rfl rfl (pa_cons (pe_lst pa_nil) (pa_cons (pv 0) (pa_cons pe_int pa_nil))) (by rfl))
      (pss_cons (ps_while (passes_of rfl) (pt_cmpR op_le (pe_op Ab.op_mulU (pv 3) (pv 3)) (pv 2) (nomark _)) (pss_cons (ps_if (pt_cmpR (show OpR _ _ (Ab.rEqU K) by exact Ab.op_eqU hu64) (pe_op op_mod (pv 2) (pv 3)) pe_int (nomark _)) (pss_cons (ps_expr (show PE _ _ (tBM K "list" _ _ _) by exact pe_bm PySem.F.plainAttrs_list PySem.F.slot_list_append PySem.F.type_list_append mt_append (pv 1) (pa_cons (pv 3) pa_nil)))
      (pss_one (ps_while (passes_of rfl) (pt_cmpR (show OpR _ _ (Ab.rEqU K) by exact Ab.op_eqU hu64) (pe_op op_mod (pv 2) (pv 3)) pe_int (nomark _)) (pss_one (ps_set (i := 2) sc_s3_primes.nd rfl (.inl rfl) (pe_op op_fdivW (pv 2) (pv 3))))))) pss_nil)
      (pss_one (ps_aug (i := 3) sc_s3_primes.nd rfl (.inl rfl) pe_int ip_add))))
      (pss_one (ps_ret (pe_ifExp (pt_cmpR op_gt (pv 2) pe_int (nomark _)) (pe_op (show OpR _ _ (Ab.rAddU K) by exact Ab.op_addU) (pv 1) (pe_lst (pa_cons (pv 2) pa_nil))) (pv 1)))))), Ab.DS.dfn (spF_gc h) rfl (DS.seq (DS.par3 (DA.cons (DE.lst DA.nil) (DA.cons DE.var (DA.cons (DE.c fun _ => .int _) DA.nil))))
      (DS.seq (DS.whileS (DT.test (DE.op (DR.i0 fun _ _ _ => .bl _) (DE.op DR.mul DE.var DE.var NE2.mul) DE.var NE2.i0)) (DS.seq (DS.ifs (DT.test (DE.op DR.eq (DE.op (DR.i fun _ _ _ => .int _) DE.var DE.var NE2.i) (DE.c fun _ => .int _) NE2.eq)) (DS.seq (DS.drop (DE.bm DM.append NEM.append DE.var (DA.cons DE.var DA.nil)))
      (DS.whileS (DT.test (DE.op DR.eq (DE.op (DR.i fun _ _ _ => .int _) DE.var DE.var NE2.i) (DE.c fun _ => .int _) NE2.eq)) (DS.asg (DE.op (DR.i fun _ _ _ => .int _) DE.var DE.var NE2.i) DG.name Goes.name))) DS.next)
      (DS.aug (DR.i0 fun _ _ _ => .int _) NE2.i0 (DE.c fun _ => .int _))))
      (DS.ret (DE.ifE (DT.test (DE.op (DR.i0 fun _ _ _ => .bl _) DE.var (DE.c fun _ => .int _) NE2.i0)) (DE.op DR.add DE.var (DE.lst (DA.cons DE.var DA.nil)) NE2.add) DE.var))))⟩
theorem calx__law_begun (T : Txt K mg ) : Gx.CalX P w K mg base 1 "_law_begun" (spF (Wk K (fun _ => (0 : Addr))) 1 F__law_begun) := by
  obtain ⟨f, fd, F, b⟩ := T.d__law_begun
  refine Gx.calX F b sc__law_begun (fun vs H Q E h => spF.len h) (fun cdv A outer s H vs Q E hr h => ?_)
  have hu := hu_of hr
  have hu64 := hr.units
  have hu65 := Ab.u65 hr
  exact ⟨_, (pss_cons (ps_set (i := 1) sc__law_begun.nd rfl (.inl rfl) (pe_op (show OpR _ _ (Ab.rAddU K) by exact Ab.op_addU) pe_int (pe_op Ab.op_mulU pe_int (pe_callB (show CallR _ _ (Ab.rLenU K) by exact Ab.call_lenU) (by rfl) T.b_len PySem.boot_len (pa_cons (pv 0) pa_nil)))))
      (pss_cons (ps_for (passes_of rfl) rfl (show PI _ _ _ (Ab.enU K _) by exact Ab.PI.or (pi_enum (by rfl) T.b_enumerate (pa_cons (pv 0) pa_nil)) (Gx.pi_enT (by rfl) T.b_enumerate (pa_cons (pv 0) pa_nil))) (show PG _ _ (gTup K 2 _) by exact pg_tup rfl (pgs_cons (pg_name (i := 2) sc__law_begun.nd rfl (.inl rfl)) (pgs_cons (pg_name (i := 3) sc__law_begun.nd rfl (.inl rfl)) pgs_nil))) (pss_one (ps_set (i := 1) sc__law_begun.nd rfl (.inl rfl) (pe_op op_mod (pe_op (show OpR _ _ (Ab.rAddU K) by exact Ab.op_addU) (pe_op (show OpR _ _ (Ab.rAddU K) by exact Ab.op_addU) (pe_op Ab.op_mulU (pv 1) pe_int) (pv 3)) (pe_op Ab.op_mulU pe_int (pv 2))) pe_int))))
      (pss_one (ps_ret (pe_disp (pps_cons pe_str (pv 1) (pps_cons pe_str (pe_lc (own := [("_law_cell", 3)]) rfl sc__law_begun.nd (show PI _ _ _ (Ab.iterU K _) by exact Ab.PI.or (pi_list (pv 0)) (Ab.PI.or (pi_tup (pv 0)) (pi_str (pv 0)))) (blkOk_by (N := ["_law_script", "_law_blend", "_law_k", "_law_cell"]) (sc := C8.fnScope s__law_begun) (by decide +kernel)) (fun _ _ _ _ _ => (pg_name (i := 3) sc__law_begun.nd rfl (.inl rfl))) (fun _ _ _ _ _ => (pts_one (pt_cmpR op_ge (pv 3) (pe_op op_pow pe_int pe_int) (nomark _)))) (fun _ _ _ _ _ => (pv 3))) (pps_cons pe_str pe_int pps_nil))) rfl rfl (by simp) (by decide)))))), Ab.DS.dfn (spF_gc h) rfl (DS.seq (DS.asg (DE.op DR.add (DE.c fun _ => .int _) (DE.op DR.mul (DE.c fun _ => .int _) (DE.cb DB.len (DA.cons DE.var DA.nil) NEL.len) NE2.mul) NE2.add) DG.name Goes.name)
      (DS.seq (DS.forS (DI.enumU (DA.cons DE.var DA.nil)) (DG.tup (DGs.cons DG.name (DGs.cons DG.name DGs.nil))) (Goes.tup (GoesL.cons Goes.name (GoesL.cons Goes.name GoesL.nil))) (DS.asg (DE.op (DR.i fun _ _ _ => .int _) (DE.op DR.add (DE.op DR.add (DE.op DR.mul DE.var (DE.c fun _ => .int _) NE2.mul) DE.var NE2.add) (DE.op DR.mul (DE.c fun _ => .int _) DE.var NE2.mul) NE2.add) (DE.c fun _ => .int _) NE2.i) DG.name Goes.name))
      (DS.ret (DE.disp (.cons (DE.c fun _ => .str _) DE.var (.cons (DE.c fun _ => .str _) (DE.lc (DI.iter DE.var) DG.name Goes.name (WT.name (by decide)) (DT.test (DE.op (DR.i0 fun _ _ _ => .bl _) DE.var (DE.op (DR.i fun _ _ _ => .int _) (DE.c fun _ => .int _) (DE.c fun _ => .int _) NE2.i) NE2.i0)) DE.var) (.cons (DE.c fun _ => .str _) (DE.c fun _ => .int _) .nil)))))))⟩
theorem calx__law_next (T : Txt K mg ) : Gx.CalX P w K mg base 1 "_law_next" (spF (Wk K (fun _ => (0 : Addr))) 2 F__law_next) := by
  obtain ⟨f, fd, F, b⟩ := T.d__law_next
  refine Gx.calX F b sc__law_next (fun vs H Q E h => spF.len h) (fun cdv A outer s H vs Q E hr h => ?_)
  have hu := hu_of hr
  have hu64 := hr.units
  have hu65 := Ab.u65 hr
  exact ⟨_, (pss_cons (ps_asg (pe_tup (pa_cons (pe_op (show OpR _ _ (Ab.rAddU K) by exact Ab.op_addU) (pe_dget hu (pv 0) pe_str (fun _ _ => rfl)) pe_int) (pa_cons (pe_dget hu (pv 0) pe_str (fun _ _ => rfl)) pa_nil))) (show PG _ _ (gTup K 2 _) by exact pg_tup rfl (pgs_cons (pg_sub (pv 0) pe_str (set_dict hu)) (pgs_cons (pg_name (i := 2) sc__law_next.nd rfl (.inl rfl)) pgs_nil))))
      (pss_cons (ps_set (i := 3) sc__law_next.nd rfl (.inl rfl) (pe_op op_mod (pe_dget hu (pv 0) pe_str (fun _ _ => rfl)) (pe_callB (Rd.call_mx2 rfl) (by rfl) T.b_max (by decide +kernel) (pa_cons pe_int (pa_cons (pe_callB (show CallR _ _ (Ab.rLenU K) by exact Ab.call_lenU) (by rfl) T.b_len PySem.boot_len (pa_cons (pv 2) pa_nil)) pa_nil)))))
      (pss_cons (ps_if (PW.pt (pw_and (pt_cmpR (show OpR _ _ (Ab.rNeU K) by exact Ab.op_neU hu64) (pv 2) (pe_lst pa_nil) (nomark _)) (pw_and1 (pt_cmpR op_gt (pe_ix (show IxR _ (Ab.rIxU K) by exact Ab.ix_U) (pv 2) (pv 3) (fun _ _ => rfl)) pe_int (nomark _))))) (pss_cons (ps_set (i := 4) sc__law_next.nd rfl (.inl rfl) (pe_op op_mod (pe_ix (show IxR _ (Ab.rIxU K) by exact Ab.ix_U) (pv 2) (pv 3) (fun _ _ => rfl)) (pv 1)))
      (pss_cons (ps_asg (pe_op op_fdivW (pe_ix (show IxR _ (Ab.rIxU K) by exact Ab.ix_U) (pv 2) (pv 3) (fun _ _ => rfl)) (pv 1)) (pg_sub (pv 2) (pv 3) set_list))
      (pss_one (ps_ret (pv 4))))) pss_nil)
      (pss_cons (ps_set (i := 5) sc__law_next.nd rfl (.inl rfl) (pe_op (show OpR _ _ (Ab.rAddU K) by exact Ab.op_addU) (pe_op (show OpR _ _ (Ab.rAddU K) by exact Ab.op_addU) (pe_op Ab.op_mulU (pe_dget hu (pv 0) pe_str (fun _ _ => rfl)) pe_int) (pe_op Ab.op_mulU pe_int (pe_dget hu (pv 0) pe_str (fun _ _ => rfl)))) pe_int))
      (pss_cons (ps_dput hu (pv 0) pe_str (pe_op op_mod (pv 5) pe_int) rfl)
      (pss_one (ps_ret (pe_op op_mod (pe_op op_fdivW (pe_dget hu (pv 0) pe_str (fun _ _ => rfl)) pe_int) (pv 1))))))))), Ab.DS.dfn (spF_gc h) rfl (DS.seq (DS.asg (DE.tup (DA.cons (DE.op DR.add (DE.dget DE.var (DE.c fun _ => .str _)) (DE.c fun _ => .int _) NE2.add) (DA.cons (DE.dget DE.var (DE.c fun _ => .str _)) DA.nil))) (DG.tup (DGs.cons (DG.subD DE.var (DE.c fun _ => .str _)) (DGs.cons DG.name DGs.nil))) (Goes.tup (GoesL.cons Goes.sub (GoesL.cons Goes.name GoesL.nil))))
      (DS.seq (DS.asg (DE.op (DR.i fun _ _ _ => .int _) (DE.dget DE.var (DE.c fun _ => .str _)) (DE.cb DB.max2 (DA.cons (DE.c fun _ => .int _) (DA.cons (DE.cb DB.len (DA.cons DE.var DA.nil) NEL.len) DA.nil)) NEL.max2) NE2.i) DG.name Goes.name)
      (DS.seq (DS.ifs (DT.gc (DT.and (DT.test (DE.op DR.ne DE.var (DE.lst DA.nil) NE2.ne)) (DT.test (DE.op (DR.i0 fun _ _ _ => .bl _) (DE.op DR.ix DE.var DE.var NE2.ix) (DE.c fun _ => .int _) NE2.i0)))) (DS.seq (DS.asg (DE.op (DR.i fun _ _ _ => .int _) (DE.op DR.ix DE.var DE.var NE2.ix) DE.var NE2.i) DG.name Goes.name)
      (DS.seq (DS.asg (DE.op (DR.i fun _ _ _ => .int _) (DE.op DR.ix DE.var DE.var NE2.ix) DE.var NE2.i) (DG.subL DE.var DE.var) Goes.sub)
      (DS.ret DE.var))) DS.next)
      (DS.seq (DS.asg (DE.op DR.add (DE.op DR.add (DE.op DR.mul (DE.dget DE.var (DE.c fun _ => .str _)) (DE.c fun _ => .int _) NE2.mul) (DE.op DR.mul (DE.c fun _ => .int _) (DE.dget DE.var (DE.c fun _ => .str _)) NE2.mul) NE2.add) (DE.c fun _ => .int _) NE2.add) DG.name Goes.name)
      (DS.seq (DS.dput DE.var (DE.c fun _ => .str _) (DE.op (DR.i fun _ _ _ => .int _) DE.var (DE.c fun _ => .int _) NE2.i))
      (DS.ret (DE.op (DR.i fun _ _ _ => .int _) (DE.op (DR.i fun _ _ _ => .int _) (DE.dget DE.var (DE.c fun _ => .str _)) (DE.c fun _ => .int _) NE2.i) DE.var NE2.i)))))))⟩
theorem calx__law_number (T : Txt K mg ) : Gx.CalX P w K mg base 1 "_law_number" (spF (Wk K (fun _ => (0 : Addr))) 1 F__law_number) := by
  obtain ⟨f, fd, F, b⟩ := T.d__law_number
  refine Gx.calX F b sc__law_number (fun vs H Q E h => spF.len h) (fun cdv A outer s H vs Q E hr h => ?_)
  have hu := hu_of hr
  have hu64 := hr.units
  have hu65 := Ab.u65 hr
  exact ⟨_, (pss_cons (ps_set (i := 1) sc__law_number.nd rfl (.inl rfl) pe_int)
      (pss_cons (ps_for (passes_of rfl) rfl (show PI _ _ _ (Ab.iterU K _) by exact Ab.PI.or (pi_list (pv 0)) (Ab.PI.or (pi_tup (pv 0)) (pi_str (pv 0)))) (pg_name (i := 2) sc__law_number.nd rfl (.inl rfl)) (pss_one (ps_set (i := 1) sc__law_number.nd rfl (.inl rfl) (pe_op op_xor (pv 1) (pe_op op_shlW pe_int (pv 2))))))
      (pss_one (ps_ret (pv 1))))), Ab.DS.dfn (spF_gc h) rfl (DS.seq (DS.asg (DE.c fun _ => .int _) DG.name Goes.name)
      (DS.seq (DS.forS (DI.iter DE.var) DG.name Goes.name (DS.asg (DE.op (DR.i0 fun _ _ _ => .int _) DE.var (DE.op (DR.i fun _ _ _ => .int _) (DE.c fun _ => .int _) DE.var NE2.i) NE2.i0) DG.name Goes.name))
      (DS.ret DE.var)))⟩
theorem calx_s3_is_whole (T : Txt K mg ) : Gx.CalX P w K mg base 2 "s3_is_whole" (spF (Wk K (fun _ => (0 : Addr))) 3 F_s3_is_whole) := by
  obtain ⟨f, fd, F, b⟩ := T.d_s3_is_whole
  refine Gx.calX F b sc_s3_is_whole (fun vs H Q E h => spF.len h) (fun cdv A outer s H vs Q E hr h => ?_)
  have hu := hu_of hr
  have hu64 := hr.units
  have hu65 := Ab.u65 hr
  exact ⟨_, (pss_one (ps_ret (pe_and (Gx.pe_cx (calx_is_integer T) Gx.takes_cx (fun _ _ _ _ h => h) hr (by omega) (by rfl) (pa_cons (pv 0) pa_nil)) (pe_one (pe_chain op_le op_le (pv 1) (pv 0) (pv 2)))))), Ab.DS.dfn (spF_gc h) rfl (DS.ret (DE.andV (DE.call (fun _ => .nil) (DA.cons DE.var DA.nil)) (DE.chain (DR.i0 fun _ _ _ => .bl _) (DR.i0 fun _ _ _ => .bl _) DE.var DE.var DE.var NE2.i0 NE2.i0)))⟩
theorem calx_s3_power (T : Txt K mg ) : Gx.CalX P w K mg base 2 "s3_power" (spF (Wk K (fun _ => (0 : Addr))) 3 F_s3_power) := by
  obtain ⟨f, fd, F, b⟩ := T.d_s3_power
  refine Gx.calX F b sc_s3_power (fun vs H Q E h => spF.len h) (fun cdv A outer s H vs Q E hr h => ?_)
  have hu := hu_of hr
  have hu64 := hr.units
  have hu65 := Ab.u65 hr
  exact ⟨_, (pss_cons (ps_set (i := 3) sc_s3_power.nd rfl (.inl rfl) (pe_ix (show IxR _ (Ab.rIxU K) by exact Ab.ix_U) (Gx.pe_cx (calx_s3_parts T) Gx.takes_cx (fun _ _ _ _ h => h) hr (by omega) (by rfl) (pa_cons pe_int (pa_cons (pv 2) pa_nil))) pe_int (fun _ _ => rfl)))
      (pss_cons (ps_set (i := 4) sc_s3_power.nd rfl (.inl rfl) (pe_ix (show IxR _ (Ab.rIxU K) by exact Ab.ix_U) (Gx.pe_cx (calx_s3_parts T) Gx.takes_cx (fun _ _ _ _ h => h) hr (by omega) (by rfl) (pa_cons (pv 0) (pa_cons (pv 2) pa_nil))) pe_int (fun _ _ => rfl)))
      (pss_cons (ps_set (i := 5) sc_s3_power.nd rfl (.inl rfl) (pv 1))
      (pss_cons (ps_while (passes_of rfl) (pt_cmpR op_gt (pv 5) pe_int (nomark _)) (pss_cons (ps_if (pt_cmpR (show OpR _ _ (Ab.rEqU K) by exact Ab.op_eqU hu64) (pe_op op_and (pv 5) pe_int) pe_int (nomark _)) (pss_one (ps_set (i := 3) sc_s3_power.nd rfl (.inl rfl) (pe_ix (show IxR _ (Ab.rIxU K) by exact Ab.ix_U) (Gx.pe_cx (calx_s3_parts T) Gx.takes_cx (fun _ _ _ _ h => h) hr (by omega) (by rfl) (pa_cons (Gx.pe_cx (calx_s3_product T) Gx.takes_cx (fun _ _ _ _ h => h) hr (by omega) (by rfl) (pa_cons (pv 3) (pa_cons (pv 4) pa_nil))) (pa_cons (pv 2) pa_nil))) pe_int (fun _ _ => rfl)))) pss_nil)
      (pss_cons (ps_set (i := 4) sc_s3_power.nd rfl (.inl rfl) (pe_ix (show IxR _ (Ab.rIxU K) by exact Ab.ix_U) (Gx.pe_cx (calx_s3_parts T) Gx.takes_cx (fun _ _ _ _ h => h) hr (by omega) (by rfl) (pa_cons (Gx.pe_cx (calx_s3_product T) Gx.takes_cx (fun _ _ _ _ h => h) hr (by omega) (by rfl) (pa_cons (pv 4) (pa_cons (pv 4) pa_nil))) (pa_cons (pv 2) pa_nil))) pe_int (fun _ _ => rfl)))
      (pss_one (ps_set (i := 5) sc_s3_power.nd rfl (.inl rfl) (pe_op op_shr (pv 5) pe_int))))))
      (pss_one (ps_ret (pv 3))))))), Ab.DS.dfn (spF_gc h) rfl (DS.seq (DS.asg (DE.gc (DE.op DR.ix (DE.call (fun _ => .nil) (DA.cons (DE.c fun _ => .int _) (DA.cons DE.var DA.nil))) (DE.c fun _ => .int _) NE2.ix)) DG.name Goes.name)
      (DS.seq (DS.asg (DE.gc (DE.op DR.ix (DE.call (fun _ => .nil) (DA.cons DE.var (DA.cons DE.var DA.nil))) (DE.c fun _ => .int _) NE2.ix)) DG.name Goes.name)
      (DS.seq (DS.asg DE.var DG.name Goes.name)
      (DS.seq (DS.whileS (DT.test (DE.op (DR.i0 fun _ _ _ => .bl _) DE.var (DE.c fun _ => .int _) NE2.i0)) (DS.seq (DS.ifs (DT.test (DE.op DR.eq (DE.op (DR.i0 fun _ _ _ => .int _) DE.var (DE.c fun _ => .int _) NE2.i0) (DE.c fun _ => .int _) NE2.eq)) (DS.asg (DE.gc (DE.op DR.ix (DE.call (fun _ => .nil) (DA.cons (DE.call (fun _ => .nil) (DA.cons DE.var (DA.cons DE.var DA.nil))) (DA.cons DE.var DA.nil))) (DE.c fun _ => .int _) NE2.ix)) DG.name Goes.name) DS.next)
      (DS.seq (DS.asg (DE.gc (DE.op DR.ix (DE.call (fun _ => .nil) (DA.cons (DE.call (fun _ => .nil) (DA.cons DE.var (DA.cons DE.var DA.nil))) (DA.cons DE.var DA.nil))) (DE.c fun _ => .int _) NE2.ix)) DG.name Goes.name)
      (DS.asg (DE.op (DR.i fun _ _ _ => .int _) DE.var (DE.c fun _ => .int _) NE2.i) DG.name Goes.name))))
      (DS.ret DE.var)))))⟩
theorem calx_s3_common (T : Txt K mg ) : Gx.CalX P w K mg base 2 "s3_common" (spF (Wk K (fun _ => (0 : Addr))) 2 F_s3_common) := by
  obtain ⟨f, fd, F, b⟩ := T.d_s3_common
  refine Gx.calX F b sc_s3_common (fun vs H Q E h => spF.len h) (fun cdv A outer s H vs Q E hr h => ?_)
  have hu := hu_of hr
  have hu64 := hr.units
  have hu65 := Ab.u65 hr
  exact ⟨_, (pss_cons (ps_while (passes_of rfl) (pt_cmpR op_gt (pv 1) pe_int (nomark _)) (pss_one (ps_par (i := 0) (j := 1) rfl sc_s3_common.nd rfl rfl (by decide) rfl rfl (pa_cons (pv 1) (pa_cons (pe_ix (show IxR _ (Ab.rIxU K) by exact Ab.ix_U) (Gx.pe_cx (calx_s3_parts T) Gx.takes_cx (fun _ _ _ _ h => h) hr (by omega) (by rfl) (pa_cons (pv 0) (pa_cons (pv 1) pa_nil))) pe_int (fun _ _ => rfl)) pa_nil)) (by rfl))))
      (pss_one (ps_ret (pv 0)))), Ab.DS.dfn (spF_gc h) rfl (DS.seq (DS.whileS (DT.test (DE.op (DR.i0 fun _ _ _ => .bl _) DE.var (DE.c fun _ => .int _) NE2.i0)) (DS.par (DA.cons DE.var (DA.cons (DE.op DR.ix (DE.call (fun _ => .nil) (DA.cons DE.var (DA.cons DE.var DA.nil))) (DE.c fun _ => .int _) NE2.ix) DA.nil))))
      (DS.ret DE.var))⟩
theorem calx_s3_twice (T : Txt K mg ) : Gx.CalX P w K mg base 2 "s3_twice" (spF (Wk K (fun _ => (0 : Addr))) 3 F_s3_twice) := by
  obtain ⟨f, fd, F, b⟩ := T.d_s3_twice
  refine Gx.calX F b sc_s3_twice (fun vs H Q E h => spF.len h) (fun cdv A outer s H vs Q E hr h => ?_)
  have hu := hu_of hr
  have hu64 := hr.units
  have hu65 := Ab.u65 hr
  exact ⟨_, (pss_cons (ps_set (i := 3) sc_s3_twice.nd rfl (.inl rfl) (pe_ix (show IxR _ (Ab.rIxU K) by exact Ab.ix_U) (Gx.pe_cx (calx_s3_parts T) Gx.takes_cx (fun _ _ _ _ h => h) hr (by omega) (by rfl) (pa_cons (pv 0) (pa_cons (pv 2) pa_nil))) pe_int (fun _ _ => rfl)))
      (pss_cons (ps_for (passes_of rfl) rfl (pi_range1 rfl T.b_range (pa_cons (pv 1) pa_nil)) (pg_name (i := 4) sc_s3_twice.nd rfl (.inl rfl)) (pss_one (ps_set (i := 3) sc_s3_twice.nd rfl (.inl rfl) (pe_ix (show IxR _ (Ab.rIxU K) by exact Ab.ix_U) (Gx.pe_cx (calx_s3_parts T) Gx.takes_cx (fun _ _ _ _ h => h) hr (by omega) (by rfl) (pa_cons (Gx.pe_cx (calx_s3_product T) Gx.takes_cx (fun _ _ _ _ h => h) hr (by omega) (by rfl) (pa_cons (pv 3) (pa_cons (pv 3) pa_nil))) (pa_cons (pv 2) pa_nil))) pe_int (fun _ _ => rfl)))))
      (pss_one (ps_ret (pv 3))))), Ab.DS.dfn (spF_gc h) rfl (DS.seq (DS.asg (DE.gc (DE.op DR.ix (DE.call (fun _ => .nil) (DA.cons DE.var (DA.cons DE.var DA.nil))) (DE.c fun _ => .int _) NE2.ix)) DG.name Goes.name)
      (DS.seq (DS.forS (DI.rng1 (DA.cons DE.var DA.nil)) DG.name Goes.name (DS.asg (DE.gc (DE.op DR.ix (DE.call (fun _ => .nil) (DA.cons (DE.call (fun _ => .nil) (DA.cons DE.var (DA.cons DE.var DA.nil))) (DA.cons DE.var DA.nil))) (DE.c fun _ => .int _) NE2.ix)) DG.name Goes.name))
      (DS.ret DE.var)))⟩
theorem calx__law_pick (T : Txt K mg ) : Gx.CalX P w K mg base 2 "_law_pick" (spF (Wk K (fun _ => (0 : Addr))) 2 F__law_pick) := by
  obtain ⟨f, fd, F, b⟩ := T.d__law_pick
  refine Gx.calX F b sc__law_pick (fun vs H Q E h => spF.len h) (fun cdv A outer s H vs Q E hr h => ?_)
  have hu := hu_of hr
  have hu64 := hr.units
  have hu65 := Ab.u65 hr
  exact ⟨_, (pss_one (ps_ret (pe_ix (show IxR _ (Ab.rIxU K) by exact Ab.ix_U) (pv 1) (Gx.pe_cx (calx__law_next T) Gx.takes_cx (fun _ _ _ _ h => h) hr (by omega) (by rfl) (pa_cons (pv 0) (pa_cons (pe_callB (show CallR _ _ (Ab.rLenU K) by exact Ab.call_lenU) (by rfl) T.b_len PySem.boot_len (pa_cons (pv 1) pa_nil)) pa_nil))) (fun _ _ => rfl)))), Ab.DS.dfn (spF_gc h) rfl (DS.ret (DE.op DR.ix DE.var (DE.call (fun _ => .nil) (DA.cons DE.var (DA.cons (DE.cb DB.len (DA.cons DE.var DA.nil) NEL.len) DA.nil))) NE2.ix))⟩
theorem calx__law_poly (T : Txt K mg ) : Gx.CalX P w K mg base 2 "_law_poly" (spF (Wk K (fun _ => (0 : Addr))) 2 F__law_poly) := by
  obtain ⟨f, fd, F, b⟩ := T.d__law_poly
  refine Gx.calX F b sc__law_poly (fun vs H Q E h => spF.len h) (fun cdv A outer s H vs Q E hr h => ?_)
  have hu := hu_of hr
  have hu64 := hr.units
  have hu65 := Ab.u65 hr
  exact ⟨_, (pss_cons (ps_set (i := 2) sc__law_poly.nd rfl (.inl rfl) (Gx.pe_cx (calx__law_next T) Gx.takes_cx (fun _ _ _ _ h => h) hr (by omega) (by rfl) (pa_cons (pv 0) (pa_cons pe_int pa_nil))))
      (pss_cons (ps_if (pt_cmpR (show OpR _ _ (Ab.rEqU K) by exact Ab.op_eqU hu64) (pv 2) pe_int (nomark _)) (pss_one (ps_ret (pe_ix (show IxR _ (Ab.rIxU K) by exact Ab.ix_U) (pe_lst (pa_cons pe_int (pa_cons pe_int (pa_cons pe_int (pa_cons pe_int (pa_cons pe_int (pa_cons pe_int pa_nil))))))) (Gx.pe_cx (calx__law_next T) Gx.takes_cx (fun _ _ _ _ h => h) hr (by omega) (by rfl) (pa_cons (pv 0) (pa_cons pe_int pa_nil))) (fun _ _ => rfl)))) pss_nil)
      (pss_cons (ps_if (pt_cmpR (show OpR _ _ (Ab.rEqU K) by exact Ab.op_eqU hu64) (pv 2) pe_int (nomark _)) (pss_one (ps_ret (Gx.pe_cx (calx__law_number T) Gx.takes_cx (fun _ _ _ _ h => h) hr (by omega) (by rfl) (pa_cons (pe_lc (own := [("_law_turn", 3)]) rfl sc__law_poly.nd (pi_range1 rfl T.b_range (pa_cons pe_int pa_nil)) (blkOk_by (N := ["_law_draw", "_law_many", "_law_way", "_law_turn"]) (sc := C8.fnScope s__law_poly) (by decide +kernel)) (fun _ _ _ _ _ => (pg_name (i := 3) sc__law_poly.nd rfl (.inl rfl))) (fun _ _ _ _ _ => pts_nil) (fun _ _ _ _ _ => (Gx.pe_cx (calx__law_next T) LamX.takes0 (E := fun _ _ _ => False) (fun _ _ _ _ h => h) hr (by omega) (by rfl) (pa_cons (pv 0) (pa_cons (pv 1) pa_nil))))) pa_nil)))) pss_nil)
      (pss_one (ps_ret (Gx.pe_cx (calx__law_next T) Gx.takes_cx (fun _ _ _ _ h => h) hr (by omega) (by rfl) (pa_cons (pv 0) (pa_cons (pe_op op_shlW pe_int (pe_op (show OpR _ _ (Ab.rAddU K) by exact Ab.op_addU) pe_int (Gx.pe_cx (calx__law_next T) Gx.takes_cx (fun _ _ _ _ h => h) hr (by omega) (by rfl) (pa_cons (pv 0) (pa_cons (pe_op op_sub (pv 1) pe_int) pa_nil))))) pa_nil)))))))), Ab.DS.dfn (spF_gc h) rfl (DS.seq (DS.asg (DE.call (fun _ => .nil) (DA.cons DE.var (DA.cons (DE.c fun _ => .int _) DA.nil))) DG.name Goes.name)
      (DS.seq (DS.ifs (DT.test (DE.op DR.eq DE.var (DE.c fun _ => .int _) NE2.eq)) (DS.ret (DE.op DR.ix (DE.lst (DA.cons (DE.c fun _ => .int _) (DA.cons (DE.c fun _ => .int _) (DA.cons (DE.c fun _ => .int _) (DA.cons (DE.c fun _ => .int _) (DA.cons (DE.c fun _ => .int _) (DA.cons (DE.c fun _ => .int _) DA.nil))))))) (DE.call (fun _ => .nil) (DA.cons DE.var (DA.cons (DE.c fun _ => .int _) DA.nil))) NE2.ix)) DS.next)
      (DS.seq (DS.ifs (DT.test (DE.op DR.eq DE.var (DE.c fun _ => .int _) NE2.eq)) (DS.ret (DE.call (fun _ => .nil) (DA.cons (DE.lc (DI.rng1 (DA.cons (DE.c fun _ => .int _) DA.nil)) DG.name Goes.name (WT.name (by decide)) DT.yes (DE.call (fun _ => .nil) (DA.cons DE.var (DA.cons DE.var DA.nil)))) DA.nil))) DS.next)
      (DS.ret (DE.call (fun _ => .nil) (DA.cons DE.var (DA.cons (DE.op (DR.i fun _ _ _ => .int _) (DE.c fun _ => .int _) (DE.op DR.add (DE.c fun _ => .int _) (DE.call (fun _ => .nil) (DA.cons DE.var (DA.cons (DE.op (DR.i0 fun _ _ _ => .int _) DE.var (DE.c fun _ => .int _) NE2.i0) DA.nil))) NE2.add) NE2.i) DA.nil)))))))⟩
theorem calx_is_polynomial (T : Txt K mg ) : Gx.CalX P w K mg base 3 "is_polynomial" (spF (Wk K (fun _ => (0 : Addr))) 1 F_is_polynomial) := by
  obtain ⟨f, fd, F, b⟩ := T.d_is_polynomial
  refine Gx.calX F b sc_is_polynomial (fun vs H Q E h => spF.len h) (fun cdv A outer s H vs Q E hr h => ?_)
  have hu := hu_of hr
  have hu64 := hr.units
  have hu65 := Ab.u65 hr
  exact ⟨_, (pss_one (ps_ret (Gx.pe_cx (calx_s3_is_whole T) Gx.takes_cx (fun _ _ _ _ h => h) hr (by omega) (by rfl) (pa_cons (pv 0) (pa_cons pe_int (pa_cons (pe_op op_sub (pe_op op_shlW pe_int (C8.pe_gc (by rfl) T.c_MOST_DIGITS)) pe_int) pa_nil)))))), Ab.DS.dfn (spF_gc h) rfl (DS.ret (DE.call (fun _ => .nil) (DA.cons DE.var (DA.cons (DE.c fun _ => .int _) (DA.cons (DE.op (DR.i0 fun _ _ _ => .int _) (DE.op (DR.i fun _ _ _ => .int _) (DE.c fun _ => .int _) (DE.c fun _ => .int _) NE2.i) (DE.c fun _ => .int _) NE2.i0) DA.nil)))))⟩
theorem calxs_s3_need (T : Txt K mg ) : Gx.CalXS P w K mg base 4 "s3_need" (spS (Wk K (fun _ => (0 : Addr))) F_s3_need) := by
  obtain ⟨f, fd, F, b⟩ := T.d_s3_need
  refine Gx.calXS F b sc_s3_need (fun cdv A outer s H vs Q E hr h => ?_)
  have hu := hu_of hr
  have hu64 := hr.units
  have hu65 := Ab.u65 hr
  exact ⟨_, (pss_one (ps_for (passes_of rfl) rfl (show PI _ _ _ (Ab.iterU K _) by exact Ab.PI.or (pi_list (pv 0)) (Ab.PI.or (pi_tup (pv 0)) (pi_str (pv 0)))) (pg_name (i := 1) sc_s3_need.nd rfl (.inl rfl)) (pss_one (ps_if (pt_not (pt_val (Gx.pe_cx (calx_is_polynomial T) Gx.takes_cx (fun _ _ _ _ h => h) hr (by omega) (by rfl) (pa_cons (pv 1) pa_nil)))) (pss_one ps_never) pss_nil)))), Ab.DS.dfn (spF_gc h) rfl (DS.forS (DI.iter DE.var) DG.name Goes.name (DS.ifs (DT.gc (DT.not (DT.b (DE.call (fun _ => .nil) (DA.cons DE.var DA.nil))))) (DS.never fun _ _ => rfl) DS.next))⟩
theorem calx_s3_need_modulus (T : Txt K mg ) : Gx.CalX P w K mg base 4 "s3_need_modulus" (spF (Wk K (fun _ => (0 : Addr))) 1 F_s3_need_modulus) := by
  obtain ⟨f, fd, F, b⟩ := T.d_s3_need_modulus
  refine Gx.calX F b sc_s3_need_modulus (fun vs H Q E h => spF.len h) (fun cdv A outer s H vs Q E hr h => ?_)
  have hu := hu_of hr
  have hu64 := hr.units
  have hu65 := Ab.u65 hr
  exact ⟨_, (pss_one (ps_if (PW.pt (pw_or (pt_not (pt_val (Gx.pe_cx (calx_is_polynomial T) Gx.takes_cx (fun _ _ _ _ h => h) hr (by omega) (by rfl) (pa_cons (pv 0) pa_nil)))) (pw_or1 (pt_cmpR (show OpR _ _ (Ab.rEqU K) by exact Ab.op_eqU hu64) (pv 0) pe_int (nomark _))))) (pss_one ps_never) pss_nil)), Ab.DS.dfn (spF_gc h) rfl (DS.ifs (DT.gc (DT.or (DT.not (DT.b (DE.call (fun _ => .nil) (DA.cons DE.var DA.nil)))) (DT.test (DE.op DR.eq DE.var (DE.c fun _ => .int _) NE2.eq)))) (DS.never fun _ _ => rfl) DS.next)⟩
theorem calx_degree (T : Txt K mg ) : Gx.CalX P w K mg base 5 "degree" (spF (Wk K (fun _ => (0 : Addr))) 1 F_degree) := by
  obtain ⟨f, fd, F, b⟩ := T.d_degree
  refine Gx.calX F b sc_degree (fun vs H Q E h => spF.len h) (fun cdv A outer s H vs Q E hr h => ?_)
  have hu := hu_of hr
  have hu64 := hr.units
  have hu65 := Ab.u65 hr
  exact ⟨_, (pss_cons (ps_expr (Gx.pe_cxS (calxs_s3_need T) Gx.takes_cx (fun _ _ _ _ h => h) hr (by omega) (by rfl) (pa_cons (pv 0) pa_nil)))
      (pss_one (ps_ret (pe_op op_sub (pe_bits (pv 0)) pe_int)))), Ab.DS.dfn (spF_gc h) rfl (DS.seq (DS.drop (DE.callStar (DA.cons DE.var DA.nil)))
      (DS.ret (DE.op (DR.i0 fun _ _ _ => .int _) (DE.bits DE.var) (DE.c fun _ => .int _) NE2.i0)))⟩
theorem calx_added (T : Txt K mg ) : Gx.CalX P w K mg base 5 "added" (spF (Wk K (fun _ => (0 : Addr))) 2 F_added) := by
  obtain ⟨f, fd, F, b⟩ := T.d_added
  refine Gx.calX F b sc_added (fun vs H Q E h => spF.len h) (fun cdv A outer s H vs Q E hr h => ?_)
  have hu := hu_of hr
  have hu64 := hr.units
  have hu65 := Ab.u65 hr
  exact ⟨_, (pss_cons (ps_expr (Gx.pe_cxS (calxs_s3_need T) Gx.takes_cx (fun _ _ _ _ h => h) hr (by omega) (by rfl) (pa_cons (pv 0) (pa_cons (pv 1) pa_nil))))
      (pss_one (ps_ret (pe_op op_xor (pv 0) (pv 1))))), Ab.DS.dfn (spF_gc h) rfl (DS.seq (DS.drop (DE.callStar (DA.cons DE.var (DA.cons DE.var DA.nil))))
      (DS.ret (DE.op (DR.i0 fun _ _ _ => .int _) DE.var DE.var NE2.i0)))⟩
theorem calx_multiplied (T : Txt K mg ) : Gx.CalX P w K mg base 5 "multiplied" (spF (Wk K (fun _ => (0 : Addr))) 2 F_multiplied) := by
  obtain ⟨f, fd, F, b⟩ := T.d_multiplied
  refine Gx.calX F b sc_multiplied (fun vs H Q E h => spF.len h) (fun cdv A outer s H vs Q E hr h => ?_)
  have hu := hu_of hr
  have hu64 := hr.units
  have hu65 := Ab.u65 hr
  exact ⟨_, (pss_cons (ps_expr (Gx.pe_cxS (calxs_s3_need T) Gx.takes_cx (fun _ _ _ _ h => h) hr (by omega) (by rfl) (pa_cons (pv 0) (pa_cons (pv 1) pa_nil))))
      (pss_one (ps_ret (Gx.pe_cx (calx_s3_product T) Gx.takes_cx (fun _ _ _ _ h => h) hr (by omega) (by rfl) (pa_cons (pv 0) (pa_cons (pv 1) pa_nil)))))), Ab.DS.dfn (spF_gc h) rfl (DS.seq (DS.drop (DE.callStar (DA.cons DE.var (DA.cons DE.var DA.nil))))
      (DS.ret (DE.call (fun _ => .nil) (DA.cons DE.var (DA.cons DE.var DA.nil)))))⟩
theorem calx_divided (T : Txt K mg ) : Gx.CalX P w K mg base 5 "divided" (spF (Wk K (fun _ => (0 : Addr))) 2 F_divided) := by
  obtain ⟨f, fd, F, b⟩ := T.d_divided
  refine Gx.calX F b sc_divided (fun vs H Q E h => spF.len h) (fun cdv A outer s H vs Q E hr h => ?_)
  have hu := hu_of hr
  have hu64 := hr.units
  have hu65 := Ab.u65 hr
  exact ⟨_, (pss_cons (ps_expr (Gx.pe_cxS (calxs_s3_need T) Gx.takes_cx (fun _ _ _ _ h => h) hr (by omega) (by rfl) (pa_cons (pv 0) pa_nil)))
      (pss_cons (ps_expr (Gx.pe_cx (calx_s3_need_modulus T) Gx.takes_cx (fun _ _ _ _ h => h) hr (by omega) (by rfl) (pa_cons (pv 1) pa_nil)))
      (pss_one (ps_ret (Gx.pe_cx (calx_s3_parts T) Gx.takes_cx (fun _ _ _ _ h => h) hr (by omega) (by rfl) (pa_cons (pv 0) (pa_cons (pv 1) pa_nil))))))), Ab.DS.dfn (spF_gc h) rfl (DS.seq (DS.drop (DE.callStar (DA.cons DE.var DA.nil)))
      (DS.seq (DS.drop (DE.call (fun _ => .nil) (DA.cons DE.var DA.nil)))
      (DS.ret (DE.call (fun _ => .nil) (DA.cons DE.var (DA.cons DE.var DA.nil))))))⟩
theorem calx_common (T : Txt K mg ) : Gx.CalX P w K mg base 5 "common" (spF (Wk K (fun _ => (0 : Addr))) 2 F_common) := by
  obtain ⟨f, fd, F, b⟩ := T.d_common
  refine Gx.calX F b sc_common (fun vs H Q E h => spF.len h) (fun cdv A outer s H vs Q E hr h => ?_)
  have hu := hu_of hr
  have hu64 := hr.units
  have hu65 := Ab.u65 hr
  exact ⟨_, (pss_cons (ps_expr (Gx.pe_cxS (calxs_s3_need T) Gx.takes_cx (fun _ _ _ _ h => h) hr (by omega) (by rfl) (pa_cons (pv 0) (pa_cons (pv 1) pa_nil))))
      (pss_one (ps_ret (Gx.pe_cx (calx_s3_common T) Gx.takes_cx (fun _ _ _ _ h => h) hr (by omega) (by rfl) (pa_cons (pv 0) (pa_cons (pv 1) pa_nil)))))), Ab.DS.dfn (spF_gc h) rfl (DS.seq (DS.drop (DE.callStar (DA.cons DE.var (DA.cons DE.var DA.nil))))
      (DS.ret (DE.call (fun _ => .nil) (DA.cons DE.var (DA.cons DE.var DA.nil)))))⟩
theorem calx_power_of (T : Txt K mg ) : Gx.CalX P w K mg base 5 "power_of" (spF (Wk K (fun _ => (0 : Addr))) 3 F_power_of) := by
  obtain ⟨f, fd, F, b⟩ := T.d_power_of
  refine Gx.calX F b sc_power_of (fun vs H Q E h => spF.len h) (fun cdv A outer s H vs Q E hr h => ?_)
  have hu := hu_of hr
  have hu64 := hr.units
  have hu65 := Ab.u65 hr
  exact ⟨_, (pss_cons (ps_expr (Gx.pe_cxS (calxs_s3_need T) Gx.takes_cx (fun _ _ _ _ h => h) hr (by omega) (by rfl) (pa_cons (pv 0) pa_nil)))
      (pss_cons (ps_if (pt_not (pt_val (Gx.pe_cx (calx_s3_is_whole T) Gx.takes_cx (fun _ _ _ _ h => h) hr (by omega) (by rfl) (pa_cons (pv 1) (pa_cons pe_int (pa_cons (pe_op op_shlW pe_int pe_int) pa_nil)))))) (pss_one ps_never) pss_nil)
      (pss_cons (ps_expr (Gx.pe_cx (calx_s3_need_modulus T) Gx.takes_cx (fun _ _ _ _ h => h) hr (by omega) (by rfl) (pa_cons (pv 2) pa_nil)))
      (pss_one (ps_ret (Gx.pe_cx (calx_s3_power T) Gx.takes_cx (fun _ _ _ _ h => h) hr (by omega) (by rfl) (pa_cons (pv 0) (pa_cons (pv 1) (pa_cons (pv 2) pa_nil))))))))), Ab.DS.dfn (spF_gc h) rfl (DS.seq (DS.drop (DE.callStar (DA.cons DE.var DA.nil)))
      (DS.seq (DS.ifs (DT.gc (DT.not (DT.b (DE.call (fun _ => .nil) (DA.cons DE.var (DA.cons (DE.c fun _ => .int _) (DA.cons (DE.op (DR.i fun _ _ _ => .int _) (DE.c fun _ => .int _) (DE.c fun _ => .int _) NE2.i) DA.nil))))))) (DS.never fun _ _ => rfl) DS.next)
      (DS.seq (DS.drop (DE.call (fun _ => .nil) (DA.cons DE.var DA.nil)))
      (DS.ret (DE.call (fun _ => .nil) (DA.cons DE.var (DA.cons DE.var (DA.cons DE.var DA.nil))))))))⟩
theorem calx_inverse_of (T : Txt K mg ) : Gx.CalX P w K mg base 5 "inverse_of" (spF (Wk K (fun _ => (0 : Addr))) 2 F_inverse_of) := by
  obtain ⟨f, fd, F, b⟩ := T.d_inverse_of
  refine Gx.calX F b sc_inverse_of (fun vs H Q E h => spF.len h) (fun cdv A outer s H vs Q E hr h => ?_)
  have hu := hu_of hr
  have hu64 := hr.units
  have hu65 := Ab.u65 hr
  exact ⟨_, (pss_cons (ps_expr (Gx.pe_cxS (calxs_s3_need T) Gx.takes_cx (fun _ _ _ _ h => h) hr (by omega) (by rfl) (pa_cons (pv 0) pa_nil)))
      (pss_cons (ps_expr (Gx.pe_cx (calx_s3_need_modulus T) Gx.takes_cx (fun _ _ _ _ h => h) hr (by omega) (by rfl) (pa_cons (pv 1) pa_nil)))
      (pss_cons (ps_par (i := 2) (j := 3) rfl sc_inverse_of.nd rfl rfl (by decide) rfl rfl (pa_cons (pv 1) (pa_cons (pe_ix (show IxR _ (Ab.rIxU K) by exact Ab.ix_U) (Gx.pe_cx (calx_s3_parts T) Gx.takes_cx (fun _ _ _ _ h => h) hr (by omega) (by rfl) (pa_cons (pv 0) (pa_cons (pv 1) pa_nil))) pe_int (fun _ _ => rfl)) pa_nil)) (by rfl))
      (pss_cons (ps_asg (pe_tup (pa_cons pe_int (pa_cons pe_int pa_nil))) (show PG _ _ (gTup K 2 _) by exact pg_tup rfl (pgs_cons (pg_name (i := 4) sc_inverse_of.nd rfl (.inl rfl)) (pgs_cons (pg_name (i := 5) sc_inverse_of.nd rfl (.inl rfl)) pgs_nil))))
      (pss_cons (ps_while (passes_of rfl) (pt_cmpR op_gt (pv 3) pe_int (nomark _)) (pss_cons (ps_asg (Gx.pe_cx (calx_s3_parts T) Gx.takes_cx (fun _ _ _ _ h => h) hr (by omega) (by rfl) (pa_cons (pv 2) (pa_cons (pv 3) pa_nil))) (show PG _ _ (gTup K 2 _) by exact pg_tup rfl (pgs_cons (pg_name (i := 6) sc_inverse_of.nd rfl (.inl rfl)) (pgs_cons (pg_name (i := 7) sc_inverse_of.nd rfl (.inl rfl)) pgs_nil))))
      (pss_cons (ps_par (i := 2) (j := 3) rfl sc_inverse_of.nd rfl rfl (by decide) rfl rfl (pa_cons (pv 3) (pa_cons (pv 7) pa_nil)) (by rfl))
      (pss_one (ps_par (i := 4) (j := 5) rfl sc_inverse_of.nd rfl rfl (by decide) rfl rfl (pa_cons (pv 5) (pa_cons (pe_op op_xor (pv 4) (Gx.pe_cx (calx_s3_product T) Gx.takes_cx (fun _ _ _ _ h => h) hr (by omega) (by rfl) (pa_cons (pv 6) (pa_cons (pv 5) pa_nil)))) pa_nil)) (by rfl))))))
      (pss_one (ps_ret (pe_ifExp (pt_cmpR (show OpR _ _ (Ab.rEqU K) by exact Ab.op_eqU hu64) (pv 2) pe_int (nomark _)) (pe_ix (show IxR _ (Ab.rIxU K) by exact Ab.ix_U) (Gx.pe_cx (calx_s3_parts T) Gx.takes_cx (fun _ _ _ _ h => h) hr (by omega) (by rfl) (pa_cons (pv 4) (pa_cons (pv 1) pa_nil))) pe_int (fun _ _ => rfl)) pe_non)))))))), Ab.DS.dfn (spF_gc h) rfl (DS.seq (DS.drop (DE.callStar (DA.cons DE.var DA.nil)))
      (DS.seq (DS.drop (DE.call (fun _ => .nil) (DA.cons DE.var DA.nil)))
      (DS.seq (DS.par (DA.cons DE.var (DA.cons (DE.op DR.ix (DE.call (fun _ => .nil) (DA.cons DE.var (DA.cons DE.var DA.nil))) (DE.c fun _ => .int _) NE2.ix) DA.nil)))
      (DS.seq (DS.asg (DE.tup (DA.cons (DE.c fun _ => .int _) (DA.cons (DE.c fun _ => .int _) DA.nil))) (DG.tup (DGs.cons DG.name (DGs.cons DG.name DGs.nil))) (Goes.tup (GoesL.cons Goes.name (GoesL.cons Goes.name GoesL.nil))))
      (DS.seq (DS.whileS (DT.test (DE.op (DR.i0 fun _ _ _ => .bl _) DE.var (DE.c fun _ => .int _) NE2.i0)) (DS.seq (DS.asg (DE.call (fun _ => .nil) (DA.cons DE.var (DA.cons DE.var DA.nil))) (DG.tup (DGs.cons DG.name (DGs.cons DG.name DGs.nil))) (Goes.tup (GoesL.cons Goes.name (GoesL.cons Goes.name GoesL.nil))))
      (DS.seq (DS.par (DA.cons DE.var (DA.cons DE.var DA.nil)))
      (DS.par (DA.cons DE.var (DA.cons (DE.op (DR.i0 fun _ _ _ => .int _) DE.var (DE.call (fun _ => .nil) (DA.cons DE.var (DA.cons DE.var DA.nil))) NE2.i0) DA.nil))))))
      (DS.ret (DE.ifE (DT.test (DE.op DR.eq DE.var (DE.c fun _ => .int _) NE2.eq)) (DE.op DR.ix (DE.call (fun _ => .nil) (DA.cons DE.var (DA.cons DE.var DA.nil))) (DE.c fun _ => .int _) NE2.ix) (DE.c fun _ => .non))))))))⟩
theorem calx_is_irreducible (T : Txt K mg ) : Gx.CalX P w K mg base 5 "is_irreducible" (spF (Wk K (fun _ => (0 : Addr))) 1 F_is_irreducible) := by
  obtain ⟨f, fd, F, b⟩ := T.d_is_irreducible
  refine Gx.calX F b sc_is_irreducible (fun vs H Q E h => spF.len h) (fun cdv A outer s H vs Q E hr h => ?_)
  have hu := hu_of hr
  have hu64 := hr.units
  have hu65 := Ab.u65 hr
  exact ⟨_, (pss_cons (ps_expr (Gx.pe_cxS (calxs_s3_need T) Gx.takes_cx (fun _ _ _ _ h => h) hr (by omega) (by rfl) (pa_cons (pv 0) pa_nil)))
      (pss_cons (ps_set (i := 1) sc_is_irreducible.nd rfl (.inr rfl) (pe_op op_sub (pe_bits (pv 0)) pe_int))
      (pss_cons (ps_if (PW.pt (pw_or (pt_cmpR op_lt (pv 1) pe_int (nomark _)) (pw_or1 (pt_cmpR (show OpR _ _ (Ab.rNeU K) by exact Ab.op_neU hu64) (Gx.pe_cx (calx_s3_twice T) Gx.takes_cx (fun _ _ _ _ h => h) hr (by omega) (by rfl) (pa_cons pe_int (pa_cons (pv 1) (pa_cons (pv 0) pa_nil)))) (pe_ix (show IxR _ (Ab.rIxU K) by exact Ab.ix_U) (Gx.pe_cx (calx_s3_parts T) Gx.takes_cx (fun _ _ _ _ h => h) hr (by omega) (by rfl) (pa_cons pe_int (pa_cons (pv 0) pa_nil))) pe_int (fun _ _ => rfl)) (nomark _))))) (pss_one (ps_ret pe_bl)) pss_nil)
      (pss_one (ps_ret (pe_callB (show CallR _ _ (rAll K) by exact cr_all rfl) (by rfl) T.b_all (by decide +kernel) (pa_cons (pe_lc (own := [("prime", 2)]) rfl sc_is_irreducible.nd (show PI _ _ _ (Ab.iterU K _) by exact Ab.PI.or (pi_list (Gx.pe_cx (calx_s3_primes T) Gx.takes_cx (fun _ _ _ _ h => h) hr (by omega) (by rfl) (pa_cons (pv 1) pa_nil))) (Ab.PI.or (pi_tup (Gx.pe_cx (calx_s3_primes T) Gx.takes_cx (fun _ _ _ _ h => h) hr (by omega) (by rfl) (pa_cons (pv 1) pa_nil))) (pi_str (Gx.pe_cx (calx_s3_primes T) Gx.takes_cx (fun _ _ _ _ h => h) hr (by omega) (by rfl) (pa_cons (pv 1) pa_nil))))) (blkOk_by (N := ["number", "size", "prime"]) (sc := C8.fnScope s_is_irreducible) (by decide +kernel)) (fun _ _ _ _ _ => (pg_name (i := 2) sc_is_irreducible.nd rfl (.inl rfl))) (fun _ _ _ _ _ => pts_nil) (fun _ _ _ _ _ => (pe_cmpR (show OpR _ _ (Ab.rEqU K) by exact Ab.op_eqU hu64) (Gx.pe_cx (calx_s3_common T) LamX.takes0 (E := fun _ _ _ => False) (fun _ _ _ _ h => h) hr (by omega) (by rfl) (pa_cons (pv 0) (pa_cons (pe_op op_xor (Gx.pe_cx (calx_s3_twice T) LamX.takes0 (E := fun _ _ _ => False) (fun _ _ _ _ h => h) hr (by omega) (by rfl) (pa_cons pe_int (pa_cons (pe_op op_fdivW (pv 1) (pv 2)) (pa_cons (pv 0) pa_nil)))) pe_int) pa_nil))) pe_int (nomark _)))) pa_nil))))))), Ab.DS.dfn (spF_gc h) rfl (DS.seq (DS.drop (DE.callStar (DA.cons DE.var DA.nil)))
      (DS.seq (DS.asg (DE.op (DR.i0 fun _ _ _ => .int _) (DE.bits DE.var) (DE.c fun _ => .int _) NE2.i0) DG.name Goes.name)
      (DS.seq (DS.ifs (DT.gc (DT.or (DT.test (DE.op (DR.i0 fun _ _ _ => .bl _) DE.var (DE.c fun _ => .int _) NE2.i0)) (DT.test (DE.op DR.ne (DE.call (fun _ => .nil) (DA.cons (DE.c fun _ => .int _) (DA.cons DE.var (DA.cons DE.var DA.nil)))) (DE.op DR.ix (DE.call (fun _ => .nil) (DA.cons (DE.c fun _ => .int _) (DA.cons DE.var DA.nil))) (DE.c fun _ => .int _) NE2.ix) NE2.ne)))) (DS.ret (DE.c fun _ => .bl _)) DS.next)
      (DS.ret (DE.cb DB.all (DA.cons (DE.lc (DI.iter (DE.call (fun _ => .nil) (DA.cons DE.var DA.nil))) DG.name Goes.name (WT.name (by decide)) DT.yes (DE.op DR.eq (DE.call (fun _ => .nil) (DA.cons DE.var (DA.cons (DE.op (DR.i0 fun _ _ _ => .int _) (DE.call (fun _ => .nil) (DA.cons (DE.c fun _ => .int _) (DA.cons (DE.op (DR.i fun _ _ _ => .int _) DE.var DE.var NE2.i) (DA.cons DE.var DA.nil)))) (DE.c fun _ => .int _) NE2.i0) DA.nil))) (DE.c fun _ => .int _) NE2.eq)) DA.nil) NEL.all)))))⟩
theorem calx_factors_of (T : Txt K mg ) : Gx.CalX P w K mg base 5 "factors_of" (spF (Wk K (fun _ => (0 : Addr))) 1 F_factors_of) := by
  obtain ⟨f, fd, F, b⟩ := T.d_factors_of
  refine Gx.calX F b sc_factors_of (fun vs H Q E h => spF.len h) (fun cdv A outer s H vs Q E hr h => ?_)
  have hu := hu_of hr
  have hu64 := hr.units
  have hu65 := Ab.u65 hr
  exact ⟨_, (pss_cons (ps_expr (Gx.pe_cx (calx_s3_need_modulus T) Gx.takes_cx (fun _ _ _ _ h => h) hr (by omega) (by rfl) (pa_cons (pv 0) pa_nil)))
      (pss_cons (ps_if (pt_cmpR op_gt (pe_op op_sub (pe_bits (pv 0)) pe_int) (C8.pe_gc (by rfl) T.c_MOST_FACTORED) (nomark _)) (pss_one ps_never) pss_nil)
      (pss_cons (ps_par3 (i := 1) (j := 2) (l := 3) rfl sc_factors_of.nd rfl rfl rfl (by decide) (by decide) (by decide) rfl rfl rfl (pa_cons (pe_lst pa_nil) (pa_cons (pv 0) (pa_cons pe_int pa_nil))) (by rfl))
      (pss_cons (ps_while (passes_of rfl) (pt_cmpR op_le (pe_op Ab.op_mulU pe_int (pe_op op_sub (pe_bits (pv 3)) pe_int)) (pe_op op_sub (pe_bits (pv 2)) pe_int) (nomark _)) (pss_cons (ps_asg (Gx.pe_cx (calx_s3_parts T) Gx.takes_cx (fun _ _ _ _ h => h) hr (by omega) (by rfl) (pa_cons (pv 2) (pa_cons (pv 3) pa_nil))) (show PG _ _ (gTup K 2 _) by exact pg_tup rfl (pgs_cons (pg_name (i := 4) sc_factors_of.nd rfl (.inl rfl)) (pgs_cons (pg_name (i := 5) sc_factors_of.nd rfl (.inl rfl)) pgs_nil))))
      (pss_one (ps_if (pt_cmpR (show OpR _ _ (Ab.rEqU K) by exact Ab.op_eqU hu64) (pv 5) pe_int (nomark _)) (pss_cons (ps_expr (show PE _ _ (tBM K "list" _ _ _) by exact pe_bm PySem.F.plainAttrs_list PySem.F.slot_list_append PySem.F.type_list_append mt_append (pv 1) (pa_cons (pv 3) pa_nil)))
      (pss_one (ps_set (i := 2) sc_factors_of.nd rfl (.inl rfl) (pv 4)))) (pss_one (ps_aug (i := 3) sc_factors_of.nd rfl (.inl rfl) pe_int ip_add))))))
      (pss_one (ps_ret (pe_callTy Gx.call_tupOf (by rfl) T.b_tuple (by decide +kernel) (pa_cons (pe_ifExp (pt_cmpR op_gt (pv 2) pe_int (nomark _)) (pe_op (show OpR _ _ (Ab.rAddU K) by exact Ab.op_addU) (pv 1) (pe_lst (pa_cons (pv 2) pa_nil))) (pv 1)) pa_nil)))))))), Ab.DS.dfn (spF_gc h) rfl (DS.seq (DS.drop (DE.call (fun _ => .nil) (DA.cons DE.var DA.nil)))
      (DS.seq (DS.ifs (DT.gc (DT.test (DE.op (DR.i0 fun _ _ _ => .bl _) (DE.op (DR.i0 fun _ _ _ => .int _) (DE.bits DE.var) (DE.c fun _ => .int _) NE2.i0) (DE.c fun _ => .int _) NE2.i0))) (DS.never fun _ _ => rfl) DS.next)
      (DS.seq (DS.par3 (DA.cons (DE.lst DA.nil) (DA.cons DE.var (DA.cons (DE.c fun _ => .int _) DA.nil))))
      (DS.seq (DS.whileS (DT.test (DE.op (DR.i0 fun _ _ _ => .bl _) (DE.op DR.mul (DE.c fun _ => .int _) (DE.op (DR.i0 fun _ _ _ => .int _) (DE.bits DE.var) (DE.c fun _ => .int _) NE2.i0) NE2.mul) (DE.op (DR.i0 fun _ _ _ => .int _) (DE.bits DE.var) (DE.c fun _ => .int _) NE2.i0) NE2.i0)) (DS.seq (DS.asg (DE.call (fun _ => .nil) (DA.cons DE.var (DA.cons DE.var DA.nil))) (DG.tup (DGs.cons DG.name (DGs.cons DG.name DGs.nil))) (Goes.tup (GoesL.cons Goes.name (GoesL.cons Goes.name GoesL.nil))))
      (DS.ifs (DT.test (DE.op DR.eq DE.var (DE.c fun _ => .int _) NE2.eq)) (DS.seq (DS.drop (DE.bm DM.append NEM.append DE.var (DA.cons DE.var DA.nil)))
      (DS.asg DE.var DG.name Goes.name)) (DS.aug (DR.i0 fun _ _ _ => .int _) NE2.i0 (DE.c fun _ => .int _)))))
      (DS.ret (DE.cb DB.tuple (DA.cons (DE.ifE (DT.test (DE.op (DR.i0 fun _ _ _ => .bl _) DE.var (DE.c fun _ => .int _) NE2.i0)) (DE.op DR.add DE.var (DE.lst (DA.cons DE.var DA.nil)) NE2.add) DE.var) DA.nil) NEL.tuple))))))⟩
theorem lcal_irreducibles (T : Txt K mg ) : Lv.LCal P w K mg base 6 "irreducibles" 1 (spL (Wk K (fun _ => (0 : Addr))) 1 FL_irreducibles) := by
  obtain ⟨f, fd, F, b⟩ := T.d_irreducibles
  refine Lv.lcal0 F b sc_irreducibles rfl (fun _ => rfl) (by decide) (fun cdv A outer L Y TT CI H vs cb fin σc hr h => ?_)
  have hu := hu_of hr
  have hu64 := hr.units
  have hu65 := Ab.u65 hr
  exact ⟨_, (Lv.lss_cons (Lv.ls_ps fun s0 H0 => (ps_if (pt_not (pt_val (Gx.pe_cx (calx_s3_is_whole T) LamX.takes0 (E := fun _ _ _ => False) (fun _ _ _ _ h => h) hr (by omega) (by rfl) (pa_cons (pv 0) (pa_cons pe_int (pa_cons (C8.pe_gc (by rfl) T.c_MOST_LISTED) pa_nil)))))) (pss_one ps_never) pss_nil))
      (Lv.lss_cons (Lv.ls_for (fun s0 H0 => (pi_range2 rfl T.b_range (pa_cons (pe_op op_shlW pe_int (pv 0)) (pa_cons (pe_op op_shlW pe_int (pv 0)) pa_nil)))) (fun s0 H0 => (pg_name (i := 1) sc_irreducibles.nd rfl (.inl rfl))) (Lv.lss_cons (Lv.ls_if (fun s0 H0 => (pt_val (Gx.pe_cx (calx_is_irreducible T) LamX.takes0 (E := fun _ _ _ => False) (fun _ _ _ _ h => h) hr (by omega) (by rfl) (pa_cons (pv 1) pa_nil)))) (Lv.lss_cons (Lv.ls_yield (fun s0 H0 => (pv 1)) sc_irreducibles.co rfl)
      Lv.lss_nil) Lv.lss_nil)
      Lv.lss_nil))
      Lv.lss_nil)), DL.dfn h rfl (DL.seq (DL.plain (DS.ifs (DT.gc (DT.not (DT.b (DE.call (fun _ => .nil) (DA.cons DE.var (DA.cons (DE.c fun _ => .int _) (DA.cons (DE.c fun _ => .int _) DA.nil))))))) (DS.never fun _ _ => rfl) DS.next))
      (DL.seq (DL.for (DI.rng2 (DA.cons (DE.op (DR.i fun _ _ _ => .int _) (DE.c fun _ => .int _) DE.var NE2.i) (DA.cons (DE.op (DR.i fun _ _ _ => .int _) (DE.c fun _ => .int _) DE.var NE2.i) DA.nil))) DG.name Goes.name (DL.seq (DL.if (DT.gc (DT.b (DE.call (fun _ => .nil) (DA.cons DE.var DA.nil)))) (DL.seq (DL.yd DE.var)
      DL.nil) DL.nil)
      DL.nil))
      DL.nil))⟩
theorem calx_order_of (T : Txt K mg ) : Gx.CalX P w K mg base 6 "order_of" (spF (Wk K (fun _ => (0 : Addr))) 2 F_order_of) := by
  obtain ⟨f, fd, F, b⟩ := T.d_order_of
  refine Gx.calX F b sc_order_of (fun vs H Q E h => spF.len h) (fun cdv A outer s H vs Q E hr h => ?_)
  have hu := hu_of hr
  have hu64 := hr.units
  have hu65 := Ab.u65 hr
  exact ⟨_, (pss_cons (ps_expr (Gx.pe_cxS (calxs_s3_need T) Gx.takes_cx (fun _ _ _ _ h => h) hr (by omega) (by rfl) (pa_cons (pv 0) pa_nil)))
      (pss_cons (ps_if (PW.pt (pw_or (pt_not (pt_val (Gx.pe_cx (calx_is_polynomial T) Gx.takes_cx (fun _ _ _ _ h => h) hr (by omega) (by rfl) (pa_cons (pv 1) pa_nil)))) (pw_or1 (pt_not (pt_val (Gx.pe_cx (calx_is_irreducible T) Gx.takes_cx (fun _ _ _ _ h => h) hr (by omega) (by rfl) (pa_cons (pv 1) pa_nil))))))) (pss_one ps_never) pss_nil)
      (pss_cons (ps_set (i := 2) sc_order_of.nd rfl (.inl rfl) (pe_op op_sub (pe_bits (pv 1)) pe_int))
      (pss_cons (ps_if (pt_cmpR op_gt (pv 2) (C8.pe_gc (by rfl) T.c_MOST_ORDER) (nomark _)) (pss_one ps_never) pss_nil)
      (pss_cons (ps_if (pt_cmpR (show OpR _ _ (Ab.rEqU K) by exact Ab.op_eqU hu64) (pe_ix (show IxR _ (Ab.rIxU K) by exact Ab.ix_U) (Gx.pe_cx (calx_s3_parts T) Gx.takes_cx (fun _ _ _ _ h => h) hr (by omega) (by rfl) (pa_cons (pv 0) (pa_cons (pv 1) pa_nil))) pe_int (fun _ _ => rfl)) pe_int (nomark _)) (pss_one ps_never) pss_nil)
      (pss_cons (ps_set (i := 3) sc_order_of.nd rfl (.inl rfl) (pe_op op_sub (pe_op op_shlW pe_int (pv 2)) pe_int))
      (pss_cons (ps_for (passes_of rfl) rfl (show PI _ _ _ (Ab.iterU K _) by exact Ab.PI.or (pi_list (Gx.pe_cx (calx_s3_primes T) Gx.takes_cx (fun _ _ _ _ h => h) hr (by omega) (by rfl) (pa_cons (pv 3) pa_nil))) (Ab.PI.or (pi_tup (Gx.pe_cx (calx_s3_primes T) Gx.takes_cx (fun _ _ _ _ h => h) hr (by omega) (by rfl) (pa_cons (pv 3) pa_nil))) (pi_str (Gx.pe_cx (calx_s3_primes T) Gx.takes_cx (fun _ _ _ _ h => h) hr (by omega) (by rfl) (pa_cons (pv 3) pa_nil))))) (pg_name (i := 4) sc_order_of.nd rfl (.inl rfl)) (pss_one (ps_while (passes_of rfl) (PW.pt (pw_and (pt_cmpR (show OpR _ _ (Ab.rEqU K) by exact Ab.op_eqU hu64) (pe_op op_mod (pv 3) (pv 4)) pe_int (nomark _)) (pw_and1 (pt_cmpR (show OpR _ _ (Ab.rEqU K) by exact Ab.op_eqU hu64) (Gx.pe_cx (calx_s3_power T) Gx.takes_cx (fun _ _ _ _ h => h) hr (by omega) (by rfl) (pa_cons (pv 0) (pa_cons (pe_op op_fdivW (pv 3) (pv 4)) (pa_cons (pv 1) pa_nil)))) pe_int (nomark _))))) (pss_one (ps_set (i := 3) sc_order_of.nd rfl (.inl rfl) (pe_op op_fdivW (pv 3) (pv 4)))))))
      (pss_one (ps_ret (pv 3)))))))))), Ab.DS.dfn (spF_gc h) rfl (DS.seq (DS.drop (DE.callStar (DA.cons DE.var DA.nil)))
      (DS.seq (DS.ifs (DT.gc (DT.or (DT.not (DT.b (DE.call (fun _ => .nil) (DA.cons DE.var DA.nil)))) (DT.not (DT.b (DE.call (fun _ => .nil) (DA.cons DE.var DA.nil)))))) (DS.never fun _ _ => rfl) DS.next)
      (DS.seq (DS.asg (DE.op (DR.i0 fun _ _ _ => .int _) (DE.bits DE.var) (DE.c fun _ => .int _) NE2.i0) DG.name Goes.name)
      (DS.seq (DS.ifs (DT.test (DE.op (DR.i0 fun _ _ _ => .bl _) DE.var (DE.c fun _ => .int _) NE2.i0)) (DS.never fun _ _ => rfl) DS.next)
      (DS.seq (DS.ifs (DT.gc (DT.test (DE.op DR.eq (DE.op DR.ix (DE.call (fun _ => .nil) (DA.cons DE.var (DA.cons DE.var DA.nil))) (DE.c fun _ => .int _) NE2.ix) (DE.c fun _ => .int _) NE2.eq))) (DS.never fun _ _ => rfl) DS.next)
      (DS.seq (DS.asg (DE.op (DR.i0 fun _ _ _ => .int _) (DE.op (DR.i fun _ _ _ => .int _) (DE.c fun _ => .int _) DE.var NE2.i) (DE.c fun _ => .int _) NE2.i0) DG.name Goes.name)
      (DS.seq (DS.forS (DI.iter (DE.call (fun _ => .nil) (DA.cons DE.var DA.nil))) DG.name Goes.name (DS.whileS (DT.and (DT.test (DE.op DR.eq (DE.op (DR.i fun _ _ _ => .int _) DE.var DE.var NE2.i) (DE.c fun _ => .int _) NE2.eq)) (DT.test (DE.op DR.eq (DE.call (fun _ => .nil) (DA.cons DE.var (DA.cons (DE.op (DR.i fun _ _ _ => .int _) DE.var DE.var NE2.i) (DA.cons DE.var DA.nil)))) (DE.c fun _ => .int _) NE2.eq))) (DS.asg (DE.op (DR.i fun _ _ _ => .int _) DE.var DE.var NE2.i) DG.name Goes.name)))
      (DS.ret DE.var))))))))⟩
theorem calx__law_ring_right (T : Txt K mg ) : Gx.CalX P w K mg base 6 "_law_ring_right" (spF (Wk K (fun _ => (0 : Addr))) 3 F__law_ring_right) := by
  obtain ⟨f, fd, F, b⟩ := T.d__law_ring_right
  refine Gx.calX F b sc__law_ring_right (fun vs H Q E h => spF.len h) (fun cdv A outer s H vs Q E hr h => ?_)
  have hu := hu_of hr
  have hu64 := hr.units
  have hu65 := Ab.u65 hr
  exact ⟨_, (pss_cons (ps_if (PW.pt (pw_or (pt_cmpR (show OpR _ _ (Ab.rNeU K) by exact Ab.op_neU hu64) (Gx.pe_cx (calx_multiplied T) Gx.takes_cx (fun _ _ _ _ h => h) hr (by omega) (by rfl) (pa_cons (pv 0) (pa_cons (pv 1) pa_nil))) (Gx.pe_cx (calx_multiplied T) Gx.takes_cx (fun _ _ _ _ h => h) hr (by omega) (by rfl) (pa_cons (pv 1) (pa_cons (pv 0) pa_nil))) (nomark _)) (pw_or1 (pt_cmpR (show OpR _ _ (Ab.rNeU K) by exact Ab.op_neU hu64) (Gx.pe_cx (calx_multiplied T) Gx.takes_cx (fun _ _ _ _ h => h) hr (by omega) (by rfl) (pa_cons (Gx.pe_cx (calx_multiplied T) Gx.takes_cx (fun _ _ _ _ h => h) hr (by omega) (by rfl) (pa_cons (pv 0) (pa_cons (pv 1) pa_nil))) (pa_cons (pv 2) pa_nil))) (Gx.pe_cx (calx_multiplied T) Gx.takes_cx (fun _ _ _ _ h => h) hr (by omega) (by rfl) (pa_cons (pv 0) (pa_cons (Gx.pe_cx (calx_multiplied T) Gx.takes_cx (fun _ _ _ _ h => h) hr (by omega) (by rfl) (pa_cons (pv 1) (pa_cons (pv 2) pa_nil))) pa_nil))) (nomark _))))) (pss_one (ps_ret pe_bl)) pss_nil)
      (pss_cons (ps_if (PW.pt (pw_or (pt_cmpR (show OpR _ _ (Ab.rNeU K) by exact Ab.op_neU hu64) (Gx.pe_cx (calx_multiplied T) Gx.takes_cx (fun _ _ _ _ h => h) hr (by omega) (by rfl) (pa_cons (pv 0) (pa_cons (Gx.pe_cx (calx_added T) Gx.takes_cx (fun _ _ _ _ h => h) hr (by omega) (by rfl) (pa_cons (pv 1) (pa_cons (pv 2) pa_nil))) pa_nil))) (Gx.pe_cx (calx_added T) Gx.takes_cx (fun _ _ _ _ h => h) hr (by omega) (by rfl) (pa_cons (Gx.pe_cx (calx_multiplied T) Gx.takes_cx (fun _ _ _ _ h => h) hr (by omega) (by rfl) (pa_cons (pv 0) (pa_cons (pv 1) pa_nil))) (pa_cons (Gx.pe_cx (calx_multiplied T) Gx.takes_cx (fun _ _ _ _ h => h) hr (by omega) (by rfl) (pa_cons (pv 0) (pa_cons (pv 2) pa_nil))) pa_nil))) (nomark _)) (pw_or1 (pt_cmpR (show OpR _ _ (Ab.rNeU K) by exact Ab.op_neU hu64) (Gx.pe_cx (calx_added T) Gx.takes_cx (fun _ _ _ _ h => h) hr (by omega) (by rfl) (pa_cons (Gx.pe_cx (calx_added T) Gx.takes_cx (fun _ _ _ _ h => h) hr (by omega) (by rfl) (pa_cons (pv 0) (pa_cons (pv 1) pa_nil))) (pa_cons (pv 1) pa_nil))) (pv 0) (nomark _))))) (pss_one (ps_ret pe_bl)) pss_nil)
      (pss_cons (ps_if (pt_cmpR (show OpR _ _ (Ab.rNeU K) by exact Ab.op_neU hu64) (Gx.pe_cx (calx_multiplied T) Gx.takes_cx (fun _ _ _ _ h => h) hr (by omega) (by rfl) (pa_cons (Gx.pe_cx (calx_added T) Gx.takes_cx (fun _ _ _ _ h => h) hr (by omega) (by rfl) (pa_cons (pv 0) (pa_cons (pv 1) pa_nil))) (pa_cons (Gx.pe_cx (calx_added T) Gx.takes_cx (fun _ _ _ _ h => h) hr (by omega) (by rfl) (pa_cons (pv 0) (pa_cons (pv 1) pa_nil))) pa_nil))) (Gx.pe_cx (calx_added T) Gx.takes_cx (fun _ _ _ _ h => h) hr (by omega) (by rfl) (pa_cons (Gx.pe_cx (calx_multiplied T) Gx.takes_cx (fun _ _ _ _ h => h) hr (by omega) (by rfl) (pa_cons (pv 0) (pa_cons (pv 0) pa_nil))) (pa_cons (Gx.pe_cx (calx_multiplied T) Gx.takes_cx (fun _ _ _ _ h => h) hr (by omega) (by rfl) (pa_cons (pv 1) (pa_cons (pv 1) pa_nil))) pa_nil))) (nomark _)) (pss_one (ps_ret pe_bl)) pss_nil)
      (pss_cons (ps_if (PW.pt (pw_and (pt_cmpR op_gt (pv 0) pe_int (nomark _)) (pw_and (pt_cmpR op_gt (pv 1) pe_int (nomark _)) (pw_and1 (pt_cmpR (show OpR _ _ (Ab.rNeU K) by exact Ab.op_neU hu64) (Gx.pe_cx (calx_degree T) Gx.takes_cx (fun _ _ _ _ h => h) hr (by omega) (by rfl) (pa_cons (Gx.pe_cx (calx_multiplied T) Gx.takes_cx (fun _ _ _ _ h => h) hr (by omega) (by rfl) (pa_cons (pv 0) (pa_cons (pv 1) pa_nil))) pa_nil)) (pe_op (show OpR _ _ (Ab.rAddU K) by exact Ab.op_addU) (Gx.pe_cx (calx_degree T) Gx.takes_cx (fun _ _ _ _ h => h) hr (by omega) (by rfl) (pa_cons (pv 0) pa_nil)) (Gx.pe_cx (calx_degree T) Gx.takes_cx (fun _ _ _ _ h => h) hr (by omega) (by rfl) (pa_cons (pv 1) pa_nil))) (nomark _)))))) (pss_one (ps_ret pe_bl)) pss_nil)
      (pss_one (ps_ret (pe_cmpR (show OpR _ _ (Ab.rEqU K) by exact Ab.op_eqU hu64) (pe_lst (pa_cons (Gx.pe_cx (calx_multiplied T) Gx.takes_cx (fun _ _ _ _ h => h) hr (by omega) (by rfl) (pa_cons (pv 0) (pa_cons pe_int pa_nil))) (pa_cons (Gx.pe_cx (calx_multiplied T) Gx.takes_cx (fun _ _ _ _ h => h) hr (by omega) (by rfl) (pa_cons pe_int (pa_cons (pv 0) pa_nil))) (pa_cons (Gx.pe_cx (calx_added T) Gx.takes_cx (fun _ _ _ _ h => h) hr (by omega) (by rfl) (pa_cons (pv 0) (pa_cons (pv 0) pa_nil))) pa_nil)))) (pe_lst (pa_cons pe_int (pa_cons (pv 0) (pa_cons pe_int pa_nil)))) (nomark _)))))))), Ab.DS.dfn (spF_gc h) rfl (DS.seq (DS.ifs (DT.gc (DT.or (DT.test (DE.op DR.ne (DE.call (fun _ => .nil) (DA.cons DE.var (DA.cons DE.var DA.nil))) (DE.call (fun _ => .nil) (DA.cons DE.var (DA.cons DE.var DA.nil))) NE2.ne)) (DT.test (DE.op DR.ne (DE.call (fun _ => .nil) (DA.cons (DE.call (fun _ => .nil) (DA.cons DE.var (DA.cons DE.var DA.nil))) (DA.cons DE.var DA.nil))) (DE.call (fun _ => .nil) (DA.cons DE.var (DA.cons (DE.call (fun _ => .nil) (DA.cons DE.var (DA.cons DE.var DA.nil))) DA.nil))) NE2.ne)))) (DS.ret (DE.c fun _ => .bl _)) DS.next)
      (DS.seq (DS.ifs (DT.gc (DT.or (DT.test (DE.op DR.ne (DE.call (fun _ => .nil) (DA.cons DE.var (DA.cons (DE.call (fun _ => .nil) (DA.cons DE.var (DA.cons DE.var DA.nil))) DA.nil))) (DE.call (fun _ => .nil) (DA.cons (DE.call (fun _ => .nil) (DA.cons DE.var (DA.cons DE.var DA.nil))) (DA.cons (DE.call (fun _ => .nil) (DA.cons DE.var (DA.cons DE.var DA.nil))) DA.nil))) NE2.ne)) (DT.test (DE.op DR.ne (DE.call (fun _ => .nil) (DA.cons (DE.call (fun _ => .nil) (DA.cons DE.var (DA.cons DE.var DA.nil))) (DA.cons DE.var DA.nil))) DE.var NE2.ne)))) (DS.ret (DE.c fun _ => .bl _)) DS.next)
      (DS.seq (DS.ifs (DT.gc (DT.test (DE.op DR.ne (DE.call (fun _ => .nil) (DA.cons (DE.call (fun _ => .nil) (DA.cons DE.var (DA.cons DE.var DA.nil))) (DA.cons (DE.call (fun _ => .nil) (DA.cons DE.var (DA.cons DE.var DA.nil))) DA.nil))) (DE.call (fun _ => .nil) (DA.cons (DE.call (fun _ => .nil) (DA.cons DE.var (DA.cons DE.var DA.nil))) (DA.cons (DE.call (fun _ => .nil) (DA.cons DE.var (DA.cons DE.var DA.nil))) DA.nil))) NE2.ne))) (DS.ret (DE.c fun _ => .bl _)) DS.next)
      (DS.seq (DS.ifs (DT.gc (DT.and (DT.test (DE.op (DR.i0 fun _ _ _ => .bl _) DE.var (DE.c fun _ => .int _) NE2.i0)) (DT.and (DT.test (DE.op (DR.i0 fun _ _ _ => .bl _) DE.var (DE.c fun _ => .int _) NE2.i0)) (DT.test (DE.op DR.ne (DE.call (fun _ => .nil) (DA.cons (DE.call (fun _ => .nil) (DA.cons DE.var (DA.cons DE.var DA.nil))) DA.nil)) (DE.op DR.add (DE.call (fun _ => .nil) (DA.cons DE.var DA.nil)) (DE.call (fun _ => .nil) (DA.cons DE.var DA.nil)) NE2.add) NE2.ne))))) (DS.ret (DE.c fun _ => .bl _)) DS.next)
      (DS.ret (DE.op DR.eq (DE.lst (DA.cons (DE.call (fun _ => .nil) (DA.cons DE.var (DA.cons (DE.c fun _ => .int _) DA.nil))) (DA.cons (DE.call (fun _ => .nil) (DA.cons (DE.c fun _ => .int _) (DA.cons DE.var DA.nil))) (DA.cons (DE.call (fun _ => .nil) (DA.cons DE.var (DA.cons DE.var DA.nil))) DA.nil)))) (DE.lst (DA.cons (DE.c fun _ => .int _) (DA.cons DE.var (DA.cons (DE.c fun _ => .int _) DA.nil)))) NE2.eq))))))⟩
theorem calx__law_divisors_right (T : Txt K mg ) : Gx.CalX P w K mg base 6 "_law_divisors_right" (spF (Wk K (fun _ => (0 : Addr))) 3 F__law_divisors_right) := by
  obtain ⟨f, fd, F, b⟩ := T.d__law_divisors_right
  refine Gx.calX F b sc__law_divisors_right (fun vs H Q E h => spF.len h) (fun cdv A outer s H vs Q E hr h => ?_)
  have hu := hu_of hr
  have hu64 := hr.units
  have hu65 := Ab.u65 hr
  exact ⟨_, (pss_cons (ps_asg (Gx.pe_cx (calx_divided T) Gx.takes_cx (fun _ _ _ _ h => h) hr (by omega) (by rfl) (pa_cons (Gx.pe_cx (calx_added T) Gx.takes_cx (fun _ _ _ _ h => h) hr (by omega) (by rfl) (pa_cons (Gx.pe_cx (calx_multiplied T) Gx.takes_cx (fun _ _ _ _ h => h) hr (by omega) (by rfl) (pa_cons (pv 0) (pa_cons (pv 2) pa_nil))) (pa_cons (pv 1) pa_nil))) (pa_cons (pv 2) pa_nil))) (show PG _ _ (gTup K 2 _) by exact pg_tup rfl (pgs_cons (pg_name (i := 3) sc__law_divisors_right.nd rfl (.inl rfl)) (pgs_cons (pg_name (i := 4) sc__law_divisors_right.nd rfl (.inl rfl)) pgs_nil))))
      (pss_cons (ps_if (pt_cmpR (show OpR _ _ (Ab.rNeU K) by exact Ab.op_neU hu64) (pe_lst (pa_cons (pv 3) (pa_cons (pv 4) pa_nil))) (pe_lst (pa_cons (Gx.pe_cx (calx_added T) Gx.takes_cx (fun _ _ _ _ h => h) hr (by omega) (by rfl) (pa_cons (pv 0) (pa_cons (pe_ix (show IxR _ (Ab.rIxU K) by exact Ab.ix_U) (Gx.pe_cx (calx_divided T) Gx.takes_cx (fun _ _ _ _ h => h) hr (by omega) (by rfl) (pa_cons (pv 1) (pa_cons (pv 2) pa_nil))) pe_int (fun _ _ => rfl)) pa_nil))) (pa_cons (pe_ix (show IxR _ (Ab.rIxU K) by exact Ab.ix_U) (Gx.pe_cx (calx_divided T) Gx.takes_cx (fun _ _ _ _ h => h) hr (by omega) (by rfl) (pa_cons (pv 1) (pa_cons (pv 2) pa_nil))) pe_int (fun _ _ => rfl)) pa_nil))) (nomark _)) (pss_one (ps_ret pe_bl)) pss_nil)
      (pss_cons (ps_set (i := 5) sc__law_divisors_right.nd rfl (.inl rfl) (Gx.pe_cx (calx_common T) Gx.takes_cx (fun _ _ _ _ h => h) hr (by omega) (by rfl) (pa_cons (pv 0) (pa_cons (pv 2) pa_nil))))
      (pss_cons (ps_if (PW.pt (pw_or (pt_cmpR (show OpR _ _ (Ab.rNeU K) by exact Ab.op_neU hu64) (pe_ix (show IxR _ (Ab.rIxU K) by exact Ab.ix_U) (Gx.pe_cx (calx_divided T) Gx.takes_cx (fun _ _ _ _ h => h) hr (by omega) (by rfl) (pa_cons (pv 0) (pa_cons (pv 5) pa_nil))) pe_int (fun _ _ => rfl)) pe_int (nomark _)) (pw_or (pt_cmpR (show OpR _ _ (Ab.rNeU K) by exact Ab.op_neU hu64) (pe_ix (show IxR _ (Ab.rIxU K) by exact Ab.ix_U) (Gx.pe_cx (calx_divided T) Gx.takes_cx (fun _ _ _ _ h => h) hr (by omega) (by rfl) (pa_cons (pv 2) (pa_cons (pv 5) pa_nil))) pe_int (fun _ _ => rfl)) pe_int (nomark _)) (pw_or1 (pt_cmpR (show OpR _ _ (Ab.rNeU K) by exact Ab.op_neU hu64) (Gx.pe_cx (calx_common T) Gx.takes_cx (fun _ _ _ _ h => h) hr (by omega) (by rfl) (pa_cons (pe_ix (show IxR _ (Ab.rIxU K) by exact Ab.ix_U) (Gx.pe_cx (calx_divided T) Gx.takes_cx (fun _ _ _ _ h => h) hr (by omega) (by rfl) (pa_cons (pv 1) (pa_cons (pv 2) pa_nil))) pe_int (fun _ _ => rfl)) (pa_cons (pv 2) pa_nil))) (Gx.pe_cx (calx_common T) Gx.takes_cx (fun _ _ _ _ h => h) hr (by omega) (by rfl) (pa_cons (pv 1) (pa_cons (pv 2) pa_nil))) (nomark _)))))) (pss_one (ps_ret pe_bl)) pss_nil)
      (pss_cons (ps_set (i := 6) sc__law_divisors_right.nd rfl (.inl rfl) (Gx.pe_cx (calx_inverse_of T) Gx.takes_cx (fun _ _ _ _ h => h) hr (by omega) (by rfl) (pa_cons (pv 0) (pa_cons (pv 2) pa_nil))))
      (pss_cons (ps_if (pt_cmpR (show OpR _ _ (Ab.rNeU K) by exact Ab.op_neU hu64) (pe_cmpR op_isN (pv 6) pe_non (nomark _)) (pe_cmpR (show OpR _ _ (Ab.rNeU K) by exact Ab.op_neU hu64) (pv 5) pe_int (nomark _)) (nomark _)) (pss_one (ps_ret pe_bl)) pss_nil)
      (pss_one (ps_ret (pe_or (pe_cmpR op_isN (pv 6) pe_non (nomark _)) (pe_one (pe_and (pe_cmpR (show OpR _ _ (Ab.rEqU K) by exact Ab.op_eqU hu64) (pe_ix (show IxR _ (Ab.rIxU K) by exact Ab.ix_U) (Gx.pe_cx (calx_divided T) Gx.takes_cx (fun _ _ _ _ h => h) hr (by omega) (by rfl) (pa_cons (Gx.pe_cx (calx_multiplied T) Gx.takes_cx (fun _ _ _ _ h => h) hr (by omega) (by rfl) (pa_cons (pv 0) (pa_cons (pv 6) pa_nil))) (pa_cons (pv 2) pa_nil))) pe_int (fun _ _ => rfl)) (pe_ix (show IxR _ (Ab.rIxU K) by exact Ab.ix_U) (Gx.pe_cx (calx_divided T) Gx.takes_cx (fun _ _ _ _ h => h) hr (by omega) (by rfl) (pa_cons pe_int (pa_cons (pv 2) pa_nil))) pe_int (fun _ _ => rfl)) (nomark _)) (pe_one (pe_cmpR op_lt (pv 6) (pv 2) (nomark _)))))))))))))), Ab.DS.dfn (spF_gc h) rfl (DS.seq (DS.asg (DE.call (fun _ => .nil) (DA.cons (DE.call (fun _ => .nil) (DA.cons (DE.call (fun _ => .nil) (DA.cons DE.var (DA.cons DE.var DA.nil))) (DA.cons DE.var DA.nil))) (DA.cons DE.var DA.nil))) (DG.tup (DGs.cons DG.name (DGs.cons DG.name DGs.nil))) (Goes.tup (GoesL.cons Goes.name (GoesL.cons Goes.name GoesL.nil))))
      (DS.seq (DS.ifs (DT.gc (DT.test (DE.op DR.ne (DE.lst (DA.cons DE.var (DA.cons DE.var DA.nil))) (DE.lst (DA.cons (DE.call (fun _ => .nil) (DA.cons DE.var (DA.cons (DE.op DR.ix (DE.call (fun _ => .nil) (DA.cons DE.var (DA.cons DE.var DA.nil))) (DE.c fun _ => .int _) NE2.ix) DA.nil))) (DA.cons (DE.op DR.ix (DE.call (fun _ => .nil) (DA.cons DE.var (DA.cons DE.var DA.nil))) (DE.c fun _ => .int _) NE2.ix) DA.nil))) NE2.ne))) (DS.ret (DE.c fun _ => .bl _)) DS.next)
      (DS.seq (DS.asg (DE.call (fun _ => .nil) (DA.cons DE.var (DA.cons DE.var DA.nil))) DG.name Goes.name)
      (DS.seq (DS.ifs (DT.gc (DT.or (DT.test (DE.op DR.ne (DE.op DR.ix (DE.call (fun _ => .nil) (DA.cons DE.var (DA.cons DE.var DA.nil))) (DE.c fun _ => .int _) NE2.ix) (DE.c fun _ => .int _) NE2.ne)) (DT.or (DT.test (DE.op DR.ne (DE.op DR.ix (DE.call (fun _ => .nil) (DA.cons DE.var (DA.cons DE.var DA.nil))) (DE.c fun _ => .int _) NE2.ix) (DE.c fun _ => .int _) NE2.ne)) (DT.test (DE.op DR.ne (DE.call (fun _ => .nil) (DA.cons (DE.op DR.ix (DE.call (fun _ => .nil) (DA.cons DE.var (DA.cons DE.var DA.nil))) (DE.c fun _ => .int _) NE2.ix) (DA.cons DE.var DA.nil))) (DE.call (fun _ => .nil) (DA.cons DE.var (DA.cons DE.var DA.nil))) NE2.ne))))) (DS.ret (DE.c fun _ => .bl _)) DS.next)
      (DS.seq (DS.asg (DE.call (fun _ => .nil) (DA.cons DE.var (DA.cons DE.var DA.nil))) DG.name Goes.name)
      (DS.seq (DS.ifs (DT.test (DE.op DR.ne (DE.op DR.isN DE.var (DE.c fun _ => .non) NE2.isN) (DE.op DR.ne DE.var (DE.c fun _ => .int _) NE2.ne) NE2.ne)) (DS.ret (DE.c fun _ => .bl _)) DS.next)
      (DS.ret (DE.orV (DE.op DR.isN DE.var (DE.c fun _ => .non) NE2.isN) (DE.andV (DE.op DR.eq (DE.op DR.ix (DE.call (fun _ => .nil) (DA.cons (DE.call (fun _ => .nil) (DA.cons DE.var (DA.cons DE.var DA.nil))) (DA.cons DE.var DA.nil))) (DE.c fun _ => .int _) NE2.ix) (DE.op DR.ix (DE.call (fun _ => .nil) (DA.cons (DE.c fun _ => .int _) (DA.cons DE.var DA.nil))) (DE.c fun _ => .int _) NE2.ix) NE2.eq) (DE.op (DR.i0 fun _ _ _ => .bl _) DE.var DE.var NE2.i0))))))))))⟩
theorem calx__law_field_right (T : Txt K mg ) : Gx.CalX P w K mg base 7 "_law_field_right" (spF (Wk K (fun _ => (0 : Addr))) 2 F__law_field_right) := by
  obtain ⟨f, fd, F, b⟩ := T.d__law_field_right
  refine Gx.calX F b sc__law_field_right (fun vs H Q E h => spF.len h) (fun cdv A outer s H vs Q E hr h => ?_)
  have hu := hu_of hr
  have hu64 := hr.units
  have hu65 := Ab.u65 hr
  exact ⟨_, (pss_cons (ps_par (i := 2) (j := 3) rfl sc__law_field_right.nd rfl rfl (by decide) rfl rfl (pa_cons (Gx.pe_cx (calx_degree T) Gx.takes_cx (fun _ _ _ _ h => h) hr (by omega) (by rfl) (pa_cons (pv 1) pa_nil)) (pa_cons (pe_ix (show IxR _ (Ab.rIxU K) by exact Ab.ix_U) (Gx.pe_cx (calx_divided T) Gx.takes_cx (fun _ _ _ _ h => h) hr (by omega) (by rfl) (pa_cons (pv 0) (pa_cons (pv 1) pa_nil))) pe_int (fun _ _ => rfl)) pa_nil)) (by rfl))
      (pss_cons (ps_if (pt_cmpR (show OpR _ _ (Ab.rNeU K) by exact Ab.op_neU hu64) (Gx.pe_cx (calx_power_of T) Gx.takes_cx (fun _ _ _ _ h => h) hr (by omega) (by rfl) (pa_cons (pv 0) (pa_cons (pe_op op_shlW pe_int (pv 2)) (pa_cons (pv 1) pa_nil)))) (pv 3) (nomark _)) (pss_one (ps_ret pe_bl)) pss_nil)
      (pss_cons (ps_if (pt_cmpR (show OpR _ _ (Ab.rEqU K) by exact Ab.op_eqU hu64) (pv 3) pe_int (nomark _)) (pss_one (ps_ret (pe_cmpR op_isN (Gx.pe_cx (calx_inverse_of T) Gx.takes_cx (fun _ _ _ _ h => h) hr (by omega) (by rfl) (pa_cons (pv 0) (pa_cons (pv 1) pa_nil))) pe_non (nomark _)))) pss_nil)
      (pss_cons (ps_set (i := 4) sc__law_field_right.nd rfl (.inl rfl) (Gx.pe_cx (calx_order_of T) Gx.takes_cx (fun _ _ _ _ h => h) hr (by omega) (by rfl) (pa_cons (pv 0) (pa_cons (pv 1) pa_nil))))
      (pss_cons (ps_if (PW.pt (pw_or (pt_cmpR (show OpR _ _ (Ab.rNeU K) by exact Ab.op_neU hu64) (Gx.pe_cx (calx_inverse_of T) Gx.takes_cx (fun _ _ _ _ h => h) hr (by omega) (by rfl) (pa_cons (pv 0) (pa_cons (pv 1) pa_nil))) (Gx.pe_cx (calx_power_of T) Gx.takes_cx (fun _ _ _ _ h => h) hr (by omega) (by rfl) (pa_cons (pv 0) (pa_cons (pe_op op_sub (pe_op op_shlW pe_int (pv 2)) pe_int) (pa_cons (pv 1) pa_nil)))) (nomark _)) (pw_or1 (pt_cmpR (show OpR _ _ (Ab.rNeU K) by exact Ab.op_neU hu64) (pe_op op_mod (pe_op op_sub (pe_op op_shlW pe_int (pv 2)) pe_int) (pv 4)) pe_int (nomark _))))) (pss_one (ps_ret pe_bl)) pss_nil)
      (pss_one (ps_ret (pe_and (pe_cmpR (show OpR _ _ (Ab.rEqU K) by exact Ab.op_eqU hu64) (Gx.pe_cx (calx_power_of T) Gx.takes_cx (fun _ _ _ _ h => h) hr (by omega) (by rfl) (pa_cons (pv 0) (pa_cons (pv 4) (pa_cons (pv 1) pa_nil)))) (pe_ix (show IxR _ (Ab.rIxU K) by exact Ab.ix_U) (Gx.pe_cx (calx_divided T) Gx.takes_cx (fun _ _ _ _ h => h) hr (by omega) (by rfl) (pa_cons pe_int (pa_cons (pv 1) pa_nil))) pe_int (fun _ _ => rfl)) (nomark _)) (pe_one (pe_cmpR (show OpR _ _ (Ab.rEqU K) by exact Ab.op_eqU hu64) (Gx.pe_cx (calx_order_of T) Gx.takes_cx (fun _ _ _ _ h => h) hr (by omega) (by rfl) (pa_cons (Gx.pe_cx (calx_multiplied T) Gx.takes_cx (fun _ _ _ _ h => h) hr (by omega) (by rfl) (pa_cons (pv 0) (pa_cons (pv 0) pa_nil))) (pa_cons (pv 1) pa_nil))) (pv 4) (nomark _))))))))))), Ab.DS.dfn (spF_gc h) rfl (DS.seq (DS.par (DA.cons (DE.call (fun _ => .nil) (DA.cons DE.var DA.nil)) (DA.cons (DE.op DR.ix (DE.call (fun _ => .nil) (DA.cons DE.var (DA.cons DE.var DA.nil))) (DE.c fun _ => .int _) NE2.ix) DA.nil)))
      (DS.seq (DS.ifs (DT.gc (DT.test (DE.op DR.ne (DE.call (fun _ => .nil) (DA.cons DE.var (DA.cons (DE.op (DR.i fun _ _ _ => .int _) (DE.c fun _ => .int _) DE.var NE2.i) (DA.cons DE.var DA.nil)))) DE.var NE2.ne))) (DS.ret (DE.c fun _ => .bl _)) DS.next)
      (DS.seq (DS.ifs (DT.test (DE.op DR.eq DE.var (DE.c fun _ => .int _) NE2.eq)) (DS.ret (DE.op DR.isN (DE.call (fun _ => .nil) (DA.cons DE.var (DA.cons DE.var DA.nil))) (DE.c fun _ => .non) NE2.isN)) DS.next)
      (DS.seq (DS.asg (DE.call (fun _ => .nil) (DA.cons DE.var (DA.cons DE.var DA.nil))) DG.name Goes.name)
      (DS.seq (DS.ifs (DT.gc (DT.or (DT.test (DE.op DR.ne (DE.call (fun _ => .nil) (DA.cons DE.var (DA.cons DE.var DA.nil))) (DE.call (fun _ => .nil) (DA.cons DE.var (DA.cons (DE.op (DR.i0 fun _ _ _ => .int _) (DE.op (DR.i fun _ _ _ => .int _) (DE.c fun _ => .int _) DE.var NE2.i) (DE.c fun _ => .int _) NE2.i0) (DA.cons DE.var DA.nil)))) NE2.ne)) (DT.test (DE.op DR.ne (DE.op (DR.i fun _ _ _ => .int _) (DE.op (DR.i0 fun _ _ _ => .int _) (DE.op (DR.i fun _ _ _ => .int _) (DE.c fun _ => .int _) DE.var NE2.i) (DE.c fun _ => .int _) NE2.i0) DE.var NE2.i) (DE.c fun _ => .int _) NE2.ne)))) (DS.ret (DE.c fun _ => .bl _)) DS.next)
      (DS.ret (DE.andV (DE.op DR.eq (DE.call (fun _ => .nil) (DA.cons DE.var (DA.cons DE.var (DA.cons DE.var DA.nil)))) (DE.op DR.ix (DE.call (fun _ => .nil) (DA.cons (DE.c fun _ => .int _) (DA.cons DE.var DA.nil))) (DE.c fun _ => .int _) NE2.ix) NE2.eq) (DE.op DR.eq (DE.call (fun _ => .nil) (DA.cons (DE.call (fun _ => .nil) (DA.cons DE.var (DA.cons DE.var DA.nil))) (DA.cons DE.var DA.nil))) DE.var NE2.eq))))))))⟩
def spLaw (K : PySem.W.Frag) : Sp := fun vs H Q _ => ∃ (a : Addr) (ns : List Int), vs = [.ref a] ∧ SqF K H a (ns.map V.int) ∧ LamX.Tabs [] H ∧ (∃ s', F_law [.scr (ns.map .int)] s0 = .ok (.bl true) s') ∧ ∀ H', Q (.bl true) H'
theorem fn_law (T : Txt K mg ) {f : Addr} {fd : FuncData} (F : C8.Def K mg "law" s_law f fd) : Gx.FnG P w K mg base 10 f fd ["_law_script"] (spLaw K) := by
  refine Gx.fnG_of F.fn sc_law (fun vs H Q E h => ?_) (fun cdv A outer s H vs Q gd hr h => ?_)
  · obtain ⟨a, ns, rfl, _⟩ := h; rfl
  · obtain ⟨a, ns, rfl, hS, tb, hl, q⟩ := h
    have hu := hu_of hr
    have hu64 := hr.units
    have hu65 := Ab.u65 hr
    exact ⟨_, (pss_cons (ps_set (i := 1) sc_law.nd rfl (.inl rfl) (Gx.pe_cx (calx__law_begun T) LamX.takes0 (E := fun _ _ _ => False) (fun _ _ _ _ h => h) hr (by omega) (by rfl) (pa_cons (pv 0) pa_nil)))
      (pss_cons (Lv.ps_setLcCX (i := 2) (own := [("_law_one", 3)]) (lcal_irreducibles T) rfl hr (by omega) (by rfl) sc_law.nd rfl rfl (sw_true rfl rfl rfl (by decide +kernel)) (pa_cons (pe_op (show OpR _ _ (Ab.rAddU K) by exact Ab.op_addU) pe_int (Gx.pe_cx (calx__law_next T) LamX.takes0 (E := fun _ _ _ => False) (fun _ _ _ _ h => h) hr (by omega) (by rfl) (pa_cons (pv 1) (pa_cons pe_int pa_nil)))) pa_nil) (blkOk_by (N := ["_law_script", "_law_draw", "_law_some", "_law_one", "_law_turn", "_law_a", "_law_b", "_law_c", "_law_m", "_law_near", "_law_far", "_law_whole", "_law_part"]) (sc := C8.fnScope s_law) (by decide +kernel)) (fun _ _ => rfl) (fun _ _ _ _ _ => (pg_name (i := 3) sc_law.nd rfl (.inl rfl))) (fun _ _ _ _ _ => pts_nil) (fun _ _ _ _ _ => (pv 3)))
      (pss_cons (ps_for PassesOwn.never rfl (pi_range1 rfl T.b_range (pa_cons (pe_op (show OpR _ _ (Ab.rAddU K) by exact Ab.op_addU) pe_int (pe_callB (Rd.call_mn2 rfl) (by rfl) T.b_min (by decide +kernel) (pa_cons pe_int (pa_cons (pe_callB (show CallR _ _ (Ab.rLenU K) by exact Ab.call_lenU) (by rfl) T.b_len PySem.boot_len (pa_cons (pv 0) pa_nil)) pa_nil)))) pa_nil)) (pg_name (i := 4) sc_law.nd rfl (.inl rfl)) (pss_cons (ps_par3 (i := 5) (j := 6) (l := 7) rfl sc_law.nd rfl rfl rfl (by decide) (by decide) (by decide) rfl rfl rfl (pa_cons (Gx.pe_cx (calx__law_poly T) LamX.takes0 (E := fun _ _ _ => False) (fun _ _ _ _ h => h) hr (by omega) (by rfl) (pa_cons (pv 1) (pa_cons pe_int pa_nil))) (pa_cons (Gx.pe_cx (calx__law_poly T) LamX.takes0 (E := fun _ _ _ => False) (fun _ _ _ _ h => h) hr (by omega) (by rfl) (pa_cons (pv 1) (pa_cons pe_int pa_nil))) (pa_cons (Gx.pe_cx (calx__law_poly T) LamX.takes0 (E := fun _ _ _ => False) (fun _ _ _ _ h => h) hr (by omega) (by rfl) (pa_cons (pv 1) (pa_cons pe_int pa_nil))) pa_nil))) (by rfl))
      (pss_cons (ps_set (i := 8) sc_law.nd rfl (.inl rfl) (pe_op (show OpR _ _ (Ab.rAddU K) by exact Ab.op_addU) pe_int (Gx.pe_cx (calx__law_next T) LamX.takes0 (E := fun _ _ _ => False) (fun _ _ _ _ h => h) hr (by omega) (by rfl) (pa_cons (pv 1) (pa_cons (pe_op op_shlW pe_int pe_int) pa_nil)))))
      (pss_cons (ps_if (PW.pt (pw_or (pt_not (pt_val (Gx.pe_cx (calx__law_ring_right T) LamX.takes0 (E := fun _ _ _ => False) (fun _ _ _ _ h => h) hr (by omega) (by rfl) (pa_cons (pv 5) (pa_cons (pv 6) (pa_cons (pv 7) pa_nil)))))) (pw_or1 (pt_not (pt_val (Gx.pe_cx (calx__law_divisors_right T) LamX.takes0 (E := fun _ _ _ => False) (fun _ _ _ _ h => h) hr (by omega) (by rfl) (pa_cons (pv 5) (pa_cons (pv 6) (pa_cons (pv 8) pa_nil))))))))) (pss_one (ps_ret pe_bl)) pss_nil)
      (pss_cons (ps_if (pt_not (pt_val (Gx.pe_cx (calx__law_divisors_right T) LamX.takes0 (E := fun _ _ _ => False) (fun _ _ _ _ h => h) hr (by omega) (by rfl) (pa_cons (pv 6) (pa_cons (pv 8) (pa_cons (pe_op (show OpR _ _ (Ab.rAddU K) by exact Ab.op_addU) (pe_op op_mod (pv 7) pe_int) pe_int) pa_nil)))))) (pss_one (ps_ret pe_bl)) pss_nil)
      (pss_cons (ps_set (i := 3) sc_law.nd rfl (.inl rfl) (Gx.pe_cx (calx__law_pick T) LamX.takes0 (E := fun _ _ _ => False) (fun _ _ _ _ h => h) hr (by omega) (by rfl) (pa_cons (pv 1) (pa_cons (pv 2) pa_nil))))
      (pss_cons (ps_if (PW.pt (pw_or (pt_not (pt_val (Gx.pe_cx (calx__law_field_right T) LamX.takes0 (E := fun _ _ _ => False) (fun _ _ _ _ h => h) hr (by omega) (by rfl) (pa_cons (pv 5) (pa_cons (pv 3) pa_nil))))) (pw_or (pt_not (pt_val (Gx.pe_cx (calx__law_field_right T) LamX.takes0 (E := fun _ _ _ => False) (fun _ _ _ _ h => h) hr (by omega) (by rfl) (pa_cons (pv 6) (pa_cons (pv 3) pa_nil))))) (pw_or1 (pt_not (pt_val (Gx.pe_cx (calx_is_irreducible T) LamX.takes0 (E := fun _ _ _ => False) (fun _ _ _ _ h => h) hr (by omega) (by rfl) (pa_cons (pv 3) pa_nil)))))))) (pss_one (ps_ret pe_bl)) pss_nil)
      (pss_cons (ps_par (i := 9) (j := 10) rfl sc_law.nd rfl rfl (by decide) rfl rfl (pa_cons (pe_op (show OpR _ _ (Ab.rAddU K) by exact Ab.op_addU) pe_int (Gx.pe_cx (calx__law_next T) LamX.takes0 (E := fun _ _ _ => False) (fun _ _ _ _ h => h) hr (by omega) (by rfl) (pa_cons (pv 1) (pa_cons pe_int pa_nil)))) (pa_cons (pe_op (show OpR _ _ (Ab.rAddU K) by exact Ab.op_addU) pe_int (Gx.pe_cx (calx__law_next T) LamX.takes0 (E := fun _ _ _ => False) (fun _ _ _ _ h => h) hr (by omega) (by rfl) (pa_cons (pv 1) (pa_cons pe_int pa_nil)))) pa_nil)) (by rfl))
      (pss_cons (ps_set (i := 11) sc_law.nd rfl (.inl rfl) (pe_callB (show CallR _ _ (rSortedI K) by exact cr_sortedI) (by rfl) T.b_sorted (by decide +kernel) (pa_cons (pe_lc (own := [("_law_part", 12)]) rfl sc_law.nd (show PI _ _ _ (Ab.iterU K _) by exact Ab.PI.or (pi_list (pe_op (show OpR _ _ (Ab.rAddU K) by exact Ab.op_addU) (Gx.pe_cx (calx_factors_of T) LamX.takes0 (E := fun _ _ _ => False) (fun _ _ _ _ h => h) hr (by omega) (by rfl) (pa_cons (pv 9) pa_nil)) (Gx.pe_cx (calx_factors_of T) LamX.takes0 (E := fun _ _ _ => False) (fun _ _ _ _ h => h) hr (by omega) (by rfl) (pa_cons (pv 10) pa_nil)))) (Ab.PI.or (pi_tup (pe_op (show OpR _ _ (Ab.rAddU K) by exact Ab.op_addU) (Gx.pe_cx (calx_factors_of T) LamX.takes0 (E := fun _ _ _ => False) (fun _ _ _ _ h => h) hr (by omega) (by rfl) (pa_cons (pv 9) pa_nil)) (Gx.pe_cx (calx_factors_of T) LamX.takes0 (E := fun _ _ _ => False) (fun _ _ _ _ h => h) hr (by omega) (by rfl) (pa_cons (pv 10) pa_nil)))) (pi_str (pe_op (show OpR _ _ (Ab.rAddU K) by exact Ab.op_addU) (Gx.pe_cx (calx_factors_of T) LamX.takes0 (E := fun _ _ _ => False) (fun _ _ _ _ h => h) hr (by omega) (by rfl) (pa_cons (pv 9) pa_nil)) (Gx.pe_cx (calx_factors_of T) LamX.takes0 (E := fun _ _ _ => False) (fun _ _ _ _ h => h) hr (by omega) (by rfl) (pa_cons (pv 10) pa_nil)))))) (blkOk_by (N := ["_law_script", "_law_draw", "_law_some", "_law_one", "_law_turn", "_law_a", "_law_b", "_law_c", "_law_m", "_law_near", "_law_far", "_law_whole", "_law_part"]) (sc := C8.fnScope s_law) (by decide +kernel)) (fun _ _ _ _ _ => (pg_name (i := 12) sc_law.nd rfl (.inl rfl))) (fun _ _ _ _ _ => pts_nil) (fun _ _ _ _ _ => (pe_callTy (show CallR _ _ Ab.rInt1 by exact Ab.call_int1') (by rfl) T.b_int (by decide +kernel) (pa_cons (pv 12) pa_nil)))) pa_nil)))
      (pss_cons (ps_if (pt_cmpR (show OpR _ _ (Ab.rNeU K) by exact Ab.op_neU hu64) (pe_callTy Gx.call_lstOf (by rfl) T.b_list (by decide +kernel) (pa_cons (Gx.pe_cx (calx_factors_of T) LamX.takes0 (E := fun _ _ _ => False) (fun _ _ _ _ h => h) hr (by omega) (by rfl) (pa_cons (Gx.pe_cx (calx_multiplied T) LamX.takes0 (E := fun _ _ _ => False) (fun _ _ _ _ h => h) hr (by omega) (by rfl) (pa_cons (pv 9) (pa_cons (pv 10) pa_nil))) pa_nil)) pa_nil)) (pv 11) (nomark _)) (pss_one (ps_ret pe_bl)) pss_nil)
      (pss_one (ps_if (pt_cmpR (show OpR _ _ (Ab.rNeU K) by exact Ab.op_neU hu64) (Gx.pe_cx (calx_is_irreducible T) LamX.takes0 (E := fun _ _ _ => False) (fun _ _ _ _ h => h) hr (by omega) (by rfl) (pa_cons (pv 9) pa_nil)) (pe_cmpR (show OpR _ _ (Ab.rEqU K) by exact Ab.op_eqU hu64) (pe_callB (show CallR _ _ (Ab.rLenU K) by exact Ab.call_lenU) (by rfl) T.b_len PySem.boot_len (pa_cons (Gx.pe_cx (calx_factors_of T) LamX.takes0 (E := fun _ _ _ => False) (fun _ _ _ _ h => h) hr (by omega) (by rfl) (pa_cons (pv 9) pa_nil)) pa_nil)) pe_int (nomark _)) (nomark _)) (pss_one (ps_ret pe_bl)) pss_nil))))))))))))
      (pss_one (ps_ret pe_bl))))), law_run (W := (Wk K (fun _ => (0 : Addr)))) (fun _ => trivial) hS tb hl rfl (DS.seq (DS.asg (DE.call (fun _ => .nil) (DA.cons DE.var DA.nil)) DG.name Goes.name)
      (DS.seq (DS.asg (DE.lcC (DA.cons (DE.op DR.add (DE.c fun _ => .int _) (DE.call (fun _ => .nil) (DA.cons DE.var (DA.cons (DE.c fun _ => .int _) DA.nil))) NE2.add) DA.nil) DG.name Goes.name (WT.name (by decide)) DT.yes DE.var) DG.name Goes.name)
      (DS.seq (DS.forS (DI.rng1 (DA.cons (DE.op DR.add (DE.c fun _ => .int _) (DE.cb DB.min2 (DA.cons (DE.c fun _ => .int _) (DA.cons (DE.cb DB.len (DA.cons DE.var DA.nil) NEL.len) DA.nil)) NEL.min2) NE2.add) DA.nil)) DG.name Goes.name (DS.seq (DS.par3 (DA.cons (DE.call (fun _ => .nil) (DA.cons DE.var (DA.cons (DE.c fun _ => .int _) DA.nil))) (DA.cons (DE.call (fun _ => .nil) (DA.cons DE.var (DA.cons (DE.c fun _ => .int _) DA.nil))) (DA.cons (DE.call (fun _ => .nil) (DA.cons DE.var (DA.cons (DE.c fun _ => .int _) DA.nil))) DA.nil))))
      (DS.seq (DS.asg (DE.op DR.add (DE.c fun _ => .int _) (DE.call (fun _ => .nil) (DA.cons DE.var (DA.cons (DE.op (DR.i fun _ _ _ => .int _) (DE.c fun _ => .int _) (DE.c fun _ => .int _) NE2.i) DA.nil))) NE2.add) DG.name Goes.name)
      (DS.seq (DS.ifs (DT.gc (DT.or (DT.not (DT.b (DE.call (fun _ => .nil) (DA.cons DE.var (DA.cons DE.var (DA.cons DE.var DA.nil)))))) (DT.not (DT.b (DE.call (fun _ => .nil) (DA.cons DE.var (DA.cons DE.var (DA.cons DE.var DA.nil)))))))) (DS.ret (DE.c fun _ => .bl _)) DS.next)
      (DS.seq (DS.ifs (DT.gc (DT.not (DT.b (DE.call (fun _ => .nil) (DA.cons DE.var (DA.cons DE.var (DA.cons (DE.op DR.add (DE.op (DR.i fun _ _ _ => .int _) DE.var (DE.c fun _ => .int _) NE2.i) (DE.c fun _ => .int _) NE2.add) DA.nil))))))) (DS.ret (DE.c fun _ => .bl _)) DS.next)
      (DS.seq (DS.asg (DE.call (fun _ => .nil) (DA.cons DE.var (DA.cons DE.var DA.nil))) DG.name Goes.name)
      (DS.seq (DS.ifs (DT.gc (DT.or (DT.not (DT.b (DE.call (fun _ => .nil) (DA.cons DE.var (DA.cons DE.var DA.nil))))) (DT.or (DT.not (DT.b (DE.call (fun _ => .nil) (DA.cons DE.var (DA.cons DE.var DA.nil))))) (DT.not (DT.b (DE.call (fun _ => .nil) (DA.cons DE.var DA.nil))))))) (DS.ret (DE.c fun _ => .bl _)) DS.next)
      (DS.seq (DS.par (DA.cons (DE.op DR.add (DE.c fun _ => .int _) (DE.call (fun _ => .nil) (DA.cons DE.var (DA.cons (DE.c fun _ => .int _) DA.nil))) NE2.add) (DA.cons (DE.op DR.add (DE.c fun _ => .int _) (DE.call (fun _ => .nil) (DA.cons DE.var (DA.cons (DE.c fun _ => .int _) DA.nil))) NE2.add) DA.nil)))
      (DS.seq (DS.asg (DE.cb DB.sorted (DA.cons (DE.lc (DI.iter (DE.op DR.add (DE.call (fun _ => .nil) (DA.cons DE.var DA.nil)) (DE.call (fun _ => .nil) (DA.cons DE.var DA.nil)) NE2.add)) DG.name Goes.name (WT.name (by decide)) DT.yes (DE.cb DB.intOf (DA.cons DE.var DA.nil) NEL.intOf)) DA.nil) NEL.sorted) DG.name Goes.name)
      (DS.seq (DS.ifs (DT.gc (DT.test (DE.op DR.ne (DE.cb DB.list (DA.cons (DE.call (fun _ => .nil) (DA.cons (DE.call (fun _ => .nil) (DA.cons DE.var (DA.cons DE.var DA.nil))) DA.nil)) DA.nil) NEL.list) DE.var NE2.ne))) (DS.ret (DE.c fun _ => .bl _)) DS.next)
      (DS.ifs (DT.gc (DT.test (DE.op DR.ne (DE.call (fun _ => .nil) (DA.cons DE.var DA.nil)) (DE.op DR.eq (DE.cb DB.len (DA.cons (DE.call (fun _ => .nil) (DA.cons DE.var DA.nil)) DA.nil) NEL.len) (DE.c fun _ => .int _) NE2.eq) NE2.ne))) (DS.ret (DE.c fun _ => .bl _)) DS.next)))))))))))
      (DS.ret (DE.c fun _ => .bl _))))) q⟩
end
end Pf
set_option linter.all false
set_option maxRecDepth 100000
namespace TW
/-- the exclusive or of the items behind b whose places are digits of p -/
def act : Nat → Nat → (Nat → Nat) → Nat → Nat
  | 0, _, _, _ => 0
  | n + 1, p, u, b => (if p % 2 = 1 then u b else 0) ^^^ act n (p / 2) u (b + 1)
theorem xor4 (a b c d : Nat) : (a ^^^ b) ^^^ (c ^^^ d) = (a ^^^ c) ^^^ (b ^^^ d) := by
  rw [Nat.xor_assoc, Nat.xor_assoc, ← Nat.xor_assoc b c d, Nat.xor_comm b c, Nat.xor_assoc c b d]
theorem xor_mod2 (p q : Nat) : (p ^^^ q) % 2 = (p % 2 + q % 2) % 2 := by
  have h := Nat.testBit_xor p q 0
  simp only [Nat.testBit_zero] at h
  have a := Nat.mod_two_eq_zero_or_one p
  have b := Nat.mod_two_eq_zero_or_one q
  have c := Nat.mod_two_eq_zero_or_one (p ^^^ q)
  rcases a with a | a <;> rcases b with b | b <;> rcases c with c | c <;> simp [a, b, c] at h ⊢
theorem xor_div2 (p q : Nat) : (p ^^^ q) / 2 = (p / 2) ^^^ (q / 2) := by
  simpa [Nat.shiftRight_eq_div_pow] using @Nat.shiftRight_xor_distrib 1 p q
theorem act_xor : ∀ (n p q : Nat) (u : Nat → Nat) (b : Nat), act n (p ^^^ q) u b = act n p u b ^^^ act n q u b
  | 0, p, q, u, b => by simp [act]
  | n + 1, p, q, u, b => by
    unfold act
    rw [xor_div2, act_xor n, xor_mod2, xor4]
    congr 1
    rcases Nat.mod_two_eq_zero_or_one p with a | a <;> rcases Nat.mod_two_eq_zero_or_one q with c | c <;> simp [a, c]
theorem act_zero : ∀ (n : Nat) (u : Nat → Nat) (b : Nat), act n 0 u b = 0
  | 0, u, b => rfl
  | n + 1, u, b => by unfold act; simp [act_zero n]
theorem act_shift : ∀ (n p : Nat) (u : Nat → Nat) (b k : Nat), act n p (fun b => u (b + k)) b = act n p u (b + k)
  | 0, p, u, b, k => rfl
  | n + 1, p, u, b, k => by
    unfold act
    rw [act_shift n, show b + 1 + k = b + k + 1 by omega]
theorem act_fuel : ∀ (n m p : Nat) (u : Nat → Nat) (b : Nat), p < 2 ^ n → n ≤ m → act m p u b = act n p u b
  | 0, m, p, u, b, h, _ => by
    have : p = 0 := by simpa using h
    rw [this, act_zero]; rfl
  | n + 1, 0, p, u, b, h, k => by omega
  | n + 1, m + 1, p, u, b, h, k => by
    unfold act
    rw [act_fuel n m (p / 2) u (b + 1) (by rw [Nat.pow_succ] at h; omega) (by omega)]
theorem act_lin : ∀ (n p : Nat) (u v : Nat → Nat) (b : Nat), act n p (fun b => u b ^^^ v b) b = act n p u b ^^^ act n p v b
  | 0, p, u, v, b => by simp [act]
  | n + 1, p, u, v, b => by
    unfold act
    rw [act_lin n, xor4]
    congr 1
    by_cases h : p % 2 = 1 <;> simp [h]
theorem act_ext : ∀ (n p : Nat) (u v : Nat → Nat) (b : Nat), (∀ i, b ≤ i → u i = v i) → act n p u b = act n p v b
  | 0, p, u, v, b, h => rfl
  | n + 1, p, u, v, b, h => by
    unfold act
    rw [h b (Nat.le_refl b), act_ext n (p / 2) u v (b + 1) fun i hi => h i (by omega)]
theorem act_nil : ∀ (n p : Nat) (b : Nat), act n p (fun _ => 0) b = 0
  | 0, p, b => rfl
  | n + 1, p, b => by unfold act; rw [act_nil n]; simp
def A (p : Nat) (u : Nat → Nat) (b : Nat) : Nat := act p p u b
theorem A_fuel {n p : Nat} (h : p < 2 ^ n) (u : Nat → Nat) (b : Nat) : A p u b = act n p u b := by
  unfold A
  rcases Nat.le_total n p with k | k
  · exact act_fuel n p p u b h k
  · exact (act_fuel p n p u b Nat.lt_two_pow_self k).symm
theorem lt_big {p n : Nat} (h : p ≤ n) : p < 2 ^ n := Nat.lt_of_lt_of_le Nat.lt_two_pow_self (Nat.pow_le_pow_right (by decide) h)
theorem A_xor (p q : Nat) (u : Nat → Nat) (b : Nat) : A (p ^^^ q) u b = A p u b ^^^ A q u b := by
  rw [A_fuel (lt_big (n := p + q + (p ^^^ q)) (by omega)), A_fuel (p := p) (lt_big (n := p + q + (p ^^^ q)) (by omega)), A_fuel (p := q) (lt_big (n := p + q + (p ^^^ q)) (by omega)), act_xor]
theorem A_zero (u : Nat → Nat) (b : Nat) : A 0 u b = 0 := rfl
theorem A_step (p : Nat) (u : Nat → Nat) (b : Nat) : A p u b = (if p % 2 = 1 then u b else 0) ^^^ A (p / 2) u (b + 1) := by
  rw [A_fuel (lt_big (n := p + 1) (by omega)), A_fuel (p := p / 2) (lt_big (n := p) (by omega))]
  rfl
theorem A_one (u : Nat → Nat) (b : Nat) : A 1 u b = u b := by rw [A_step]; simp [A_zero]
theorem A_two (p : Nat) (u : Nat → Nat) (b : Nat) : A (2 * p) u b = A p u (b + 1) := by
  rw [A_step, show 2 * p % 2 = 0 by omega, show 2 * p / 2 = p by omega]
  simp
theorem A_shl (p : Nat) (u : Nat → Nat) : ∀ (k b : Nat), A (p * 2 ^ k) u b = A p u (b + k)
  | 0, b => by simp
  | k + 1, b => by
    rw [Nat.pow_succ, show p * (2 ^ k * 2) = 2 * (p * 2 ^ k) by rw [← Nat.mul_assoc]; exact Nat.mul_comm _ _, A_two, A_shl p u k, show b + 1 + k = b + (k + 1) by omega]
theorem A_shift (p : Nat) (u : Nat → Nat) (b k : Nat) : A p (fun b => u (b + k)) b = A p u (b + k) := act_shift p p u b k
theorem A_ext {p : Nat} {u v : Nat → Nat} {b : Nat} (h : ∀ i, b ≤ i → u i = v i) : A p u b = A p v b := act_ext p p u v b h
theorem A_nil (p b : Nat) : A p (fun _ => 0) b = 0 := act_nil p p b
theorem A_lin (p : Nat) (u v : Nat → Nat) (b : Nat) : A p (fun b => u b ^^^ v b) b = A p u b ^^^ A p v b := act_lin p p u v b
/-- products -/
def prodN : Nat → Nat → Nat → Nat → Nat
  | 0, f, _, _ => f
  | n + 1, f, s, r => if r = 0 then f else prodN n (if r % 2 = 1 then f ^^^ s else f) (2 * s) (r / 2)
theorem A_prodN (u : Nat → Nat) : ∀ (n f s r b : Nat), r < 2 ^ n → A (prodN n f s r) u b = A f u b ^^^ A r (A s u) b
  | 0, f, s, r, b, h => by
    have : r = 0 := by simpa using h
    subst this
    show A f u b = _
    rw [A_zero, Nat.xor_zero]
  | n + 1, f, s, r, b, h => by
    unfold prodN
    by_cases hr : r = 0
    · subst hr
      rw [if_pos rfl, A_zero, Nat.xor_zero]
    · rw [if_neg hr, A_prodN u n _ _ _ b (by rw [Nat.pow_succ] at h; omega), A_step r]
      have e : A (r / 2) (A (2 * s) u) b = A (r / 2) (A s u) (b + 1) := by
        rw [← A_shift]
        exact A_ext fun i _ => A_two s u i
      rw [e]
      by_cases h2 : r % 2 = 1
      · rw [if_pos h2, if_pos h2, A_xor, Nat.xor_assoc]
      · rw [if_neg h2, if_neg h2, Nat.zero_xor]
/-- rests -/
def len (n : Nat) : Nat := if n = 0 then 0 else n.log2 + 1
theorem len_pos {n : Nat} (h : n ≠ 0) : len n = n.log2 + 1 := if_neg h
theorem lt_len (n : Nat) : n < 2 ^ len n := by
  unfold len
  split
  · subst n; decide
  · exact Nat.lt_log2_self
theorem len_le {n k : Nat} (h : n < 2 ^ k) : len n ≤ k := by
  unfold len
  split
  · omega
  · rename_i hn
    exact (Nat.log2_lt hn).mpr h
theorem le_len {n k : Nat} (h : 2 ^ k ≤ n) : k < len n := by
  have hn : n ≠ 0 := by have := Nat.pow_pos (n := k) (show 0 < 2 by decide); omega
  rw [len_pos hn]
  exact Nat.lt_succ_of_le ((Nat.le_log2 hn).mpr h)
theorem len_ge {n : Nat} (h : n ≠ 0) : 2 ^ (len n - 1) ≤ n := by
  rw [len_pos h]
  exact Nat.log2_self_le h
/-- the highest digits go away -/
theorem top_xor {k a b : Nat} (ha : 2 ^ k ≤ a) (ha2 : a < 2 ^ (k + 1)) (hb : 2 ^ k ≤ b) (hb2 : b < 2 ^ (k + 1)) : a ^^^ b < 2 ^ k := by
  refine Nat.lt_pow_two_of_testBit _ fun i hi => ?_
  rw [Nat.testBit_xor]
  rcases Nat.lt_or_ge k i with h | h
  · rw [Nat.testBit_lt_two_pow (Nat.lt_of_lt_of_le ha2 (Nat.pow_le_pow_right (by decide) h)), Nat.testBit_lt_two_pow (Nat.lt_of_lt_of_le hb2 (Nat.pow_le_pow_right (by decide) h))]
    rfl
  · have e : i = k := by omega
    subst e
    have t : ∀ c, 2 ^ i ≤ c → c < 2 ^ (i + 1) → c.testBit i = true := fun c h1 h2 => by
      rw [Nat.testBit_eq_decide_div_mod_eq]
      have : c / 2 ^ i = 1 := by
        rw [Nat.pow_succ] at h2
        exact Nat.div_eq_of_lt_le (by omega) (by omega)
      rw [this]
      decide
    rw [t a ha ha2, t b hb hb2]
    rfl
/-- a step of a division: the rest's highest digit goes -/
theorem len_step {r m : Nat} (hm : m ≠ 0) (h : len m ≤ len r) : len (r ^^^ m * 2 ^ (len r - len m)) < len r := by
  have hr : r ≠ 0 := fun z => by
    subst z
    have : len 0 = 0 := rfl
    have : len m = m.log2 + 1 := len_pos hm
    omega
  have lr := len_pos hr
  have lm := len_pos hm
  have r1 := lt_len r
  have r2 := len_ge hr
  have m1 := lt_len m
  have m2 := len_ge hm
  have e : ∀ a b : Nat, a ≤ b → 2 ^ a * 2 ^ (b - a) = 2 ^ b := fun a b hab => by rw [← Nat.pow_add]; congr 1; omega
  have := top_xor (k := len r - 1) (a := r) (b := m * 2 ^ (len r - len m)) r2 (by rw [show len r - 1 + 1 = len r by omega]; exact r1)
    (by
      have := Nat.mul_le_mul_right (2 ^ (len r - len m)) m2
      rw [show len r - len m = (len r - 1) - (len m - 1) by omega] at this ⊢
      rw [e _ _ (by omega)] at this
      exact this)
    (by
      rw [show len r - 1 + 1 = len r by omega]
      have := Nat.mul_lt_mul_of_pos_right m1 (Nat.pow_pos (n := len r - len m) (show 0 < 2 by decide))
      rw [e _ _ h] at this
      exact this)
  have := len_le this
  omega
def restN : Nat → Nat → Nat → Nat
  | 0, r, _ => r
  | n + 1, r, m => if len m ≤ len r then restN n (r ^^^ m * 2 ^ (len r - len m)) m else r
theorem A_restN {m : Nat} {u : Nat → Nat} (hm : ∀ b, A m u b = 0) : ∀ (n r b : Nat), A (restN n r m) u b = A r u b
  | 0, r, b => rfl
  | n + 1, r, b => by
    unfold restN
    split
    · rw [A_restN hm n, A_xor, A_shl, hm, Nat.xor_zero]
    · rfl
theorem restN_lt {m : Nat} (hm : m ≠ 0) : ∀ (n r : Nat), len r < n + len m → len (restN n r m) < len m
  | 0, r, h => by unfold restN; omega
  | n + 1, r, h => by
    unfold restN
    split
    · rename_i hl
      refine restN_lt hm n _ ?_
      have := len_step hm hl
      omega
    · omega
abbrev RULE : Nat := 2147483657
abbrev PER : Nat := 2147483647
def Rec (u : Nat → Nat) : Prop := ∀ i, u (i + 31) = u i ^^^ u (i + 3)
theorem Rec.shift {u : Nat → Nat} (h : Rec u) (k : Nat) : Rec fun i => u (i + k) := fun i => by
  have := h (i + k)
  rw [show i + k + 31 = i + 31 + k by omega, show i + k + 3 = i + 3 + k by omega] at this
  exact this
theorem xor_self3 (a b : Nat) : a ^^^ (b ^^^ (a ^^^ b)) = 0 := by
  rw [Nat.xor_comm a b, ← Nat.xor_assoc b b a, Nat.xor_self, Nat.zero_xor, Nat.xor_self]
theorem A_rule {u : Nat → Nat} (h : Rec u) (b : Nat) : A RULE u b = 0 := by
  have e : RULE = 1 ^^^ (1 * 2 ^ 3 ^^^ 1 * 2 ^ 31) := by decide
  rw [e, A_xor, A_xor, A_shl, A_shl, A_one, A_one, A_one, h b]
  exact xor_self3 _ _
/-- a polynomial that does what k steps do -/
def Does (p k : Nat) : Prop := ∀ u, Rec u → ∀ b, A p u b = u (b + k)
theorem Does.one : Does 1 0 := fun u _ b => A_one u b
theorem Does.two : Does 2 1 := fun u _ b => by rw [show (2 : Nat) = 2 * 1 from rfl, A_two, A_one]
theorem Does.rest {p k n : Nat} (h : Does p k) : Does (restN n p RULE) k := fun u hu b => by rw [A_restN (A_rule hu)]; exact h u hu b
theorem Does.prod {p q j k n : Nat} (h : Does p j) (g : Does q k) (hn : q < 2 ^ n) : Does (prodN n 0 p q) (j + k) := fun u hu b => by
  rw [A_prodN u n 0 p q b hn, A_zero, Nat.zero_xor]
  have e : A q (A p u) b = A q (fun i => u (i + j)) b := A_ext fun i _ => h u hu i
  rw [e, A_shift, g u hu, show b + j + k = b + (j + k) by omega]
/-- squares -/
def sq (p : Nat) : Nat := restN 64 (prodN 40 0 p p) RULE
def sqs : Nat → Nat → Nat
  | 0, p => p
  | n + 1, p => sqs n (sq p)
theorem len_rule : len RULE = 32 := by decide
theorem sq_lt {p : Nat} (h : len (prodN 40 0 p p) < 96) : len (sq p) < 32 := by
  have := restN_lt (m := RULE) (by decide) 64 (prodN 40 0 p p) (by rw [len_rule]; omega)
  rw [len_rule] at this
  exact this
/-- 31 squares of t are t -/
theorem sqs31 : sqs 31 2 = 2 := by decide +kernel
theorem prodN_lt : ∀ (n f s r k : Nat), f < 2 ^ (k + n) → s < 2 ^ k → prodN n f s r < 2 ^ (k + n)
  | 0, f, s, r, k, h, _ => h
  | n + 1, f, s, r, k, h, hs => by
    unfold prodN
    split
    · exact h
    · rw [show k + (n + 1) = (k + 1) + n by omega] at h ⊢
      refine prodN_lt n _ _ _ (k + 1) ?_ (by rw [Nat.pow_succ]; omega)
      split
      · exact Nat.xor_lt_two_pow h (Nat.lt_of_lt_of_le hs (Nat.pow_le_pow_right (by decide) (by omega)))
      · exact h
theorem sq_ok {p k : Nat} (h : Does p k) (hp : len p < 32) : Does (sq p) (2 * k) ∧ len (sq p) < 32 := by
  have h31 : p < 2 ^ 31 := Nat.lt_of_lt_of_le (lt_len p) (Nat.pow_le_pow_right (by decide) (by omega))
  refine ⟨?_, sq_lt ?_⟩
  · rw [show 2 * k = k + k by omega]
    exact (h.prod h (n := 40) (Nat.lt_of_lt_of_le h31 (by decide))).rest
  · have := len_le (prodN_lt 40 0 p p 31 (Nat.pow_pos (by decide)) h31)
    omega
theorem sqs_ok : ∀ (n : Nat) {p k : Nat}, Does p k → len p < 32 → Does (sqs n p) (k * 2 ^ n) ∧ len (sqs n p) < 32
  | 0, p, k, h, hp => ⟨by rw [Nat.pow_zero, Nat.mul_one]; exact h, hp⟩
  | n + 1, p, k, h, hp => by
    obtain ⟨a, b⟩ := sq_ok h hp
    have := sqs_ok n a b
    rw [show k * 2 ^ (n + 1) = 2 * k * 2 ^ n by rw [Nat.pow_succ, ← Nat.mul_assoc, Nat.mul_comm (k * 2 ^ n) 2, ← Nat.mul_assoc]]
    exact this
theorem does31 : Does 2 (2 ^ 31) := by
  have := (sqs_ok 31 Does.two (by decide)).1
  rw [sqs31, Nat.one_mul] at this
  exact this
/-- a window tells what is ahead of it and what is behind -/
theorem Rec.back {u : Nat → Nat} (h : Rec u) (i : Nat) : u i = u (i + 31) ^^^ u (i + 3) := by
  rw [h i, Nat.xor_assoc, Nat.xor_self, Nat.xor_zero]
theorem Rec.same {u v : Nat → Nat} (hu : Rec u) (hv : Rec v) {n : Nat} (h : ∀ i, i < 31 → u (n + i) = v (n + i)) : ∀ i, u i = v i := by
  have up : ∀ k i, n ≤ i → i < n + k → u i = v i := by
    intro k
    induction k with
    | zero => intro i h1 h2; omega
    | succ k ih =>
      intro i h1 h2
      by_cases hi : i < n + 31
      · have := h (i - n) (by omega)
        rw [show n + (i - n) = i by omega] at this
        exact this
      · have e1 := ih (i - 31) (by omega) (by omega)
        have e2 := ih (i - 28) (by omega) (by omega)
        have a := hu (i - 31)
        have b := hv (i - 31)
        rw [show i - 31 + 31 = i by omega, show i - 31 + 3 = i - 28 by omega] at a b
        rw [a, b, e1, e2]
  have down : ∀ k i, n ≤ i + k → u i = v i := by
    intro k
    induction k with
    | zero => intro i hi; exact up (i + 1) i hi (by omega)
    | succ k ih =>
      intro i hi
      rw [hu.back i, hv.back i, ih (i + 31) (by omega), ih (i + 3) (by omega)]
  exact fun i => down n i (by omega)
theorem Rec.per {u : Nat → Nat} (h : Rec u) (i : Nat) : u (i + PER) = u i := by
  have e : ∀ j, u (j + 1 + PER) = u (j + 1) := fun j => by
    have a := does31 u h j
    have b := Does.two u h j
    rw [a] at b
    rw [show j + 1 + PER = j + 2 ^ 31 from by show j + 1 + 2147483647 = _; omega]
    exact b
  rw [show u (i + PER) = (fun i => u (i + PER)) i from rfl]
  exact Rec.same (n := 1) (h.shift PER) h (fun j _ => by
    show u (1 + j + PER) = _
    rw [show 1 + j = j + 1 by omega]; exact e j) i
theorem Rec.pers {u : Nat → Nat} (h : Rec u) (i : Nat) : ∀ k, u (i + PER * k) = u i
  | 0 => rfl
  | k + 1 => by rw [show i + PER * (k + 1) = i + PER * k + PER by rw [Nat.mul_succ, Nat.add_assoc], h.per, Rec.pers h i k]
theorem Rec.mod {u : Nat → Nat} (h : Rec u) (i n : Nat) : u (i + n % PER) = u (i + n) := by
  have := h.pers (i + n % PER) (n / PER)
  rw [show i + n % PER + PER * (n / PER) = i + n by have := Nat.mod_add_div n PER; omega] at this
  exact this.symm
/-- a power of t -/
theorem Does.step {f q a b : Nat} (hf : Does f a) (hq : Does q b) (lf : len f < 32) (lq : len q < 32) : Does (restN 64 (prodN 31 0 f q) RULE) (a + b) ∧ len (restN 64 (prodN 31 0 f q) RULE) < 32 := by
  have q31 : q < 2 ^ 31 := Nat.lt_of_lt_of_le (lt_len q) (Nat.pow_le_pow_right (by decide) (by omega))
  have f31 : f < 2 ^ 31 := Nat.lt_of_lt_of_le (lt_len f) (Nat.pow_le_pow_right (by decide) (by omega))
  refine ⟨(hf.prod hq q31).rest, ?_⟩
  have h := len_le (prodN_lt 31 0 f q 31 (Nat.pow_pos (by decide)) f31)
  have := restN_lt (m := RULE) (by decide) 64 (prodN 31 0 f q) (by rw [len_rule]; omega)
  rw [len_rule] at this
  exact this
end TW
set_option Elab.async false
set_option linter.all false
set_option maxRecDepth 100000
set_option maxHeartbeats 1000000
set_option exponentiation.threshold 3000
namespace Pf
open PySem Ab
theorem gcT_f {f : AT} {σ : ASt} {s : Sto} {b : Bool} (h : f σ s = .ok b s) : gcT f σ s = .ok b s := gcT0 h (.refl s) (cut_self s)
theorem z1 : ((1 : Nat) ≤ sizeLine) = True := eq_true (by decide)
theorem z2 : ((2 : Nat) ≤ sizeLine) = True := eq_true (by decide)
theorem z3 : ((3 : Nat) ≤ sizeLine) = True := eq_true (by decide)
theorem z4 : ((4 : Nat) ≤ sizeLine) = True := eq_true (by decide)
theorem z5 : ((5 : Nat) ≤ sizeLine) = True := eq_true (by decide)
theorem z6 : ((6 : Nat) ≤ sizeLine) = True := eq_true (by decide)
theorem z7 : ((7 : Nat) ≤ sizeLine) = True := eq_true (by decide)
theorem z8 : ((8 : Nat) ≤ sizeLine) = True := eq_true (by decide)
theorem z9 : ((9 : Nat) ≤ sizeLine) = True := eq_true (by decide)
theorem z10 : ((10 : Nat) ≤ sizeLine) = True := eq_true (by decide)
theorem z11 : ((11 : Nat) ≤ sizeLine) = True := eq_true (by decide)
theorem z12 : ((12 : Nat) ≤ sizeLine) = True := eq_true (by decide)
theorem z13 : ((13 : Nat) ≤ sizeLine) = True := eq_true (by decide)
theorem z14 : ((14 : Nat) ≤ sizeLine) = True := eq_true (by decide)
theorem z15 : ((15 : Nat) ≤ sizeLine) = True := eq_true (by decide)
theorem z16 : ((16 : Nat) ≤ sizeLine) = True := eq_true (by decide)
local macro_rules | `(tactic| simp! [$xs,*]) => `(tactic| try simp (config := {maxSteps := 1000000}) only [k_bind, k_Kb, k_st, k_Kst, k_Rst, k_thn, k_loop, k_fn, k_forget, k_clr, k_noX, k_try, k_stuck, k_Astuck, d_thn_nx, d_thn_bk, d_thn_ct, d_thn_rt, d_thn_er, d_lp_nx, d_lp_bk, d_lp_ct, d_lp_rt, d_lp_er, d_fg_nx, d_fg_bk, d_fg_ct, d_fg_rt, d_fg_er, d_cl_nx, d_cl_bk, d_cl_ct, d_cl_rt, d_cl_er, d_tr_nx, d_tr_bk, d_tr_ct, d_tr_rt, d_tr_er, d_nX_nx, d_nX_bk, d_nX_ct, d_nX_rt, d_nX_er, d_fn_nx, d_fn_bk, d_fn_ct, d_fn_rt, d_fn_er, A_nx, A_bk, A_ct, A_rt, A_err, post_ok, post_err, post_noErr, e_op, e_opK, e_un, e_cb, e_nil, e_c, e_cons, e_consK, e_consK2, e_and, e_or, e_andK, e_orK, e_not, e_notK, e_test, e_testK, e_tand, e_tandK, e_tor, e_torK, e_tnot, e_tnotK, e_yes, e_if, e_ifK, e_ch, e_chK1, e_chK2, e_chK3, e_tup, e_tupK, e_lst, e_lstK, e_newL, e_call, e_callK, e_meth, e_methK, e_methK2, e_prop, e_propK, e_make, e_makeK, e_makeK2, e_makeV, e_sm, e_smK, e_smK2, e_cm, e_cmK, e_cmK2, e_sl, e_slK1, e_slK2, e_slK3, e_part, e_partK, e_nopart, e_rev, e_bm, e_bmK, e_pr, e_pr0, e_prK1, e_prK2, e_prK3, e_disp, e_dnew, e_own, e_ownK, e_lc, e_lcK, e_iter, e_rng1, e_rng1K, e_rng2, e_rng2K, e_enum, s_drop, s_dropK, s_ret, s_retK, s_retN, s_next, s_break, s_cont, s_seq, s_if, s_ifK, s_asg, s_asgK, s_name, s_par, s_parK, s_par3, s_parK3, s_gnil, s_gcons, s_gtup, s_for, s_forK, s_raise, s_raiseK, s_sf, s_sfK1, s_sfK2, s_dp, s_dpK1, s_dpK2, s_dpK3, s_forget, s_def, s_fld, e_enumU, e_enumUT, e_match, e_mcase, e_mcase2, e_many, e_mnil, e_lcX, e_lcXK, e_get2, e_methS, e_methS1, e_methS2, s_augS, s_augS1, gEqS_int, gEqS_str, gEqS_bl, gEqS_tup, e_fmt, e_js, e_jsC, e_jsN, e_join, e_joinK, eq_self, beq_self_eq_true, k_grd, k_grdS, k_ite, k_Aite, true_implies, false_implies, implies_true, List.map_cons, List.map_nil, List.nil_append, List.cons_append, List.append_nil, List.replicate_succ, List.replicate_zero, List.getElem?_cons_zero, List.getElem?_cons_succ, List.length_cons, List.length_nil, List.set_cons_zero, List.set_cons_succ, ↓reduceIte, ↓reduceDIte, Nat.reduceAdd, Nat.reduceLeDiff, Nat.reduceEqDiff, Nat.zero_add, if_true, if_false, aVar, gMinus_int, gLt_int, gLe_int, gGt_int, gGe_int, gEq_int, gNe_int, gEq_str, gNe_str, gEq_bl, gNe_bl, gXor_int, gAnd_int, gOr_int, gAdd_int, gIsN_non, gNotN_non, gIsB_bl, gNotB_bl, gNeg_int, gLen_tup, gLen_scr, gMax2_int, gMin2_int, gBits_int, gSl_tup, gSl_scr, Bool.not_true, Bool.not_false, Bool.true_eq_false, Bool.false_eq_true, Bool.true_and, Bool.false_and, Bool.and_true, Bool.and_false, Bool.true_or, Bool.false_or, decide_true, decide_false, and_self, and_true, true_and, and_false, false_and, not_true_eq_false, not_false_eq_true, reduceCtorEq, kz, z1, z2, z3, z4, z5, z6, z7, z8, z9, z10, z11, z12, z13, z14, z15, z16, isCls, isNon, aForget, aHand, toKey, keysA, iterOf_tup, iterOf_scr, oNx_some, noErr_ok, decide_eq_true_eq, decide_eq_false_iff_not, Sto.new_n, Sto.set_n, Sto.set_at, Sto.new_at, Nat.zero_le, aMakeV, Cl_non, Cl_bl, Cl_int, Cl_str, Cl_cls, Cl_obj, Cl_tup, ClL_nil, ClL_cons, $xs,*])
local macro_rules | `(tactic| simp! only [$xs,*]) => `(tactic| simp only [e_op, e_opK, e_un, e_cb, e_nil, e_c, e_cons, e_consK, e_consK2, e_and, e_or, e_andK, e_orK, e_not, e_notK, e_test, e_testK, e_tand, e_tandK, e_tor, e_torK, e_tnot, e_tnotK, e_yes, e_if, e_ifK, e_ch, e_chK1, e_chK2, e_chK3, e_tup, e_tupK, e_lst, e_lstK, e_newL, e_call, e_callK, e_meth, e_methK, e_methK2, e_prop, e_propK, e_make, e_makeK, e_makeK2, e_makeV, e_sm, e_smK, e_smK2, e_cm, e_cmK, e_cmK2, e_sl, e_slK1, e_slK2, e_slK3, e_part, e_partK, e_nopart, e_rev, e_bm, e_bmK, e_pr, e_pr0, e_prK1, e_prK2, e_prK3, e_disp, e_dnew, e_own, e_ownK, e_lc, e_lcK, e_iter, e_rng1, e_rng1K, e_rng2, e_rng2K, e_enum, s_drop, s_dropK, s_ret, s_retK, s_retN, s_next, s_break, s_cont, s_seq, s_if, s_ifK, s_asg, s_asgK, s_name, s_par, s_parK, s_par3, s_parK3, s_gnil, s_gcons, s_gtup, s_for, s_forK, s_raise, s_raiseK, s_sf, s_sfK1, s_sfK2, s_dp, s_dpK1, s_dpK2, s_dpK3, s_forget, s_def, s_fld, e_enumU, e_enumUT, e_match, e_mcase, e_mcase2, e_many, e_mnil, e_lcX, e_lcXK, e_get2, e_methS, e_methS1, e_methS2, s_augS, s_augS1, gEqS_int, gEqS_str, gEqS_bl, gEqS_tup, e_fmt, e_js, e_jsC, e_jsN, e_join, e_joinK, eq_self, beq_self_eq_true, true_implies, false_implies, implies_true, List.map_cons, List.map_nil, List.nil_append, List.cons_append, List.append_nil, List.replicate_succ, List.replicate_zero, List.getElem?_cons_zero, List.getElem?_cons_succ, List.length_cons, List.length_nil, List.set_cons_zero, List.set_cons_succ, ↓reduceIte, ↓reduceDIte, Nat.reduceAdd, Nat.reduceLeDiff, Nat.reduceEqDiff, Nat.zero_add, if_true, if_false, aVar, gMinus_int, gLt_int, gLe_int, gGt_int, gGe_int, gEq_int, gNe_int, gEq_str, gNe_str, gEq_bl, gNe_bl, gXor_int, gAnd_int, gOr_int, gAdd_int, gIsN_non, gNotN_non, gIsB_bl, gNotB_bl, gNeg_int, gLen_tup, gLen_scr, gMax2_int, gMin2_int, gBits_int, gSl_tup, gSl_scr, Bool.not_true, Bool.not_false, Bool.true_eq_false, Bool.false_eq_true, Bool.true_and, Bool.false_and, Bool.and_true, Bool.and_false, Bool.true_or, Bool.false_or, decide_true, decide_false, and_self, and_true, true_and, and_false, false_and, not_true_eq_false, not_false_eq_true, reduceCtorEq, kz, z1, z2, z3, z4, z5, z6, z7, z8, z9, z10, z11, z12, z13, z14, z15, z16, isCls, isNon, aForget, aHand, toKey, keysA, iterOf_tup, iterOf_scr, oNx_some, noErr_ok, decide_eq_true_eq, decide_eq_false_iff_not, Sto.new_n, Sto.set_n, Sto.set_at, Sto.new_at, Nat.zero_le, aMakeV, Cl_non, Cl_bl, Cl_int, Cl_str, Cl_cls, Cl_obj, Cl_tup, ClL_nil, ClL_cons, grd_pos, grdS_pos, Res.bind_ok, Res.bind_err, Res.st_ok, Res.st_err, SRes.thn_nx, SRes.thn_rt, SRes.thn_err, SRes.fn_rt, SRes.fn_nx, SRes.fn_err, SRes.loop_nx, SRes.loop_rt, SRes.loop_err, SRes.loop_ct, SRes.loop_bk, SRes.forget_nx, SRes.forget_rt, SRes.forget_err, SRes.clr_nx, SRes.clr_rt, SRes.noX_nx, SRes.noX_rt, aTry, sizeLine_ge, $xs,*])
theorem isi_ty {x : AV} {a n : String} {r : Bool} {s : Sto} (h1 : tyN s x = some a) (h2 : kitP a n = some r) (h3 : n ∈ bnames) : gIsi (kitB n) [x, .ty n] s = .ok (.bl r) s := gIsi_ty h1 (by rw [kitB_self]; exact h2) h3
theorem is_int (i : Int) (s : Sto) : F_is_integer [.int i] s = .ok (.bl true) s := by
  refine gc0 ?_ (by simp)
  have h1 : gIsi (kitB "int") [.int i, .ty "int"] s = .ok (.bl true) s := isi_ty (a := "int") rfl (by decide) (by decide)
  have h2 : gIsi (kitB "bool") [.int i, .ty "bool"] s = .ok (.bl false) s := isi_ty (a := "int") rfl (by decide) (by decide)
  simp! only [B_is_integer, h1, h2]
theorem gc0' {F : List AV → Sto → Res AV} {args : List AV} {s : Sto} {v : AV} (h : (F args s).Post (fun v' s' => v' = v ∧ Cl s.n v ∧ Gb s s') (fun _ _ _ _ => False)) : gcF F args s = .ok v s :=
  res_ok (gcF_g (h.mono (fun v' s' z => ⟨z.1 ▸ z.2.1, z.2.2, z.1, rfl⟩) fun _ _ _ _ z => z.elim))
/-- a law's draws: what is left of the cell, the cell, the turns -/
abbrev drC (l c t : Int) : Cell := .dic [(.inr "left", .int l), (.inr "cell", .int c), (.inr "turns", .int t)]
structure Dr (d : Nat) (s : Sto) (B : Nat) : Prop where
  lt : d < s.n
  ex : ∃ l c t : Int, s.c d = drC l c t ∧ 0 ≤ l ∧ 0 ≤ t ∧ t ≤ B
/-- all but d stays -/
def Upto (d : Nat) (s s' : Sto) : Prop := s'.n = s.n ∧ ∀ i, i ≠ d → s'.c i = s.c i
theorem Upto.refl (d : Nat) (s : Sto) : Upto d s s := ⟨rfl, fun _ _ => rfl⟩
theorem Upto.trans {d : Nat} {s s1 s2 : Sto} (a : Upto d s s1) (b : Upto d s1 s2) : Upto d s s2 := ⟨b.1.trans a.1, fun i h => (b.2 i h).trans (a.2 i h)⟩
theorem Upto.set {d : Nat} {s : Sto} {x : Cell} : Upto d s (s.set d x) := ⟨rfl, fun i h => Sto.set_ne h⟩
theorem cmul {i j : Int} {m n : Nat} (hi : i.natAbs < 2 ^ m) (hj : j.natAbs < 2 ^ n) (h : m + n ≤ 134217728) : L2.CMulX i j := by
  have h1 := PySem.intBits_le_iff.mpr hi
  have h2 := PySem.intBits_le_iff.mpr hj
  show (Builtin.Int.intBits i : Int) + (Builtin.Int.intBits j : Int) ≤ 134217728
  omega
theorem gMul_ok {i j : Int} {m n : Nat} {s : Sto} (hi : i.natAbs < 2 ^ m) (hj : j.natAbs < 2 ^ n) (h : m + n ≤ 134217728) : gMul (.int i) (.int j) s = .ok (.int (i * j)) s := gMul_int (cmul hi hj h)
theorem rg4 : -(2 ^ 62) ≤ (4 : Int) ∧ (4 : Int) < 2 ^ 62 := by decide
theorem drCl {n : Nat} {l c t : Int} : ClC n (drC l c t) := by simp [ClC]
theorem Upto.clean {d B : Nat} {s s' : Sto} (u : Upto d s s') (D : Dr d s' B) : Clean s s' := by
  obtain ⟨l, c, t, h, _⟩ := D.ex
  refine ⟨Nat.le_of_eq u.1.symm, fun i hi => ?_⟩
  by_cases e : i = d
  · subst e
    exact .inr (by rw [h]; exact drCl)
  · exact .inl (u.2 i e)
theorem Upto.cut {d B : Nat} {s s' : Sto} (u : Upto d s s') (D : Dr d s' B) : s'.cut s = s' := by
  have lt := D.lt
  have h1 := u.1
  cases s' with
  | mk n' c' =>
    cases s with
    | mk n c =>
      unfold Sto.cut
      simp only at h1
      subst h1
      simp only [Sto.mk.injEq, true_and]
      funext j
      by_cases hj : j < n'
      · simp [hj]
      · simp only [if_neg hj]
        exact (u.2 j (by have : d < n' := lt; omega)).symm
theorem Dr.mono {d B C : Nat} {s : Sto} (D : Dr d s B) (h : B ≤ C) : Dr d s C := ⟨D.lt, by
  obtain ⟨l, c, t, a, b, e, f⟩ := D.ex
  exact ⟨l, c, t, a, b, e, by omega⟩⟩
theorem gIx_tup {s : Sto} {xs : List AV} {i : Int} {v : AV} (h : L2.atI xs i = some v) : gIx (.tup xs) (.int i) s = .ok v s := gIx_seq seqOf_tup h
theorem new_set {s : Sto} {a b : Cell} : (s.new a).set s.n b = s.new b := by
  unfold Sto.new Sto.set
  simp only [Sto.mk.injEq, true_and]
  funext j
  by_cases hj : j = s.n
  · simp [hj]
  · simp [hj]
theorem m1 (i : Int) : Builtin.bitAnd i 1 = i % 2 := PySem.W.kbt_mask i 1
theorem gM2 {i : Int} {s : Sto} (h : i.natAbs < 2 ^ 100) : gMul (.int 2) (.int i) s = .ok (.int (2 * i)) s := gMul_ok (m := 2) (by decide) h (by decide)
def DrOK (B : Nat) (x : Cell) : Prop := ∃ l c t : Int, x = drC l c t ∧ 0 ≤ l ∧ 0 ≤ t ∧ t ≤ B
theorem DrOK.mono {B C : Nat} {x : Cell} (h : DrOK B x) (hb : B ≤ C) : DrOK C x := by
  obtain ⟨l, c, t, a, b, e, f⟩ := h
  exact ⟨l, c, t, a, b, e, by omega⟩
theorem DrOK.cl {B n : Nat} {x : Cell} (h : DrOK B x) : ClC n x := by
  obtain ⟨l, c, t, rfl, b, e, f⟩ := h
  exact drCl
theorem Upto.eq {d : Nat} {s s' : Sto} (u : Upto d s s') : s' = s.set d (s'.c d) := by
  obtain ⟨h1, h2⟩ := u
  cases s with
  | mk n c =>
    cases s' with
    | mk n' c' =>
      cases (show n' = n from h1)
      unfold Sto.set
      simp only [Sto.mk.injEq, true_and]
      funext j
      by_cases e : j = d
      · rw [if_pos e, e]
      · rw [if_neg e]; exact h2 j e
theorem Dr.ok {d B : Nat} {s : Sto} (D : Dr d s B) : DrOK B (s.c d) := by
  obtain ⟨l, c, t, h, a⟩ := D.ex
  exact ⟨l, c, t, h, a⟩
structure Inv (d B : Nat) (t s : Sto) : Prop where
  lt : d < t.n
  gd : Gd d t s
  ok : DrOK B (s.c d)
section
variable {P : AV → Sto → Prop} {R : String → List Str → List AV → Sto → Prop} {d B : Nat} {s t : Sto} {x : Cell}
theorem Inv.ls (S : Inv d B t s) : d < s.n := Nat.lt_of_lt_of_le S.lt S.gd.n
theorem Inv.new (S : Inv d B t s) : Inv d B t (s.new x) := ⟨S.lt, S.gd.new, by rw [at_new S.ls]; exact S.ok⟩
theorem Inv.set (S : Inv d B t s) {C : Nat} (h : DrOK C x) : Inv d C t (s.set d x) := ⟨S.lt, S.gd.set, by rw [Sto.set_at]; exact h⟩
theorem Inv.start (hd : d < s.n) (h : DrOK B (s.c d)) : Inv d B s s := ⟨hd, .refl d s, h⟩
theorem Inv.mono {C : Nat} (S : Inv d B t s) (h : B ≤ C) : Inv d C t s := ⟨S.lt, S.gd, S.ok.mono h⟩
end
theorem ix0 {a : AV} {r : List AV} {s : Sto} : gIx (.tup (a :: r)) (.int 0) s = .ok a s := gIx_tup (show L2.atI _ ((0 : Nat) : Int) = _ from L2.atI_nat rfl)
theorem ix1 {a b : AV} {r : List AV} {s : Sto} : gIx (.tup (a :: b :: r)) (.int 1) s = .ok b s := gIx_tup (show L2.atI _ ((1 : Nat) : Int) = _ from L2.atI_nat rfl)
abbrev dgC (b : Int) (g : Nat) (t : Int) : Cell := .dic [(.inr "mixed", .int b), (.inr "great", .obj g), (.inr "turn", .int t)]
structure Gd2 (d g : Nat) (s s' : Sto) : Prop where
  n : s.n ≤ s'.n
  c : ∀ i, i < s.n → i ≠ d → i ≠ g → s'.c i = s.c i
section
variable {d g : Nat} {s t u : Sto} {x : Cell}
theorem Gd2.refl (d g : Nat) (s : Sto) : Gd2 d g s s := ⟨Nat.le_refl _, fun _ _ _ _ => rfl⟩
theorem Gd2.trans (a : Gd2 d g s t) (b : Gd2 d g t u) : Gd2 d g s u := ⟨Nat.le_trans a.n b.n, fun i h e f => (b.c i (Nat.lt_of_lt_of_le h a.n) e f).trans (a.c i h e f)⟩
theorem Gd2.setd (a : Gd2 d g s t) : Gd2 d g s (t.set d x) := ⟨a.n, fun i h e f => (Sto.set_ne e).trans (a.c i h e f)⟩
theorem Gd2.setg (a : Gd2 d g s t) : Gd2 d g s (t.set g x) := ⟨a.n, fun i h e f => (Sto.set_ne f).trans (a.c i h e f)⟩
theorem Gd2.new (a : Gd2 d g s t) : Gd2 d g s (t.new x) := ⟨Nat.le_succ_of_le a.n, fun i h e f => (at_new (Nat.lt_of_lt_of_le h a.n)).trans (a.c i h e f)⟩
theorem Gd2.setn {i : Nat} (a : Gd2 d g s t) (h : s.n ≤ i) : Gd2 d g s (t.set i x) := ⟨a.n, fun j hj e f => (Sto.set_ne (by omega)).trans (a.c j hj e f)⟩
theorem Gd2.cut (a : Gd2 d g s t) (hd : d < s.n) (hg : g < s.n) : t.cut s = (s.set d (t.c d)).set g (t.c g) := by
  unfold Sto.cut Sto.set
  simp only [Sto.mk.injEq, true_and]
  funext i
  by_cases f : i = g
  · subst f; simp [hg]
  · by_cases e : i = d
    · subst e; simp [hd, f]
    · by_cases hi : i < s.n
      · simp [hi, e, f, a.c i hi e f]
      · simp [hi, e, f]
theorem Gd2.clean (a : Gd2 d g s t) (h1 : ClC s.n (t.c d)) (h2 : ClC s.n (t.c g)) : Clean s t := ⟨a.n, fun i hi => by
  by_cases e : i = d
  · subst e; exact .inr h1
  · by_cases f : i = g
    · subst f; exact .inr h2
    · exact .inl (a.c i hi e f)⟩
variable {P : AV → Sto → Prop} {R : String → List Str → List AV → Sto → Prop}
theorem gcF_d2 {F : List AV → Sto → Res AV} {args : List AV} (hd : d < s.n) (hg : g < s.n) (h : (F args s).Post (fun v s' => Cl s.n v ∧ Gd2 d g s s' ∧ (ClC s.n (s'.c d) ∧ ClC s.n (s'.c g)) ∧ P v ((s.set d (s'.c d)).set g (s'.c g))) (fun c ns vs s' => False)) : (gcF F args s).Post P R :=
  post_gcF.mpr (h.mono (fun v s' z => by rw [if_pos ⟨z.1, z.2.1.clean z.2.2.1.1 z.2.2.1.2⟩, z.2.1.cut hd hg]; exact z.2.2.2) fun c ns vs s' z => z.elim)
end
structure Dg (d g : Nat) (B : Nat) (s : Sto) : Prop where
  ne : d ≠ g
  ex : ∃ (b t : Int) (gs : List Int), s.c d = dgC b g t ∧ 0 ≤ b ∧ b < 2305843009213693951 ∧ 0 ≤ t ∧ t ≤ B ∧ s.c g = .lst (gs.map .int) ∧ (∀ z ∈ gs, 0 ≤ z) ∧ gs.length ≤ 64
theorem Dg.mono {d g B C : Nat} {s : Sto} (D : Dg d g B s) (h : B ≤ C) : Dg d g C s := ⟨D.ne, by
  obtain ⟨b, t, gs, h1, h2, h3, h4, h5, h6⟩ := D.ex
  exact ⟨b, t, gs, h1, h2, h3, h4, by omega, h6⟩⟩
theorem clL_ints {n : Nat} (l : List Int) : ClL n (l.map AV.int) := by
  induction l with
  | nil => simp
  | cons a l ih => simp [ih]
theorem Dg.cl {d g B n : Nat} {s : Sto} (D : Dg d g B s) (hg : g < n) : ClC n (s.c d) ∧ ClC n (s.c g) := by
  obtain ⟨b, t, gs, h1, h2, h3, h4, h5, h6, h7⟩ := D.ex
  refine ⟨?_, ?_⟩
  · rw [h1]; simp [ClC, hg]
  · rw [h6]; exact clL_ints gs
theorem Dg.of {d g B : Nat} {s t : Sto} (D : Dg d g B s) (h1 : t.c d = s.c d) (h2 : t.c g = s.c g) : Dg d g B t := ⟨D.ne, by
  obtain ⟨b, t, gs, k1, k⟩ := D.ex
  exact ⟨b, t, gs, h1.trans k1, k.1, k.2.1, k.2.2.1, k.2.2.2.1, h2.trans k.2.2.2.2.1, k.2.2.2.2.2⟩⟩
structure Inv2 (d g B : Nat) (t s : Sto) : Prop where
  ld : d < t.n
  lg : g < t.n
  gd : Gd2 d g t s
  ok : Dg d g B s
section
variable {P : AV → Sto → Prop} {R : String → List Str → List AV → Sto → Prop} {d g B : Nat} {s t : Sto} {x : Cell}
theorem Inv2.lsd (S : Inv2 d g B t s) : d < s.n := Nat.lt_of_lt_of_le S.ld S.gd.n
theorem Inv2.lsg (S : Inv2 d g B t s) : g < s.n := Nat.lt_of_lt_of_le S.lg S.gd.n
theorem Inv2.new (S : Inv2 d g B t s) : Inv2 d g B t (s.new x) := ⟨S.ld, S.lg, S.gd.new, S.ok.of (at_new S.lsd) (at_new S.lsg)⟩
theorem Inv2.mono {C : Nat} (S : Inv2 d g B t s) (h : B ≤ C) : Inv2 d g C t s := ⟨S.ld, S.lg, S.gd, S.ok.mono h⟩
theorem Inv2.set_new {i : Nat} (S : Inv2 d g B t s) (h : t.n ≤ i) : Inv2 d g B t (s.set i x) :=
  ⟨S.ld, S.lg, S.gd.setn h, S.ok.of (Sto.set_ne (by have := S.ld; omega)) (Sto.set_ne (by have := S.lg; omega))⟩
theorem Inv2.start (hd : d < s.n) (hg : g < s.n) (h : Dg d g B s) : Inv2 d g B s s := ⟨hd, hg, .refl d g s, h⟩
/-- what a def has drawn, seen by its caller -/
theorem Inv2.back {C : Nat} {s' : Sto} (S : Inv2 d g B t s) (h : Dg d g C s') : Inv2 d g C t ((s.set d (s'.c d)).set g (s'.c g)) :=
  ⟨S.ld, S.lg, S.gd.setd.setg, h.of (by rw [Sto.set_ne h.ne, Sto.set_at]) Sto.set_at⟩
theorem Gd2.back {s' : Sto} (d g : Nat) (s : Sto) : Gd2 d g s ((s.set d (s'.c d)).set g (s'.c g)) := (Gd2.refl d g s).setd.setg
end
theorem sz3b : (3 : Nat) < sizeLine := by decide
theorem q12 : ¬ (("mixed" : Str) = "great") := by decide
theorem q13 : ¬ (("mixed" : Str) = "turn") := by decide
theorem q21 : ¬ (("great" : Str) = "mixed") := by decide
theorem q23 : ¬ (("great" : Str) = "turn") := by decide
theorem q31 : ¬ (("turn" : Str) = "mixed") := by decide
theorem q32 : ¬ (("turn" : Str) = "great") := by decide
section
variable {s : Sto} {d g : Nat} {b t v : Int}
theorem dgM (h : s.c d = dgC b g t) : gDGet (.obj d) (.str "mixed") s = .ok (.int b) s := gDGet_obj h rfl (by simp [valA])
theorem dgG (h : s.c d = dgC b g t) : gDGet (.obj d) (.str "great") s = .ok (.obj g) s := gDGet_obj h rfl (by simp [valA, q12])
theorem dgT (h : s.c d = dgC b g t) : gDGet (.obj d) (.str "turn") s = .ok (.int t) s := gDGet_obj h rfl (by simp [valA, q13, q23])
theorem sdM (h : s.c d = dgC b g t) : setD (.obj d) (.str "mixed") (.int v) s = some (s.set d (dgC v g t)) := by
  rw [setD_obj h rfl sz3b]
  simp [putKA, q21, q31]
theorem sdT (h : s.c d = dgC b g t) : setD (.obj d) (.str "turn") (.int v) s = some (s.set d (dgC b g v)) := by
  rw [setD_obj h rfl sz3b]
  simp [putKA, q13, q23]
end
theorem ne_nil {s : Sto} {a e : Nat} {gs : List Int} (h1 : s.c a = .lst (gs.map .int)) (h2 : s.c e = .lst []) : gNe (.obj a) (.obj e) s = .ok (.bl (!gs.isEmpty)) s := by
  have d1 : dat 12 s (.obj a) = some (.list (gs.map PyData.int)) := by
    show (match s.c a with | .lst xs => (optL (dat 11 s) xs).map PyData.list | _ => none) = _
    rw [h1]
    have : ∀ l : List Int, optL (dat 11 s) (l.map AV.int) = some (l.map PyData.int) := by
      intro l
      induction l with
      | nil => rfl
      | cons z l ih =>
        show (match dat 11 s (.int z), optL (dat 11 s) (l.map AV.int) with | some d, some ds => some (d :: ds) | _, _ => none) = _
        rw [ih]; rfl
    show (optL (dat 11 s) (gs.map AV.int)).map PyData.list = _
    rw [this]; rfl
  have d2 : dat 12 s (.obj e) = some (.list []) := by
    show (match s.c e with | .lst xs => (optL (dat 11 s) xs).map PyData.list | _ => none) = _
    rw [h2]; rfl
  have sh : ∀ l : List Int, SeqAt.shaped (.list (l.map PyData.int)) = true := by
    intro l
    have k : PyData.canLayAll0 (l.map PyData.int) = true ∧ PyData.depthAll (l.map PyData.int) = 0 := by
      induction l with
      | nil => simp [PyData.canLayAll0, PyData.depthAll]
      | cons z l ih => simp [PyData.canLayAll0, PyData.canLay0, PyData.depthAll, PyData.depth, ih.1, ih.2]
    simp [SeqAt.shaped, PyData.canLay0, PyData.depth, k.1, k.2]
  rw [gNe_b (eqB_dat rfl d1 d2 (sh gs) (sh []))]
  congr 2
  cases gs <;> simp [PyData.eqv, PyData.eqvAll]
section
variable {P : AV → Sto → Prop} {R : String → List Str → List AV → Sto → Prop} {d g B : Nat} {s t : Sto}
theorem wi_next {n : Int} (S : Inv2 d g B t s) (hB : B ≤ 50000000) (n0 : 0 < n) (n1 : n.natAbs.log2 < 9000) (q : ∀ v s', 0 ≤ v → v < n → Inv2 d g (B + 1) t s' → Gd2 d g s s' → P (.int v) s') : (F__law_next [.obj d, .int n] s).Post P R := by
  unfold F__law_next
  refine gcF_d2 S.lsd S.lsg ?_
  obtain ⟨b, tu, gs, hd, b0, b1, t0, t1, hg, gs0, gl⟩ := S.ok.ex
  have dn := S.ok.ne
  have ld := S.lsd
  have lg := S.lsg
  have fin : ∀ v s', 0 ≤ v → v < n → Dg d g (B + 1) s' → Gd2 d g s s' → (Gd2 d g s s' ∧ (ClC s.n (s'.c d) ∧ ClC s.n (s'.c g)) ∧ P (.int v) ((s.set d (s'.c d)).set g (s'.c g))) := fun v s' h1 h2 h3 h4 =>
    ⟨h4, h3.cl lg, q v _ h1 h2 (S.back h3) (Gd2.back d g s)⟩
  have gT := dgT hd
  have gG := dgG hd
  have sT := sdT (v := tu + 1) hd
  have sub1 : agSub setD (aVar 0) (aC (.str "turn")) (.int (tu + 1)) [some (.obj d), some (.int n), none, none, none, none] s = .nx [some (.obj d), some (.int n), none, none, none, none] (s.set d (dgC b g (tu + 1))) := agSub_eq rfl rfl sT
  have hd1 : (s.set d (dgC b g (tu + 1))).c d = dgC b g (tu + 1) := Sto.set_at
  have hg1 : (s.set d (dgC b g (tu + 1))).c g = .lst (gs.map .int) := (Sto.set_ne (Ne.symm dn)).trans hg
  have G1 : Gd2 d g s (s.set d (dgC b g (tu + 1))) := (Gd2.refl d g s).setd
  have N1 : (s.set d (dgC b g (tu + 1))).n = s.n := rfl
  simp! [B__law_next, gT, gG, sub1]
  generalize s.set d (dgC b g (tu + 1)) = s1 at *
  have gT1 := dgT hd1
  have ln := gLen_seq (seqOf_obj hg1)
  rw [List.length_map] at ln
  obtain ⟨L, hL⟩ : ∃ L : Int, L = (if ((gs.length : Nat) : Int) > 1 then ((gs.length : Nat) : Int) else 1) := ⟨_, rfl⟩
  have L0 : 0 < L := by rw [hL]; split <;> omega
  have mx : gMax2 [.int 1, .int ((gs.length : Nat) : Int)] s1 = .ok (.int L) s1 := by rw [hL]; rfl
  have md : gMod (.int (tu + 1)) (.int L) s1 = .ok (.int ((tu + 1) % L)) s1 := gMod_int (by omega)
  have at0 := Int.emod_nonneg (tu + 1) (show L ≠ 0 by omega)
  have at1 := Int.emod_lt_of_pos (tu + 1) L0
  simp! [gT1, ln, mx, md]
  have ne1 := ne_nil (s := s1.new (.lst [])) (a := g) (e := s1.n) (at_old (by omega) hg1) Sto.new_at
  have gM1 := dgM hd1
  have m1 : gMul (.int b) (.int 6364136223846793) s1 = .ok (.int (b * 6364136223846793)) s1 := gMul_ok (m := 61) (n := 53) (by omega) (by decide) (by decide)
  have m2 : gMul (.int 1442695040888963) (.int (tu + 1)) s1 = .ok (.int (1442695040888963 * (tu + 1))) s1 := gMul_ok (m := 51) (n := 30) (by decide) (by omega) (by decide)
  obtain ⟨z, hz⟩ : ∃ z : Int, z = b * 6364136223846793 + 1442695040888963 * (tu + 1) + 11 := ⟨_, rfl⟩
  have md1 : gMod (.int z) (.int 2305843009213693951) s1 = .ok (.int (z % 2305843009213693951)) s1 := gMod_int (by decide)
  have sM := sdM (v := z % 2305843009213693951) hd1
  have hd2 : (s1.set d (dgC (z % 2305843009213693951) g (tu + 1))).c d = dgC (z % 2305843009213693951) g (tu + 1) := Sto.set_at
  have gM2 := dgM hd2
  have fd : ∀ s, gFdiv (.int (z % 2305843009213693951)) (.int 32749) s = .ok (.int (z % 2305843009213693951 / 32749)) s := fun s => gFdiv_int ⟨by decide, by decide⟩
  have mdn : ∀ s, gMod (.int (z % 2305843009213693951 / 32749)) (.int n) s = .ok (.int (z % 2305843009213693951 / 32749 % n)) s := fun s => gMod_int (by omega)
  have mixed := fin (z % 2305843009213693951 / 32749 % n) _ (Int.emod_nonneg _ (by omega)) (Int.emod_lt_of_pos _ n0) ⟨dn, _, _, gs, hd2, Int.emod_nonneg _ (by decide), Int.emod_lt_of_pos _ (by decide), by omega, by omega, (Sto.set_ne (Ne.symm dn)).trans hg1, gs0, gl⟩ G1.setd
  rw [hd2] at mixed
  by_cases he : gs = []
  · have ne1 : gNe (.obj g) (.obj s1.n) (s1.new (.lst [])) = .ok (.bl false) (s1.new (.lst [])) := by rw [ne1, he]; rfl
    refine gcT_g ?_
    have z0 : ((0 : Nat) ≤ sizeLine) = True := eq_true (Nat.zero_le _)
    simp! [ne1, z0]
    refine ⟨(Gb.refl _).new, ?_⟩
    simp! [gM1, gT1, m1, m2, ← hz, md1, sM, gM2, fd, mdn]
    exact mixed
  · have ne1 : gNe (.obj g) (.obj s1.n) (s1.new (.lst [])) = .ok (.bl true) (s1.new (.lst [])) := by
      rw [ne1]
      cases gs with
      | nil => exact absurd rfl he
      | cons => rfl
    have len : L = (gs.length : Nat) := by
      have : 0 < gs.length := List.length_pos_iff.mpr he
      rw [hL]; split <;> omega
    obtain ⟨k, hk⟩ := Int.eq_ofNat_of_zero_le at0
    have kl : k < gs.length := by omega
    obtain ⟨y, hy⟩ : ∃ y, gs[k]? = some y := ⟨gs[k], List.getElem?_eq_getElem kl⟩
    have z0 := gs0 y (List.mem_of_getElem? hy)
    have hx : (gs.map AV.int)[k]? = some (.int y) := by rw [List.getElem?_map, hy]; rfl
    have ia : L2.atI (gs.map AV.int) ((tu + 1) % L) = some (.int y) := by rw [hk]; exact L2.atI_nat hx
    have ix : ∀ s' : Sto, s'.c g = .lst (gs.map .int) → gIx (.obj g) (.int ((tu + 1) % L)) s' = .ok (.int y) s' := fun s' h => gIx_seq (seqOf_obj h) ia
    have ixN := ix (s1.new (.lst [])) (at_old (by omega) hg1)
    have ix1 := ix s1 hg1
    have z00 : ((0 : Nat) ≤ sizeLine) = True := eq_true (Nat.zero_le _)
    by_cases zp : 0 < y
    · have dz : decide (0 < y) = true := decide_eq_true zp
      have md2 : gMod (.int y) (.int n) s1 = .ok (.int (y % n)) s1 := gMod_int (by omega)
      have fd2 : gFdiv (.int y) (.int n) s1 = .ok (.int (y / n)) s1 := gFdiv_int ⟨by omega, by omega⟩
      have ixn : L2.ixN (gs.map AV.int).length ((tu + 1) % L) = some k := by
        rw [hk, List.length_map]
        unfold L2.ixN
        rw [if_pos (by omega), if_pos (by omega)]
        rfl
      have sl := setL_obj (y := .int (y / n)) hg1 ixn
      have sub2 : ∀ x5, agSub setL (aVar 2) (aVar 3) (.int (y / n)) [some (.obj d), some (.int n), some (.obj g), some (.int ((tu + 1) % L)), some (.int (y % n)), x5] s1 = .nx [some (.obj d), some (.int n), some (.obj g), some (.int ((tu + 1) % L)), some (.int (y % n)), x5] (s1.set g (.lst ((gs.map AV.int).set k (.int (y / n))))) := fun x5 => agSub_eq rfl rfl sl
      refine gcT_g ?_
      simp! [ne1, z00, ixN, dz, gGt_int]
      refine ⟨(Gb.refl _).new, ?_⟩
      simp! [ix1, md2, fd2, sub2]
      have f := fin (y % n) (s1.set g (.lst ((gs.map AV.int).set k (.int (y / n))))) (Int.emod_nonneg _ (by omega)) (Int.emod_lt_of_pos _ n0) ⟨dn, b, _, gs.set k (y / n), (Sto.set_ne dn).trans hd1, b0, b1, by omega, by omega, Sto.set_at.trans (by rw [List.map_set]), fun w hw => by
        rcases List.mem_or_eq_of_mem_set hw with h | rfl
        · exact gs0 w h
        · exact Int.ediv_nonneg z0 (by omega), by rw [List.length_set]; exact gl⟩ G1.setg
      rw [show (s1.set g (.lst ((gs.map AV.int).set k (.int (y / n))))).c g = .lst ((gs.map AV.int).set k (.int (y / n))) from Sto.set_at] at f
      exact f
    · have dz : decide (0 < y) = false := decide_eq_false zp
      refine gcT_g ?_
      simp! [ne1, z00, ixN, dz, gGt_int]
      refine ⟨(Gb.refl _).new, ?_⟩
      simp! [gM1, gT1, m1, m2, ← hz, md1, sM, gM2, fd, mdn]
      exact mixed
end
theorem merge3g (a b c : AV) : mergeA [] [(.inr "mixed", a), (.inr "great", b), (.inr "turn", c)] = [(.inr "mixed", a), (.inr "great", b), (.inr "turn", c)] := by
  simp [mergeA, putKA, q12, q13, q21, q23, q31, q32]
theorem pow18 (s : Sto) : gPow (.int 10) (.int 18) s = .ok (.int 1000000000000000000) s := gPow_int (show L2.CPow 10 18 from ⟨by decide, by decide, by decide⟩)
theorem begun_post {ns : List Int} {s : Sto} {P : AV → Sto → Prop} {R : String → List Str → List AV → Sto → Prop} (hl : ns.length ≤ 63) (q : ∀ d g s', Gb s s' → s.n ≤ d → d < s'.n → s.n ≤ g → g < s'.n → Dg d g 0 s' → P (.obj d) s') : (F__law_begun [.scr (ns.map .int)] s).Post P R := by
  unfold F__law_begun
  refine post_gcF.mpr ?_
  have z3 : ((0 : Nat) ≤ sizeLine) = True := eq_true (Nat.zero_le _)
  have ln : gLen [.scr (ns.map .int)] s = .ok (.int (ns.length : Nat)) s := by rw [gLen_scr, List.length_map]
  have m0 : gMul (.int 41) (.int (ns.length : Nat)) s = .ok (.int (41 * (ns.length : Nat))) s := gMul_ok (m := 6) (n := 6) (by decide) (by omega) (by decide)
  simp! [B__law_begun, ln, m0]
  refine post_enum lstOf_scr ?_
  simp! [eq_self]
  refine for_A (fun i σ s' => s' = s ∧ ∃ (b : Int) (x y : Option AV), 0 ≤ b ∧ b < 2305843009213693951 ∧ σ = [some (.scr (ns.map .int)), some (.int b), x, y]) ⟨rfl, _, _, _, by omega, by omega, rfl⟩ ?_ ?_
  · rintro i x σ s' hx ⟨rfl, b, x1, y1, b0, b1, rfl⟩
    refine ⟨lstOf_scr, ?_⟩
    obtain ⟨y, hy, rfl⟩ := enumA_get hx
    have hi : i < 63 := by
      have := (List.getElem?_eq_some_iff.mp hy).1
      rw [List.length_map] at this
      omega
    obtain ⟨z, rfl⟩ : ∃ z, y = .int z := by
      have := List.mem_of_getElem? hy
      obtain ⟨z, _, rfl⟩ := List.mem_map.mp this
      exact ⟨z, rfl⟩
    have m1 : gMul (.int b) (.int 998244353) s' = .ok (.int (b * 998244353)) s' := gMul_ok (m := 61) (n := 30) (by omega) (by decide) (by decide)
    have m2 : gMul (.int 104723) (.int (i : Nat)) s' = .ok (.int (104723 * (i : Nat))) s' := gMul_ok (m := 17) (n := 6) (by decide) (by omega) (by decide)
    have md : ∀ z : Int, gMod (.int z) (.int 2305843009213693951) s' = .ok (.int (z % 2305843009213693951)) s' := fun z => gMod_int (by decide)
    simp! [m1, m2, md]
    exact ⟨_, _, _, Int.emod_nonneg _ (by decide), Int.emod_lt_of_pos _ (by decide), rfl⟩
  rintro σ s' ⟨rfl, b, x1, y1, b0, b1, rfl⟩
  refine ⟨lstOf_scr, ?_⟩
  simp! [pow18]
  refine lc_P (fun i acc s2 => Gb s' s2 ∧ s'.n + 1 < s2.n ∧ s2.c s'.n = .dic [] ∧ acc.length ≤ i ∧ ∃ gs : List Int, acc = gs.map .int ∧ ∀ z ∈ gs, 0 ≤ z) ⟨(Gb.refl s').new.new, Nat.lt_succ_self _, at_old (Nat.lt_succ_self _) Sto.new_at, Nat.le_refl _, [], rfl, fun z hz => by cases hz⟩ Sto.new_at (by rw [List.length_map]; omega) ?_ ?_
  · rintro i y acc s2 hy ⟨g2, n2, dk, hl2, gs, rfl, h0⟩ hk
    obtain ⟨z, rfl⟩ : ∃ z, y = .int z := by
      have := List.mem_of_getElem? hy
      obtain ⟨z, _, rfl⟩ := List.mem_map.mp this
      exact ⟨z, rfl⟩
    refine ⟨trivial, ?_⟩
    by_cases hz : (1000000000000000000 : Int) ≤ z
    · have d : decide ((1000000000000000000 : Int) ≤ z) = true := decide_eq_true hz
      simp! [wipeA, pow18, d]
      refine ⟨hk, g2.set (Nat.le_succ _), n2, (Sto.set_ne (by omega)).trans dk, by simpa using hl2, gs ++ [z], by simp, fun w hw => ?_⟩
      rcases List.mem_append.mp hw with h | h
      · exact h0 w h
      · rw [List.mem_singleton.mp h]; omega
    · have d : decide ((1000000000000000000 : Int) ≤ z) = false := decide_eq_false hz
      simp! [wipeA, pow18, d]
      exact ⟨hk, g2, n2, dk, by omega, gs, rfl, h0⟩
  · rintro acc s2 ⟨g2, n2, dk, hl2, gs, rfl, h0⟩ hk
    refine ⟨trivial, ?_⟩
    rw [List.length_map, List.length_map] at hl2
    simp! [eq_self]
    rw [e_dispK dk rfl (by simp), merge3g]
    simp! [eq_self]
    rw [if_neg (by simp)]
    exact q _ (s'.n + 1) _ (g2.set (Nat.le_refl _)) (Nat.le_refl _) (show s'.n < s2.n by omega) (Nat.le_succ _) n2 ⟨by omega, b, 0, gs, Sto.set_at, b0, b1, Int.le_refl _, Int.le_refl _, (Sto.set_ne (by omega)).trans hk, h0, by omega⟩
end Pf
set_option linter.all false
namespace MB
open MX
/-- a key's part for a step -/
def part (k s : Nat) : Nat := if s % 2 = 1 then k / 4294967296 else k % 4294967296
def chg (k s l : Nat) : Nat := xs 17 ((l * F + part k s + s) % 4294967296)
def fe (k s : Nat) (p : Nat × Nat) : Nat × Nat := (p.2, p.1 ^^^ chg k s p.2)
def bk (k s : Nat) (p : Nat × Nat) : Nat × Nat := (p.2 ^^^ chg k s p.1, p.1)
/-- the first i steps -/
def fs (k : Nat) : Nat → Nat × Nat → Nat × Nat
  | 0, p => p
  | i + 1, p => fe k i (fs k i p)
/-- the last i steps back: 3, 2, .. -/
def bs (k : Nat) : Nat → Nat × Nat → Nat × Nat
  | 0, p => p
  | i + 1, p => bk k (3 - i) (bs k i p)
def blk (k n : Nat) : Nat × Nat := fs k 4 (spl n)
end MB
set_option Elab.async false
set_option linter.all false
set_option maxRecDepth 100000
set_option maxHeartbeats 1000000
set_option exponentiation.threshold 3000
namespace Pf
open PySem Ab
local macro_rules | `(tactic| simp! [$xs,*]) => `(tactic| try simp (config := {maxSteps := 1000000}) only [k_bind, k_Kb, k_st, k_Kst, k_Rst, k_thn, k_loop, k_fn, k_forget, k_clr, k_noX, k_try, k_stuck, k_Astuck, d_thn_nx, d_thn_bk, d_thn_ct, d_thn_rt, d_thn_er, d_lp_nx, d_lp_bk, d_lp_ct, d_lp_rt, d_lp_er, d_fg_nx, d_fg_bk, d_fg_ct, d_fg_rt, d_fg_er, d_cl_nx, d_cl_bk, d_cl_ct, d_cl_rt, d_cl_er, d_tr_nx, d_tr_bk, d_tr_ct, d_tr_rt, d_tr_er, d_nX_nx, d_nX_bk, d_nX_ct, d_nX_rt, d_nX_er, d_fn_nx, d_fn_bk, d_fn_ct, d_fn_rt, d_fn_er, A_nx, A_bk, A_ct, A_rt, A_err, post_ok, post_err, post_noErr, e_op, e_opK, e_un, e_cb, e_nil, e_c, e_cons, e_consK, e_consK2, e_and, e_or, e_andK, e_orK, e_not, e_notK, e_test, e_testK, e_tand, e_tandK, e_tor, e_torK, e_tnot, e_tnotK, e_yes, e_if, e_ifK, e_ch, e_chK1, e_chK2, e_chK3, e_tup, e_tupK, e_lst, e_lstK, e_newL, e_call, e_callK, e_meth, e_methK, e_methK2, e_prop, e_propK, e_make, e_makeK, e_makeK2, e_makeV, e_sm, e_smK, e_smK2, e_cm, e_cmK, e_cmK2, e_sl, e_slK1, e_slK2, e_slK3, e_part, e_partK, e_nopart, e_rev, e_bm, e_bmK, e_pr, e_pr0, e_prK1, e_prK2, e_prK3, e_disp, e_dnew, e_own, e_ownK, e_lc, e_lcK, e_iter, e_rng1, e_rng1K, e_rng2, e_rng2K, e_enum, s_drop, s_dropK, s_ret, s_retK, s_retN, s_next, s_break, s_cont, s_seq, s_if, s_ifK, s_asg, s_asgK, s_name, s_par, s_parK, s_par3, s_parK3, s_gnil, s_gcons, s_gtup, s_for, s_forK, s_raise, s_raiseK, s_sf, s_sfK1, s_sfK2, s_dp, s_dpK1, s_dpK2, s_dpK3, s_forget, s_def, s_fld, e_enumU, e_enumUT, e_match, e_mcase, e_mcase2, e_many, e_mnil, e_lcX, e_lcXK, e_get2, e_methS, e_methS1, e_methS2, s_augS, s_augS1, gEqS_int, gEqS_str, gEqS_bl, gEqS_tup, e_fmt, e_js, e_jsC, e_jsN, e_join, e_joinK, eq_self, beq_self_eq_true, k_grd, k_grdS, k_ite, k_Aite, true_implies, false_implies, implies_true, List.map_cons, List.map_nil, List.nil_append, List.cons_append, List.append_nil, List.replicate_succ, List.replicate_zero, List.getElem?_cons_zero, List.getElem?_cons_succ, List.length_cons, List.length_nil, List.set_cons_zero, List.set_cons_succ, ↓reduceIte, ↓reduceDIte, Nat.reduceAdd, Nat.reduceLeDiff, Nat.reduceEqDiff, Nat.zero_add, if_true, if_false, aVar, gMinus_int, gLt_int, gLe_int, gGt_int, gGe_int, gEq_int, gNe_int, gEq_str, gNe_str, gEq_bl, gNe_bl, gXor_int, gAnd_int, gOr_int, gAdd_int, gIsN_non, gNotN_non, gIsB_bl, gNotB_bl, gNeg_int, gLen_tup, gLen_scr, gMax2_int, gMin2_int, gBits_int, gSl_tup, gSl_scr, Bool.not_true, Bool.not_false, Bool.true_eq_false, Bool.false_eq_true, Bool.true_and, Bool.false_and, Bool.and_true, Bool.and_false, Bool.true_or, Bool.false_or, decide_true, decide_false, and_self, and_true, true_and, and_false, false_and, not_true_eq_false, not_false_eq_true, reduceCtorEq, kz, z1, z2, z3, z4, z5, z6, z7, z8, z9, z10, z11, z12, z13, z14, z15, z16, isCls, isNon, aForget, aHand, toKey, keysA, iterOf_tup, iterOf_scr, oNx_some, noErr_ok, decide_eq_true_eq, decide_eq_false_iff_not, Sto.new_n, Sto.set_n, Sto.set_at, Sto.new_at, Nat.zero_le, aMakeV, Cl_non, Cl_bl, Cl_int, Cl_str, Cl_cls, Cl_obj, Cl_tup, ClL_nil, ClL_cons, $xs,*])
local macro_rules | `(tactic| simp! only [$xs,*]) => `(tactic| simp only [e_op, e_opK, e_un, e_cb, e_nil, e_c, e_cons, e_consK, e_consK2, e_and, e_or, e_andK, e_orK, e_not, e_notK, e_test, e_testK, e_tand, e_tandK, e_tor, e_torK, e_tnot, e_tnotK, e_yes, e_if, e_ifK, e_ch, e_chK1, e_chK2, e_chK3, e_tup, e_tupK, e_lst, e_lstK, e_newL, e_call, e_callK, e_meth, e_methK, e_methK2, e_prop, e_propK, e_make, e_makeK, e_makeK2, e_makeV, e_sm, e_smK, e_smK2, e_cm, e_cmK, e_cmK2, e_sl, e_slK1, e_slK2, e_slK3, e_part, e_partK, e_nopart, e_rev, e_bm, e_bmK, e_pr, e_pr0, e_prK1, e_prK2, e_prK3, e_disp, e_dnew, e_own, e_ownK, e_lc, e_lcK, e_iter, e_rng1, e_rng1K, e_rng2, e_rng2K, e_enum, s_drop, s_dropK, s_ret, s_retK, s_retN, s_next, s_break, s_cont, s_seq, s_if, s_ifK, s_asg, s_asgK, s_name, s_par, s_parK, s_par3, s_parK3, s_gnil, s_gcons, s_gtup, s_for, s_forK, s_raise, s_raiseK, s_sf, s_sfK1, s_sfK2, s_dp, s_dpK1, s_dpK2, s_dpK3, s_forget, s_def, s_fld, e_enumU, e_enumUT, e_match, e_mcase, e_mcase2, e_many, e_mnil, e_lcX, e_lcXK, e_get2, e_methS, e_methS1, e_methS2, s_augS, s_augS1, gEqS_int, gEqS_str, gEqS_bl, gEqS_tup, e_fmt, e_js, e_jsC, e_jsN, e_join, e_joinK, eq_self, beq_self_eq_true, true_implies, false_implies, implies_true, List.map_cons, List.map_nil, List.nil_append, List.cons_append, List.append_nil, List.replicate_succ, List.replicate_zero, List.getElem?_cons_zero, List.getElem?_cons_succ, List.length_cons, List.length_nil, List.set_cons_zero, List.set_cons_succ, ↓reduceIte, ↓reduceDIte, Nat.reduceAdd, Nat.reduceLeDiff, Nat.reduceEqDiff, Nat.zero_add, if_true, if_false, aVar, gMinus_int, gLt_int, gLe_int, gGt_int, gGe_int, gEq_int, gNe_int, gEq_str, gNe_str, gEq_bl, gNe_bl, gXor_int, gAnd_int, gOr_int, gAdd_int, gIsN_non, gNotN_non, gIsB_bl, gNotB_bl, gNeg_int, gLen_tup, gLen_scr, gMax2_int, gMin2_int, gBits_int, gSl_tup, gSl_scr, Bool.not_true, Bool.not_false, Bool.true_eq_false, Bool.false_eq_true, Bool.true_and, Bool.false_and, Bool.and_true, Bool.and_false, Bool.true_or, Bool.false_or, decide_true, decide_false, and_self, and_true, true_and, and_false, false_and, not_true_eq_false, not_false_eq_true, reduceCtorEq, kz, z1, z2, z3, z4, z5, z6, z7, z8, z9, z10, z11, z12, z13, z14, z15, z16, isCls, isNon, aForget, aHand, toKey, keysA, iterOf_tup, iterOf_scr, oNx_some, noErr_ok, decide_eq_true_eq, decide_eq_false_iff_not, Sto.new_n, Sto.set_n, Sto.set_at, Sto.new_at, Nat.zero_le, aMakeV, Cl_non, Cl_bl, Cl_int, Cl_str, Cl_cls, Cl_obj, Cl_tup, ClL_nil, ClL_cons, grd_pos, grdS_pos, Res.bind_ok, Res.bind_err, Res.st_ok, Res.st_err, SRes.thn_nx, SRes.thn_rt, SRes.thn_err, SRes.fn_rt, SRes.fn_nx, SRes.fn_err, SRes.loop_nx, SRes.loop_rt, SRes.loop_err, SRes.loop_ct, SRes.loop_bk, SRes.forget_nx, SRes.forget_rt, SRes.forget_err, SRes.clr_nx, SRes.clr_rt, SRes.noX_nx, SRes.noX_rt, aTry, sizeLine_ge, $xs,*])
theorem xorN (a b : Nat) : Builtin.bitXor (a : Int) (b : Int) = ((a ^^^ b : Nat) : Int) := by
  rw [Bits.bitXor_pp (by omega) (by omega), Int.toNat_natCast, Int.toNat_natCast]
theorem bitsN (n : Nat) : Builtin.Int.intBits (n : Int) = TW.len n := by
  unfold Builtin.Int.intBits TW.len
  by_cases h : n = 0
  · subst h; rfl
  · rw [if_neg (by simpa using h), if_neg h]; simp
theorem bits_le {n k : Nat} (h : n < 2 ^ k) : Builtin.Int.intBits (n : Int) ≤ k := by
  rw [bitsN]; exact TW.len_le h
theorem shl_ok {a : Nat} {j : Nat} {k : Nat} {s : Sto} (h : a < 2 ^ k) (hk : k + j ≤ 100000) : gShl (.int (a : Nat)) (.int (j : Nat)) s = .ok (.int ((a * 2 ^ j : Nat) : Int)) s := by
  rw [gShl_int ⟨by omega, by have := bits_le h; omega⟩]
  simp
theorem shl1_ok {a : Nat} {k : Nat} {s : Sto} (h : a < 2 ^ k) (hk : k ≤ 10000) : gShl (.int (a : Nat)) (.int 1) s = .ok (.int ((2 * a : Nat) : Int)) s := by
  have := shl_ok (j := 1) (s := s) h (by omega)
  rw [show (a * 2 ^ 1 : Nat) = 2 * a by omega] at this
  exact this
theorem shr1_ok {a : Nat} {s : Sto} : gShr (.int (a : Nat)) (.int 1) s = .ok (.int ((a / 2 : Nat) : Int)) s := by
  rw [gShr_int (by decide)]
  congr 2
theorem and1_ok {a : Nat} : Builtin.bitAnd (a : Int) 1 = ((a % 2 : Nat) : Int) := by
  rw [m1]; exact (Int.natCast_emod a 2).symm
theorem prod_ok {a b n k : Nat} (s : Sto) (hb : b < 2 ^ n) (ha : a < 2 ^ k) (h : n + k ≤ 5000) : F_s3_product [.int (a : Nat), .int (b : Nat)] s = .ok (.int ((TW.prodN n 0 a b : Nat) : Int)) s := by
  refine gc0 ?_ (by simp)
  refine res_ok ?_
  simp! [B_s3_product]
  refine while_A (fun m σ s' => s' = s ∧ ∃ f sh r : Nat, σ = [some (.int (a : Nat)), some (.int (b : Nat)), some (.int (f : Nat)), some (.int (sh : Nat)), some (.int (r : Nat))] ∧ r < 2 ^ m ∧ sh < 2 ^ (k + n - m) ∧ m ≤ n ∧ TW.prodN m f sh r = TW.prodN n 0 a b) n
    ⟨rfl, 0, a, b, rfl, hb, by rw [Nat.add_sub_cancel]; exact ha, Nat.le_refl _, rfl⟩ ?_
  rintro m σ s' ⟨rfl, f, sh, r, rfl, hr, hs, hm, e⟩
  by_cases h0 : r = 0
  · have d : decide ((0 : Int) < ((r : Nat) : Int)) = false := decide_eq_false (by omega)
    simp! [d]
    have e0 : TW.prodN m f sh r = f := by
      subst h0
      cases m <;> simp [TW.prodN]
    rw [← e, e0]
  · have d : decide ((0 : Int) < ((r : Nat) : Int)) = true := decide_eq_true (by omega)
    obtain ⟨m, rfl⟩ : ∃ i, m = i + 1 := ⟨m - 1, by
      cases m with
      | zero => simp at hr; omega
      | succ i => rfl⟩
    have e1 : TW.prodN (m + 1) f sh r = TW.prodN m (if r % 2 = 1 then f ^^^ sh else f) (2 * sh) (r / 2) := by
      rw [TW.prodN, if_neg h0]
    rw [e1] at e
    have hs2 : 2 * sh < 2 ^ (k + n - m) := by
      rw [show k + n - m = (k + n - (m + 1)) + 1 by omega, Nat.pow_succ]; omega
    have sl := fun s => shl1_ok (s := s) hs (by omega)
    have sr := fun s => shr1_ok (a := r) (s := s)
    simp! [d]
    refine ⟨fun c => ?_, fun c => ?_⟩
    · rw [and1_ok] at c
      have hr2 : r % 2 = 1 := by omega
      rw [if_pos hr2] at e
      simp! [sl, sr, xorN]
      exact ⟨m, by omega, _, _, _, rfl, by rw [Nat.pow_succ] at hr; omega, hs2, by omega, e⟩
    · rw [and1_ok] at c
      have hr2 : ¬ r % 2 = 1 := by omega
      rw [if_neg hr2] at e
      simp! [sl, sr]
      exact ⟨m, by omega, _, _, _, rfl, by rw [Nat.pow_succ] at hr; omega, hs2, by omega, e⟩
theorem orN (a b : Nat) : Builtin.bitOr (a : Int) (b : Int) = ((a ||| b : Nat) : Int) := by
  rw [Bits.bitOr_pp (by omega) (by omega), Int.toNat_natCast, Int.toNat_natCast]
theorem whole_t {i lo hi : Int} (s : Sto) (h0 : lo ≤ i) (h1 : i ≤ hi) : F_s3_is_whole [.int i, .int lo, .int hi] s = .ok (.bl true) s := by
  refine gc0 ?_ (by simp)
  have e := is_int i s
  have d0 := decide_eq_true h0
  have d1 := decide_eq_true h1
  simp! only [B_s3_is_whole, e, d0, d1]
theorem shl_one {k : Nat} (s : Sto) (hk : k ≤ 5000) : gShl (.int 1) (.int (k : Nat)) s = .ok (.int ((2 ^ k : Nat) : Int)) s := by
  have := shl_ok (a := 1) (j := k) (k := 1) (s := s) (by decide) (by omega)
  rw [Nat.one_mul] at this
  exact this
theorem poly_t {i : Nat} (s : Sto) (h : i < 2 ^ 512) : F_is_polynomial [.int (i : Nat)] s = .ok (.bl true) s := by
  refine gc0 ?_ (by simp)
  have sh : ∀ s, gShl (.int 1) (.int 512) s = .ok (.int ((2 ^ 512 : Nat) : Int)) s := fun s => shl_one (k := 512) s (by decide)
  have w := whole_t (i := ((i : Nat) : Int)) (lo := 0) (hi := ((2 ^ 512 : Nat) : Int) - 1) s (by omega) (by
    have : ((i : Nat) : Int) < ((2 ^ 512 : Nat) : Int) := Int.ofNat_lt.mpr h
    omega)
  simp! only [B_is_polynomial, sh, w]
theorem need1_t {i : Nat} (s : Sto) (h : i < 2 ^ 512) : F_s3_need [.tup [.int (i : Nat)]] s = .ok .non s := by
  refine gc0 ?_ (by simp)
  refine res_ok ?_
  have p := fun s => poly_t (i := i) s h
  simp! [B_s3_need]
  refine for_A (fun j σ s' => s' = s ∧ ∃ z, σ = [some (.tup [.int (i : Nat)]), z]) ⟨rfl, _, rfl⟩ ?_ ?_
  · rintro j x σ s' hx ⟨rfl, z, rfl⟩
    have hx : x = .int (i : Nat) := by
      cases j with
      | zero => simpa using hx.symm
      | succ j => simp at hx
    subst hx
    refine ⟨trivial, ?_⟩
    simp! [eq_self]
    refine gcT_g ?_
    simp! [p]
    exact ⟨Gb.refl _, _, rfl⟩
  · rintro σ s' ⟨rfl, z, rfl⟩
    refine ⟨trivial, ?_⟩
    simp! [eq_self]
theorem mod_t {i : Nat} (s : Sto) (h : i < 2 ^ 512) (h0 : i ≠ 0) : F_s3_need_modulus [.int (i : Nat)] s = .ok .non s := by
  refine gc0 ?_ (by simp)
  refine res_ok ?_
  have p := fun s => poly_t (i := i) s h
  have d : decide (((i : Nat) : Int) = 0) = false := decide_eq_false (by omega)
  simp! [B_s3_need_modulus]
  refine gcT_g ?_
  simp! [p, d]
  exact Gb.refl _
end Pf
set_option linter.all false
set_option maxRecDepth 100000
namespace PO
open TW
def cm (a b : Nat) : Nat := A a (fun i => b * 2 ^ i) 0
theorem two_xor (x y k : Nat) : (x ^^^ y) * 2 ^ k = (x * 2 ^ k) ^^^ (y * 2 ^ k) := by
  rw [← Nat.shiftLeft_eq, ← Nat.shiftLeft_eq, ← Nat.shiftLeft_eq, Nat.shiftLeft_xor_distrib]
theorem act_scale : ∀ (n p : Nat) (u : Nat → Nat) (b k : Nat), act n p (fun i => u i * 2 ^ k) b = act n p u b * 2 ^ k
  | 0, p, u, b, k => by simp [act]
  | n + 1, p, u, b, k => by
    unfold act
    rw [act_scale n, two_xor]
    congr 1
    by_cases h : p % 2 = 1 <;> simp [h]
theorem A_scale (p : Nat) (u : Nat → Nat) (b k : Nat) : A p (fun i => u i * 2 ^ k) b = A p u b * 2 ^ k := act_scale p p u b k
theorem A_pow (a b i : Nat) : A a (fun j => b * 2 ^ j) i = cm a b * 2 ^ i := by
  have h := A_shift a (fun j => b * 2 ^ j) 0 i
  rw [Nat.zero_add] at h
  rw [← h, cm, ← A_scale]
  congr 1
  funext j
  rw [Nat.pow_add, Nat.mul_assoc]
theorem cm_step (a b : Nat) : cm a b = (if a % 2 = 1 then b else 0) ^^^ cm (a / 2) b * 2 := by
  have h := A_step a (fun i => b * 2 ^ i) 0
  rw [A_pow, A_pow] at h
  simpa using h
theorem cm_zero_left (b : Nat) : cm 0 b = 0 := rfl
theorem cm_zero_right (a : Nat) : cm a 0 = 0 := by
  unfold cm
  have : (fun i => 0 * 2 ^ i) = fun _ : Nat => 0 := by funext i; simp
  rw [this, A_nil]
theorem cm_xor_left (a b c : Nat) : cm (a ^^^ b) c = cm a c ^^^ cm b c := A_xor a b _ 0
theorem cm_xor_right (a b c : Nat) : cm a (b ^^^ c) = cm a b ^^^ cm a c := by
  unfold cm
  rw [← A_lin]
  congr 1
  funext i
  exact two_xor b c i
theorem cm_one_left (b : Nat) : cm 1 b = b := by
  unfold cm
  rw [A_one]; simp
theorem cm_two_left (a b : Nat) : cm (a * 2) b = cm a b * 2 := by
  have h := A_shl a (fun i => b * 2 ^ i) 1 0
  rw [Nat.pow_one] at h
  unfold cm at *
  rw [h, A_pow, Nat.zero_add, Nat.pow_one]
  rfl
theorem cm_two_right (a b : Nat) : cm a (b * 2) = cm a b * 2 := by
  have h := A_scale a (fun i => b * 2 ^ i) 0 1
  rw [Nat.pow_one] at h
  unfold cm
  rw [← h]
  congr 1
  funext i
  rw [Nat.mul_assoc, Nat.mul_comm 2, ← Nat.mul_assoc]
theorem pow_left (k b : Nat) : cm (2 ^ k) b = b * 2 ^ k := by
  induction k with
  | zero => rw [Nat.pow_zero, cm_one_left, Nat.mul_one]
  | succ k ih => rw [Nat.pow_succ, cm_two_left, ih, Nat.mul_assoc]
theorem halves (a : Nat) : a = (if a % 2 = 1 then 1 else 0) ^^^ a / 2 * 2 := by
  have h : (a / 2 * 2) ^^^ (if a % 2 = 1 then 1 else 0) = a / 2 * 2 + (if a % 2 = 1 then 1 else 0) := by
    have := Nat.two_pow_add_eq_or_of_lt (i := 1) (b := if a % 2 = 1 then 1 else 0) (by split <;> decide) (a / 2)
    have e2 : (a / 2 * 2) ^^^ (if a % 2 = 1 then 1 else 0) = (a / 2 * 2) ||| (if a % 2 = 1 then 1 else 0) := by
      refine Nat.eq_of_testBit_eq fun i => ?_
      rw [Nat.testBit_xor, Nat.testBit_or]
      cases i with
      | zero => simp
      | succ i =>
        have : (if a % 2 = 1 then 1 else 0 : Nat).testBit (i + 1) = false := by split <;> simp [Nat.testBit_succ]
        rw [this]; simp
    rw [e2, Nat.mul_comm, ← Nat.pow_one 2, ← this]
  rw [Nat.xor_comm, h]
  split <;> omega
theorem cm_one_right : ∀ a : Nat, cm a 1 = a := by
  intro a
  induction a using Nat.strongRecOn with
  | _ a ih =>
    by_cases h : a = 0
    · subst h; rfl
    · rw [cm_step, ih (a / 2) (by omega)]
      exact (halves a).symm
theorem cm_comm : ∀ a b : Nat, cm a b = cm b a := by
  intro a
  induction a using Nat.strongRecOn with
  | _ a ih =>
    intro b
    by_cases h : a = 0
    · subst h; rw [cm_zero_left, cm_zero_right]
    · rw [cm_step, ih (a / 2) (by omega)]
      conv => rhs; rw [halves a, cm_xor_right, cm_two_right]
      congr 1
      split
      · rw [cm_one_right]
      · rw [cm_zero_right]
theorem cm_assoc : ∀ a b c : Nat, cm (cm a b) c = cm a (cm b c) := by
  intro a
  induction a using Nat.strongRecOn with
  | _ a ih =>
    intro b c
    by_cases h : a = 0
    · subst h; rfl
    · rw [cm_step a b, cm_xor_left, cm_two_left, ih (a / 2) (by omega), cm_step a (cm b c)]
      congr 1
      split <;> simp [cm_zero_left]
theorem prod_cm {n a b : Nat} (h : b < 2 ^ n) : prodN n 0 a b = cm a b := by
  have k := A_prodN (fun i => 1 * 2 ^ i) n 0 a b 0 h
  rw [A_zero, Nat.zero_xor] at k
  have e : A (prodN n 0 a b) (fun i => 1 * 2 ^ i) 0 = prodN n 0 a b := cm_one_right _
  rw [e] at k
  rw [k, cm_comm]
  unfold cm
  refine A_ext fun i _ => ?_
  rw [A_pow]
  congr 1
  exact cm_one_right a
theorem xor_top {k x y : Nat} (hx : x < 2 ^ k) (h1 : 2 ^ k ≤ y) (h2 : y < 2 ^ (k + 1)) : 2 ^ k ≤ x ^^^ y ∧ x ^^^ y < 2 ^ (k + 1) := by
  have ty : y.testBit k = true := by
    rw [Nat.testBit_eq_decide_div_mod_eq]
    have : y / 2 ^ k = 1 := by
      rw [Nat.pow_succ] at h2
      exact Nat.div_eq_of_lt_le (by omega) (by omega)
    rw [this]; rfl
  refine ⟨Nat.ge_two_pow_of_testBit (i := k) ?_, Nat.xor_lt_two_pow (Nat.lt_of_lt_of_le hx (Nat.pow_le_pow_right (by decide) (by omega))) h2⟩
  rw [Nat.testBit_xor, Nat.testBit_lt_two_pow hx, ty]
  rfl
theorem cm_range : ∀ {i j q m : Nat}, 2 ^ i ≤ q → q < 2 ^ (i + 1) → 2 ^ j ≤ m → m < 2 ^ (j + 1) → 2 ^ (i + j) ≤ cm q m ∧ cm q m < 2 ^ (i + j + 1)
  | 0, j, q, m, h1, h2, h3, h4 => by
    have : q = 1 := by simp at h1 h2; omega
    subst this
    rw [cm_one_left, Nat.zero_add]
    exact ⟨h3, h4⟩
  | i + 1, j, q, m, h1, h2, h3, h4 => by
    have p1 : 2 ^ (i + 1) = 2 ^ i * 2 := Nat.pow_succ ..
    have p2 : 2 ^ (i + 1 + 1) = 2 ^ i * 2 * 2 := by rw [Nat.pow_succ, Nat.pow_succ]
    obtain ⟨a, b⟩ := cm_range (i := i) (j := j) (q := q / 2) (m := m) (by omega) (by omega) h3 h4
    have p3 : 2 ^ (i + 1 + j) = 2 ^ (i + j) * 2 := by rw [show i + 1 + j = i + j + 1 by omega, Nat.pow_succ]
    have p4 : 2 ^ (i + 1 + j + 1) = 2 ^ (i + j + 1) * 2 := by rw [show i + 1 + j + 1 = i + j + 1 + 1 by omega, Nat.pow_succ]
    rw [cm_step]
    refine xor_top ?_ (by omega) (by omega)
    split
    · exact Nat.lt_of_lt_of_le h4 (Nat.pow_le_pow_right (by decide) (by omega))
    · exact Nat.pow_pos (by decide)
theorem len_rng {n : Nat} (h : n ≠ 0) : 2 ^ (len n - 1) ≤ n ∧ n < 2 ^ (len n - 1 + 1) ∧ 1 ≤ len n := by
  have h0 : 1 ≤ len n := by rw [len_pos h]; omega
  refine ⟨len_ge h, ?_, h0⟩
  rw [show len n - 1 + 1 = len n by omega]
  exact lt_len n
theorem cm_len {q m : Nat} (hq : q ≠ 0) (hm : m ≠ 0) : len (cm q m) = len q + len m - 1 := by
  obtain ⟨a1, a2, a3⟩ := len_rng hq
  obtain ⟨b1, b2, b3⟩ := len_rng hm
  obtain ⟨c1, c2⟩ := cm_range a1 a2 b1 b2
  have h1 := le_len c1
  have h2 := len_le c2
  omega
theorem cm_small {q m : Nat} (hm : m ≠ 0) (h : len (cm q m) < len m) : q = 0 := by
  refine Classical.byContradiction fun hq => ?_
  have := cm_len hq hm
  have := (len_rng hq).2.2
  omega
theorem cm_ne {q m : Nat} (hq : q ≠ 0) (hm : m ≠ 0) : cm q m ≠ 0 := by
  intro h
  have := cm_len hq hm
  have a := (len_rng hq).2.2
  have b := (len_rng hm).2.2
  rw [h] at this
  have : len 0 = 0 := rfl
  omega
theorem len_xor {x y k : Nat} (hx : len x < k) (hy : len y < k) : len (x ^^^ y) < k := by
  have hx' : x < 2 ^ (k - 1) := Nat.lt_of_lt_of_le (lt_len x) (Nat.pow_le_pow_right (by decide) (by omega))
  have hy' : y < 2 ^ (k - 1) := Nat.lt_of_lt_of_le (lt_len y) (Nat.pow_le_pow_right (by decide) (by omega))
  have := len_le (Nat.xor_lt_two_pow hx' hy')
  omega
theorem xx (a b : Nat) : a ^^^ (a ^^^ b) = b := by rw [← Nat.xor_assoc, Nat.xor_self, Nat.zero_xor]
theorem xx2 (a b : Nat) : (b ^^^ a) ^^^ a = b := by rw [Nat.xor_assoc, Nat.xor_self, Nat.xor_zero]
theorem xor_zero_iff {a b : Nat} (h : a ^^^ b = 0) : a = b := by
  have := congrArg (a ^^^ ·) h
  simp only [xx, Nat.xor_zero] at this
  exact this.symm
theorem rest_spec : ∀ (n a m : Nat), m ≠ 0 → len a < n + len m → (∃ q, a = cm q m ^^^ restN n a m) ∧ len (restN n a m) < len m
  | 0, a, m, hm, h => ⟨⟨0, by rw [cm_zero_left, Nat.zero_xor]; rfl⟩, by show len a < _; omega⟩
  | n + 1, a, m, hm, h => by
    rw [restN]
    split
    · rename_i h0
      have st := len_step hm h0
      obtain ⟨⟨q, hq⟩, hl⟩ := rest_spec n (a ^^^ m * 2 ^ (len a - len m)) m hm (by omega)
      refine ⟨⟨q ^^^ 2 ^ (len a - len m), ?_⟩, hl⟩
      rw [cm_xor_left, pow_left]
      have e := congrArg (· ^^^ m * 2 ^ (len a - len m)) hq
      simp only [xx2] at e
      refine e.trans ?_
      rw [Nat.xor_assoc, Nat.xor_assoc, Nat.xor_comm (restN _ _ _)]
    · rename_i h0
      exact ⟨⟨0, by rw [cm_zero_left, Nat.zero_xor]⟩, by omega⟩
theorem uniq {m q r q' r' : Nat} (hm : m ≠ 0) (h : cm q m ^^^ r = cm q' m ^^^ r') (hr : len r < len m) (hr' : len r' < len m) : q = q' ∧ r = r' := by
  have e : cm (q ^^^ q') m = r ^^^ r' := by
    rw [cm_xor_left]
    have := congrArg (fun z => (z ^^^ r) ^^^ cm q' m) h
    simp only [xx2] at this
    rw [this, Nat.xor_comm _ (cm q' m), ← Nat.xor_assoc, xx, Nat.xor_comm]
  have z := cm_small hm (by rw [e]; exact len_xor hr hr')
  rw [z, cm_zero_left] at e
  exact ⟨xor_zero_iff z, xor_zero_iff e.symm⟩
/-- the rest modulo m -/
def md (a m : Nat) : Nat := restN (len a + 1) a m
theorem md_spec (a : Nat) {m : Nat} (hm : m ≠ 0) : (∃ q, a = cm q m ^^^ md a m) ∧ len (md a m) < len m := rest_spec (len a + 1) a m hm (by have := (len_rng hm).2.2; omega)
theorem md_is {a m q r : Nat} (hm : m ≠ 0) (h : a = cm q m ^^^ r) (hr : len r < len m) : md a m = r := by
  obtain ⟨⟨q', h'⟩, hl⟩ := md_spec a hm
  exact (uniq hm (h'.symm.trans h) hl hr).2
theorem rest_md {n a m : Nat} (hm : m ≠ 0) (h : len a < n + len m) : restN n a m = md a m := by
  obtain ⟨⟨q, e⟩, hl⟩ := rest_spec n a m hm h
  exact (md_is hm e hl).symm
theorem md_iff {x y m : Nat} (hm : m ≠ 0) : md x m = md y m ↔ ∃ q, x ^^^ y = cm q m := by
  obtain ⟨⟨q, h⟩, hl⟩ := md_spec x hm
  obtain ⟨⟨q', h'⟩, hl'⟩ := md_spec y hm
  constructor
  · intro e
    refine ⟨q ^^^ q', ?_⟩
    rw [cm_xor_left]
    conv => lhs; rw [h, h']
    rw [e, Nat.xor_comm (cm q' m), Nat.xor_assoc, ← Nat.xor_assoc (md y m), Nat.xor_self, Nat.zero_xor]
  · rintro ⟨p, e⟩
    refine md_is hm (q := p ^^^ q') ?_ hl'
    rw [cm_xor_left, Nat.xor_assoc, ← h', ← e, xx2]
theorem md_md (x : Nat) {m : Nat} (hm : m ≠ 0) : md (md x m) m = md x m := md_is hm (q := 0) (by rw [cm_zero_left, Nat.zero_xor]) (md_spec x hm).2
theorem md_low {x m : Nat} (hm : m ≠ 0) (h : len x < len m) : md x m = x := md_is hm (q := 0) (by rw [cm_zero_left, Nat.zero_xor]) h
theorem md_left (x y : Nat) {m : Nat} (hm : m ≠ 0) : md (cm (md x m) y) m = md (cm x y) m := by
  obtain ⟨⟨q, h⟩, _⟩ := md_spec x hm
  refine (md_iff hm).mpr ⟨cm q y, ?_⟩
  have e : cm x y = cm (cm q m) y ^^^ cm (md x m) y := by rw [← cm_xor_left, ← h]
  rw [e, Nat.xor_comm, xx2, cm_assoc, cm_comm m, ← cm_assoc]
theorem md_right (x y : Nat) {m : Nat} (hm : m ≠ 0) : md (cm x (md y m)) m = md (cm x y) m := by rw [cm_comm, md_left y x hm, cm_comm]
theorem md_xor (x y : Nat) {m : Nat} (hm : m ≠ 0) : md (x ^^^ y) m = md x m ^^^ md y m := by
  obtain ⟨⟨q, h⟩, hl⟩ := md_spec x hm
  obtain ⟨⟨q', h'⟩, hl'⟩ := md_spec y hm
  refine md_is hm (q := q ^^^ q') ?_ (len_xor hl hl')
  rw [cm_xor_left]
  conv => lhs; rw [h, h']
  exact xor4 _ _ _ _
theorem md_zero {m : Nat} (hm : m ≠ 0) : md 0 m = 0 := md_low hm (by have := (len_rng hm).2.2; show 0 < _; omega)
theorem md_lt {x m k : Nat} (hm : m ≠ 0) (h : m < 2 ^ k) : md x m < 2 ^ k := Nat.lt_of_lt_of_le (lt_len _) (Nat.pow_le_pow_right (by decide) (by have := (md_spec x hm).2; have := len_le h; omega))
def pw (a : Nat) : Nat → Nat → Nat
  | 0, m => md 1 m
  | n + 1, m => md (cm (pw a n m) a) m
section
variable {m : Nat} (hm : m ≠ 0)
include hm
theorem pw_md (a : Nat) : ∀ n, md (pw a n m) m = pw a n m
  | 0 => md_md _ hm
  | n + 1 => md_md _ hm
theorem pw_base (a : Nat) : ∀ n, pw (md a m) n m = pw a n m
  | 0 => rfl
  | n + 1 => by rw [pw, pw_base a n, md_right _ _ hm]; rfl
theorem pw_add (a i : Nat) : ∀ j, pw a (i + j) m = md (cm (pw a i m) (pw a j m)) m
  | 0 => by
    show pw a i m = md (cm (pw a i m) (md 1 m)) m
    rw [md_right _ _ hm, cm_one_right, pw_md hm]
  | j + 1 => by
    show md (cm (pw a (i + j) m) a) m = md (cm (pw a i m) (md (cm (pw a j m) a) m)) m
    rw [pw_add a i j, md_left _ _ hm, md_right _ _ hm, cm_assoc]
theorem pw_one (a : Nat) : pw a 1 m = md a m := by
  show md (cm (md 1 m) a) m = _
  rw [md_left _ _ hm, cm_one_left]
theorem pw_sq (a : Nat) : ∀ k, pw a (2 * k) m = pw (md (cm a a) m) k m
  | 0 => rfl
  | k + 1 => by
    rw [show 2 * (k + 1) = 2 * k + 1 + 1 by omega]
    show md (cm (md (cm (pw a (2 * k) m) a) m) a) m = md (cm (pw (md (cm a a) m) k m) (md (cm a a) m)) m
    rw [md_left _ _ hm, md_right _ _ hm, pw_sq a k, cm_assoc]
/-- one turn of the program's power -/
theorem pw_turn (f s l : Nat) : md (cm f (pw s l m)) m = md (cm (if l % 2 = 1 then md (cm f s) m else f) (pw (md (cm s s) m) (l / 2) m)) m := by
  rw [← pw_sq hm s (l / 2)]
  by_cases h : l % 2 = 1
  · rw [if_pos h, md_left _ _ hm]
    have e : l = 1 + 2 * (l / 2) := by omega
    have k := pw_add hm s 1 (2 * (l / 2))
    rw [← e, pw_one hm, md_left _ _ hm] at k
    rw [k, md_right _ _ hm, cm_assoc]
  · rw [if_neg h]
    have e : l = 2 * (l / 2) := by omega
    rw [← e]
end
def dv (d a : Nat) : Prop := ∃ q, a = cm q d
theorem dv_xor {d a b : Nat} : dv d a → dv d b → dv d (a ^^^ b)
  | ⟨q, h⟩, ⟨p, k⟩ => ⟨q ^^^ p, by rw [cm_xor_left, h, k]⟩
theorem dv_mul {d a : Nat} (c : Nat) : dv d a → dv d (cm c a)
  | ⟨q, h⟩ => ⟨cm c q, by rw [h, cm_assoc]⟩
theorem dv_md {d a m : Nat} (hm : m ≠ 0) (h : dv d a) (k : dv d m) : dv d (md a m) := by
  obtain ⟨⟨q, e⟩, _⟩ := md_spec a hm
  have : md a m = a ^^^ cm q m := by
    conv => rhs; rw [e]
    rw [Nat.xor_comm, xx]
  rw [this]
  exact dv_xor h (dv_mul q k)
theorem dv_of_md {d a m : Nat} (hm : m ≠ 0) (h : dv d (md a m)) (k : dv d m) : dv d a := by
  obtain ⟨⟨q, e⟩, _⟩ := md_spec a hm
  rw [e]
  exact dv_xor (dv_mul q k) h
theorem dv_self (a : Nat) : dv a a := ⟨1, (cm_one_left a).symm⟩
theorem dv_zero (d : Nat) : dv d 0 := ⟨0, rfl⟩
theorem dv_one {d : Nat} (h : dv d 1) : d = 1 := by
  obtain ⟨q, e⟩ := h
  have hq : q ≠ 0 := by rintro rfl; rw [cm_zero_left] at e; cases e
  have hd : d ≠ 0 := by rintro rfl; rw [cm_zero_right] at e; cases e
  have l := cm_len hq hd
  rw [← e] at l
  have a := len_rng hq
  have b := len_rng hd
  have l1 : len 1 = 1 := rfl
  rw [l1] at l
  have ld : len d = 1 := by omega
  rw [ld] at b
  simp at b
  omega
theorem md_dv {d a : Nat} (hd : d ≠ 0) : md a d = 0 ↔ dv d a := by
  constructor
  · intro h
    obtain ⟨⟨q, e⟩, _⟩ := md_spec a hd
    rw [h, Nat.xor_zero] at e
    exact ⟨q, e⟩
  · rintro ⟨q, e⟩
    exact md_is hd (q := q) (by rw [Nat.xor_zero]; exact e) (by have := (len_rng hd).2.2; show 0 < _; omega)
/-- two inverses are one -/
theorem inv_uniq {a b c m : Nat} (hm : m ≠ 0) (hb : md (cm a b) m = md 1 m) (hc : md (cm a c) m = md 1 m) (lb : len b < len m) (lc : len c < len m) : b = c := by
  have e1 : md (cm b (cm a c)) m = md b m := by rw [← md_right _ _ hm, hc, md_right _ _ hm, cm_one_right]
  have e2 : md (cm b (cm a c)) m = md c m := by rw [← cm_assoc, cm_comm b a, ← md_left _ _ hm, hb, md_left _ _ hm, cm_one_left]
  rw [e1, md_low hm lb, md_low hm lc] at e2
  exact e2
/-- what has an inverse has no divisor in common -/
theorem inv_dv {a b m d : Nat} (hm : m ≠ 0) (hb : md (cm a b) m = md 1 m) (h1 : dv d a) (h2 : dv d m) : d = 1 := by
  refine dv_one (dv_of_md hm ?_ h2)
  rw [← hb, cm_comm]
  exact dv_md hm (dv_mul b h1) h2
end PO
set_option linter.all false
set_option maxRecDepth 100000
namespace PO
open TW
def IsG (g a b : Nat) : Prop := dv g a ∧ dv g b ∧ ∀ d, dv d a → dv d b → dv d g
theorem dv_trans {a b c : Nat} : dv a b → dv b c → dv a c
  | ⟨q, h⟩, ⟨p, k⟩ => ⟨cm p q, by rw [k, h, cm_assoc]⟩
theorem dv_zero_left {a : Nat} (h : dv 0 a) : a = 0 := by
  obtain ⟨q, e⟩ := h
  rw [e, cm_zero_right]
theorem dv_ne {d a : Nat} (ha : a ≠ 0) (h : dv d a) : d ≠ 0 := by
  rintro rfl
  exact ha (dv_zero_left h)
theorem dv_len {d a : Nat} (ha : a ≠ 0) (h : dv d a) : len d ≤ len a := by
  have hd := dv_ne ha h
  obtain ⟨q, e⟩ := h
  have hq : q ≠ 0 := by rintro rfl; rw [cm_zero_left] at e; exact ha e
  have := cm_len hq hd
  have := (len_rng hq).2.2
  rw [e]
  omega
theorem len_one_eq {q : Nat} (h : len q = 1) : q = 1 := by
  have hq : q ≠ 0 := by rintro rfl; cases h
  have b := len_rng hq
  rw [h] at b
  simp at b
  omega
/-- a divisor of the same length is the number itself -/
theorem dv_eq {d a : Nat} (ha : a ≠ 0) (h : dv d a) (l : len a ≤ len d) : d = a := by
  have hd := dv_ne ha h
  obtain ⟨q, e⟩ := h
  have hq : q ≠ 0 := by rintro rfl; rw [cm_zero_left] at e; exact ha e
  have k := cm_len hq hd
  have a1 := (len_rng hq).2.2
  have a2 := (len_rng hd).2.2
  rw [← e] at k
  rw [e, len_one_eq (q := q) (by omega), cm_one_left]
theorem dv_anti {a b : Nat} (h : dv a b) (k : dv b a) : a = b := by
  by_cases hb : b = 0
  · subst hb; exact dv_zero_left k
  · have ha := dv_ne hb h
    exact dv_eq hb h (dv_len ha k)
theorem IsG.uniq {g h a b : Nat} (x : IsG g a b) (y : IsG h a b) : g = h := dv_anti (y.2.2 g x.1 x.2.1) (x.2.2 h y.1 y.2.1)
theorem IsG.symm {g a b : Nat} (x : IsG g a b) : IsG g b a := ⟨x.2.1, x.1, fun d h k => x.2.2 d k h⟩
theorem isG_zero (a : Nat) : IsG a a 0 := ⟨dv_self a, dv_zero a, fun d h _ => h⟩
theorem isG_step {g a b : Nat} (hb : b ≠ 0) : IsG g a b ↔ IsG g b (md a b) :=
  ⟨fun x => ⟨x.2.1, dv_md hb x.1 x.2.1, fun d h k => x.2.2 d (dv_of_md hb k h) h⟩, fun x => ⟨dv_of_md hb x.2.1 x.1, x.1, fun d h k => x.2.2 d k (dv_md hb h k)⟩⟩
theorem gd_ex : ∀ (n a b : Nat), len b < n → ∃ g, IsG g a b
  | 0, _, _, h => absurd h (by omega)
  | n + 1, a, b, h => by
    by_cases hb : b = 0
    · subst hb; exact ⟨a, isG_zero a⟩
    · obtain ⟨g, hg⟩ := gd_ex n b (md a b) (by have := (md_spec a hb).2; omega)
      exact ⟨g, (isG_step hb).mpr hg⟩
theorem gd_exists (a b : Nat) : ∃ g, IsG g a b := gd_ex (len b + 1) a b (by omega)
/-- the greatest common divisor, by choice -/
noncomputable def gd (a b : Nat) : Nat := Classical.choose (gd_exists a b)
end PO
set_option linter.all false
set_option maxRecDepth 100000
namespace BM
open TW PO
variable {a : Nat → Nat}
variable {k C B L gap : Nat}
/-- the state after k bits -/
structure St where
  C : Nat
  B : Nat
  L : Nat
  g : Nat
end BM
set_option linter.all false
set_option maxRecDepth 100000
namespace BM
open TW PO
variable {a : Nat → Nat}
theorem St.ex (t : St) : ∃ C B L g, t = ⟨C, B, L, g⟩ := by
  cases t
  exact ⟨_, _, _, _, rfl⟩
end BM
set_option linter.all false
set_option maxRecDepth 100000
namespace BM
open TW PO
section
variable {a : Nat → Nat}
theorem per_mul {p : Nat} (h : ∀ m, a (m + p) = a m) : ∀ k m, a (m + p * k) = a m
  | 0, m => rfl
  | k + 1, m => by rw [Nat.mul_succ, ← Nat.add_assoc, h, per_mul h k]
theorem per_gcd : ∀ (p q : Nat), (∀ m, a (m + p) = a m) → (∀ m, a (m + q) = a m) → ∀ m, a (m + Nat.gcd p q) = a m := by
  intro p q
  induction p, q using Nat.gcd.induction with
  | H0 q => intro _ h2 m; rw [Nat.gcd_zero_left]; exact h2 m
  | H1 p q hp ih =>
    intro h1 h2
    rw [Nat.gcd_rec]
    refine ih (fun m => ?_) h1
    have e := Nat.mod_add_div q p
    have := per_mul h1 (q / p) (m + q % p)
    rw [← this, Nat.add_assoc, e, h2]
theorem Rec.map (h : Rec a) (f : Nat → Nat) (hf : ∀ x y, f (x ^^^ y) = f x ^^^ f y) : Rec fun i => f (a i) := fun i => by
  show f (a (i + 31)) = _
  rw [h, hf]
end
end BM
set_option maxRecDepth 100000
set_option linter.all false
namespace PO
open TW
def mm (k a b m : Nat) : Nat := restN (2 * k + 1) (prodN k 0 a b) m
theorem mm_eq {k a b m : Nat} (hm : m ≠ 0) (ha : a < 2 ^ k) (hb : b < 2 ^ k) : mm k a b m = md (cm a b) m := by
  unfold mm
  rw [prod_cm hb]
  refine rest_md hm ?_
  have l0 := (len_rng hm).2.2
  by_cases h : a = 0
  · subst h
    rw [cm_zero_left]
    show 0 < _
    omega
  by_cases h2 : b = 0
  · subst h2
    rw [cm_zero_right]
    show 0 < _
    omega
  have l1 := cm_len h h2
  have l2 := len_le ha
  have l3 := len_le hb
  omega
def frc (f : Nat → Nat) (n : Nat) : Nat := match n with
  | 0 => f 0
  | y + 1 => f (y + 1)
theorem frc_eq (f : Nat → Nat) (n : Nat) : frc f n = f n := by cases n <;> rfl
def tw (k m : Nat) : Nat → Nat → Nat
  | 0, x => x
  | d + 1, x => frc (tw k m d) (mm k x x m)
/-- squared so many times -/
def twN (m : Nat) : Nat → Nat → Nat
  | 0, x => x
  | d + 1, x => twN m d (md (cm x x) m)
theorem tw_eq {k m : Nat} (hm : m ≠ 0) (h : m < 2 ^ k) : ∀ d x, x < 2 ^ k → tw k m d x = twN m d x
  | 0, _, _ => rfl
  | d + 1, x, hx => by
    show frc _ _ = twN m d _
    rw [frc_eq, mm_eq hm hx hx]
    exact tw_eq hm h d _ (md_lt hm h)
theorem twN_succ (m : Nat) : ∀ d x, twN m (d + 1) x = md (cm (twN m d x) (twN m d x)) m
  | 0, _ => rfl
  | d + 1, x => twN_succ m d (md (cm x x) m)
def powF (k m : Nat) : Nat → Nat → Nat → Nat → Nat
  | 0, f, _, _ => f
  | n + 1, f, s, l => if l = 0 then f else frc (fun f' => frc (fun s' => powF k m n f' s' (l / 2)) (mm k s s m)) (if l % 2 = 1 then mm k f s m else f)
theorem powF_eq {k m : Nat} (hm : m ≠ 0) (h : m < 2 ^ k) : ∀ n f s l, l < 2 ^ n → f < 2 ^ k → s < 2 ^ k → md f m = f → powF k m n f s l = md (cm f (pw s l m)) m
  | 0, f, s, l, hl, hf, hs, e => by
    have : l = 0 := by simpa using hl
    subst this
    show f = md (cm f (md 1 m)) m
    rw [md_right _ _ hm, cm_one_right, e]
  | n + 1, f, s, l, hl, hf, hs, e => by
    unfold powF
    by_cases h0 : l = 0
    · rw [if_pos h0]
      subst h0
      show f = md (cm f (md 1 m)) m
      rw [md_right _ _ hm, cm_one_right, e]
    · rw [if_neg h0, frc_eq, frc_eq, mm_eq hm hs hs, mm_eq hm hf hs]
      have fm : (if l % 2 = 1 then md (cm f s) m else f) < 2 ^ k ∧ md (if l % 2 = 1 then md (cm f s) m else f) m = (if l % 2 = 1 then md (cm f s) m else f) := by
        split
        · exact ⟨md_lt hm h, md_md _ hm⟩
        · exact ⟨hf, e⟩
      rw [powF_eq hm h n _ _ _ (by rw [Nat.pow_succ] at hl; omega) fm.1 (md_lt hm h) fm.2]
      exact (pw_turn hm f s l).symm
theorem powF_pw {k m a n : Nat} (hm : m ≠ 0) (h : m < 2 ^ k) (ha : a < 2 ^ k) (hn : n < 2 ^ 64) : powF k m 64 (md 1 m) a n = pw a n m := by
  rw [powF_eq hm h 64 _ _ _ hn (md_lt hm h) ha (md_md _ hm), md_left _ _ hm, cm_one_left, pw_md hm]
/-- the greatest common divisor -/
def gcF : Nat → Nat → Nat → Nat
  | 0, a, _ => a
  | n + 1, a, b => if b = 0 then a else frc (gcF n b) (md a b)
theorem gcF_is : ∀ (n a b : Nat), len b ≤ n → IsG (gcF n a b) a b
  | 0, a, b, h => by
    have : b = 0 := by
      by_cases c : b = 0
      · exact c
      · have := (len_rng c).2.2
        omega
    subst this
    exact isG_zero a
  | n + 1, a, b, h => by
    unfold gcF
    by_cases c : b = 0
    · rw [if_pos c]
      subst c
      exact isG_zero a
    · rw [if_neg c, frc_eq]
      have l := (md_spec a c).2
      exact (isG_step c).mpr (gcF_is n b (md a b) (by omega))
/-- the prime divisors of a number, by trial -/
def strip : Nat → Nat → Nat → Nat
  | 0, r, _ => r
  | n + 1, r, o => if r % o = 0 then strip n (r / o) o else r
def prF : Nat → List Nat → Nat → Nat → Option (List Nat)
  | 0, _, _, _ => none
  | n + 1, f, r, o => if o * o ≤ r then (if r % o = 0 then prF n (f ++ [o]) (strip 64 r o) (o + 1) else prF n f r (o + 1)) else some (if 1 < r then f ++ [r] else f)
/-- the program's test -/
def irrB (k n : Nat) (L : List Nat) : Bool := decide (1 ≤ len n - 1) && (tw k n (len n - 1) (md 2 n) == md 2 n) && L.all fun p => gcF (2 * k) n (tw k n ((len n - 1) / p) (md 2 n) ^^^ 2) == 1
def irr (k n : Nat) : Bool := match prF 64 [] (len n - 1) 2 with
  | some L => irrB k n L
  | none => false
def irrs : Nat → List Nat := fun d => ((List.range (2 ^ d)).map fun i => 2 ^ d + i).filter (irr 12)
/-- small ones: all powers are told -/
def fer (m : Nat) : Bool := (List.range (2 ^ (len m - 1))).all fun r => r == 0 || powF 12 m 64 (md 1 m) r (2 ^ (len m - 1) - 1) == 1
theorem fer_all : ((List.range 8).all fun d => (irrs d).all fer) = true := by decide +kernel
structure Ord (a m f : Nat) : Prop where
  pos : 1 ≤ f
  one : pw a f m = 1
  least : ∀ k, 1 ≤ k → pw a k m = 1 → f ≤ k
theorem pw_per {a m p : Nat} (hm : m ≠ 0) (h1 : md 1 m = 1) (h : pw a p m = 1) : ∀ i, pw a (i + p) m = pw a i m := fun i => by
  rw [pw_add hm, h, cm_one_right, pw_md hm]
theorem pw_mul {a m g : Nat} (hm : m ≠ 0) (h1 : md 1 m = 1) (h : pw a g m = 1) (j : Nat) : pw a (g * j) m = 1 := by
  have k := BM.per_mul (a := fun i => pw a i m) (p := g) (pw_per hm h1 h) j 0
  rw [Nat.zero_add] at k
  exact k.trans h1
theorem ord_of {a m N f : Nat} {L : List Nat} (hm : m ≠ 0) (h1 : md 1 m = 1) (N0 : 1 ≤ N) (cover : ∀ g, g ∣ N → g ≠ 1 → ∃ p ∈ L, p ∣ g) (lp : ∀ p ∈ L, 2 ≤ p) (hd : f ∣ N) (hf : pw a f m = 1) (red : ∀ p ∈ L, ¬ (f % p = 0 ∧ pw a (f / p) m = 1)) : Ord a m f := by
  have f0 : 1 ≤ f := Nat.pos_of_dvd_of_pos hd N0
  refine ⟨f0, hf, fun k k0 hk => ?_⟩
  have hg : pw a (Nat.gcd f k) m = 1 := by
    have q := BM.per_gcd (a := fun i => pw a i m) f k (pw_per hm h1 hf) (pw_per hm h1 hk) 0
    rw [Nat.zero_add] at q
    exact q.trans h1
  obtain ⟨g, hgd⟩ : ∃ g, g = Nat.gcd f k := ⟨_, rfl⟩
  rw [← hgd] at hg
  have gf : g ∣ f := hgd ▸ Nat.gcd_dvd_left f k
  have gk : g ∣ k := hgd ▸ Nat.gcd_dvd_right f k
  by_cases e : g = f
  · exact Nat.le_of_dvd k0 (e ▸ gk)
  · obtain ⟨q, hq⟩ := gf
    have q1 : q ≠ 1 := fun c => e (by rw [hq, c, Nat.mul_one])
    have qN : q ∣ N := Nat.dvd_trans ⟨g, by rw [hq, Nat.mul_comm]⟩ hd
    obtain ⟨p, pL, ⟨r, hr⟩⟩ := cover q qN q1
    have p2 := lp p pL
    refine absurd ⟨?_, ?_⟩ (red p pL)
    · rw [hq, hr, ← Nat.mul_assoc, Nat.mul_comm g p, Nat.mul_assoc]
      exact Nat.mul_mod_right _ _
    · have e2 : f / p = g * r := by
        rw [hq, hr, ← Nat.mul_assoc, Nat.mul_comm g p, Nat.mul_assoc]
        exact Nat.mul_div_cancel_left _ (by omega)
      rw [e2]
      exact pw_mul hm h1 hg r
/-- the prime divisors found for 2 ^ d - 1 -/
def cov (d : Nat) : Bool := match prF 64 [] (2 ^ d - 1) 2 with
  | some L => (L.all fun p => decide (2 ≤ p)) && (List.range (2 ^ d)).all fun g => g == 0 || (2 ^ d - 1) % g != 0 || g == 1 || L.any fun p => g % p == 0
  | none => false
theorem cov_all : ((List.range 8).all fun d => d == 0 || cov d) = true := by decide +kernel
theorem cov_is {d : Nat} (h0 : d ≠ 0) (h : d < 8) : ∃ L, prF 64 [] (2 ^ d - 1) 2 = some L ∧ (∀ p ∈ L, 2 ≤ p) ∧ ∀ g, g ∣ 2 ^ d - 1 → g ≠ 1 → ∃ p ∈ L, p ∣ g := by
  have k := List.all_eq_true.mp cov_all d (List.mem_range.mpr h)
  rw [Bool.or_eq_true] at k
  have k : cov d = true := k.resolve_left (by simpa using h0)
  unfold cov at k
  split at k
  · rename_i L hL
    rw [Bool.and_eq_true] at k
    refine ⟨L, hL, fun p hp => of_decide_eq_true (List.all_eq_true.mp k.1 p hp), fun g hg g1 => ?_⟩
    have p2 : 2 ≤ 2 ^ d := Nat.le_trans (by decide : 2 ≤ 2 ^ 1) (Nat.pow_le_pow_right (by decide) (by omega))
    have gl := Nat.le_of_dvd (by omega) hg
    have q := List.all_eq_true.mp k.2 g (List.mem_range.mpr (by omega))
    have g0 : g ≠ 0 := by
      rintro rfl
      have := Nat.eq_zero_of_zero_dvd hg
      omega
    have gm : (2 ^ d - 1) % g = 0 := Nat.mod_eq_zero_of_dvd hg
    simp only [Bool.or_eq_true, beq_iff_eq, bne_iff_ne, ne_eq, gm, not_true_eq_false, g0, g1, false_or] at q
    obtain ⟨p, hp, e⟩ := List.any_eq_true.mp q
    exact ⟨p, hp, Nat.dvd_of_mod_eq_zero (by simpa using e)⟩
  · cases k
theorem irrs_mem {d m : Nat} (h : m ∈ irrs d) : irr 12 m = true ∧ 2 ^ d ≤ m ∧ m < 2 ^ (d + 1) := by
  obtain ⟨h1, h2⟩ := List.mem_filter.mp h
  obtain ⟨i, hi, rfl⟩ := List.mem_map.mp h1
  have := List.mem_range.mp hi
  exact ⟨h2, by omega, by rw [Nat.pow_succ]; omega⟩
/-- all small ones: Fermat -/
theorem fermat {d m a : Nat} (h0 : d ≠ 0) (hd : d < 8) (h : m ∈ irrs d) (ha : md a m ≠ 0) : len m = d + 1 ∧ pw a (2 ^ d - 1) m = 1 := by
  obtain ⟨_, l0, l1⟩ := irrs_mem h
  have pd : 0 < 2 ^ d := Nat.pow_pos (by decide)
  have hm : m ≠ 0 := by omega
  obtain ⟨k0, k1, k2⟩ := len_rng hm
  have le : len m = d + 1 := by
    have a1 := len_le l1
    have a2 : ¬ len m ≤ d := fun c => by
      have := lt_len m
      have := Nat.pow_le_pow_right (show 0 < 2 by decide) c
      omega
    omega
  refine ⟨le, ?_⟩
  have f := List.all_eq_true.mp (List.all_eq_true.mp fer_all d (List.mem_range.mpr hd)) m h
  unfold fer at f
  rw [le, Nat.add_sub_cancel] at f
  have rl : md a m < 2 ^ d := by
    have := (md_spec a hm).2
    exact Nat.lt_of_lt_of_le (lt_len _) (Nat.pow_le_pow_right (by decide) (by omega))
  have q := List.all_eq_true.mp f (md a m) (List.mem_range.mpr rl)
  rw [Bool.or_eq_true, beq_iff_eq, beq_iff_eq] at q
  have q := q.resolve_left ha
  have u : 2 ^ (d + 1) ≤ 2 ^ 12 := Nat.pow_le_pow_right (by decide) (by omega)
  have u2 : 2 ^ d ≤ 2 ^ 7 := Nat.pow_le_pow_right (by decide) (by omega)
  rw [powF_pw hm (by omega) (by omega) (by omega), pw_base hm] at q
  exact q
theorem md_one {m : Nat} (h : 2 ≤ m) : md 1 m = 1 := md_low (by omega) (by
  have := (len_rng (n := m) (by omega))
  have l1 : ¬ len m ≤ 1 := fun c => by
    have := lt_len m
    have := Nat.pow_le_pow_right (show 0 < 2 by decide) c
    omega
  have : len 1 = 1 := by decide
  omega)
end PO
namespace PO
theorem strip_le : ∀ n r o, strip n r o ≤ r
  | 0, _, _ => Nat.le_refl _
  | n + 1, r, o => by
    unfold strip
    split
    · exact Nat.le_trans (strip_le n (r / o) o) (Nat.div_le_self _ _)
    · exact Nat.le_refl _
theorem prF_mem {N : Nat} : ∀ n (f : List Nat) r o L, prF n f r o = some L → 2 ≤ o → r ≤ N → (∀ p ∈ f, 2 ≤ p ∧ p ≤ N) → ∀ p ∈ L, 2 ≤ p ∧ p ≤ N
  | 0, _, _, _, _, h, _, _, _ => by cases h
  | n + 1, f, r, o, L, h, h2, hr, hf => by
    unfold prF at h
    split at h
    · rename_i c
      have oN : o ≤ N := Nat.le_trans (Nat.le_mul_of_pos_left o (by omega)) (Nat.le_trans c hr)
      split at h
      · refine prF_mem n _ _ _ L h (by omega) (Nat.le_trans (strip_le 64 r o) hr) fun p hp => ?_
        rcases List.mem_append.mp hp with q | q
        · exact hf p q
        · rw [List.mem_singleton.mp q]; exact ⟨h2, oN⟩
      · exact prF_mem n _ _ _ L h (by omega) hr hf
    · cases h
      split
      · intro p hp
        rcases List.mem_append.mp hp with q | q
        · exact hf p q
        · rw [List.mem_singleton.mp q]; omega
      · exact hf
end PO
set_option maxRecDepth 100000
set_option linter.all false
namespace PO
open TW
theorem bez_ex : ∀ (n a b : Nat), len b < n → ∃ g u v, IsG g a b ∧ g = cm u a ^^^ cm v b
  | 0, _, _, h => absurd h (by omega)
  | n + 1, a, b, h => by
    by_cases hb : b = 0
    · subst hb
      exact ⟨a, 1, 0, isG_zero a, by rw [cm_one_left, cm_zero_left, Nat.xor_zero]⟩
    · obtain ⟨⟨q, hq⟩, hl⟩ := md_spec a hb
      obtain ⟨g, u, v, hg, e⟩ := bez_ex n b (md a b) (by omega)
      have me : md a b = cm q b ^^^ a := by
        conv => rhs; rhs; rw [hq]
        rw [xx]
      refine ⟨g, v, u ^^^ cm v q, (isG_step hb).mpr hg, ?_⟩
      rw [e, me, cm_xor_right, cm_xor_left, cm_assoc, ← Nat.xor_assoc, Nat.xor_comm]
theorem bez (a b : Nat) : ∃ g u v, IsG g a b ∧ g = cm u a ^^^ cm v b := bez_ex (len b + 1) a b (by omega)
def Irr (p : Nat) : Prop := 2 ≤ p ∧ ∀ d, dv d p → d = 1 ∨ d = p
theorem dv_left {d a : Nat} (c : Nat) (h : dv d a) : dv d (cm a c) := by rw [cm_comm]; exact dv_mul c h
theorem euclid {p a b : Nat} (h : Irr p) (hd : dv p (cm a b)) : dv p a ∨ dv p b := by
  obtain ⟨g, u, v, hg, e⟩ := bez p a
  rcases h.2 g hg.1 with rfl | rfl
  · right
    have k : b = cm (cm u p) b ^^^ cm v (cm a b) := by
      rw [← cm_assoc, ← cm_xor_left, ← e, cm_one_left]
    rw [k]
    exact dv_xor (dv_left b (dv_mul u (dv_self p))) (dv_mul v hd)
  · exact .inl hg.2.1
def prod : List Nat → Nat
  | [] => 1
  | p :: L => cm p (prod L)
theorem prod_app : ∀ (A B : List Nat), prod (A ++ B) = cm (prod A) (prod B)
  | [], B => (cm_one_left _).symm
  | a :: A, B => by
    show cm a (prod (A ++ B)) = cm (cm a (prod A)) (prod B)
    rw [prod_app A B, cm_assoc]
theorem prod_one (p : Nat) : prod [p] = p := cm_one_right p
theorem dv_prod {p : Nat} : ∀ {L : List Nat}, p ∈ L → dv p (prod L)
  | q :: L, h => by
    rcases List.mem_cons.mp h with rfl | h
    · exact dv_left _ (dv_self p)
    · exact dv_mul q (dv_prod h)
theorem mem_of_dv {p : Nat} (hp : Irr p) : ∀ {L : List Nat}, (∀ q ∈ L, Irr q) → dv p (prod L) → p ∈ L
  | [], _, h => by
    have := dv_one h
    have := hp.1
    omega
  | q :: L, hL, h => by
    rcases euclid hp h with h | h
    · rcases (hL q (List.mem_cons_self ..)).2 p h with e | e
      · have := hp.1
        omega
      · rw [e]; exact List.mem_cons_self ..
    · exact List.mem_cons_of_mem _ (mem_of_dv hp (fun x hx => hL x (List.mem_cons_of_mem _ hx)) h)
theorem cm_cancel {a x y : Nat} (ha : a ≠ 0) (h : cm a x = cm a y) : x = y := by
  refine xor_zero_iff ?_
  by_cases c : x ^^^ y = 0
  · exact c
  · exact absurd (show cm a (x ^^^ y) = 0 by rw [cm_xor_right, h, Nat.xor_self]) (cm_ne ha c)
structure Fac (n : Nat) (L : List Nat) : Prop where
  irr : ∀ p ∈ L, Irr p
  asc : L.Pairwise (· ≤ ·)
  pr : prod L = n
theorem pair_le {a x : Nat} {A : List Nat} (h : (a :: A).Pairwise (· ≤ ·)) (hx : x ∈ a :: A) : a ≤ x := by
  rcases List.mem_cons.mp hx with rfl | hx
  · exact Nat.le_refl _
  · exact (List.pairwise_cons.mp h).1 x hx
theorem fac_uniq : ∀ (A B : List Nat), (∀ p ∈ A, Irr p) → (∀ p ∈ B, Irr p) → A.Pairwise (· ≤ ·) → B.Pairwise (· ≤ ·) → prod A = prod B → A = B
  | [], [], _, _, _, _, _ => rfl
  | [], b :: B, _, h2, _, _, e => by
    have hb := h2 b (List.mem_cons_self ..)
    exact absurd (mem_of_dv (L := []) hb (fun _ h => by cases h) (by rw [e]; exact dv_prod (List.mem_cons_self ..))) (by simp)
  | a :: A, [], h1, _, _, _, e => by
    have ha := h1 a (List.mem_cons_self ..)
    exact absurd (mem_of_dv (L := []) ha (fun _ h => by cases h) (by rw [← e]; exact dv_prod (List.mem_cons_self ..))) (by simp)
  | a :: A, b :: B, h1, h2, h3, h4, e => by
    have ha := h1 a (List.mem_cons_self ..)
    have hb := h2 b (List.mem_cons_self ..)
    have l1 := pair_le h3 (mem_of_dv hb h1 (by rw [e]; exact dv_prod (List.mem_cons_self ..)))
    have l2 := pair_le h4 (mem_of_dv ha h2 (by rw [← e]; exact dv_prod (List.mem_cons_self ..)))
    have ab : a = b := Nat.le_antisymm l1 l2
    subst ab
    have a0 : a ≠ 0 := by have := ha.1; omega
    rw [fac_uniq A B (fun x hx => h1 x (List.mem_cons_of_mem _ hx)) (fun x hx => h2 x (List.mem_cons_of_mem _ hx)) (List.pairwise_cons.mp h3).2 (List.pairwise_cons.mp h4).2 (cm_cancel a0 e)]
theorem Fac.uniq {n : Nat} {A B : List Nat} (h : Fac n A) (k : Fac n B) : A = B := fac_uniq A B h.irr k.irr h.asc k.asc (h.pr.trans k.pr.symm)
/-- the trial, under way -/
structure Part (n : Nat) (f : List Nat) (r o : Nat) : Prop where
  irr : ∀ p ∈ f, Irr p
  asc : f.Pairwise (· ≤ ·)
  le : ∀ p ∈ f, p ≤ o
  pr : cm (prod f) r = n
  r0 : r ≠ 0
  o2 : 2 ≤ o
  low : ∀ d, 2 ≤ d → d < o → ¬ dv d r
theorem Part.start {n : Nat} (h : n ≠ 0) : Part n [] n 2 := ⟨(fun _ h => by cases h), List.Pairwise.nil, (fun _ h => by cases h), cm_one_left n, h, Nat.le_refl _, fun d h1 h2 => absurd h1 (by omega)⟩
theorem lt_of_len {x o : Nat} (h : len x < len o) : x < o := Nat.lt_of_not_le fun c => by
  have o0 : o ≠ 0 := by rintro rfl; exact absurd h (by show ¬ _ < 0; omega)
  have := len_ge o0
  have l : 2 ^ (len o - 1) ≤ x := Nat.le_trans this c
  have := le_len l
  omega
theorem Part.snoc {n o : Nat} {f : List Nat} (h : ∀ p ∈ f, p ≤ o) (ha : f.Pairwise (· ≤ ·)) : (f ++ [o]).Pairwise (· ≤ ·) := by
  rw [List.pairwise_append]
  refine ⟨ha, List.pairwise_singleton .., fun a h1 b h2 => ?_⟩
  rw [List.mem_singleton.mp h2]
  exact h a h1
theorem Part.mem {o : Nat} {f : List Nat} {P : Nat → Prop} (h : ∀ p ∈ f, P p) (k : P o) : ∀ p ∈ f ++ [o], P p := fun p hp => by
  rcases List.mem_append.mp hp with hp | hp
  · exact h p hp
  · rw [List.mem_singleton.mp hp]; exact k
theorem Part.yes {n r o q : Nat} {f : List Nat} (h : Part n f r o) (e : r = cm q o) : Part n (f ++ [o]) q o ∧ len q < len r := by
  have o0 : o ≠ 0 := by have := h.o2; omega
  have q0 : q ≠ 0 := by
    rintro rfl
    exact h.r0 (e.trans (cm_zero_left o))
  have dr : dv o r := ⟨q, e⟩
  have io : Irr o := by
    refine ⟨h.o2, fun d hd => ?_⟩
    by_cases d1 : d = 1
    · exact .inl d1
    right
    have d0 := dv_ne o0 hd
    refine dv_eq o0 hd (Nat.le_of_not_lt fun c => ?_)
    exact h.low d (by omega) (lt_of_len c) (dv_trans hd dr)
  have l := cm_len q0 o0
  have lo : 2 ≤ len o := le_len (k := 1) h.o2
  have lq := (len_rng q0).2.2
  refine ⟨⟨Part.mem h.irr io, Part.snoc (n := n) h.le h.asc, Part.mem h.le (Nat.le_refl _), ?_, q0, h.o2, fun d d1 d2 k => h.low d d1 d2 (by rw [e]; exact dv_left o k)⟩, by rw [e, l]; omega⟩
  rw [prod_app, prod_one, cm_assoc, cm_comm o q, ← e, h.pr]
theorem Part.no {n r o : Nat} {f : List Nat} (h : Part n f r o) (e : ¬ dv o r) : Part n f r (o + 1) :=
  ⟨h.irr, h.asc, fun p hp => Nat.le_succ_of_le (h.le p hp), h.pr, h.r0, Nat.le_succ_of_le h.o2, fun d d1 d2 => by
    by_cases c : d = o
    · rw [c]; exact e
    · exact h.low d d1 (by omega)⟩
theorem Part.end1 {n o : Nat} {f : List Nat} (h : Part n f 1 o) : Fac n f := ⟨h.irr, h.asc, by have := h.pr; rwa [cm_one_right] at this⟩
theorem Part.end2 {n r o : Nat} {f : List Nat} (h : Part n f r o) (r1 : 1 < r) (e : ¬ 2 * (len o - 1) ≤ len r - 1) : Fac n (f ++ [r]) := by
  have ir : Irr r := by
    refine ⟨r1, fun d hd => ?_⟩
    by_cases d1 : d = 1
    · exact .inl d1
    right
    obtain ⟨q, hq⟩ := hd
    have d0 := dv_ne h.r0 ⟨q, hq⟩
    have q0 : q ≠ 0 := by
      rintro rfl
      exact h.r0 (hq.trans (cm_zero_left d))
    by_cases q1 : q = 1
    · rw [q1, cm_one_left] at hq
      exact hq.symm
    have l := cm_len q0 d0
    rw [← hq] at l
    have ld := (len_rng d0).2.2
    have lq := (len_rng q0).2.2
    by_cases c : len d ≤ len q
    · exact absurd ⟨q, hq⟩ (h.low d (by omega) (lt_of_len (by omega)))
    · exact absurd ⟨d, hq.trans (cm_comm q d)⟩ (h.low q (by omega) (lt_of_len (by omega)))
  have orr : o ≤ r := Nat.le_of_not_lt fun c => h.low r r1 c (dv_self r)
  exact ⟨Part.mem h.irr ir, Part.snoc (n := n) (fun p hp => Nat.le_trans (h.le p hp) orr) h.asc, by rw [prod_app, prod_one]; exact h.pr⟩
/-- the test, by trial -/
def tri (n : Nat) : Bool := decide (2 ≤ n) && (List.range 14).all fun i => decide (n ≤ i + 2) || md n (i + 2) != 0
theorem tri_irr {n : Nat} (h : n < 256) : tri n = true ↔ Irr n := by
  unfold tri
  rw [Bool.and_eq_true, decide_eq_true_eq]
  constructor
  · rintro ⟨n2, h2⟩
    have low : ∀ x, x ≠ 1 → x < 16 → x < n → dv x n → False := fun x x1 x2 x3 hx => by
      have x0 := dv_ne (by omega) hx
      have k := List.all_eq_true.mp h2 (x - 2) (List.mem_range.mpr (by omega))
      rw [show x - 2 + 2 = x by omega, Bool.or_eq_true, decide_eq_true_eq, (md_dv x0).mpr hx] at k
      rcases k with k | k
      · omega
      · cases k
    refine ⟨n2, fun d hd => ?_⟩
    by_cases d1 : d = 1
    · exact .inl d1
    right
    obtain ⟨q, hq⟩ := hd
    have n0 : n ≠ 0 := by omega
    have d0 := dv_ne n0 ⟨q, hq⟩
    have q0 : q ≠ 0 := by
      rintro rfl
      exact n0 (hq.trans (cm_zero_left d))
    by_cases q1 : q = 1
    · rw [q1, cm_one_left] at hq
      exact hq.symm
    have l := cm_len q0 d0
    rw [← hq] at l
    have ln := len_le (k := 8) h
    have ld := (len_rng d0).2.2
    have lq := (len_rng q0).2.2
    have l2 : ∀ x, x ≠ 0 → x ≠ 1 → 2 ≤ len x := fun x h0 h1 => le_len (k := 1) (by omega)
    have ld2 := l2 d d0 d1
    have lq2 := l2 q q0 q1
    by_cases c : len d ≤ len q
    · exact (low d d1 (Nat.lt_of_lt_of_le (lt_len d) (Nat.pow_le_pow_right (n := 2) (by decide) (show len d ≤ 4 by omega))) (lt_of_len (by omega)) ⟨q, hq⟩).elim
    · exact (low q q1 (Nat.lt_of_lt_of_le (lt_len q) (Nat.pow_le_pow_right (n := 2) (by decide) (show len q ≤ 4 by omega))) (lt_of_len (by omega)) ⟨d, hq.trans (cm_comm q d)⟩).elim
  · rintro ⟨n2, h2⟩
    refine ⟨n2, List.all_eq_true.mpr fun i _ => ?_⟩
    rw [Bool.or_eq_true, decide_eq_true_eq]
    by_cases c : n ≤ i + 2
    · exact .inl c
    right
    rw [bne_iff_ne]
    intro e
    rcases h2 (i + 2) ((md_dv (by omega)).mp e) with k | k <;> omega
theorem tri_all : ((List.range 256).all fun n => irr 12 n == tri n) = true := by decide +kernel
theorem irr_iff {n : Nat} (h : n < 256) : irr 12 n = true ↔ Irr n := by
  have k := eq_of_beq (List.all_eq_true.mp tri_all n (List.mem_range.mpr h))
  rw [k]
  exact tri_irr h
theorem fac_one {n : Nat} {L : List Nat} (h : Fac n L) : L.length = 1 ↔ Irr n := by
  constructor
  · intro e
    obtain ⟨p, rfl⟩ := List.length_eq_one_iff.mp e
    have := h.pr
    rw [prod_one] at this
    rw [← this]
    exact h.irr p (List.mem_cons_self ..)
  · intro e
    have k : Fac n [n] := ⟨fun p hp => by rw [List.mem_singleton.mp hp]; exact e, List.pairwise_singleton .., prod_one n⟩
    rw [h.uniq k]
    rfl
end PO
namespace PO
theorem prod_perm {A B : List Nat} (h : A.Perm B) : prod A = prod B := by
  induction h with
  | nil => rfl
  | cons x _ ih => show cm x _ = cm x _; rw [ih]
  | swap x y l => show cm y (cm x _) = cm x (cm y _); rw [← cm_assoc, cm_comm y x, cm_assoc]
  | trans _ _ i1 i2 => exact i1.trans i2
theorem fac_sort {a b c : Nat} {A B C : List Nat} (hA : Fac a A) (hB : Fac b B) (hC : Fac (cm a b) C) : ((A ++ B).map fun n => ((n : Nat) : Int)).mergeSort (fun a b => decide (a ≤ b)) = C.map fun n => ((n : Nat) : Int) := by
  obtain ⟨S, hS⟩ : ∃ S, S = ((A ++ B).map fun n => ((n : Nat) : Int)).mergeSort (fun a b => decide (a ≤ b)) := ⟨_, rfl⟩
  have pm : S.Perm ((A ++ B).map fun n => ((n : Nat) : Int)) := by rw [hS]; exact List.mergeSort_perm _ _
  have so : S.Pairwise (fun a b => decide (a ≤ b) = true) := by
    rw [hS]
    exact List.pairwise_mergeSort (fun a b c h1 h2 => by simp at *; omega) (fun a b => by simp; omega) _
  have p2 : (S.map Int.toNat).Perm (A ++ B) := by
    have := pm.map Int.toNat
    rw [List.map_map] at this
    have e : (Int.toNat ∘ fun n : Nat => (n : Int)) = id := by funext n; simp
    rwa [e, List.map_id] at this
  have nn : ∀ x ∈ S, 0 ≤ x := fun x hx => by
    obtain ⟨n, _, rfl⟩ := List.mem_map.mp (pm.mem_iff.mp hx)
    omega
  have back : (S.map Int.toNat).map (fun n => ((n : Nat) : Int)) = S := by
    rw [List.map_map]
    conv => rhs; rw [← List.map_id S]
    exact List.map_congr_left fun x hx => by
      have := nn x hx
      simp
      omega
  have F : Fac (cm a b) (S.map Int.toNat) := by
    refine ⟨fun p hp => ?_, ?_, ?_⟩
    · rcases List.mem_append.mp (p2.mem_iff.mp hp) with h | h
      · exact hA.irr p h
      · exact hB.irr p h
    · rw [List.pairwise_map]
      refine List.Pairwise.imp_of_mem ?_ so
      intro a b ha hb h
      have := of_decide_eq_true h
      omega
    · rw [prod_perm p2, prod_app, hA.pr, hB.pr]
  rw [← hS, ← back, F.uniq hC]
end PO
set_option Elab.async false
set_option linter.all false
set_option maxRecDepth 100000
set_option maxHeartbeats 1000000
set_option exponentiation.threshold 3000
namespace Pf
open PySem Ab
local macro_rules | `(tactic| simp! [$xs,*]) => `(tactic| try simp (config := {maxSteps := 1000000}) only [k_bind, k_Kb, k_st, k_Kst, k_Rst, k_thn, k_loop, k_fn, k_forget, k_clr, k_noX, k_try, k_stuck, k_Astuck, d_thn_nx, d_thn_bk, d_thn_ct, d_thn_rt, d_thn_er, d_lp_nx, d_lp_bk, d_lp_ct, d_lp_rt, d_lp_er, d_fg_nx, d_fg_bk, d_fg_ct, d_fg_rt, d_fg_er, d_cl_nx, d_cl_bk, d_cl_ct, d_cl_rt, d_cl_er, d_tr_nx, d_tr_bk, d_tr_ct, d_tr_rt, d_tr_er, d_nX_nx, d_nX_bk, d_nX_ct, d_nX_rt, d_nX_er, d_fn_nx, d_fn_bk, d_fn_ct, d_fn_rt, d_fn_er, A_nx, A_bk, A_ct, A_rt, A_err, post_ok, post_err, post_noErr, e_op, e_opK, e_un, e_cb, e_nil, e_c, e_cons, e_consK, e_consK2, e_and, e_or, e_andK, e_orK, e_not, e_notK, e_test, e_testK, e_tand, e_tandK, e_tor, e_torK, e_tnot, e_tnotK, e_yes, e_if, e_ifK, e_ch, e_chK1, e_chK2, e_chK3, e_tup, e_tupK, e_lst, e_lstK, e_newL, e_call, e_callK, e_meth, e_methK, e_methK2, e_prop, e_propK, e_make, e_makeK, e_makeK2, e_makeV, e_sm, e_smK, e_smK2, e_cm, e_cmK, e_cmK2, e_sl, e_slK1, e_slK2, e_slK3, e_part, e_partK, e_nopart, e_rev, e_bm, e_bmK, e_pr, e_pr0, e_prK1, e_prK2, e_prK3, e_disp, e_dnew, e_own, e_ownK, e_lc, e_lcK, e_iter, e_rng1, e_rng1K, e_rng2, e_rng2K, e_enum, s_drop, s_dropK, s_ret, s_retK, s_retN, s_next, s_break, s_cont, s_seq, s_if, s_ifK, s_asg, s_asgK, s_name, s_par, s_parK, s_par3, s_parK3, s_gnil, s_gcons, s_gtup, s_for, s_forK, s_raise, s_raiseK, s_sf, s_sfK1, s_sfK2, s_dp, s_dpK1, s_dpK2, s_dpK3, s_forget, s_def, s_fld, e_enumU, e_enumUT, e_match, e_mcase, e_mcase2, e_many, e_mnil, e_lcX, e_lcXK, e_get2, e_methS, e_methS1, e_methS2, s_augS, s_augS1, gEqS_int, gEqS_str, gEqS_bl, gEqS_tup, e_fmt, e_js, e_jsC, e_jsN, e_join, e_joinK, eq_self, beq_self_eq_true, k_grd, k_grdS, k_ite, k_Aite, true_implies, false_implies, implies_true, List.map_cons, List.map_nil, List.nil_append, List.cons_append, List.append_nil, List.replicate_succ, List.replicate_zero, List.getElem?_cons_zero, List.getElem?_cons_succ, List.length_cons, List.length_nil, List.set_cons_zero, List.set_cons_succ, ↓reduceIte, ↓reduceDIte, Nat.reduceAdd, Nat.reduceLeDiff, Nat.reduceEqDiff, Nat.zero_add, if_true, if_false, aVar, gMinus_int, gLt_int, gLe_int, gGt_int, gGe_int, gEq_int, gNe_int, gEq_str, gNe_str, gEq_bl, gNe_bl, gXor_int, gAnd_int, gOr_int, gAdd_int, gIsN_non, gNotN_non, gIsB_bl, gNotB_bl, gNeg_int, gLen_tup, gLen_scr, gMax2_int, gMin2_int, gBits_int, gSl_tup, gSl_scr, Bool.not_true, Bool.not_false, Bool.true_eq_false, Bool.false_eq_true, Bool.true_and, Bool.false_and, Bool.and_true, Bool.and_false, Bool.true_or, Bool.false_or, decide_true, decide_false, and_self, and_true, true_and, and_false, false_and, not_true_eq_false, not_false_eq_true, reduceCtorEq, kz, z1, z2, z3, z4, z5, z6, z7, z8, z9, z10, z11, z12, z13, z14, z15, z16, isCls, isNon, aForget, aHand, toKey, keysA, iterOf_tup, iterOf_scr, oNx_some, noErr_ok, decide_eq_true_eq, decide_eq_false_iff_not, Sto.new_n, Sto.set_n, Sto.set_at, Sto.new_at, Nat.zero_le, aMakeV, Cl_non, Cl_bl, Cl_int, Cl_str, Cl_cls, Cl_obj, Cl_tup, ClL_nil, ClL_cons, $xs,*])
local macro_rules | `(tactic| simp! only [$xs,*]) => `(tactic| simp only [e_op, e_opK, e_un, e_cb, e_nil, e_c, e_cons, e_consK, e_consK2, e_and, e_or, e_andK, e_orK, e_not, e_notK, e_test, e_testK, e_tand, e_tandK, e_tor, e_torK, e_tnot, e_tnotK, e_yes, e_if, e_ifK, e_ch, e_chK1, e_chK2, e_chK3, e_tup, e_tupK, e_lst, e_lstK, e_newL, e_call, e_callK, e_meth, e_methK, e_methK2, e_prop, e_propK, e_make, e_makeK, e_makeK2, e_makeV, e_sm, e_smK, e_smK2, e_cm, e_cmK, e_cmK2, e_sl, e_slK1, e_slK2, e_slK3, e_part, e_partK, e_nopart, e_rev, e_bm, e_bmK, e_pr, e_pr0, e_prK1, e_prK2, e_prK3, e_disp, e_dnew, e_own, e_ownK, e_lc, e_lcK, e_iter, e_rng1, e_rng1K, e_rng2, e_rng2K, e_enum, s_drop, s_dropK, s_ret, s_retK, s_retN, s_next, s_break, s_cont, s_seq, s_if, s_ifK, s_asg, s_asgK, s_name, s_par, s_parK, s_par3, s_parK3, s_gnil, s_gcons, s_gtup, s_for, s_forK, s_raise, s_raiseK, s_sf, s_sfK1, s_sfK2, s_dp, s_dpK1, s_dpK2, s_dpK3, s_forget, s_def, s_fld, e_enumU, e_enumUT, e_match, e_mcase, e_mcase2, e_many, e_mnil, e_lcX, e_lcXK, e_get2, e_methS, e_methS1, e_methS2, s_augS, s_augS1, gEqS_int, gEqS_str, gEqS_bl, gEqS_tup, e_fmt, e_js, e_jsC, e_jsN, e_join, e_joinK, eq_self, beq_self_eq_true, true_implies, false_implies, implies_true, List.map_cons, List.map_nil, List.nil_append, List.cons_append, List.append_nil, List.replicate_succ, List.replicate_zero, List.getElem?_cons_zero, List.getElem?_cons_succ, List.length_cons, List.length_nil, List.set_cons_zero, List.set_cons_succ, ↓reduceIte, ↓reduceDIte, Nat.reduceAdd, Nat.reduceLeDiff, Nat.reduceEqDiff, Nat.zero_add, if_true, if_false, aVar, gMinus_int, gLt_int, gLe_int, gGt_int, gGe_int, gEq_int, gNe_int, gEq_str, gNe_str, gEq_bl, gNe_bl, gXor_int, gAnd_int, gOr_int, gAdd_int, gIsN_non, gNotN_non, gIsB_bl, gNotB_bl, gNeg_int, gLen_tup, gLen_scr, gMax2_int, gMin2_int, gBits_int, gSl_tup, gSl_scr, Bool.not_true, Bool.not_false, Bool.true_eq_false, Bool.false_eq_true, Bool.true_and, Bool.false_and, Bool.and_true, Bool.and_false, Bool.true_or, Bool.false_or, decide_true, decide_false, and_self, and_true, true_and, and_false, false_and, not_true_eq_false, not_false_eq_true, reduceCtorEq, kz, z1, z2, z3, z4, z5, z6, z7, z8, z9, z10, z11, z12, z13, z14, z15, z16, isCls, isNon, aForget, aHand, toKey, keysA, iterOf_tup, iterOf_scr, oNx_some, noErr_ok, decide_eq_true_eq, decide_eq_false_iff_not, Sto.new_n, Sto.set_n, Sto.set_at, Sto.new_at, Nat.zero_le, aMakeV, Cl_non, Cl_bl, Cl_int, Cl_str, Cl_cls, Cl_obj, Cl_tup, ClL_nil, ClL_cons, grd_pos, grdS_pos, Res.bind_ok, Res.bind_err, Res.st_ok, Res.st_err, SRes.thn_nx, SRes.thn_rt, SRes.thn_err, SRes.fn_rt, SRes.fn_nx, SRes.fn_err, SRes.loop_nx, SRes.loop_rt, SRes.loop_err, SRes.loop_ct, SRes.loop_bk, SRes.forget_nx, SRes.forget_rt, SRes.forget_err, SRes.clr_nx, SRes.clr_rt, SRes.noX_nx, SRes.noX_rt, aTry, sizeLine_ge, $xs,*])
abbrev iN (l : List Nat) : List AV := l.map fun n => .int (n : Nat)
theorem iN_len (r : List Nat) : (iN r).length = r.length := List.length_map ..
theorem or_bit {q i : Nat} (h : q.testBit i = false) : q ||| 2 ^ i = q ^^^ 2 ^ i := by
  refine Nat.eq_of_testBit_eq fun j => ?_
  rw [Nat.testBit_or, Nat.testBit_xor, Nat.testBit_two_pow]
  by_cases e : i = j
  · subst e; rw [h]; simp
  · simp [e]
theorem parts2_ok {a m k : Nat} (s : Sto) (hm : m ≠ 0) (ha : a < 2 ^ k) (hk : k ≤ 5000) : ∃ q : Nat, F_s3_parts [.int (a : Nat), .int (m : Nat)] s = .ok (.tup [.int (q : Nat), .int ((PO.md a m : Nat) : Int)]) s ∧ a = PO.cm q m ^^^ PO.md a m := by
  have main := ex_of_post (r := aDef 4 B_s3_parts [.int (a : Nat), .int (m : Nat)] s) (P := fun v s' => s' = s ∧ ∃ q : Nat, v = .tup [.int (q : Nat), .int ((PO.md a m : Nat) : Int)] ∧ a = PO.cm q m ^^^ PO.md a m) (by
    simp! [B_s3_parts]
    refine while_A (fun j σ s' => s' = s ∧ ∃ (q r : Nat) (z : Option AV), σ = [some (.int (a : Nat)), some (.int (m : Nat)), some (.int (q : Nat)), some (.int (r : Nat)), some (.int (TW.len m : Nat)), z] ∧ r < 2 ^ k ∧ TW.len r ≤ j ∧ a = PO.cm q m ^^^ r ∧ ∀ i, i + TW.len m ≤ TW.len r → q.testBit i = false) (TW.len a)
      ⟨rfl, 0, a, _, by rw [bitsN]; rfl, ha, Nat.le_refl _, by rw [PO.cm_zero_left, Nat.zero_xor], fun i _ => Nat.zero_testBit i⟩ ?_
    rintro j σ s' ⟨rfl, q, r, z, rfl, hr, hl, e, hb⟩
    by_cases h0 : TW.len m ≤ TW.len r
    · have d : decide ((((TW.len m : Nat) : Int)) ≤ ((TW.len r : Nat) : Int)) = true := decide_eq_true (by omega)
      have hlr := TW.len_le hr
      have hms : m < 2 ^ k := Nat.lt_of_lt_of_le (TW.lt_len m) (Nat.pow_le_pow_right (by decide) (by omega))
      have c1 : ((TW.len r : Nat) : Int) - ((TW.len m : Nat) : Int) = ((TW.len r - TW.len m : Nat) : Int) := by omega
      have s1 : ∀ s, gShl (.int 1) (.int ((TW.len r - TW.len m : Nat) : Int)) s = .ok (.int ((1 * 2 ^ (TW.len r - TW.len m) : Nat) : Int)) s := fun s => shl_ok (a := 1) (k := 1) (by decide) (by omega)
      have s2 : ∀ s, gShl (.int (m : Nat)) (.int ((TW.len r - TW.len m : Nat) : Int)) s = .ok (.int ((m * 2 ^ (TW.len r - TW.len m) : Nat) : Int)) s := fun s => shl_ok hms (by omega)
      rw [Nat.one_mul] at s1
      have step := TW.len_step hm h0
      have ml := (PO.len_rng hm).2.2
      simp! [bitsN, d, c1, s1, s2, orN, xorN]
      refine ⟨TW.len (r ^^^ m * 2 ^ (TW.len r - TW.len m)), by omega, _, _, _, rfl, Nat.lt_of_lt_of_le (TW.lt_len _) (Nat.pow_le_pow_right (by decide) (by omega)), Nat.le_refl _, ?_, fun i hi => ?_⟩
      · rw [or_bit (hb _ (by omega)), PO.cm_xor_left, PO.pow_left, e, Nat.xor_assoc, Nat.xor_comm r, PO.xx]
      · rw [Nat.testBit_or, hb i (by omega), Nat.testBit_two_pow]
        simp
        omega
    · have d : decide ((((TW.len m : Nat) : Int)) ≤ ((TW.len r : Nat) : Int)) = false := decide_eq_false (by omega)
      have e0 := PO.md_is hm e (by omega)
      simp! [bitsN, d]
      refine ⟨q, ?_, ?_⟩
      · rw [e0]
      · rw [e0]; exact e)
  obtain ⟨v, s', ⟨rfl, q, rfl, hq⟩, e⟩ := main
  exact ⟨q, gc0 e (by simp), hq⟩
theorem prod2_ok {a b n k : Nat} (s : Sto) (hb : b < 2 ^ n) (ha : a < 2 ^ k) (h : n + k ≤ 5000) : F_s3_product [.int (a : Nat), .int (b : Nat)] s = .ok (.int ((PO.cm a b : Nat) : Int)) s := by
  rw [prod_ok s hb ha h, PO.prod_cm hb]
theorem cm_lt {a b n k : Nat} (ha : a < 2 ^ n) (hb : b < 2 ^ k) : PO.cm a b < 2 ^ (n + k) := by
  by_cases h1 : a = 0
  · subst h1; rw [PO.cm_zero_left]; exact Nat.pow_pos (by decide)
  by_cases h2 : b = 0
  · subst h2; rw [PO.cm_zero_right]; exact Nat.pow_pos (by decide)
  have l := PO.cm_len h1 h2
  have l1 := TW.len_le ha
  have l2 := TW.len_le hb
  exact Nat.lt_of_lt_of_le (TW.lt_len _) (Nat.pow_le_pow_right (by decide) (by omega))
def bl (a k : Nat) : List Nat := (List.range k).filter fun i => a.testBit i
def sh (b : Nat) (l : List Nat) : Nat := l.foldl (fun f p => f ^^^ b * 2 ^ p) 0
theorem sh_snoc (b : Nat) (l : List Nat) (p : Nat) : sh b (l ++ [p]) = sh b l ^^^ b * 2 ^ p := by simp [sh]
theorem iN_get {r : List Nat} {i : Nat} {x : AV} (h : (iN r)[i]? = some x) : ∃ n, r[i]? = some n ∧ n ∈ r ∧ x = .int (n : Nat) := by
  rw [List.getElem?_map] at h
  cases e : r[i]? with
  | none => rw [e] at h; cases h
  | some c => rw [e] at h; exact ⟨c, rfl, List.mem_of_getElem? e, (Option.some.inj h).symm⟩
theorem sh_take (b : Nat) (l : List Nat) (i p : Nat) (h : l[i]? = some p) : sh b (l.take (i + 1)) = sh b (l.take i) ^^^ b * 2 ^ p := by
  obtain ⟨h1, h2⟩ := List.getElem?_eq_some_iff.mp h
  rw [List.take_succ_eq_append_getElem h1, h2, sh_snoc]
theorem number_ok {l : List Nat} {s : Sto} {o k : Nat} (ho : s.c o = .lst (iN l)) (hl : ∀ y ∈ l, y < k) (hk : k ≤ 1000) : ∃ n : Nat, n < 2 ^ k ∧ F__law_number [.obj o] s = .ok (.int (n : Nat)) s := by
  refine ⟨sh 1 l, ?_, gc0' ?_⟩
  · have : ∀ i, sh 1 (l.take i) < 2 ^ k := by
      intro i
      induction i with
      | zero => simp [sh]; exact Nat.pow_pos (by decide)
      | succ i ih =>
        cases e : l[i]? with
        | none =>
          have : l.length ≤ i := List.getElem?_eq_none_iff.mp e
          rw [List.take_of_length_le (by omega)]
          rwa [List.take_of_length_le this] at ih
        | some p =>
          rw [sh_take 1 l i p e]
          exact Nat.xor_lt_two_pow ih (by rw [Nat.one_mul]; exact Nat.pow_lt_pow_right (by decide) (hl p (List.mem_of_getElem? e)))
    have h := this l.length
    rwa [List.take_length] at h
  · have it := iterOf_l (lstOf_obj ho)
    simp! [B__law_number, it]
    refine for_A (fun i σ s' => s' = s ∧ ∃ x3, σ = [some (.obj o), some (.int ((sh 1 (l.take i) : Nat) : Int)), x3]) ⟨rfl, _, rfl⟩ ?_ ?_
    · rintro i x σ s' hx ⟨rfl, x3, rfl⟩
      refine ⟨lstOf_obj ho, ?_⟩
      obtain ⟨p, h1, h2, rfl⟩ := iN_get hx
      have hp := hl p h2
      have sl : ∀ s, gShl (.int 1) (.int (p : Nat)) s = .ok (.int ((1 * 2 ^ p : Nat) : Int)) s := fun s => shl_ok (a := 1) (k := 1) (by decide) (by omega)
      simp! [sl, xorN]
      rw [sh_take 1 _ i p h1]
      exact ⟨_, rfl⟩
    · rintro σ s' ⟨rfl, x3, rfl⟩
      refine ⟨lstOf_obj ho, ?_⟩
      rw [List.take_of_length_le (by rw [iN_len]; exact Nat.le_refl _)]
      simp! [eq_self]
      exact Gb.refl _
section
variable {P : AV → Sto → Prop} {R : String → List Str → List AV → Sto → Prop} {d g B : Nat} {s t : Sto}
theorem wi2_poly {k : Nat} (S : Inv2 d g B t s) (hB : B ≤ 20000000) (k0 : 5 ≤ k) (k1 : k ≤ 600) (q : ∀ (n : Nat) s', n < 2 ^ k → Inv2 d g (B + 10) t s' → Gd2 d g s s' → P (.int (n : Nat)) s') : (F__law_poly [.obj d, .int (k : Nat)] s).Post P R := by
  unfold F__law_poly
  refine gcF_d2 S.lsd S.lsg ?_
  have lg := S.lsg
  have ld := S.lsd
  have fin : ∀ (n : Nat) s', n < 2 ^ k → (∃ C, C ≤ B + 10 ∧ Dg d g C s') → Gd2 d g s s' → (Gd2 d g s s' ∧ (ClC s.n (s'.c d) ∧ ClC s.n (s'.c g)) ∧ P (.int (n : Nat)) ((s.set d (s'.c d)).set g (s'.c g))) := fun r s' h1 ⟨C, h2, h3⟩ h4 =>
    ⟨h4, h3.cl lg, q r _ h1 ((S.back h3).mono h2) (Gd2.back d g s)⟩
  have z0 : ((0 : Nat) ≤ sizeLine) = True := eq_true (Nat.zero_le _)
  simp! [B__law_poly]
  refine wi_next S (by omega) (by decide) (by decide) fun v1 s1 a1 b1 S1 g1 => ?_
  by_cases h0 : v1 = 0
  · have d0 : decide (v1 = 0) = true := decide_eq_true h0
    simp! [d0]
    have ld1 := S1.lsd
    have lg1 := S1.lsg
    refine wi_next S1.new (by omega) (by decide) (by decide) fun v2 s2 a2 b2 S2 g2 => ?_
    refine post_ix (seqOf_obj ((g2.c _ (Nat.lt_succ_self _) (by omega) (by omega)).trans Sto.new_at)) a2 b2 fun x hx => ?_
    have p5 : 32 ≤ 2 ^ k := Nat.le_trans (by decide) (Nat.pow_le_pow_right (show 0 < 2 by decide) k0)
    obtain ⟨n, rfl, hn⟩ : ∃ n : Nat, x = .int (n : Nat) ∧ n < 2 ^ k := by
      simp only [List.mem_cons, List.not_mem_nil, or_false] at hx
      rcases hx with rfl | rfl | rfl | rfl | rfl | rfl
      · exact ⟨0, rfl, by omega⟩
      · exact ⟨1, rfl, by omega⟩
      · exact ⟨2, rfl, by omega⟩
      · exact ⟨3, rfl, by omega⟩
      · exact ⟨7, rfl, by omega⟩
      · exact ⟨11, rfl, by omega⟩
    simp! [eq_self]
    have f := fin n s2 hn ⟨_, by omega, S2.ok⟩ (g1.new.trans g2)
    simpa using f
  have d0 : decide (v1 = 0) = false := decide_eq_false h0
  by_cases h1 : v1 = 1
  · have d1 : decide (v1 = 1) = true := decide_eq_true h1
    simp! [d0, d1, rg4]
    refine lc_P (fun i acc s' => s1.n < s'.n ∧ Inv2 d g (B + 1 + i) t s' ∧ Gd2 d g s s' ∧ ∃ l : List Nat, acc = iN l ∧ ∀ y ∈ l, y < k) ⟨Nat.lt_succ_self _, S1.new, g1.new, [], rfl, (fun y hy => by cases hy)⟩ Sto.new_at (by rw [rngA_len]; decide) ?_ ?_
    · rintro i x acc s2 hx ⟨hn, S2, g2, l, rfl, hlt⟩ hc
      refine ⟨trivial, ?_⟩
      obtain ⟨hi, rfl⟩ := rngA_get hx
      have hi : i < 4 := hi
      have dn : s1.n ≠ d := by have := S1.lsd; omega
      have gn : s1.n ≠ g := by have := S1.lsg; omega
      simp! [wipeA]
      refine wi_next S2 (by omega) (by omega) ?_ fun v3 s3 a3 b3 S3 g3 => ?_
      · rw [Int.natAbs_natCast]
        have : Nat.log2 k < 600 := Nat.lt_of_lt_of_le ((Nat.log2_lt (by omega)).mpr (Nat.lt_two_pow_self)) k1
        omega
      obtain ⟨n3, rfl⟩ := Int.eq_ofNat_of_zero_le a3
      have ts : t.n ≤ s1.n := S1.gd.n
      refine ⟨(g3.c _ hn dn gn).trans hc, Nat.lt_of_lt_of_le hn g3.n, S3.set_new ts, (g2.trans g3).setn g1.n, l ++ [n3], ?_, fun y hy => ?_⟩
      · unfold iN
        rw [List.map_append]
        rfl
      · rcases List.mem_append.mp hy with h | h
        · exact hlt y h
        · rw [List.mem_singleton.mp h]; omega
    · rintro acc s2 ⟨hn, S2, g2, l, rfl, hlt⟩ hc
      refine ⟨trivial, ?_⟩
      rw [rngA_len] at S2
      obtain ⟨n, hn2, e⟩ := number_ok hc hlt (by omega)
      simp! [e]
      have f := fin n s2 hn2 ⟨_, by show B + 1 + 4 ≤ _; omega, S2.ok⟩ g2
      simpa using f
  · have d1 : decide (v1 = 1) = false := decide_eq_false h1
    have k2 : ((k : Nat) : Int) - 2 = ((k - 2 : Nat) : Int) := by omega
    simp! [d0, d1, k2]
    refine wi_next S1 (by omega) (by omega) ?_ fun v3 s3 a3 b3 S3 g3 => ?_
    · rw [Int.natAbs_natCast]
      have : Nat.log2 (k - 2) < 600 := Nat.lt_of_lt_of_le ((Nat.log2_lt (by omega)).mpr (Nat.lt_two_pow_self)) (by omega)
      omega
    obtain ⟨n3, rfl⟩ := Int.eq_ofNat_of_zero_le a3
    have e3 : (2 : Int) + (n3 : Nat) = ((2 + n3 : Nat) : Int) := by omega
    have sl : ∀ s, gShl (.int 1) (.int ((2 + n3 : Nat) : Int)) s = .ok (.int ((1 * 2 ^ (2 + n3) : Nat) : Int)) s := fun s => shl_ok (a := 1) (k := 1) (by decide) (by omega)
    rw [Nat.one_mul] at sl
    have pp : 0 < 2 ^ (2 + n3) := Nat.pow_pos (by decide)
    simp! [e3, sl]
    refine wi_next S3 (by omega) (by exact_mod_cast pp) ?_ fun v4 s4 a4 b4 S4 g4 => ?_
    · rw [Int.natAbs_natCast, Nat.log2_two_pow]
      omega
    obtain ⟨n4, rfl⟩ := Int.eq_ofNat_of_zero_le a4
    have h4 : n4 < 2 ^ (2 + n3) := by exact_mod_cast b4
    simp! [eq_self]
    have f := fin n4 s4 (Nat.lt_of_lt_of_le h4 (Nat.pow_le_pow_right (by decide) (by omega))) ⟨_, by omega, S4.ok⟩ ((g1.trans g3).trans g4)
    simpa using f
end
theorem len1 : TW.len 1 = 1 := rfl
theorem md_lt' {x m k : Nat} (hm : m ≠ 0) (h : m < 2 ^ k) : PO.md x m < 2 ^ k := PO.md_lt hm h
theorem restE {a m k : Nat} {fa fm : AE} {σ : ASt} {s : Sto} (hm : m ≠ 0) (ha : a < 2 ^ k) (hk : k ≤ 5000) (h1 : fa σ s = .ok (.int (a : Nat)) s) (h2 : fm σ s = .ok (.int (m : Nat)) s) :
    gcE (aOp gIx (aCall 2 F_s3_parts [] (aCons fa (aCons fm aNil))) (aC (.int 1))) σ s = .ok (.int ((PO.md a m : Nat) : Int)) s := by
  obtain ⟨q, e, _⟩ := parts2_ok s hm ha hk
  have k : aOp gIx (aCall 2 F_s3_parts [] (aCons fa (aCons fm aNil))) (aC (.int 1)) σ s = .ok (.int ((PO.md a m : Nat) : Int)) s := by simp! only [h1, h2, e, ix1]
  have p : (gcE (aOp gIx (aCall 2 F_s3_parts [] (aCons fa (aCons fm aNil))) (aC (.int 1))) σ s).Post (fun v s' => v = .int ((PO.md a m : Nat) : Int) ∧ s' = s) (fun _ _ _ _ => False) := by
    refine gcE_g ?_
    rw [k]
    exact ⟨by simp, Gb.refl s, rfl, rfl⟩
  obtain ⟨v, s', ⟨h3, h4⟩, e5⟩ := ex_of_post (P := fun (v : AV) (s' : Sto) => v = .int ((PO.md a m : Nat) : Int) ∧ s' = s) p
  rw [e5, h3, h4]
theorem pow_ok2 {a n m : Nat} (s : Sto) (hm : m ≠ 0) (hm2 : m < 2 ^ 512) (ha : a < 2 ^ 512) (hn : n < 2 ^ 70) : F_s3_power [.int (a : Nat), .int (n : Nat), .int (m : Nat)] s = .ok (.int ((PO.pw a n m : Nat) : Int)) s := by
  have main := ex_of_post (r := aDef 3 B_s3_power [.int (a : Nat), .int (n : Nat), .int (m : Nat)] s) (P := fun v s' => s' = s ∧ v = .int ((PO.pw a n m : Nat) : Int)) (by
    have e1 := restE (a := 1) (m := m) (k := 1) (fa := aC (.int 1)) (fm := aVar 2) (σ := [some (.int (a : Nat)), some (.int (n : Nat)), some (.int (m : Nat)), none, none, none]) (s := s) hm (by decide) (by decide) rfl rfl
    have e2 := restE (a := a) (m := m) (k := 512) (fa := aVar 0) (fm := aVar 2) (σ := [some (.int (a : Nat)), some (.int (n : Nat)), some (.int (m : Nat)), some (.int ((PO.md 1 m : Nat) : Int)), none, none]) (s := s) hm ha (by decide) rfl rfl
    simp! [B_s3_power, e1, e2]
    refine while_A (fun j σ s' => s' = s ∧ ∃ (f sq l : Nat), σ = [some (.int (a : Nat)), some (.int (n : Nat)), some (.int (m : Nat)), some (.int (f : Nat)), some (.int (sq : Nat)), some (.int (l : Nat))] ∧ l < 2 ^ j ∧ f < 2 ^ 512 ∧ sq < 2 ^ 512 ∧ PO.md f m = f ∧ PO.md (PO.cm f (PO.pw sq l m)) m = PO.pw a n m) 70
      ⟨rfl, PO.md 1 m, PO.md a m, n, rfl, hn, md_lt' hm hm2, md_lt' hm hm2, PO.md_md _ hm, ?_⟩ ?_
    · rw [PO.md_left _ _ hm, PO.cm_one_left, PO.pw_base hm, PO.pw_md hm]
    rintro j σ s' ⟨rfl, f, sq, l, rfl, hl, hf, hs, hff, e⟩
    by_cases h0 : l = 0
    · have d : decide ((0 : Int) < ((l : Nat) : Int)) = false := decide_eq_false (by omega)
      simp! [gGt_int, d]
      subst h0
      rw [show PO.pw sq 0 m = PO.md 1 m from rfl, PO.md_right _ _ hm, PO.cm_one_right, hff] at e
      rw [e]
    · have d : decide ((0 : Int) < ((l : Nat) : Int)) = true := decide_eq_true (by omega)
      obtain ⟨j, rfl⟩ : ∃ i, j = i + 1 := ⟨j - 1, by
        cases j with
        | zero => simp at hl; omega
        | succ i => rfl⟩
      have hl2 : l / 2 < 2 ^ j := by rw [Nat.pow_succ] at hl; omega
      have tn := PO.pw_turn hm f sq l
      rw [e] at tn
      have p1 := prod2_ok s' hs hf (by decide)
      have p2 := prod2_ok s' hs hs (by decide)
      have c1 := cm_lt hf hs
      have c2 := cm_lt hs hs
      have sr := fun s => shr1_ok (a := l) (s := s)
      have E2 := fun f' : Nat => restE (a := PO.cm sq sq) (m := m) (k := 1024) (fa := aCall 2 F_s3_product [] (aCons (aVar 4) (aCons (aVar 4) aNil))) (fm := aVar 2) (σ := [some (.int (a : Nat)), some (.int (n : Nat)), some (.int (m : Nat)), some (.int (f' : Nat)), some (.int (sq : Nat)), some (.int (l : Nat))]) (s := s') hm c2 (by decide) (by simp! only [p2]) rfl
      have E1 := restE (a := PO.cm f sq) (m := m) (k := 1024) (fa := aCall 2 F_s3_product [] (aCons (aVar 3) (aCons (aVar 4) aNil))) (fm := aVar 2) (σ := [some (.int (a : Nat)), some (.int (n : Nat)), some (.int (m : Nat)), some (.int (f : Nat)), some (.int (sq : Nat)), some (.int (l : Nat))]) (s := s') hm c1 (by decide) (by simp! only [p1]) rfl
      by_cases h1 : l % 2 = 1
      · have d1 : decide (((l % 2 : Nat) : Int) = 1) = true := decide_eq_true (by omega)
        rw [if_pos h1] at tn
        simp! [gGt_int, d, and1_ok, d1, E1, E2, sr]
        exact ⟨j, by omega, _, _, _, rfl, hl2, md_lt' hm hm2, md_lt' hm hm2, PO.md_md _ hm, tn.symm⟩
      · have d1 : decide (((l % 2 : Nat) : Int) = 1) = false := decide_eq_false (by omega)
        rw [if_neg h1] at tn
        simp! [gGt_int, d, and1_ok, d1, E2, sr]
        exact ⟨j, by omega, _, _, _, rfl, hl2, hf, md_lt' hm hm2, hff, tn.symm⟩)
  obtain ⟨v, s', ⟨rfl, rfl⟩, e⟩ := main
  exact gc0 e (by simp)
theorem powof_ok {a n m : Nat} (s : Sto) (hm : m ≠ 0) (hm2 : m < 2 ^ 512) (ha : a < 2 ^ 512) (hn : n ≤ 18446744073709551616) : F_power_of [.int (a : Nat), .int (n : Nat), .int (m : Nat)] s = .ok (.int ((PO.pw a n m : Nat) : Int)) s := by
  have e1 := need1_t s ha
  have e2 := mod_t s hm2 hm
  have e3 := pow_ok2 s hm hm2 ha (show n < 2 ^ 70 by omega)
  have sl : ∀ s, gShl (.int 1) (.int 64) s = .ok (.int ((2 ^ 64 : Nat) : Int)) s := fun s => shl_one (k := 64) s (by decide)
  have w := whole_t (i := ((n : Nat) : Int)) (lo := 0) (hi := ((2 ^ 64 : Nat) : Int)) s (by omega) (by omega)
  have g : gcT (aNot (aTest (aCall 3 F_s3_is_whole [] (aCons (aVar 1) (aCons (aC (.int 0)) (aCons (aOp gShl (aC (.int 1)) (aC (.int 64))) aNil)))))) [some (.int (a : Nat)), some (.int (n : Nat)), some (.int (m : Nat))] s = .ok false s := gcT_f (by simp! only [sl, w])
  refine gc0 ?_ (by simp)
  simp! only [B_power_of, e_callS, e_callSK, e1, e2, e3, g]
def IsInv (a m b : Nat) : Prop := TW.len b < TW.len m ∧ PO.md (PO.cm a b) m = PO.md 1 m
open Classical in
noncomputable def iv (a m : Nat) : AV := if h : ∃ b, IsInv a m b then .int ((Classical.choose h : Nat) : Int) else .non
theorem iv_yes {a m b : Nat} (hm : m ≠ 0) (h : IsInv a m b) : iv a m = .int (b : Nat) := by
  have hx : ∃ b, IsInv a m b := ⟨b, h⟩
  unfold iv
  rw [dif_pos hx]
  have c := Classical.choose_spec hx
  rw [PO.inv_uniq hm c.2 h.2 c.1 h.1]
theorem iv_no {a m : Nat} (h : ∀ b, ¬ IsInv a m b) : iv a m = .non := by
  unfold iv
  rw [dif_neg (fun ⟨b, hb⟩ => h b hb)]
theorem iv_cl (a m n : Nat) : Cl n (iv a m) := by
  unfold iv
  split <;> simp
theorem inverse_ok {a m : Nat} (s : Sto) (hm : m ≠ 0) (hm2 : m < 2 ^ 500) (ha : a < 2 ^ 500) : F_inverse_of [.int (a : Nat), .int (m : Nat)] s = .ok (iv a m) s := by
  have b5 : (2 : Nat) ^ 500 ≤ 2 ^ 512 := Nat.pow_le_pow_right (by decide) (by decide)
  have main := ex_of_post (r := aDef 6 B_inverse_of [.int (a : Nat), .int (m : Nat)] s) (P := fun v s' => s' = s ∧ v = iv a m) (by
    have e1 := need1_t s (show a < 2 ^ 512 from Nat.lt_of_lt_of_le ha b5)
    have e2 := mod_t s (show m < 2 ^ 512 from Nat.lt_of_lt_of_le hm2 b5) hm
    obtain ⟨q0, e3, hq0⟩ := parts2_ok s hm ha (by decide)
    simp! [B_inverse_of, e_callS, e_callSK, e1, e2, e3, ix1]
    refine while_A (fun j σ s' => s' = s ∧ ∃ (o w x y : Nat) (z6 z7 : Option AV), σ = [some (.int (a : Nat)), some (.int (m : Nat)), some (.int (o : Nat)), some (.int (w : Nat)), some (.int (x : Nat)), some (.int (y : Nat)), z6, z7] ∧ TW.len w ≤ j ∧ TW.len w < TW.len o ∧ o < 2 ^ 500 ∧ w < 2 ^ 500 ∧ TW.len x + TW.len w ≤ TW.len m + 1 ∧ TW.len y + TW.len o ≤ TW.len m + 1
        ∧ PO.md (PO.cm a x) m = PO.md o m ∧ PO.md (PO.cm a y) m = PO.md w m ∧ ∀ d, PO.dv d o → PO.dv d w → PO.dv d a ∧ PO.dv d m) (TW.len (PO.md a m))
      ⟨rfl, m, PO.md a m, 0, 1, none, none, rfl, Nat.le_refl _, (PO.md_spec a hm).2, hm2, md_lt' hm hm2, by have := (PO.md_spec a hm).2; show 0 + _ ≤ _; omega, by rw [len1]; omega, ?_, ?_, fun d h1 h2 => ⟨PO.dv_of_md hm h2 h1, h1⟩⟩ ?_
    · rw [PO.cm_zero_right, PO.md_zero hm]
      exact ((PO.md_dv hm).mpr (PO.dv_self m)).symm
    · rw [PO.cm_one_right, PO.md_md _ hm]
    rintro j σ s' ⟨rfl, o, w, x, y, z6, z7, rfl, hj, hwo, ho, hw, hx, hy, k1, k2, kd⟩
    by_cases h0 : w = 0
    · have d : decide ((0 : Int) < ((w : Nat) : Int)) = false := decide_eq_false (by omega)
      subst h0
      by_cases h1 : o = 1
      · have d1 : decide (((o : Nat) : Int) = 1) = true := decide_eq_true (by omega)
        have lx : x < 2 ^ 502 := Nat.lt_of_lt_of_le (TW.lt_len x) (Nat.pow_le_pow_right (by decide) (by have := TW.len_le hm2; omega))
        obtain ⟨q, e4, _⟩ := parts2_ok s' hm lx (by decide)
        simp! [gGt_int, d, d1, e4, ix1]
        refine (iv_yes hm ⟨(PO.md_spec x hm).2, ?_⟩).symm
        rw [PO.md_right _ _ hm, k1, h1]
      · have d1 : decide (((o : Nat) : Int) = 1) = false := decide_eq_false (by omega)
        simp! [gGt_int, d, d1]
        refine (iv_no fun b hb => h1 ?_).symm
        obtain ⟨g1, g2⟩ := kd o (PO.dv_self o) (PO.dv_zero o)
        exact PO.inv_dv hm hb.2 g1 g2
    · have d : decide ((0 : Int) < ((w : Nat) : Int)) = true := decide_eq_true (by omega)
      obtain ⟨q, e4, hq⟩ := parts2_ok s' h0 ho (by decide)
      have sp := (PO.md_spec o h0).2
      have lm := TW.len_le hm2
      have lo := TW.len_le ho
      obtain ⟨r, hr⟩ : ∃ r, r = PO.md o w := ⟨_, rfl⟩
      rw [← hr] at e4 hq sp
      have qw : PO.cm q w = o ^^^ r := by
        have := congrArg (· ^^^ r) hq
        simp only [PO.xx2] at this
        exact this.symm
      have lq : q ≠ 0 → TW.len q + TW.len w ≤ TW.len o + 1 := fun h => by
        have l := PO.cm_len h h0
        rw [qw] at l
        have := PO.len_xor (k := TW.len o + 1) (x := o) (y := r) (by omega) (by omega)
        omega
      have lw := (PO.len_rng h0).2.2
      have lqy : q ≠ 0 → y ≠ 0 → TW.len (PO.cm q y) + TW.len w ≤ TW.len m + 1 := fun h h' => by
        have l := PO.cm_len h h'
        have := lq h
        have := (PO.len_rng h').2.2
        omega
      have lqy2 : TW.len (PO.cm q y) + TW.len w ≤ TW.len m + 1 := by
        by_cases h : q = 0
        · subst h; rw [PO.cm_zero_left]; show 0 + _ ≤ _; omega
        · by_cases h' : y = 0
          · subst h'; rw [PO.cm_zero_right]; show 0 + _ ≤ _; omega
          · exact lqy h h'
      have lnew : TW.len (x ^^^ PO.cm q y) + TW.len w ≤ TW.len m + 1 := by
        have := PO.len_xor (k := TW.len m + 1 - TW.len w + 1) (x := x) (y := PO.cm q y) (by omega) (by omega)
        omega
      have qs : q < 2 ^ 502 := by
        by_cases h : q = 0
        · subst h; exact Nat.pow_pos (by decide)
        · exact Nat.lt_of_lt_of_le (TW.lt_len q) (Nat.pow_le_pow_right (by decide) (by have := lq h; omega))
      have ys : y < 2 ^ 502 := Nat.lt_of_lt_of_le (TW.lt_len y) (Nat.pow_le_pow_right (by decide) (by omega))
      have pr := prod2_ok s' ys qs (by decide)
      simp! [gGt_int, d, e4, pr, xorN]
      refine ⟨TW.len r, by omega, w, r, y, x ^^^ PO.cm q y, _, _, rfl, Nat.le_refl _, sp, hw, Nat.lt_of_lt_of_le (TW.lt_len r) (Nat.pow_le_pow_right (by decide) (by omega)), by omega, lnew, k2, ?_, fun d h1 h2 => kd d ?_ h1⟩
      · rw [PO.cm_xor_right, PO.md_xor _ _ hm, k1, ← PO.cm_assoc, PO.cm_comm a q, PO.cm_assoc, ← PO.md_right _ _ hm, k2, PO.md_right _ _ hm, ← PO.md_xor _ _ hm, qw, PO.xx]
      · rw [hq]; exact PO.dv_xor (PO.dv_mul q h1) h2)
  obtain ⟨v, s', ⟨rfl, rfl⟩, e⟩ := main
  exact gc0 e (iv_cl a m _)
theorem list_same {s : Sto} {a b : Nat} {xs : List AV} (ha : s.c a = .lst xs) (hb : s.c b = .lst xs) (hd : ∀ x ∈ xs, ∃ d, dat 11 s x = some d ∧ PyData.canLay0 d = true ∧ d.depth ≤ 3) : eqB (.obj a) (.obj b) s = some true := by
  have key : ∀ l : List AV, (∀ x ∈ l, ∃ d, dat 11 s x = some d ∧ PyData.canLay0 d = true ∧ d.depth ≤ 3) → ∃ ds, optL (dat 11 s) l = some ds ∧ PyData.canLayAll0 ds = true ∧ PyData.depthAll ds ≤ 3 := by
    intro l
    induction l with
    | nil => exact fun _ => ⟨[], rfl, by simp [PyData.canLayAll0], by simp [PyData.depthAll]⟩
    | cons x l ih =>
      intro h
      obtain ⟨d, h1, h2, h3⟩ := h x List.mem_cons_self
      obtain ⟨ds, k1, k2, k3⟩ := ih fun y hy => h y (List.mem_cons_of_mem _ hy)
      refine ⟨d :: ds, ?_, by simp [PyData.canLayAll0, h2, k2], by simp only [PyData.depthAll]; omega⟩
      show (match dat 11 s x, optL (dat 11 s) l with | some d, some ds => some (d :: ds) | _, _ => none) = _
      rw [h1, k1]
  obtain ⟨ds, k1, k2, k3⟩ := key xs hd
  have e : ∀ o, s.c o = .lst xs → dat 12 s (.obj o) = some (.list ds) := by
    intro o h
    show (match s.c o with | .lst xs => (optL (dat 11 s) xs).map PyData.list | _ => none) = _
    rw [h]
    show (optL (dat 11 s) xs).map PyData.list = _
    rw [k1]
    rfl
  have sh : SeqAt.shaped (.list ds) = true := by
    simp [SeqAt.shaped, PyData.canLay0, k2, PyData.depth]
    omega
  rw [eqB_dat rfl (e a ha) (e b hb) sh sh, PySem.SeqAt.eqv_refl _ (SeqAt.canLay_of_shaped sh)]
theorem flat_d {s : Sto} {x : AV} (h : (∃ i, x = .int i) ∨ x = .non) : ∃ d, dat 11 s x = some d ∧ PyData.canLay0 d = true ∧ d.depth ≤ 3 := by
  rcases h with ⟨i, rfl⟩ | rfl
  · exact ⟨.int i, rfl, by simp [PyData.canLay0], by simp [PyData.depth]⟩
  · exact ⟨.none, rfl, by simp [PyData.canLay0], by simp [PyData.depth]⟩
theorem lc_el {α : Type} {G : Sto → Prop} {j : Nat} {ft : AT} {fe : AE} {σ0 : ASt} {P : AV → Sto → Prop} {R : String → List Str → List AV → Sto → Prop} {L : List α} {φ : α → AV} {s : Sto} (p : α → Bool) (f : α → AV) (hl : L.length ≤ 1000) (hG : ∀ s', Gb s s' → G s')
    (h : ∀ x ∈ L, ∀ s', Gb s s' → ft (σ0.set j (some (φ x))) s' = .ok (p x) s' ∧ (p x = true → fe (σ0.set j (some (φ x))) s' = .ok (f x) s'))
    (q : P (.obj s.n) (s.new (.lst ((L.filter p).map f)))) : (oObj s.n (lcI s.n G (agName j) ft fe σ0 (L.map φ) (s.new (.lst [])))).Post P R := by
  refine lc_P (fun i acc s' => s' = s.new (.lst (((L.take i).filter p).map f)) ∧ acc = ((L.take i).filter p).map f) ⟨rfl, rfl⟩ Sto.new_at (by rw [List.length_map]; exact hl) ?_ ?_
  · rintro i x acc s' hx ⟨e1, rfl⟩ hk
    obtain ⟨y, hy, rfl⟩ : ∃ y, L[i]? = some y ∧ φ y = x := by
      rw [List.getElem?_map] at hx
      cases e : L[i]? with
      | none => rw [e] at hx; cases hx
      | some y => rw [e] at hx; exact ⟨y, rfl, Option.some.inj hx⟩
    have tk : L.take (i + 1) = L.take i ++ [y] := by rw [List.take_add_one, hy]; rfl
    have g : Gb s s' := e1 ▸ (Gb.refl s).new
    obtain ⟨h1, h2⟩ := h y (List.mem_of_getElem? hy) s' g
    refine ⟨hG _ g, ?_⟩
    show (ft (σ0.set j (some (φ y))) s').Post _ _
    rw [h1]
    show (p y = true → _) ∧ (p y = false → _)
    refine ⟨fun e => ?_, fun e => ?_⟩
    · rw [h2 e]
      refine ⟨hk, ?_, ?_⟩
      · rw [e1, new_set, tk]; simp [e]
      · rw [tk]; simp [e]
    · refine ⟨hk, ?_, ?_⟩
      · rw [e1, tk]; simp [e]
      · rw [tk]; simp [e]
  · rintro acc s' ⟨e1, rfl⟩ hk
    rw [List.length_map, List.take_length] at e1
    subst e1
    exact ⟨hG _ (Gb.refl s).new, q⟩
theorem aug_int {i : Nat} {v c : Int} {σ : ASt} {s : Sto} (h : σ[i]? = some (some (.int v))) : aAug i (gI0 fun i j => .int (i + j)) (aC (.int c)) σ s = .nx (σ.set i (some (.int (v + c)))) s := by
  rw [s_aug h]
  rfl
section
variable {P : AV → Sto → Prop} {R : String → List Str → List AV → Sto → Prop} {s : Sto} {a b : Nat} {xs : List AV}
theorem post_eqL (ha : s.c a = .lst xs) (hb : s.c b = .lst xs) (hd : ∀ x ∈ xs, ∃ d, dat 11 s x = some d ∧ PyData.canLay0 d = true ∧ d.depth ≤ 3) (q : P (.bl true) s) : (gEq (.obj a) (.obj b) s).Post P R := by
  rw [gEq_b (list_same ha hb hd)]
  exact q
theorem post_neL (ha : s.c a = .lst xs) (hb : s.c b = .lst xs) (hd : ∀ x ∈ xs, ∃ d, dat 11 s x = some d ∧ PyData.canLay0 d = true ∧ d.depth ≤ 3) (q : P (.bl false) s) : (gNe (.obj a) (.obj b) s).Post P R := by
  rw [gNe_b (list_same ha hb hd)]
  exact q
end
theorem cs2 {xs : List AV} (s : Sto) (h : F_s3_need [.tup xs] s = .ok .non s) (hl : xs.length ≤ 1000) : callSK F_s3_need xs s = .ok .non s := by
  rw [e_callSK, grd_pos (Nat.le_trans hl (by decide)), h]
theorem need2_t {i j : Nat} (s : Sto) (h : i < 2 ^ 512) (h2 : j < 2 ^ 512) : F_s3_need [.tup [.int (i : Nat), .int (j : Nat)]] s = .ok .non s := by
  refine gc0 ?_ (by simp)
  refine res_ok ?_
  have p := fun s => poly_t (i := i) s h
  have p2 := fun s => poly_t (i := j) s h2
  simp! [B_s3_need]
  refine for_A (fun k σ s' => s' = s ∧ ∃ z, σ = [some (.tup [.int (i : Nat), .int (j : Nat)]), z]) ⟨rfl, _, rfl⟩ ?_ ?_
  · rintro k x σ s' hx ⟨rfl, z, rfl⟩
    have hx : x = .int (i : Nat) ∨ x = .int (j : Nat) := by
      rcases k with _ | _ | k
      · exact .inl (by simpa using hx.symm)
      · exact .inr (by simpa using hx.symm)
      · simp at hx
    refine ⟨trivial, ?_⟩
    rcases hx with rfl | rfl
    · simp! [eq_self]
      refine gcT_g ?_
      simp! [p]
      exact ⟨Gb.refl _, _, rfl⟩
    · simp! [eq_self]
      refine gcT_g ?_
      simp! [p2]
      exact ⟨Gb.refl _, _, rfl⟩
  · rintro σ s' ⟨rfl, z, rfl⟩
    refine ⟨trivial, ?_⟩
    simp! [eq_self]
theorem parts3_ok {a m q k : Nat} (s : Sto) (hm : m ≠ 0) (ha : a < 2 ^ k) (hk : k ≤ 5000) (hq : a = PO.cm q m ^^^ PO.md a m) : F_s3_parts [.int (a : Nat), .int (m : Nat)] s = .ok (.tup [.int (q : Nat), .int ((PO.md a m : Nat) : Int)]) s := by
  obtain ⟨p, e, hp⟩ := parts2_ok s hm ha hk
  have l := (PO.md_spec a hm).2
  rw [e, (PO.uniq hm (hp.symm.trans hq) l l).1]
theorem common_ok {a b g k : Nat} (s : Sto) (hG : PO.IsG g a b) (ha : a < 2 ^ k) (hb : b < 2 ^ k) (hk : k ≤ 5000) : F_s3_common [.int (a : Nat), .int (b : Nat)] s = .ok (.int (g : Nat)) s := by
  have main := ex_of_post (r := aDef 0 B_s3_common [.int (a : Nat), .int (b : Nat)] s) (P := fun v s' => s' = s ∧ v = .int (g : Nat)) (by
    simp! [B_s3_common]
    refine while_A (fun j σ s' => s' = s ∧ ∃ x y : Nat, σ = [some (.int (x : Nat)), some (.int (y : Nat))] ∧ x < 2 ^ k ∧ y < 2 ^ k ∧ TW.len y ≤ j ∧ PO.IsG g x y) (TW.len b) ⟨rfl, a, b, rfl, ha, hb, Nat.le_refl _, hG⟩ ?_
    rintro j σ s' ⟨rfl, x, y, rfl, hx, hy, hl, hg⟩
    by_cases h0 : y = 0
    · subst h0
      have d : decide ((0 : Int) < ((0 : Nat) : Int)) = false := rfl
      rw [hg.uniq (PO.isG_zero x)]
      simp! [gGt_int, d]
    · have d : decide ((0 : Int) < ((y : Nat) : Int)) = true := decide_eq_true (by omega)
      obtain ⟨q, e, _⟩ := parts2_ok s' h0 hx hk
      have l := (PO.md_spec x h0).2
      simp! [gGt_int, d, e, ix1]
      exact ⟨TW.len (PO.md x y), by omega, _, _, rfl, hy, md_lt' h0 hy, Nat.le_refl _, (PO.isG_step h0).mp hg⟩)
  obtain ⟨v, s', ⟨rfl, rfl⟩, e⟩ := main
  exact gc0 e (by simp)
theorem com_ok {a b g : Nat} (s : Sto) (hG : PO.IsG g a b) (ha : a < 2 ^ 512) (hb : b < 2 ^ 512) : F_common [.int (a : Nat), .int (b : Nat)] s = .ok (.int (g : Nat)) s := by
  have e1 := need2_t s ha hb
  have e2 := common_ok s hG ha hb (by decide)
  have e1 := cs2 (xs := [.int (a : Nat), .int (b : Nat)]) s e1 (by simp)
  refine gc0 ?_ (by simp)
  simp! only [B_common, e_callS, e1, e2]
theorem div_ok {a m q : Nat} (s : Sto) (hm : m ≠ 0) (ha : a < 2 ^ 512) (hm2 : m < 2 ^ 512) (hq : a = PO.cm q m ^^^ PO.md a m) : F_divided [.int (a : Nat), .int (m : Nat)] s = .ok (.tup [.int (q : Nat), .int ((PO.md a m : Nat) : Int)]) s := by
  have e1 := cs2 (xs := [.int (a : Nat)]) s (need1_t s ha) (by simp)
  have e2 := mod_t s hm2 hm
  have e3 := parts3_ok s hm ha (by decide) hq
  refine gc0 ?_ (by simp)
  simp! only [B_divided, e_callS, e1, e2, e3]
/-- a test that leaves the old cells -/
theorem gcT_none {f : AT} {σ : ASt} {s : Sto} (h : (f σ s).Post (fun b s' => b = false ∧ Gb s s') (fun _ _ _ _ => False)) : gcT f σ s = .ok false s := by
  cases e : f σ s with
  | ok b s' =>
    rw [e] at h
    obtain ⟨rfl, h1⟩ := h
    rw [gcT_eq e h1.clean, h1.cut]
  | err => rw [e] at h; exact h.elim
  | stuck => rw [e] at h; exact h.elim
theorem ifF {c : AT} {a : AS} {σ : ASt} {s s' : Sto} (h : c σ s = .ok false s') : aIfS c a aNext σ s = .nx σ s' := by
  simp! only [h]
section
variable {γ ρ : Type} {h : LHd γ ρ} {k : LKs γ ρ} {n : Nat} {σ σ' : ASt} {c : γ} {s s' : Sto}
open Classical in
theorem loopL_cons {G : Sto → Prop} {g : AV → AS} {b : AL} {x : AV} {r : List AV} (hG : G s) (hg : g x σ s = .nx σ' s') : loopL G g b (x :: r) γ ρ h k n σ c s = b γ ρ h { nx := loopL G g b r γ ρ h k, ct := loopL G g b r γ ρ h k, bk := k.nx, rt := k.rt } n σ' c s' := by
  show (if G s then (match g x σ s with | .nx σ' s' => b γ ρ h { nx := loopL G g b r γ ρ h k, ct := loopL G g b r γ ρ h k, bk := k.nx, rt := k.rt } n σ' c s' | _ => h.bad) else h.bad) = _
  rw [if_pos hG, hg]
theorem loopL_nil {G : Sto → Prop} {g : AV → AS} {b : AL} (hG : G s) : loopL G g b [] γ ρ h k n σ c s = k.nx n σ c s := if_pos hG
theorem yd_ok {fe : AE} {v : AV} (hn : n < sizeLine) (he : fe σ s = .ok v s') : aLYd fe γ ρ h k n σ c s = h.cb v c s' fun c' s' => k.nx (n + 1) σ c' s' := by
  unfold aLYd
  rw [if_pos hn, he]
theorem seq_ok {f g : AL} : aLSeq f g γ ρ h k n σ c s = f γ ρ h { k with nx := g γ ρ h k } n σ c s := rfl
theorem lp_ok {f : AS} (he : f σ s = .nx σ' s') : aLP f γ ρ h k n σ c s = k.nx n σ' c s' := by
  unfold aLP
  rw [he]
theorem lfor_ok {fi : AI} {g : AV → AS} {b : AL} {p : List AV × (Sto → Prop)} (he : fi σ s = .ok p s') : aLFor fi g b γ ρ h k n σ c s = loopL p.2 g b p.1 γ ρ h k n σ c s' := by
  unfold aLFor
  rw [he]
end
end Pf
set_option Elab.async false
set_option linter.all false
set_option maxRecDepth 100000
set_option maxHeartbeats 1000000
set_option exponentiation.threshold 3000
namespace Pf
open PySem Ab
local macro_rules | `(tactic| simp! [$xs,*]) => `(tactic| try simp (config := {maxSteps := 1000000}) only [k_bind, k_Kb, k_st, k_Kst, k_Rst, k_thn, k_loop, k_fn, k_forget, k_clr, k_noX, k_try, k_stuck, k_Astuck, d_thn_nx, d_thn_bk, d_thn_ct, d_thn_rt, d_thn_er, d_lp_nx, d_lp_bk, d_lp_ct, d_lp_rt, d_lp_er, d_fg_nx, d_fg_bk, d_fg_ct, d_fg_rt, d_fg_er, d_cl_nx, d_cl_bk, d_cl_ct, d_cl_rt, d_cl_er, d_tr_nx, d_tr_bk, d_tr_ct, d_tr_rt, d_tr_er, d_nX_nx, d_nX_bk, d_nX_ct, d_nX_rt, d_nX_er, d_fn_nx, d_fn_bk, d_fn_ct, d_fn_rt, d_fn_er, A_nx, A_bk, A_ct, A_rt, A_err, post_ok, post_err, post_noErr, e_op, e_opK, e_un, e_cb, e_nil, e_c, e_cons, e_consK, e_consK2, e_and, e_or, e_andK, e_orK, e_not, e_notK, e_test, e_testK, e_tand, e_tandK, e_tor, e_torK, e_tnot, e_tnotK, e_yes, e_if, e_ifK, e_ch, e_chK1, e_chK2, e_chK3, e_tup, e_tupK, e_lst, e_lstK, e_newL, e_call, e_callK, e_meth, e_methK, e_methK2, e_prop, e_propK, e_make, e_makeK, e_makeK2, e_makeV, e_sm, e_smK, e_smK2, e_cm, e_cmK, e_cmK2, e_sl, e_slK1, e_slK2, e_slK3, e_part, e_partK, e_nopart, e_rev, e_bm, e_bmK, e_pr, e_pr0, e_prK1, e_prK2, e_prK3, e_disp, e_dnew, e_own, e_ownK, e_lc, e_lcK, e_iter, e_rng1, e_rng1K, e_rng2, e_rng2K, e_enum, s_drop, s_dropK, s_ret, s_retK, s_retN, s_next, s_break, s_cont, s_seq, s_if, s_ifK, s_asg, s_asgK, s_name, s_par, s_parK, s_par3, s_parK3, s_gnil, s_gcons, s_gtup, s_for, s_forK, s_raise, s_raiseK, s_sf, s_sfK1, s_sfK2, s_dp, s_dpK1, s_dpK2, s_dpK3, s_forget, s_def, s_fld, e_enumU, e_enumUT, e_match, e_mcase, e_mcase2, e_many, e_mnil, e_lcX, e_lcXK, e_get2, e_methS, e_methS1, e_methS2, s_augS, s_augS1, gEqS_int, gEqS_str, gEqS_bl, gEqS_tup, e_fmt, e_js, e_jsC, e_jsN, e_join, e_joinK, eq_self, beq_self_eq_true, k_grd, k_grdS, k_ite, k_Aite, true_implies, false_implies, implies_true, List.map_cons, List.map_nil, List.nil_append, List.cons_append, List.append_nil, List.replicate_succ, List.replicate_zero, List.getElem?_cons_zero, List.getElem?_cons_succ, List.length_cons, List.length_nil, List.set_cons_zero, List.set_cons_succ, ↓reduceIte, ↓reduceDIte, Nat.reduceAdd, Nat.reduceLeDiff, Nat.reduceEqDiff, Nat.zero_add, if_true, if_false, aVar, gMinus_int, gLt_int, gLe_int, gGt_int, gGe_int, gEq_int, gNe_int, gEq_str, gNe_str, gEq_bl, gNe_bl, gXor_int, gAnd_int, gOr_int, gAdd_int, gIsN_non, gNotN_non, gIsB_bl, gNotB_bl, gNeg_int, gLen_tup, gLen_scr, gMax2_int, gMin2_int, gBits_int, gSl_tup, gSl_scr, Bool.not_true, Bool.not_false, Bool.true_eq_false, Bool.false_eq_true, Bool.true_and, Bool.false_and, Bool.and_true, Bool.and_false, Bool.true_or, Bool.false_or, decide_true, decide_false, and_self, and_true, true_and, and_false, false_and, not_true_eq_false, not_false_eq_true, reduceCtorEq, kz, z1, z2, z3, z4, z5, z6, z7, z8, z9, z10, z11, z12, z13, z14, z15, z16, isCls, isNon, aForget, aHand, toKey, keysA, iterOf_tup, iterOf_scr, oNx_some, noErr_ok, decide_eq_true_eq, decide_eq_false_iff_not, Sto.new_n, Sto.set_n, Sto.set_at, Sto.new_at, Nat.zero_le, aMakeV, Cl_non, Cl_bl, Cl_int, Cl_str, Cl_cls, Cl_obj, Cl_tup, ClL_nil, ClL_cons, $xs,*])
local macro_rules | `(tactic| simp! only [$xs,*]) => `(tactic| simp only [e_op, e_opK, e_un, e_cb, e_nil, e_c, e_cons, e_consK, e_consK2, e_and, e_or, e_andK, e_orK, e_not, e_notK, e_test, e_testK, e_tand, e_tandK, e_tor, e_torK, e_tnot, e_tnotK, e_yes, e_if, e_ifK, e_ch, e_chK1, e_chK2, e_chK3, e_tup, e_tupK, e_lst, e_lstK, e_newL, e_call, e_callK, e_meth, e_methK, e_methK2, e_prop, e_propK, e_make, e_makeK, e_makeK2, e_makeV, e_sm, e_smK, e_smK2, e_cm, e_cmK, e_cmK2, e_sl, e_slK1, e_slK2, e_slK3, e_part, e_partK, e_nopart, e_rev, e_bm, e_bmK, e_pr, e_pr0, e_prK1, e_prK2, e_prK3, e_disp, e_dnew, e_own, e_ownK, e_lc, e_lcK, e_iter, e_rng1, e_rng1K, e_rng2, e_rng2K, e_enum, s_drop, s_dropK, s_ret, s_retK, s_retN, s_next, s_break, s_cont, s_seq, s_if, s_ifK, s_asg, s_asgK, s_name, s_par, s_parK, s_par3, s_parK3, s_gnil, s_gcons, s_gtup, s_for, s_forK, s_raise, s_raiseK, s_sf, s_sfK1, s_sfK2, s_dp, s_dpK1, s_dpK2, s_dpK3, s_forget, s_def, s_fld, e_enumU, e_enumUT, e_match, e_mcase, e_mcase2, e_many, e_mnil, e_lcX, e_lcXK, e_get2, e_methS, e_methS1, e_methS2, s_augS, s_augS1, gEqS_int, gEqS_str, gEqS_bl, gEqS_tup, e_fmt, e_js, e_jsC, e_jsN, e_join, e_joinK, eq_self, beq_self_eq_true, true_implies, false_implies, implies_true, List.map_cons, List.map_nil, List.nil_append, List.cons_append, List.append_nil, List.replicate_succ, List.replicate_zero, List.getElem?_cons_zero, List.getElem?_cons_succ, List.length_cons, List.length_nil, List.set_cons_zero, List.set_cons_succ, ↓reduceIte, ↓reduceDIte, Nat.reduceAdd, Nat.reduceLeDiff, Nat.reduceEqDiff, Nat.zero_add, if_true, if_false, aVar, gMinus_int, gLt_int, gLe_int, gGt_int, gGe_int, gEq_int, gNe_int, gEq_str, gNe_str, gEq_bl, gNe_bl, gXor_int, gAnd_int, gOr_int, gAdd_int, gIsN_non, gNotN_non, gIsB_bl, gNotB_bl, gNeg_int, gLen_tup, gLen_scr, gMax2_int, gMin2_int, gBits_int, gSl_tup, gSl_scr, Bool.not_true, Bool.not_false, Bool.true_eq_false, Bool.false_eq_true, Bool.true_and, Bool.false_and, Bool.and_true, Bool.and_false, Bool.true_or, Bool.false_or, decide_true, decide_false, and_self, and_true, true_and, and_false, false_and, not_true_eq_false, not_false_eq_true, reduceCtorEq, kz, z1, z2, z3, z4, z5, z6, z7, z8, z9, z10, z11, z12, z13, z14, z15, z16, isCls, isNon, aForget, aHand, toKey, keysA, iterOf_tup, iterOf_scr, oNx_some, noErr_ok, decide_eq_true_eq, decide_eq_false_iff_not, Sto.new_n, Sto.set_n, Sto.set_at, Sto.new_at, Nat.zero_le, aMakeV, Cl_non, Cl_bl, Cl_int, Cl_str, Cl_cls, Cl_obj, Cl_tup, ClL_nil, ClL_cons, grd_pos, grdS_pos, Res.bind_ok, Res.bind_err, Res.st_ok, Res.st_err, SRes.thn_nx, SRes.thn_rt, SRes.thn_err, SRes.fn_rt, SRes.fn_nx, SRes.fn_err, SRes.loop_nx, SRes.loop_rt, SRes.loop_err, SRes.loop_ct, SRes.loop_bk, SRes.forget_nx, SRes.forget_rt, SRes.forget_err, SRes.clr_nx, SRes.clr_rt, SRes.noX_nx, SRes.noX_rt, aTry, sizeLine_ge, $xs,*])
section
variable {s : Sto}
theorem rest_E {a m : Nat} (s : Sto) (hm : m ≠ 0) (ha : a < 2 ^ 2000) {f : AE} {σ : ASt} (e : f σ s = (F_s3_parts [.int (a : Nat), .int (m : Nat)] s)) : gcE (aOp gIx f (aC (.int 1))) σ s = .ok (.int ((PO.md a m : Nat) : Int)) s := by
  obtain ⟨q, h, _⟩ := parts2_ok (k := 2000) s hm ha (by decide)
  rw [h] at e
  obtain ⟨v, s', ⟨rfl, rfl⟩, e2⟩ := ex_of_post (r := gcE (aOp gIx f (aC (.int 1))) σ s) (P := fun v s' => v = .int ((PO.md a m : Nat) : Int) ∧ s' = s) (by
    refine gcE_g ?_
    simp! [e, ix1]
    exact Gb.refl s)
  exact e2
theorem twice_ok {x d m : Nat} (s : Sto) (hm : m ≠ 0) (hm2 : m < 2 ^ 512) (hx : x < 2 ^ 512) (hd : d ≤ 1000) : F_s3_twice [.int (x : Nat), .int (d : Nat), .int (m : Nat)] s = .ok (.int ((PO.twN m d (PO.md x m) : Nat) : Int)) s := by
  refine gc0 ?_ (by simp)
  refine res_ok ?_
  have rg : -(2 ^ 62) ≤ ((d : Nat) : Int) ∧ ((d : Nat) : Int) < 2 ^ 62 := by omega
  have tn : ((d : Nat) : Int).toNat = d := by omega
  have up : ∀ {y k : Nat}, y < 2 ^ k → k ≤ 2000 → y < 2 ^ 2000 := fun h hk => Nat.lt_of_lt_of_le h (Nat.pow_le_pow_right (by decide) hk)
  have e0 := rest_E (a := x) (m := m) s hm (up hx (by decide)) (f := aCall 2 F_s3_parts [] (aCons (aVar 0) (aCons (aVar 2) aNil))) (σ := [some (.int (x : Nat)), some (.int (d : Nat)), some (.int (m : Nat)), none, none]) (by simp! only [])
  simp! [B_s3_twice, e0, rg, tn]
  refine for_rng (n := d) (fun i σ s' => s' = s ∧ ∃ y, σ = [some (.int (x : Nat)), some (.int (d : Nat)), some (.int (m : Nat)), some (.int ((PO.twN m i (PO.md x m) : Nat) : Int)), y]) ⟨rfl, _, rfl⟩ ?_ ?_
  · rintro i σ s' hi ⟨rfl, y, rfl⟩
    refine ⟨trivial, ?_⟩
    obtain ⟨Y, hY⟩ : ∃ Y, Y = PO.twN m i (PO.md x m) := ⟨_, rfl⟩
    have Y1 : Y < 2 ^ 512 := by
      rw [hY]
      cases i with
      | zero => exact PO.md_lt hm hm2
      | succ i => rw [PO.twN_succ]; exact PO.md_lt hm hm2
    have pr := prod2_ok (a := Y) (b := Y) (n := 512) (k := 512) s' Y1 Y1 (by decide)
    have sq := cm_lt Y1 Y1
    have ns : PO.twN m (i + 1) (PO.md x m) = PO.md (PO.cm Y Y) m := by rw [PO.twN_succ, hY]
    rw [← hY]
    have e1 := rest_E (a := PO.cm Y Y) (m := m) s' hm (up sq (by decide)) (f := aCall 2 F_s3_parts [] (aCons (aCall 2 F_s3_product [] (aCons (aVar 3) (aCons (aVar 3) aNil))) (aCons (aVar 2) aNil))) (σ := [some (.int (x : Nat)), some (.int (d : Nat)), some (.int (m : Nat)), some (.int (Y : Nat)), some (.int (0 + (i : Nat)))]) (by simp! only [pr])
    simp! [e1]
    rw [ns]
    exact ⟨_, rfl⟩
  · rintro σ s' ⟨rfl, y, rfl⟩
    refine ⟨trivial, ?_⟩
    simp! [eq_self]
theorem modN2 {a b : Nat} (hb : 0 < b) (s : Sto) : gMod (.int (a : Nat)) (.int (b : Nat)) s = .ok (.int ((a % b : Nat) : Int)) s := gMod_int (by omega)
theorem divN2 {a b : Nat} (hb : 0 < b) (h : b < 2 ^ 100) (s : Sto) : gFdiv (.int (a : Nat)) (.int (b : Nat)) s = .ok (.int ((a / b : Nat) : Int)) s := (gFdiv_int ⟨by omega, by
  rw [Int.natAbs_natCast]
  exact Nat.lt_trans ((Nat.log2_lt (by omega)).mpr h) (by decide)⟩).trans (by rw [Int.natCast_ediv])
theorem strip_half {r o : Nat} (h : r % o = 0) (o2 : 2 ≤ o) : 2 * PO.strip 64 r o ≤ r := by
  show 2 * PO.strip (63 + 1) r o ≤ r
  unfold PO.strip
  rw [if_pos h]
  exact Nat.le_trans (Nat.mul_le_mul_left 2 (Nat.le_trans (PO.strip_le 63 (r / o) o) (Nat.div_le_div_left (a := r) o2 (by decide)))) (Nat.mul_div_le r 2)
theorem len_64 {l r n : Nat} (h : 2 ^ l * r ≤ n) (r1 : 1 ≤ r) (hn : n < 2 ^ 64) : l < 64 := Nat.lt_of_not_le fun c => by
  have a := Nat.pow_le_pow_right (show 0 < 2 by decide) c
  have b := Nat.le_mul_of_pos_right (2 ^ l) r1
  omega
theorem primes_ok {n K : Nat} {L : List Nat} (s : Sto) (h : PO.prF K [] n 2 = some L) (n0 : 1 ≤ n) (hn : n < 2 ^ 64) : ∃ o s', Gb s s' ∧ s.n ≤ o ∧ o < s'.n ∧ s'.c o = .lst (iN L) ∧ F_s3_primes [.int (n : Nat)] s = .ok (.obj o) s' := by
  have big : (200000 : Nat) ≤ sizeLine := by decide
  have z0 : ((0 : Nat) ≤ sizeLine) = True := eq_true (Nat.zero_le _)
  have main := ex_of_post (r := aDef 3 B_s3_primes [.int (n : Nat)] s) (P := fun v s' => ∃ o, v = .obj o ∧ Gb s s' ∧ s.n ≤ o ∧ o < s'.n ∧ s'.c o = .lst (iN L)) (by
    simp! [B_s3_primes, z0]
    refine while_A (fun j σ s' => ∃ (f : List Nat) (r o : Nat), σ = [some (.int (n : Nat)), some (.obj s.n), some (.int (r : Nat)), some (.int (o : Nat))] ∧ s' = s.new (.lst (iN f)) ∧ PO.prF j f r o = some L ∧ 2 ≤ o ∧ r ≤ n ∧ o ≤ 2 ^ 32 + 1 ∧ 1 ≤ r ∧ 2 ^ f.length * r ≤ n) K ⟨[], n, 2, rfl, rfl, h, Nat.le_refl _, Nat.le_refl _, by decide, n0, by simp⟩ ?_
    rintro j σ s' ⟨f, r, o, rfl, rfl, hp, o2, rn, ob, r1, fl⟩
    have fl64 := len_64 fl r1 hn
    cases j with
    | zero => cases hp
    | succ j =>
    unfold PO.prF at hp
    have ml : gMul (.int (o : Nat)) (.int (o : Nat)) (s.new (.lst (iN f))) = .ok (.int ((o * o : Nat) : Int)) (s.new (.lst (iN f))) := by
      rw [Int.natCast_mul]
      exact gMul_ok (m := 34) (n := 34) (by omega) (by omega) (by decide)
    by_cases c : o * o ≤ r
    · rw [if_pos c] at hp
      have d1 : decide (((o * o : Nat) : Int) ≤ ((r : Nat) : Int)) = true := decide_eq_true (by omega)
      have o32 : o < 2 ^ 32 := Nat.lt_of_not_le fun h32 => by
        have := Nat.mul_le_mul h32 h32
        have : (2 : Nat) ^ 32 * 2 ^ 32 = 2 ^ 64 := by decide
        omega
      have md := modN2 (a := r) (b := o) (by omega) (s.new (.lst (iN f)))
      by_cases c2 : r % o = 0
      · rw [if_pos c2] at hp
        have d2 : decide (((r % o : Nat) : Int) = 0) = true := decide_eq_true (by omega)
        have sq := isSeqL_obj (s := s.new (.lst (iN f))) (i := s.n) Sto.new_at
        have ap := gAppend_obj (s := s.new (.lst (iN f))) (i := s.n) (y := .int (o : Nat)) Sto.new_at (by rw [iN_len]; omega)
        rw [new_set] at ap
        have e1 : iN f ++ [AV.int ((o : Nat) : Int)] = iN (f ++ [o]) := by
          unfold iN
          rw [List.map_append]
          rfl
        rw [e1] at ap
        simp! [ml, d1, md, d2, sq, ap]
        refine while_A (fun j' σ s2 => s2 = s.new (.lst (iN (f ++ [o]))) ∧ ∃ r' : Nat, σ = [some (.int (n : Nat)), some (.obj s.n), some (.int (r' : Nat)), some (.int (o : Nat))] ∧ PO.strip j' r' o = PO.strip 64 r o ∧ 1 ≤ r' ∧ r' < 2 ^ j' ∧ r' ≤ r) 64 ⟨rfl, r, rfl, rfl, by have := Nat.mul_le_mul o2 o2; omega, by omega, Nat.le_refl _⟩ ?_
        rintro j' σ s2 ⟨rfl, r', rfl, st, r1', rj, rr⟩
        have md' := modN2 (a := r') (b := o) (by omega) (s.new (.lst (iN (f ++ [o]))))
        cases j' with
        | zero => exact absurd rj (by simp; omega)
        | succ j' =>
        unfold PO.strip at st
        by_cases c3 : r' % o = 0
        · rw [if_pos c3] at st
          have d3 : decide (((r' % o : Nat) : Int) = 0) = true := decide_eq_true (by omega)
          have dv := divN2 (a := r') (b := o) (by omega) (by omega) (s.new (.lst (iN (f ++ [o]))))
          simp! [md', d3, dv]
          refine ⟨j', Nat.lt_succ_self _, r' / o, rfl, st, ?_, ?_, Nat.le_trans (Nat.div_le_self _ _) rr⟩
          · exact Nat.div_pos (Nat.le_of_dvd r1' (Nat.dvd_of_mod_eq_zero c3)) (by omega)
          · refine Nat.lt_of_le_of_lt (Nat.div_le_div_left o2 (by decide)) ?_
            rw [Nat.pow_succ] at rj
            omega
        · rw [if_neg c3] at st
          have d3 : decide (((r' % o : Nat) : Int) = 0) = false := decide_eq_false (by omega)
          have ag2 : ∀ (u : Sto) (a : Nat), aAug 3 (gI0 fun i j => .int (i + j)) (aC (.int 1)) [some (.int (n : Nat)), some (.obj a), some (.int (r' : Nat)), some (.int (o : Nat))] u = .nx [some (.int (n : Nat)), some (.obj a), some (.int (r' : Nat)), some (.int ((o + 1 : Nat) : Int))] u := fun u a => (aug_int (i := 3) (v := ((o : Nat) : Int)) (c := 1) (σ := [some (.int (n : Nat)), some (.obj a), some (.int (r' : Nat)), some (.int (o : Nat))]) rfl :)
          simp! [md', d3, ag2]
          refine ⟨j, Nat.lt_succ_self _, f ++ [o], r', o + 1, rfl, rfl, by rw [st]; exact hp, by omega, by omega, by omega, r1', ?_⟩
          have sh := strip_half c2 o2
          have st2 : r' = PO.strip 64 r o := st
          rw [← st2] at sh
          rw [List.length_append, List.length_cons, List.length_nil, Nat.zero_add, Nat.pow_succ, Nat.mul_assoc]
          exact Nat.le_trans (Nat.mul_le_mul_left _ sh) fl
      · rw [if_neg c2] at hp
        have d2 : decide (((r % o : Nat) : Int) = 0) = false := decide_eq_false (by omega)
        have ag2 : ∀ (u : Sto) (a : Nat), aAug 3 (gI0 fun i j => .int (i + j)) (aC (.int 1)) [some (.int (n : Nat)), some (.obj a), some (.int (r : Nat)), some (.int (o : Nat))] u = .nx [some (.int (n : Nat)), some (.obj a), some (.int (r : Nat)), some (.int ((o + 1 : Nat) : Int))] u := fun u a => (aug_int (i := 3) (v := ((o : Nat) : Int)) (c := 1) (σ := [some (.int (n : Nat)), some (.obj a), some (.int (r : Nat)), some (.int (o : Nat))]) rfl :)
        simp! [ml, d1, md, d2, ag2]
        exact ⟨j, Nat.lt_succ_self _, f, r, o + 1, rfl, rfl, hp, by omega, rn, by omega, r1, fl⟩
    · rw [if_neg c] at hp
      have d1 : decide (((o * o : Nat) : Int) ≤ ((r : Nat) : Int)) = false := decide_eq_false (by omega)
      by_cases c2 : 1 < r
      · rw [if_pos c2] at hp
        cases hp
        have d2 : decide ((1 : Int) < ((r : Nat) : Int)) = true := decide_eq_true (by omega)
        simp! [ml, d1, gGt_int, d2, z1]
        refine post_addL (at_old (Nat.lt_succ_self _) Sto.new_at) Sto.new_at (by rw [iN_len]; show _ + 1 ≤ 1000; omega) ?_
        simp! [eq_self]
        refine ⟨_, rfl, (Gb.refl s).new.new.new, Nat.le_succ_of_le (Nat.le_succ _), Nat.lt_succ_self _, ?_⟩
        refine Sto.new_at.trans ?_
        unfold iN
        rw [List.map_append]
        rfl
      · rw [if_neg c2] at hp
        cases hp
        have d2 : decide ((1 : Int) < ((r : Nat) : Int)) = false := decide_eq_false (by omega)
        simp! [ml, d1, gGt_int, d2]
        exact ⟨_, rfl, (Gb.refl s).new, Nat.le_refl _, Nat.lt_succ_self _, Sto.new_at⟩)
  obtain ⟨v, s', ⟨o, rfl, h1, h2, h3, h4⟩, e⟩ := main
  exact ⟨o, s', h1, h2, h3, h4, gcF_raw e (by simp; omega)⟩
end
section
variable {n k : Nat} {L : List Nat}
def Gp (k n z p : Nat) : Nat := PO.gcF (2 * k) n (PO.twN n (z / p) (PO.md 2 n) ^^^ 2)
theorem irrB_is (hn : n ≠ 0) (h1 : n < 2 ^ k) : PO.irrB k n L = (decide (1 ≤ TW.len n - 1) && decide (PO.twN n (TW.len n - 1) (PO.md 2 n) = PO.md 2 n) && L.all fun p => decide (Gp k n (TW.len n - 1) p = 1)) := by
  have m2 := PO.md_lt (x := 2) hn h1
  unfold PO.irrB Gp
  rw [PO.tw_eq hn h1 _ _ m2]
  have f : (fun p => PO.gcF (2 * k) n (PO.tw k n ((TW.len n - 1) / p) (PO.md 2 n) ^^^ 2) == 1) = fun p => decide (PO.gcF (2 * k) n (PO.twN n ((TW.len n - 1) / p) (PO.md 2 n) ^^^ 2) = 1) := by
    funext p
    rw [PO.tw_eq hn h1 _ _ m2]
    rfl
  rw [f]
  rfl
theorem twN_lt {m x : Nat} (hm : m ≠ 0) (h : m < 2 ^ k) (hx : x < 2 ^ k) : ∀ d, PO.twN m d x < 2 ^ k
  | 0 => hx
  | d + 1 => by rw [PO.twN_succ]; exact PO.md_lt hm h
theorem prF_len {L : List Nat} : ∀ {n : Nat} {f : List Nat} {r o : Nat}, PO.prF n f r o = some L → L.length ≤ f.length + n
  | 0, _, _, _, h => by cases h
  | n + 1, f, r, o, h => by
    unfold PO.prF at h
    split at h
    · split at h
      · have := prF_len h
        rw [List.length_append, List.length_cons, List.length_nil] at this
        omega
      · have := prF_len h
        omega
    · cases h
      split
      · rw [List.length_append, List.length_cons, List.length_nil]
        omega
      · omega
theorem irr_ok (s : Sto) (hL : PO.prF 64 [] (TW.len n - 1) 2 = some L) (n0 : n ≠ 0) (h1 : n < 2 ^ k) (k2 : 2 ≤ k) (hk : k ≤ 512) : F_is_irreducible [.int (n : Nat)] s = .ok (.bl (PO.irrB k n L)) s := by
  have h5 : n < 2 ^ 512 := Nat.lt_of_lt_of_le h1 (Nat.pow_le_pow_right (by decide) hk)
  have e1 := cs2 (xs := [.int (n : Nat)]) s (need1_t s h5) (by simp)
  rw [irrB_is n0 h1]
  obtain ⟨z, hz⟩ : ∃ z, z = TW.len n - 1 := ⟨_, rfl⟩
  rw [← hz] at hL ⊢
  have ln := (PO.len_rng n0).2.2
  have lk := TW.len_le h1
  have zc : ((TW.len n : Nat) : Int) - 1 = ((z : Nat) : Int) := by omega
  by_cases c1 : 1 ≤ z
  rotate_left
  · have d1 : decide (((z : Nat) : Int) < 1) = true := decide_eq_true (by omega)
    have g : (gcT (aOr (aTest (aOp gLt (aVar 1) (aC (.int 1)))) (aTest (aOp gNe (aCall 3 F_s3_twice [] (aCons (aC (.int 2)) (aCons (aVar 1) (aCons (aVar 0) aNil)))) (aOp gIx (aCall 2 F_s3_parts [] (aCons (aC (.int 2)) (aCons (aVar 0) aNil))) (aC (.int 1))))))) [some (.int (n : Nat)), some (.int (z : Nat)), none] s = .ok true s := gcT_f (by simp! only [d1])
    rw [decide_eq_false c1]
    refine gc0 ?_ (by simp)
    simp! only [B_is_irreducible, e_callS, e1, bitsN, zc, g]
  have d1 : decide (((z : Nat) : Int) < 1) = false := decide_eq_false (by omega)
  have t2 := twice_ok (x := 2) (d := z) (m := n) s n0 h5 (by decide) (by omega)
  obtain ⟨q, pt, _⟩ := parts2_ok (a := 2) (m := n) (k := 2) s n0 (by decide) (by decide)
  have t2 : F_s3_twice [.int 2, .int (z : Nat), .int (n : Nat)] s = _ := t2
  have pt : F_s3_parts [.int 2, .int (n : Nat)] s = _ := pt
  rw [decide_eq_true c1, Bool.true_and]
  by_cases c2 : PO.twN n z (PO.md 2 n) = PO.md 2 n
  rotate_left
  · have d2 : decide (((PO.twN n z (PO.md 2 n) : Nat) : Int) = ((PO.md 2 n : Nat) : Int)) = false := decide_eq_false (by omega)
    have g : (gcT (aOr (aTest (aOp gLt (aVar 1) (aC (.int 1)))) (aTest (aOp gNe (aCall 3 F_s3_twice [] (aCons (aC (.int 2)) (aCons (aVar 1) (aCons (aVar 0) aNil)))) (aOp gIx (aCall 2 F_s3_parts [] (aCons (aC (.int 2)) (aCons (aVar 0) aNil))) (aC (.int 1))))))) [some (.int (n : Nat)), some (.int (z : Nat)), none] s = .ok true s := gcT_f (by simp! only [d1, t2, pt, ix1, d2])
    rw [decide_eq_false c2]
    refine gc0 ?_ (by simp)
    simp! only [B_is_irreducible, e_callS, e1, bitsN, zc, g]
  have d2 : decide (((PO.twN n z (PO.md 2 n) : Nat) : Int) = ((PO.md 2 n : Nat) : Int)) = true := decide_eq_true (by omega)
  have g : (gcT (aOr (aTest (aOp gLt (aVar 1) (aC (.int 1)))) (aTest (aOp gNe (aCall 3 F_s3_twice [] (aCons (aC (.int 2)) (aCons (aVar 1) (aCons (aVar 0) aNil)))) (aOp gIx (aCall 2 F_s3_parts [] (aCons (aC (.int 2)) (aCons (aVar 0) aNil))) (aC (.int 1))))))) [some (.int (n : Nat)), some (.int (z : Nat)), none] s = .ok false s := gcT_f (by simp! only [d1, t2, pt, ix1, d2])
  rw [decide_eq_true c2, Bool.true_and]
  obtain ⟨o, s1, g1, o1, o2, co, pr⟩ := primes_ok s hL c1 (show z < 2 ^ 64 from Nat.lt_of_lt_of_le (show z < 512 by omega) (by decide))
  have Lm := PO.prF_mem (N := z) 64 [] z 2 L hL (by decide) (Nat.le_refl _) (fun _ h => absurd h (by simp))
  have Ll := prF_len hL
  have it := iterOf_l (lstOf_obj co)
  refine gc0' ?_
  simp! [B_is_irreducible, e_callS, e1, bitsN, zc, g, pr, it]
  refine lc_el (L := L) (φ := fun p => .int (p : Nat)) (fun _ => true) (fun p => .bl (decide (Gp k n z p = 1))) (by rw [List.length_nil] at Ll; omega) (fun _ g' => lstOf_obj ((g'.c o o2).trans co)) (fun p hp s' g' => ?_) ?_
  · obtain ⟨p2, pz⟩ := Lm p hp
    have dv := divN2 (a := z) (b := p) (by omega) (Nat.lt_of_le_of_lt pz (Nat.lt_of_lt_of_le (show z < 512 by omega) (by decide))) s'
    have zp := Nat.div_le_self z p
    have t3 := twice_ok (x := 2) (d := z / p) (m := n) s' n0 h5 (by decide) (by omega)
    have t3 : F_s3_twice [.int 2, .int ((z / p : Nat) : Int), .int (n : Nat)] s' = _ := t3
    have tl := twN_lt (x := PO.md 2 n) n0 h1 (PO.md_lt n0 h1) (z / p)
    have xl : PO.twN n (z / p) (PO.md 2 n) ^^^ 2 < 2 ^ k := Nat.xor_lt_two_pow tl (Nat.lt_of_lt_of_le (show 2 < 2 ^ 2 by decide) (Nat.pow_le_pow_right (by decide) k2))
    have xo : gXor (.int ((PO.twN n (z / p) (PO.md 2 n) : Nat) : Int)) (.int 2) s' = .ok (.int ((PO.twN n (z / p) (PO.md 2 n) ^^^ 2 : Nat) : Int)) s' := congrArg (fun i : Int => (Res.ok (AV.int i) s' : Res AV)) (xorN _ 2)
    have cm := common_ok (k := k) s' (PO.gcF_is (2 * k) n _ (Nat.le_trans (TW.len_le xl) (by omega))) h1 xl (by omega)
    have dd : decide (((PO.gcF (2 * k) n (PO.twN n (z / p) (PO.md 2 n) ^^^ 2) : Nat) : Int) = 1) = decide (Gp k n z p = 1) := decide_eq_decide.mpr (by unfold Gp; omega)
    refine ⟨rfl, fun _ => ?_⟩
    simp! only [wipeA, dv, t3, xo, cm, dd]
  · have al := gAll_lst (s := s1.new (.lst ((L.filter fun _ => true).map fun p => AV.bl (decide (Gp k n z p = 1))))) (x := .obj s1.n) (ns := L.map fun p => decide (Gp k n z p = 1)) (lstOf_obj (Sto.new_at.trans (by rw [List.filter_eq_self.mpr fun _ _ => rfl, List.map_map]; rfl)))
    have ra : (L.map fun p => decide (Gp k n z p = 1)).all id = L.all fun p => decide (Gp k n z p = 1) := by rw [List.all_map]; rfl
    rw [ra] at al
    simp! [al]
    exact g1.new
end
def redF (T : Nat → Bool) : Nat → Nat → Nat → Nat
  | 0, f, _ => f
  | n + 1, f, p => if f % p = 0 ∧ T (f / p) = true then redF T n (f / p) p else f
def ordF (T : Nat → Bool) (N : Nat) (L : List Nat) : Nat := L.foldl (redF T 64) N
theorem redF_le (T : Nat → Bool) : ∀ n f p, redF T n f p ≤ f
  | 0, _, _ => Nat.le_refl _
  | n + 1, f, p => by
    unfold redF
    split
    · exact Nat.le_trans (redF_le T n (f / p) p) (Nat.div_le_self _ _)
    · exact Nat.le_refl _
theorem redF_pos (T : Nat → Bool) : ∀ n f p, 1 ≤ f → 1 ≤ redF T n f p
  | 0, _, _, h => h
  | n + 1, f, p, h => by
    unfold redF
    split
    · rename_i c
      refine redF_pos T n (f / p) p (Nat.pos_of_ne_zero fun e => ?_)
      have := Nat.mul_div_cancel' (Nat.dvd_of_mod_eq_zero c.1)
      rw [e, Nat.mul_zero] at this
      omega
    · exact h
theorem foldl_snoc (T : Nat → Bool) (N : Nat) (L : List Nat) (p : Nat) : ordF T N (L ++ [p]) = redF T 64 (ordF T N L) p := by
  unfold ordF
  rw [List.foldl_append]
  rfl
theorem ordF_le (T : Nat → Bool) : ∀ (L : List Nat) (N : Nat), ordF T N L ≤ N
  | [], _ => Nat.le_refl _
  | p :: L, N => Nat.le_trans (ordF_le T L (redF T 64 N p)) (redF_le T 64 N p)
theorem ordF_pos (T : Nat → Bool) : ∀ (L : List Nat) (N : Nat), 1 ≤ N → 1 ≤ ordF T N L
  | [], _, h => h
  | p :: L, N, h => ordF_pos T L (redF T 64 N p) (redF_pos T 64 N p h)
section
variable {a m k K : Nat} {L1 L2 : List Nat}
theorem ord_ok (s : Sto) (ha : a < 2 ^ 512) (hm : m < 2 ^ k) (k2 : 2 ≤ k) (hk : k ≤ 512) (hL : PO.prF 64 [] (TW.len m - 1) 2 = some L1) (hi : PO.irrB k m L1 = true) (m0 : m ≠ 0) (hz : TW.len m - 1 ≤ 32) (hr : PO.md a m ≠ 0)
    (hP : PO.prF K [] (2 ^ (TW.len m - 1) - 1) 2 = some L2) (lL : L2.length ≤ 1000) : F_order_of [.int (a : Nat), .int (m : Nat)] s = .ok (.int ((ordF (fun n => decide (PO.pw a n m = 1)) (2 ^ (TW.len m - 1) - 1) L2 : Nat) : Int)) s := by
  have m5 : m < 2 ^ 512 := Nat.lt_of_lt_of_le hm (Nat.pow_le_pow_right (by decide) hk)
  have e1 := cs2 (xs := [.int (a : Nat)]) s (need1_t s ha) (by simp)
  have e2 := poly_t (i := m) s m5
  have e3 := irr_ok s hL m0 hm k2 hk
  rw [hi] at e3
  have z1 : 1 ≤ TW.len m - 1 := by
    unfold PO.irrB at hi
    rw [Bool.and_eq_true, Bool.and_eq_true] at hi
    exact of_decide_eq_true hi.1.1
  obtain ⟨z, hz2⟩ : ∃ z, z = TW.len m - 1 := ⟨_, rfl⟩
  rw [← hz2] at hP hz z1 ⊢
  have zc : ((TW.len m : Nat) : Int) - 1 = ((z : Nat) : Int) := by omega
  have d1 : decide ((32 : Int) < ((z : Nat) : Int)) = false := decide_eq_false (by omega)
  obtain ⟨q, pt, _⟩ := parts2_ok (a := a) (m := m) s m0 ha (by decide)
  have d2 : decide (((PO.md a m : Nat) : Int) = 0) = false := decide_eq_false (by omega)
  have g1 : (gcT (aOr (aNot (aTest (aCall 1 F_is_polynomial [] (aCons (aVar 1) aNil)))) (aNot (aTest (aCall 1 F_is_irreducible [] (aCons (aVar 1) aNil)))))) [some (.int (a : Nat)), some (.int (m : Nat)), none, none, none] s = .ok false s := gcT_f (by simp! only [e2, e3])
  have g3 : (gcT (aTest (aOp gEq (aOp gIx (aCall 2 F_s3_parts [] (aCons (aVar 0) (aCons (aVar 1) aNil))) (aC (.int 1))) (aC (.int 0))))) [some (.int (a : Nat)), some (.int (m : Nat)), some (.int (z : Nat)), none, none] s = .ok false s := gcT_f (by simp! only [pt, ix1, d2])
  have sl : ∀ s, gShl (.int 1) (.int (z : Nat)) s = .ok (.int ((2 ^ z : Nat) : Int)) s := fun s => shl_one (k := z) s (by omega)
  have p2 : 2 ≤ 2 ^ z := Nat.le_trans (by decide : 2 ≤ 2 ^ 1) (Nat.pow_le_pow_right (by decide) z1)
  have p3 : 2 ^ z ≤ 2 ^ 32 := Nat.pow_le_pow_right (by decide) hz
  obtain ⟨N, hN⟩ : ∃ N, N = 2 ^ z - 1 := ⟨_, rfl⟩
  have nc : ((2 ^ z : Nat) : Int) - 1 = ((N : Nat) : Int) := by omega
  rw [← hN] at hP ⊢
  have N0 : 1 ≤ N := by omega
  have N6 : N < 2 ^ 64 := by omega
  obtain ⟨o, s1, gb, o1, o2, co, pr⟩ := primes_ok s hP N0 N6
  have Lm := PO.prF_mem (N := N) K [] N 2 L2 hP (by decide) (Nat.le_refl _) (fun _ h => absurd h (by simp))
  have it := iterOf_l (lstOf_obj co)
  obtain ⟨T, hT⟩ : ∃ T : Nat → Bool, T = fun n => decide (PO.pw a n m = 1) := ⟨_, rfl⟩
  rw [← hT]
  have hT : ∀ n, T n = decide (PO.pw a n m = 1) := fun n => by rw [hT]
  refine gc0' ?_
  simp! [B_order_of, e_callS, e1, g1, bitsN, zc, gGt_int, d1, g3, sl, nc, pr, it]
  refine for_A (fun i σ s' => s' = s1 ∧ ∃ y, σ = [some (.int (a : Nat)), some (.int (m : Nat)), some (.int (z : Nat)), some (.int ((ordF T N (L2.take i) : Nat) : Int)), y]) ⟨rfl, _, rfl⟩ ?_ ?_
  · rintro i x σ s' hx ⟨rfl, y, rfl⟩
    obtain ⟨p, hp1, hp2, rfl⟩ := iN_get hx
    obtain ⟨pm2, pmN⟩ := Lm p hp2
    have tk : L2.take (i + 1) = L2.take i ++ [p] := by rw [List.take_add_one, hp1]; rfl
    refine ⟨lstOf_obj co, ?_⟩
    rw [tk, foldl_snoc]
    have f0 := ordF_pos T (L2.take i) N N0
    have f1 := ordF_le T (L2.take i) N
    generalize ordF T N (L2.take i) = f at f0 f1 ⊢
    simp! [eq_self]
    refine while_A (fun j σ s2 => s2 = s' ∧ ∃ f' : Nat, σ = [some (.int (a : Nat)), some (.int (m : Nat)), some (.int (z : Nat)), some (.int (f' : Nat)), some (.int (p : Nat))] ∧ redF T j f' p = redF T 64 f p ∧ f' < 2 ^ j ∧ 1 ≤ f' ∧ f' ≤ N) 64 ⟨rfl, f, rfl, rfl, Nat.lt_of_le_of_lt f1 N6, f0, f1⟩ ?_
    rintro j σ s2 ⟨rfl, f', rfl, re, fj, f1', fN⟩
    cases j with
    | zero => exact absurd fj (by simp; omega)
    | succ j =>
    have re2 : (if f' % p = 0 ∧ T (f' / p) = true then redF T j (f' / p) p else f') = redF T 64 f p := re
    have md := modN2 (a := f') (b := p) (by omega) s2
    have dv := divN2 (a := f') (b := p) (by omega) (Nat.lt_of_le_of_lt pmN (Nat.lt_of_lt_of_le N6 (Nat.pow_le_pow_right (by decide) (by decide)))) s2
    have fle := Nat.div_le_self f' p
    have pw := pow_ok2 (a := a) (n := f' / p) (m := m) s2 m0 m5 ha (Nat.lt_of_le_of_lt (Nat.le_trans fle fN) (Nat.lt_of_lt_of_le N6 (Nat.pow_le_pow_right (by decide) (by decide))))
    by_cases c1 : f' % p = 0
    rotate_left
    · have d1 : decide (((f' % p : Nat) : Int) = 0) = false := decide_eq_false (by omega)
      rw [if_neg fun c => c1 c.1] at re2
      simp! [md, d1]
      rw [re2]
      exact ⟨_, rfl⟩
    have d1 : decide (((f' % p : Nat) : Int) = 0) = true := decide_eq_true (by omega)
    by_cases c2 : PO.pw a (f' / p) m = 1
    · have d2 : decide (((PO.pw a (f' / p) m : Nat) : Int) = 1) = true := decide_eq_true (by omega)
      rw [if_pos ⟨c1, by rw [hT]; exact decide_eq_true c2⟩] at re2
      simp! [md, d1, dv, pw, d2]
      refine ⟨j, Nat.lt_succ_self _, f' / p, rfl, re2, ?_, ?_, Nat.le_trans fle fN⟩
      · refine Nat.lt_of_le_of_lt (Nat.div_le_div_left pm2 (by decide)) ?_
        rw [Nat.pow_succ] at fj
        omega
      · exact Nat.div_pos (Nat.le_of_dvd f1' (Nat.dvd_of_mod_eq_zero c1)) (by omega)
    · have d2 : decide (((PO.pw a (f' / p) m : Nat) : Int) = 1) = false := decide_eq_false (by omega)
      rw [if_neg fun c => c2 (of_decide_eq_true ((hT _).symm.trans c.2))] at re2
      simp! [md, d1, dv, pw, d2]
      rw [re2]
      exact ⟨_, rfl⟩
  · rintro σ s' ⟨rfl, y, rfl⟩
    refine ⟨lstOf_obj co, ?_⟩
    rw [iN_len, List.take_length]
    simp! [eq_self]
    exact gb
end
section
variable {T T' : Nat → Bool}
theorem redF_dvd : ∀ n f p, redF T n f p ∣ f
  | 0, _, _ => Nat.dvd_refl _
  | n + 1, f, p => by
    unfold redF
    split
    · rename_i c
      exact Nat.dvd_trans (redF_dvd n (f / p) p) (Nat.div_dvd_of_dvd (Nat.dvd_of_mod_eq_zero c.1))
    · exact Nat.dvd_refl _
theorem redF_T : ∀ n f p, T f = true → T (redF T n f p) = true
  | 0, _, _, h => h
  | n + 1, f, p, h => by
    unfold redF
    split
    · rename_i c
      exact redF_T n (f / p) p c.2
    · exact h
theorem redF_end : ∀ n f p, 2 ≤ p → 1 ≤ f → f < 2 ^ n → ¬ (redF T n f p % p = 0 ∧ T (redF T n f p / p) = true)
  | 0, f, p, _, h1, h2 => absurd h2 (by simp; omega)
  | n + 1, f, p, h2, h1, hn => by
    unfold redF
    split
    · rename_i c
      refine redF_end n (f / p) p h2 (Nat.div_pos (Nat.le_of_dvd h1 (Nat.dvd_of_mod_eq_zero c.1)) (by omega)) ?_
      refine Nat.lt_of_le_of_lt (Nat.div_le_div_left h2 (by decide)) ?_
      rw [Nat.pow_succ] at hn
      omega
    · rename_i c
      exact c
/-- what was not reducible stays so -/
theorem red_stay (mul : ∀ g c, T g = true → T (g * c) = true) {f g p : Nat} (hp : 2 ≤ p) (hg : g ∣ f) (h : ¬ (f % p = 0 ∧ T (f / p) = true)) : ¬ (g % p = 0 ∧ T (g / p) = true) := by
  rintro ⟨c1, c2⟩
  obtain ⟨c, rfl⟩ := hg
  obtain ⟨r, rfl⟩ := Nat.dvd_of_mod_eq_zero c1
  refine h ⟨?_, ?_⟩
  · rw [Nat.mul_assoc]; exact Nat.mul_mod_right _ _
  · rw [Nat.mul_div_cancel_left _ (by omega)] at c2
    rw [Nat.mul_assoc, Nat.mul_div_cancel_left _ (by omega)]
    exact mul _ _ c2
theorem ordF_is (mul : ∀ g c, T g = true → T (g * c) = true) : ∀ (L D : List Nat) (N f : Nat), (∀ p ∈ L, 2 ≤ p) → (∀ p ∈ D, 2 ≤ p) → 1 ≤ f → f < 2 ^ 64 → f ∣ N → T f = true → (∀ p ∈ D, ¬ (f % p = 0 ∧ T (f / p) = true)) →
    ordF T f L ∣ N ∧ T (ordF T f L) = true ∧ ∀ p, p ∈ D ∨ p ∈ L → ¬ (ordF T f L % p = 0 ∧ T (ordF T f L / p) = true)
  | [], D, N, f, _, _, _, _, h4, h5, h6 => ⟨h4, h5, fun p hp => h6 p (hp.resolve_right (by simp))⟩
  | q :: L, D, N, f, h1, h2, h3, h3', h4, h5, h6 => by
    have q2 := h1 q (List.mem_cons_self ..)
    have dv := redF_dvd (T := T) 64 f q
    have k := ordF_is mul L (q :: D) N (redF T 64 f q) (fun p hp => h1 p (List.mem_cons_of_mem _ hp)) (fun p hp => by
      rcases List.mem_cons.mp hp with rfl | hp
      · exact q2
      · exact h2 p hp) (redF_pos T 64 f q h3) (Nat.lt_of_le_of_lt (redF_le T 64 f q) h3') (Nat.dvd_trans dv h4) (redF_T 64 f q h5) (fun p hp => by
      rcases List.mem_cons.mp hp with rfl | hp
      · exact redF_end 64 f p q2 h3 h3'
      · exact red_stay mul (h2 p hp) dv (h6 p hp))
    refine ⟨k.1, k.2.1, fun p hp => k.2.2 p ?_⟩
    rcases hp with hp | hp
    · exact .inl (List.mem_cons_of_mem _ hp)
    · rcases List.mem_cons.mp hp with rfl | hp
      · exact .inl (List.mem_cons_self ..)
      · exact .inr hp
end
section
variable {a m : Nat}
abbrev Tp (a m : Nat) : Nat → Bool := fun n => decide (PO.pw a n m = 1)
theorem Tp_mul (hm : m ≠ 0) (h1 : PO.md 1 m = 1) (g c : Nat) (h : Tp a m g = true) : Tp a m (g * c) = true :=
  decide_eq_true (PO.pw_mul hm h1 (of_decide_eq_true h) c)
theorem ordF_ord {L : List Nat} {N : Nat} (hm : m ≠ 0) (h1 : PO.md 1 m = 1) (N0 : 1 ≤ N) (N6 : N < 2 ^ 64) (lp : ∀ p ∈ L, 2 ≤ p) (cover : ∀ g, g ∣ N → g ≠ 1 → ∃ p ∈ L, p ∣ g) (hN : PO.pw a N m = 1) :
    PO.Ord a m (ordF (Tp a m) N L) ∧ ordF (Tp a m) N L ∣ N := by
  obtain ⟨k1, k2, k3⟩ := ordF_is (T := Tp a m) (Tp_mul hm h1) L [] N N lp (fun _ h => by cases h) N0 N6 (Nat.dvd_refl _) (decide_eq_true hN) (fun _ h => by cases h)
  exact ⟨PO.ord_of hm h1 N0 cover lp k1 (of_decide_eq_true k2) fun p hp c => k3 p (.inr hp) ⟨c.1, decide_eq_true c.2⟩, k1⟩
end
theorem irr_some {k n : Nat} (h : PO.irr k n = true) : ∃ L, PO.prF 64 [] (TW.len n - 1) 2 = some L ∧ PO.irrB k n L = true := by
  unfold PO.irr at h
  split at h
  · rename_i L hL
    exact ⟨L, hL, h⟩
  · cases h
end Pf
set_option Elab.async false
set_option linter.all false
set_option maxRecDepth 100000
set_option maxHeartbeats 1000000
set_option exponentiation.threshold 3000
namespace Pf
open PySem Ab
local macro_rules | `(tactic| simp! only [$xs,*]) => `(tactic| simp only [e_op, e_opK, e_un, e_cb, e_nil, e_c, e_cons, e_consK, e_consK2, e_and, e_or, e_andK, e_orK, e_not, e_notK, e_test, e_testK, e_tand, e_tandK, e_tor, e_torK, e_tnot, e_tnotK, e_yes, e_if, e_ifK, e_ch, e_chK1, e_chK2, e_chK3, e_tup, e_tupK, e_lst, e_lstK, e_newL, e_call, e_callK, e_meth, e_methK, e_methK2, e_prop, e_propK, e_make, e_makeK, e_makeK2, e_makeV, e_sm, e_smK, e_smK2, e_cm, e_cmK, e_cmK2, e_sl, e_slK1, e_slK2, e_slK3, e_part, e_partK, e_nopart, e_rev, e_bm, e_bmK, e_pr, e_pr0, e_prK1, e_prK2, e_prK3, e_disp, e_dnew, e_own, e_ownK, e_lc, e_lcK, e_iter, e_rng1, e_rng1K, e_rng2, e_rng2K, e_enum, s_drop, s_dropK, s_ret, s_retK, s_retN, s_next, s_break, s_cont, s_seq, s_if, s_ifK, s_asg, s_asgK, s_name, s_par, s_parK, s_par3, s_parK3, s_gnil, s_gcons, s_gtup, s_for, s_forK, s_raise, s_raiseK, s_sf, s_sfK1, s_sfK2, s_dp, s_dpK1, s_dpK2, s_dpK3, s_forget, s_def, s_fld, e_enumU, e_enumUT, e_match, e_mcase, e_mcase2, e_many, e_mnil, e_lcX, e_lcXK, e_get2, e_methS, e_methS1, e_methS2, s_augS, s_augS1, gEqS_int, gEqS_str, gEqS_bl, gEqS_tup, e_fmt, e_js, e_jsC, e_jsN, e_join, e_joinK, eq_self, beq_self_eq_true, true_implies, false_implies, implies_true, List.map_cons, List.map_nil, List.nil_append, List.cons_append, List.append_nil, List.replicate_succ, List.replicate_zero, List.getElem?_cons_zero, List.getElem?_cons_succ, List.length_cons, List.length_nil, List.set_cons_zero, List.set_cons_succ, ↓reduceIte, ↓reduceDIte, Nat.reduceAdd, Nat.reduceLeDiff, Nat.reduceEqDiff, Nat.zero_add, if_true, if_false, aVar, gMinus_int, gLt_int, gLe_int, gGt_int, gGe_int, gEq_int, gNe_int, gEq_str, gNe_str, gEq_bl, gNe_bl, gXor_int, gAnd_int, gOr_int, gAdd_int, gIsN_non, gNotN_non, gIsB_bl, gNotB_bl, gNeg_int, gLen_tup, gLen_scr, gMax2_int, gMin2_int, gBits_int, gSl_tup, gSl_scr, Bool.not_true, Bool.not_false, Bool.true_eq_false, Bool.false_eq_true, Bool.true_and, Bool.false_and, Bool.and_true, Bool.and_false, Bool.true_or, Bool.false_or, decide_true, decide_false, and_self, and_true, true_and, and_false, false_and, not_true_eq_false, not_false_eq_true, reduceCtorEq, kz, z1, z2, z3, z4, z5, z6, z7, z8, z9, z10, z11, z12, z13, z14, z15, z16, isCls, isNon, aForget, aHand, toKey, keysA, iterOf_tup, iterOf_scr, oNx_some, noErr_ok, decide_eq_true_eq, decide_eq_false_iff_not, Sto.new_n, Sto.set_n, Sto.set_at, Sto.new_at, Nat.zero_le, aMakeV, Cl_non, Cl_bl, Cl_int, Cl_str, Cl_cls, Cl_obj, Cl_tup, ClL_nil, ClL_cons, grd_pos, grdS_pos, Res.bind_ok, Res.bind_err, Res.st_ok, Res.st_err, SRes.thn_nx, SRes.thn_rt, SRes.thn_err, SRes.fn_rt, SRes.fn_nx, SRes.fn_err, SRes.loop_nx, SRes.loop_rt, SRes.loop_err, SRes.loop_ct, SRes.loop_bk, SRes.forget_nx, SRes.forget_rt, SRes.forget_err, SRes.clr_nx, SRes.clr_rt, SRes.noX_nx, SRes.noX_rt, aTry, sizeLine_ge, $xs,*])
section
variable {s : Sto} {d : Nat}
theorem cb_id {a0 a1 a2 a3 a4 a5 a6 a7 a8 a9 a10 a11 a12 : Option AV} : ∀ (v : Nat) ys s kk, ys.length < sizeLine → (hLc (agName 3) aYes (aVar 3) [a0, a1, a2, a3, a4, a5, a6, a7, a8, a9, a10, a11, a12] [3]).cb (.int (v : Nat)) ys s kk = kk (ys ++ [.int (v : Nat)]) s := fun v ys s kk h => if_pos h
noncomputable def gbI : AL := aLSeq (aLIf (gcT (aTest (aCall 1 F_is_irreducible [] (aCons (aVar 1) aNil)))) (aLSeq (aLYd (aVar 1)) aLNil) aLNil) aLNil
theorem irr_unf : BL_irreducibles = aLSeq (aLP (aIfS (gcT (aNot (aTest (aCall 3 F_s3_is_whole [] (aCons (aVar 0) (aCons (aC (.int 1)) (aCons (aC (.int 10)) aNil))))))) aNever aNext)) (aLSeq (aLFor (aRng2 (aCons (aOp gShl (aC (.int 1)) (aVar 0)) (aCons (aOp gShl (aC (.int 2)) (aVar 0)) aNil))) (agName 1) gbI) aLNil) := rfl
def prI (d : Nat) : Bool := (PO.prF 64 [] d 2).isSome
theorem prI_all : ((List.range 8).all prI) = true := by decide +kernel
theorem irr12 {n : Nat} (hd : d < 8) (d0 : 1 ≤ d) (h1 : 2 ^ d ≤ n) (h2 : n < 2 ^ (d + 1)) (s : Sto) : F_is_irreducible [.int (n : Nat)] s = .ok (.bl (PO.irr 12 n)) s := by
  have pd : 0 < 2 ^ d := Nat.pow_pos (by decide)
  have le : TW.len n = d + 1 := by
    have a1 := TW.len_le h2
    have a2 : ¬ TW.len n ≤ d := fun c => by
      have := TW.lt_len n
      have := Nat.pow_le_pow_right (show 0 < 2 by decide) c
      omega
    omega
  have k := List.all_eq_true.mp prI_all d (List.mem_range.mpr hd)
  obtain ⟨L, hL⟩ := Option.isSome_iff_exists.mp k
  have hL2 : PO.prF 64 [] (TW.len n - 1) 2 = some L := by rw [le]; exact hL
  have n12 : n < 2 ^ 12 := Nat.lt_of_lt_of_le h2 (Nat.pow_le_pow_right (by decide) (by omega))
  rw [irr_ok s hL2 (by omega) n12 (by decide) (by decide)]
  unfold PO.irr
  rw [hL2]
theorem lif_ok {γ ρ : Type} {h : LHd γ ρ} {k : LKs γ ρ} {n : Nat} {σ : ASt} {c : γ} {s s' : Sto} {f : AT} {a b : AL} {r : Bool} (he : f σ s = .ok r s') : aLIf f a b γ ρ h k n σ c s = if r = true then a γ ρ h k n σ c s' else b γ ρ h k n σ c s' := by
  unfold aLIf
  rw [he]
  cases r <;> rfl
theorem lvI (hd : d < 8) (d0 : 1 ≤ d) (H : LHd (List AV) (Res AV)) (hcb : ∀ (v : Nat) ys s kk, ys.length < sizeLine → H.cb (.int (v : Nat)) ys s kk = kk (ys ++ [.int (v : Nat)]) s)
    (kk : LKs (List AV) (Res AV)) (kn : ∀ c σ' s' j, kk.nx j σ' c s' = newL c s') : ∀ (l : List Nat) (ys : List AV) (j : Nat) (y : Option AV), (∀ i ∈ l, i < 2 ^ d) → ys.length + l.length ≤ 1000 → j ≤ ys.length →
    loopL (fun _ => True) (agName 1) gbI (l.map fun i => .int (((2 ^ d : Nat) : Int) + (i : Nat))) (List AV) (Res AV) H kk j [some (.int (d : Nat)), y] ys s = newL (ys ++ iN ((l.map fun i => 2 ^ d + i).filter (PO.irr 12))) s
  | [], ys, j, y, _, _, _ => by
    show loopL (fun _ => True) (agName 1) gbI [] (List AV) (Res AV) H kk j [some (.int (d : Nat)), y] ys s = newL (ys ++ []) s
    rw [loopL_nil trivial, kn, List.append_nil]
  | i :: l, ys, j, y, hi, hl, hj => by
    have big : (1000 : Nat) < sizeLine := by decide
    have il := hi i (List.mem_cons_self ..)
    rw [List.length_cons] at hl
    obtain ⟨n, hn⟩ : ∃ n, n = 2 ^ d + i := ⟨_, rfl⟩
    have nc : ((2 ^ d : Nat) : Int) + (i : Nat) = ((n : Nat) : Int) := by omega
    have ir := irr12 (n := n) hd d0 (by omega) (by rw [Nat.pow_succ]; omega) s
    have e : (gcT (aTest (aCall 1 F_is_irreducible [] (aCons (aVar 1) aNil)))) [some (.int (d : Nat)), some (.int (n : Nat))] s = .ok (PO.irr 12 n) s := gcT_f (by simp! only [ir])
    have step : loopL (fun _ => True) (agName 1) gbI ((i :: l).map fun i => .int (((2 ^ d : Nat) : Int) + (i : Nat))) (List AV) (Res AV) H kk j [some (.int (d : Nat)), y] ys s =
        if PO.irr 12 n = true then loopL (fun _ => True) (agName 1) gbI (l.map fun i => .int (((2 ^ d : Nat) : Int) + (i : Nat))) (List AV) (Res AV) H kk (j + 1) [some (.int (d : Nat)), some (.int (n : Nat))] (ys ++ [.int (n : Nat)]) s
        else loopL (fun _ => True) (agName 1) gbI (l.map fun i => .int (((2 ^ d : Nat) : Int) + (i : Nat))) (List AV) (Res AV) H kk j [some (.int (d : Nat)), some (.int (n : Nat))] ys s := by
      rw [List.map_cons, nc, loopL_cons trivial (show agName 1 (.int (n : Nat)) [some (.int (d : Nat)), y] s = .nx [some (.int (d : Nat)), some (.int (n : Nat))] s from rfl)]
      unfold gbI
      rw [seq_ok, lif_ok e]
      by_cases c : PO.irr 12 n = true
      · rw [if_pos c, if_pos c]
        rw [seq_ok, yd_ok (v := .int (n : Nat)) (s' := s) (by omega) rfl, hcb _ _ _ _ (by omega)]
        rfl
      · rw [if_neg c, if_neg c]
        rfl
    rw [step]
    by_cases c : PO.irr 12 n = true
    · rw [if_pos c, lvI hd d0 H hcb kk kn l _ _ _ (fun i h => hi i (List.mem_cons_of_mem _ h)) (by rw [List.length_append]; simp only [List.length_cons, List.length_nil]; omega) (by rw [List.length_append]; simp only [List.length_cons, List.length_nil]; omega)]
      rw [List.map_cons, ← hn, List.filter_cons_of_pos c, List.append_assoc]
      rfl
    · rw [if_neg c, lvI hd d0 H hcb kk kn l _ _ _ (fun i h => hi i (List.mem_cons_of_mem _ h)) (by omega) hj]
      rw [List.map_cons, ← hn, List.filter_cons_of_neg c]
open Classical in
theorem live_irr (hd : d < 8) (d0 : 1 ≤ d) {x0 x1 x2 x3 x4 x5 x6 x7 x8 x9 x10 x11 x12 : Option AV} {fr : AA} {t : Sto} (er : fr [x0, x1, x2, x3, x4, x5, x6, x7, x8, x9, x10, x11, x12] t = .ok [.int (d : Nat)] s) : aLcG FL_irreducibles (aCArgs 1 fr) (agName 3) aYes (aVar 3) [3] [x0, x1, x2, x3, x4, x5, x6, x7, x8, x9, x10, x11, x12] t = .ok (.obj s.n) (s.new (.lst (iN (PO.irrs d)))) := by
  have ar : aCArgs 1 fr [x0, x1, x2, x3, x4, x5, x6, x7, x8, x9, x10, x11, x12] t = .ok [.int (d : Nat)] s := by
    unfold aCArgs
    rw [er]
    rfl
  have w := whole_t (i := ((d : Nat) : Int)) (lo := 1) (hi := 10) s (by omega) (by omega)
  have g : (gcT (aNot (aTest (aCall 3 F_s3_is_whole [] (aCons (aVar 0) (aCons (aC (.int 1)) (aCons (aC (.int 10)) aNil))))))) [some (.int (d : Nat)), none] s = .ok false s := gcT_f (by simp! only [w])
  have p2 : (aIfS (gcT (aNot (aTest (aCall 3 F_s3_is_whole [] (aCons (aVar 0) (aCons (aC (.int 1)) (aCons (aC (.int 10)) aNil))))))) aNever aNext) [some (.int (d : Nat)), none] s = .nx [some (.int (d : Nat)), none] s := by simp! only [g]
  have s1 : gShl (.int 1) (.int (d : Nat)) s = .ok (.int ((2 ^ d : Nat) : Int)) s := shl_one (k := d) s (by omega)
  have s2 : gShl (.int 2) (.int (d : Nat)) s = .ok (.int ((2 * 2 ^ d : Nat) : Int)) s := shl_ok (a := 2) (k := 2) (by decide) (by omega)
  have pd : 2 ^ d ≤ 2 ^ 7 := Nat.pow_le_pow_right (by decide) (by omega)
  have ri : (aRng2 (aCons (aOp gShl (aC (.int 1)) (aVar 0)) (aCons (aOp gShl (aC (.int 2)) (aVar 0)) aNil))) [some (.int (d : Nat)), none] s = .ok (rngA ((2 ^ d : Nat) : Int) (2 ^ d), fun _ => True) s := by
    have e : (aCons (aOp gShl (aC (.int 1)) (aVar 0)) (aCons (aOp gShl (aC (.int 2)) (aVar 0)) aNil)) [some (.int (d : Nat)), none] s = .ok [.int ((2 ^ d : Nat) : Int), .int ((2 * 2 ^ d : Nat) : Int)] s := by simp! only [s1, s2]
    unfold aRng2
    rw [e, Res.bind_ok]
    have q0 : (0 : Int) ≤ ((2 ^ d : Nat) : Int) := Int.natCast_nonneg _
    have q1 : ((2 ^ d : Nat) : Int) ≤ ((128 : Nat) : Int) := Int.ofNat_le.mpr pd
    have c : -(2 ^ 62) ≤ ((2 ^ d : Nat) : Int) ∧ ((2 ^ d : Nat) : Int) < 2 ^ 62 ∧ -(2 ^ 62) ≤ ((2 * 2 ^ d : Nat) : Int) ∧ ((2 * 2 ^ d : Nat) : Int) < 2 ^ 62 := by omega
    show (if _ then _ else _) = _
    rw [if_pos c, show (((2 * 2 ^ d : Nat) : Int) - ((2 ^ d : Nat) : Int)).toNat = 2 ^ d by omega]
  have hcb := cb_id (a0 := x0) (a1 := x1) (a2 := x2) (a3 := x3) (a4 := x4) (a5 := x5) (a6 := x6) (a7 := x7) (a8 := x8) (a9 := x9) (a10 := x10) (a11 := x11) (a12 := x12)
  obtain ⟨H, hH⟩ : ∃ H, H = hLc (agName 3) aYes (aVar 3) [x0, x1, x2, x3, x4, x5, x6, x7, x8, x9, x10, x11, x12] [3] := ⟨_, rfl⟩
  rw [← hH] at hcb
  obtain ⟨K0, hK0⟩ : ∃ K0 : LKs (List AV) (Res AV), K0 = { nx := fun _ _ c s => newL c s, bk := fun _ _ _ _ => H.bad, ct := fun _ _ _ _ => H.bad, rt := fun _ v c s => if v = .non then newL c s else H.bad } := ⟨_, rfl⟩
  have e := lvI (s := s) hd d0 H hcb { K0 with nx := aLNil (List AV) (Res AV) H K0 } (fun _ _ _ _ => by rw [hK0]; rfl) (List.range (2 ^ d)) [] 0 none (fun i h => List.mem_range.mp h) (by rw [List.length_range, List.length_nil]; omega) (Nat.le_refl _)
  have f1 : ∀ (f : AL) (c : List AV), aLDef 1 f (List AV) (Res AV) H (fun ys s => newL ys s) [.int (d : Nat)] c s = f (List AV) (Res AV) H K0 0 [some (.int (d : Nat)), none] c s := fun f c => by
    rw [hK0]
    rfl
  have fin : newL ([] ++ iN ((List.map (fun i => 2 ^ d + i) (List.range (2 ^ d))).filter (PO.irr 12))) s = .ok (.obj s.n) (s.new (.lst (iN (PO.irrs d)))) := rfl
  rw [← fin, ← e]
  unfold aLcG
  rw [ar, Res.bind_ok, ← hH]
  unfold FL_irreducibles
  rw [f1, irr_unf, seq_ok, lp_ok p2]
  dsimp only
  rw [seq_ok, lfor_ok ri]
  rfl
end
/-- a modulus of the law -/
structure Mo (m : Nat) : Prop where
  n0 : m ≠ 0
  lt : m < 2 ^ 12
  one : PO.md 1 m = 1
  ord : ∀ a, a < 2 ^ 100 → PO.md a m ≠ 0 → ∃ f, PO.Ord a m f ∧ f ∣ 2 ^ (TW.len m - 1) - 1 ∧ f ≤ 1000 ∧ ∀ s, F_order_of [.int (a : Nat), .int (m : Nat)] s = .ok (.int (f : Nat)) s
  len : TW.len m - 1 ≤ 7 ∧ 1 ≤ TW.len m
  fer : ∀ a, PO.md a m ≠ 0 → PO.pw a (2 ^ (TW.len m - 1) - 1) m = 1
  irr : ∀ s, F_is_irreducible [.int (m : Nat)] s = .ok (.bl true) s
theorem mo_of {m d : Nat} (d1 : 1 ≤ d) (d7 : d ≤ 7) (hm : m ∈ PO.irrs d) : Mo m := by
  obtain ⟨i12, l0, l1⟩ := PO.irrs_mem hm
  have p2 : 2 ≤ 2 ^ d := Nat.le_trans (by decide : 2 ≤ 2 ^ 1) (Nat.pow_le_pow_right (by decide) d1)
  have p7 : 2 ^ d ≤ 2 ^ 7 := Nat.pow_le_pow_right (by decide) d7
  have m0 : m ≠ 0 := by omega
  have m12 : m < 2 ^ 12 := Nat.lt_of_lt_of_le l1 (Nat.pow_le_pow_right (by decide) (by omega))
  have le : TW.len m = d + 1 := by
    have a1 := TW.len_le l1
    have a2 : ¬ TW.len m ≤ d := fun c => by
      have := TW.lt_len m
      have := Nat.pow_le_pow_right (show 0 < 2 by decide) c
      omega
    omega
  have o1 := PO.md_one (m := m) (by omega)
  refine ⟨m0, m12, o1, fun a ha h0 => ?_, ⟨by omega, by omega⟩, fun a h0 => by
    have := (PO.fermat (a := a) (by omega) (by omega) hm h0).2
    rwa [show TW.len m - 1 = d by omega], fun s => by
    have := irr12 (d := d) (by omega) d1 l0 l1 s
    rwa [i12] at this⟩
  obtain ⟨L, hL, lp, cover⟩ := PO.cov_is (d := d) (by omega) (by omega)
  obtain ⟨L1, hL1, hi⟩ := irr_some i12
  have fe := (PO.fermat (a := a) (by omega) (by omega) hm h0).2
  have le1 : TW.len m - 1 = d := by omega
  obtain ⟨q1, q2⟩ := ordF_ord (a := a) (m := m) (N := 2 ^ d - 1) (L := L) m0 o1 (by omega) (by omega) lp cover fe
  rw [le1]
  refine ⟨_, q1, q2, ?_, fun s => ?_⟩
  · have := Nat.le_of_dvd (by omega) q2
    omega
  · have ll := prF_len hL
    rw [List.length_nil] at ll
    have e := ord_ok (a := a) (m := m) (k := 12) (K := 64) s (Nat.lt_of_lt_of_le ha (Nat.pow_le_pow_right (by decide) (by decide))) m12 (by decide) (by decide) hL1 hi m0 (by omega) h0 (by rw [le1]; exact hL) (by omega)
    rw [le1] at e
    exact e
end Pf
set_option Elab.async false
set_option linter.all false
set_option maxRecDepth 100000
set_option maxHeartbeats 1000000
set_option exponentiation.threshold 3000
namespace Pf
open PySem Ab
local macro_rules | `(tactic| simp! [$xs,*]) => `(tactic| try simp (config := {maxSteps := 1000000}) only [k_bind, k_Kb, k_st, k_Kst, k_Rst, k_thn, k_loop, k_fn, k_forget, k_clr, k_noX, k_try, k_stuck, k_Astuck, d_thn_nx, d_thn_bk, d_thn_ct, d_thn_rt, d_thn_er, d_lp_nx, d_lp_bk, d_lp_ct, d_lp_rt, d_lp_er, d_fg_nx, d_fg_bk, d_fg_ct, d_fg_rt, d_fg_er, d_cl_nx, d_cl_bk, d_cl_ct, d_cl_rt, d_cl_er, d_tr_nx, d_tr_bk, d_tr_ct, d_tr_rt, d_tr_er, d_nX_nx, d_nX_bk, d_nX_ct, d_nX_rt, d_nX_er, d_fn_nx, d_fn_bk, d_fn_ct, d_fn_rt, d_fn_er, A_nx, A_bk, A_ct, A_rt, A_err, post_ok, post_err, post_noErr, e_op, e_opK, e_un, e_cb, e_nil, e_c, e_cons, e_consK, e_consK2, e_and, e_or, e_andK, e_orK, e_not, e_notK, e_test, e_testK, e_tand, e_tandK, e_tor, e_torK, e_tnot, e_tnotK, e_yes, e_if, e_ifK, e_ch, e_chK1, e_chK2, e_chK3, e_tup, e_tupK, e_lst, e_lstK, e_newL, e_call, e_callK, e_meth, e_methK, e_methK2, e_prop, e_propK, e_make, e_makeK, e_makeK2, e_makeV, e_sm, e_smK, e_smK2, e_cm, e_cmK, e_cmK2, e_sl, e_slK1, e_slK2, e_slK3, e_part, e_partK, e_nopart, e_rev, e_bm, e_bmK, e_pr, e_pr0, e_prK1, e_prK2, e_prK3, e_disp, e_dnew, e_own, e_ownK, e_lc, e_lcK, e_iter, e_rng1, e_rng1K, e_rng2, e_rng2K, e_enum, s_drop, s_dropK, s_ret, s_retK, s_retN, s_next, s_break, s_cont, s_seq, s_if, s_ifK, s_asg, s_asgK, s_name, s_par, s_parK, s_par3, s_parK3, s_gnil, s_gcons, s_gtup, s_for, s_forK, s_raise, s_raiseK, s_sf, s_sfK1, s_sfK2, s_dp, s_dpK1, s_dpK2, s_dpK3, s_forget, s_def, s_fld, e_enumU, e_enumUT, e_match, e_mcase, e_mcase2, e_many, e_mnil, e_lcX, e_lcXK, e_get2, e_methS, e_methS1, e_methS2, s_augS, s_augS1, gEqS_int, gEqS_str, gEqS_bl, gEqS_tup, e_fmt, e_js, e_jsC, e_jsN, e_join, e_joinK, eq_self, beq_self_eq_true, k_grd, k_grdS, k_ite, k_Aite, true_implies, false_implies, implies_true, List.map_cons, List.map_nil, List.nil_append, List.cons_append, List.append_nil, List.replicate_succ, List.replicate_zero, List.getElem?_cons_zero, List.getElem?_cons_succ, List.length_cons, List.length_nil, List.set_cons_zero, List.set_cons_succ, ↓reduceIte, ↓reduceDIte, Nat.reduceAdd, Nat.reduceLeDiff, Nat.reduceEqDiff, Nat.zero_add, if_true, if_false, aVar, gMinus_int, gLt_int, gLe_int, gGt_int, gGe_int, gEq_int, gNe_int, gEq_str, gNe_str, gEq_bl, gNe_bl, gXor_int, gAnd_int, gOr_int, gAdd_int, gIsN_non, gNotN_non, gIsB_bl, gNotB_bl, gNeg_int, gLen_tup, gLen_scr, gMax2_int, gMin2_int, gBits_int, gSl_tup, gSl_scr, Bool.not_true, Bool.not_false, Bool.true_eq_false, Bool.false_eq_true, Bool.true_and, Bool.false_and, Bool.and_true, Bool.and_false, Bool.true_or, Bool.false_or, decide_true, decide_false, and_self, and_true, true_and, and_false, false_and, not_true_eq_false, not_false_eq_true, reduceCtorEq, kz, z1, z2, z3, z4, z5, z6, z7, z8, z9, z10, z11, z12, z13, z14, z15, z16, isCls, isNon, aForget, aHand, toKey, keysA, iterOf_tup, iterOf_scr, oNx_some, noErr_ok, decide_eq_true_eq, decide_eq_false_iff_not, Sto.new_n, Sto.set_n, Sto.set_at, Sto.new_at, Nat.zero_le, aMakeV, Cl_non, Cl_bl, Cl_int, Cl_str, Cl_cls, Cl_obj, Cl_tup, ClL_nil, ClL_cons, $xs,*])
local macro_rules | `(tactic| simp! only [$xs,*]) => `(tactic| simp only [e_op, e_opK, e_un, e_cb, e_nil, e_c, e_cons, e_consK, e_consK2, e_and, e_or, e_andK, e_orK, e_not, e_notK, e_test, e_testK, e_tand, e_tandK, e_tor, e_torK, e_tnot, e_tnotK, e_yes, e_if, e_ifK, e_ch, e_chK1, e_chK2, e_chK3, e_tup, e_tupK, e_lst, e_lstK, e_newL, e_call, e_callK, e_meth, e_methK, e_methK2, e_prop, e_propK, e_make, e_makeK, e_makeK2, e_makeV, e_sm, e_smK, e_smK2, e_cm, e_cmK, e_cmK2, e_sl, e_slK1, e_slK2, e_slK3, e_part, e_partK, e_nopart, e_rev, e_bm, e_bmK, e_pr, e_pr0, e_prK1, e_prK2, e_prK3, e_disp, e_dnew, e_own, e_ownK, e_lc, e_lcK, e_iter, e_rng1, e_rng1K, e_rng2, e_rng2K, e_enum, s_drop, s_dropK, s_ret, s_retK, s_retN, s_next, s_break, s_cont, s_seq, s_if, s_ifK, s_asg, s_asgK, s_name, s_par, s_parK, s_par3, s_parK3, s_gnil, s_gcons, s_gtup, s_for, s_forK, s_raise, s_raiseK, s_sf, s_sfK1, s_sfK2, s_dp, s_dpK1, s_dpK2, s_dpK3, s_forget, s_def, s_fld, e_enumU, e_enumUT, e_match, e_mcase, e_mcase2, e_many, e_mnil, e_lcX, e_lcXK, e_get2, e_methS, e_methS1, e_methS2, s_augS, s_augS1, gEqS_int, gEqS_str, gEqS_bl, gEqS_tup, e_fmt, e_js, e_jsC, e_jsN, e_join, e_joinK, eq_self, beq_self_eq_true, true_implies, false_implies, implies_true, List.map_cons, List.map_nil, List.nil_append, List.cons_append, List.append_nil, List.replicate_succ, List.replicate_zero, List.getElem?_cons_zero, List.getElem?_cons_succ, List.length_cons, List.length_nil, List.set_cons_zero, List.set_cons_succ, ↓reduceIte, ↓reduceDIte, Nat.reduceAdd, Nat.reduceLeDiff, Nat.reduceEqDiff, Nat.zero_add, if_true, if_false, aVar, gMinus_int, gLt_int, gLe_int, gGt_int, gGe_int, gEq_int, gNe_int, gEq_str, gNe_str, gEq_bl, gNe_bl, gXor_int, gAnd_int, gOr_int, gAdd_int, gIsN_non, gNotN_non, gIsB_bl, gNotB_bl, gNeg_int, gLen_tup, gLen_scr, gMax2_int, gMin2_int, gBits_int, gSl_tup, gSl_scr, Bool.not_true, Bool.not_false, Bool.true_eq_false, Bool.false_eq_true, Bool.true_and, Bool.false_and, Bool.and_true, Bool.and_false, Bool.true_or, Bool.false_or, decide_true, decide_false, and_self, and_true, true_and, and_false, false_and, not_true_eq_false, not_false_eq_true, reduceCtorEq, kz, z1, z2, z3, z4, z5, z6, z7, z8, z9, z10, z11, z12, z13, z14, z15, z16, isCls, isNon, aForget, aHand, toKey, keysA, iterOf_tup, iterOf_scr, oNx_some, noErr_ok, decide_eq_true_eq, decide_eq_false_iff_not, Sto.new_n, Sto.set_n, Sto.set_at, Sto.new_at, Nat.zero_le, aMakeV, Cl_non, Cl_bl, Cl_int, Cl_str, Cl_cls, Cl_obj, Cl_tup, ClL_nil, ClL_cons, grd_pos, grdS_pos, Res.bind_ok, Res.bind_err, Res.st_ok, Res.st_err, SRes.thn_nx, SRes.thn_rt, SRes.thn_err, SRes.fn_rt, SRes.fn_nx, SRes.fn_err, SRes.loop_nx, SRes.loop_rt, SRes.loop_err, SRes.loop_ct, SRes.loop_bk, SRes.forget_nx, SRes.forget_rt, SRes.forget_err, SRes.clr_nx, SRes.clr_rt, SRes.noX_nx, SRes.noX_rt, aTry, sizeLine_ge, $xs,*])
section
variable {a b n : Nat}
theorem degree_ok (hn : n < 2 ^ 512) (s : Sto) : F_degree [.int (n : Nat)] s = .ok (.int ((TW.len n : Nat) - 1 : Int)) s := by
  refine gc0 ?_ (by simp)
  have e1 := cs2 (xs := [.int (n : Nat)]) s (need1_t s hn) (by simp)
  have bt : gBits (.int (n : Nat)) s = .ok (.int (TW.len n : Nat)) s := by rw [gBits_int, bitsN]
  simp! only [B_degree, e_callS, e1, bt]
theorem added_ok (ha : a < 2 ^ 512) (hb : b < 2 ^ 512) (s : Sto) : F_added [.int (a : Nat), .int (b : Nat)] s = .ok (.int ((a ^^^ b : Nat) : Int)) s := by
  refine gc0 ?_ (by simp)
  have e1 := cs2 (xs := [.int (a : Nat), .int (b : Nat)]) s (need2_t s ha hb) (by simp)
  have x := xorN a b
  simp! only [B_added, e_callS, e1, x]
theorem mult_ok (ha : a < 2 ^ 512) (hb : b < 2 ^ 512) (s : Sto) : F_multiplied [.int (a : Nat), .int (b : Nat)] s = .ok (.int ((PO.cm a b : Nat) : Int)) s := by
  refine gc0 ?_ (by simp)
  have e1 := cs2 (xs := [.int (a : Nat), .int (b : Nat)]) s (need2_t s ha hb) (by simp)
  have e2 := prod2_ok (a := a) (b := b) (n := 512) (k := 512) s hb ha (by decide)
  simp! only [B_multiplied, e_callS, e1, e2]
end
theorem deqI (i : Int) : decide (i = i) = true := decide_eq_true rfl
section
variable {a b c : Nat}
theorem up5 {x k : Nat} (h : x < 2 ^ k) (hk : k ≤ 512) : x < 2 ^ 512 := Nat.lt_of_lt_of_le h (Nat.pow_le_pow_right (by decide) hk)
theorem ring_ok (ha : a < 2 ^ 40) (hb : b < 2 ^ 40) (hc : c < 2 ^ 40) (s : Sto) : F__law_ring_right [.int (a : Nat), .int (b : Nat), .int (c : Nat)] s = .ok (.bl true) s := by
  have m1 := mult_ok (up5 ha (by decide)) (up5 hb (by decide)) s
  have m2 := mult_ok (up5 hb (by decide)) (up5 ha (by decide)) s
  rw [PO.cm_comm b a] at m2
  have ab := cm_lt ha hb
  have bc := cm_lt hb hc
  have ac := cm_lt ha hc
  have aa := cm_lt ha ha
  have bb := cm_lt hb hb
  have m3 := mult_ok (up5 ab (by decide)) (up5 hc (by decide)) s
  have m4 := mult_ok (up5 hb (by decide)) (up5 hc (by decide)) s
  have m5 := mult_ok (up5 ha (by decide)) (up5 bc (by decide)) s
  rw [← PO.cm_assoc] at m5
  have g1 : (gcT (aOr (aTest (aOp gNe (aCall 2 F_multiplied [] (aCons (aVar 0) (aCons (aVar 1) aNil))) (aCall 2 F_multiplied [] (aCons (aVar 1) (aCons (aVar 0) aNil))))) (aTest (aOp gNe (aCall 2 F_multiplied [] (aCons (aCall 2 F_multiplied [] (aCons (aVar 0) (aCons (aVar 1) aNil))) (aCons (aVar 2) aNil))) (aCall 2 F_multiplied [] (aCons (aVar 0) (aCons (aCall 2 F_multiplied [] (aCons (aVar 1) (aCons (aVar 2) aNil))) aNil))))))) [some (.int (a : Nat)), some (.int (b : Nat)), some (.int (c : Nat))] s = .ok false s := gcT_f (by simp! only [m1, m2, m3, m4, m5, deqI])
  have xbc : b ^^^ c < 2 ^ 40 := Nat.xor_lt_two_pow hb hc
  have xab : a ^^^ b < 2 ^ 40 := Nat.xor_lt_two_pow ha hb
  have a1 := added_ok (up5 hb (by decide)) (up5 hc (by decide)) s
  have m6 := mult_ok (up5 ha (by decide)) (up5 xbc (by decide)) s
  rw [PO.cm_xor_right] at m6
  have m7 := mult_ok (up5 ha (by decide)) (up5 hc (by decide)) s
  have a2 := added_ok (up5 ab (by decide)) (up5 ac (by decide)) s
  have a3 := added_ok (up5 ha (by decide)) (up5 hb (by decide)) s
  have a4 := added_ok (up5 xab (by decide)) (up5 hb (by decide)) s
  rw [PO.xx2] at a4
  have g2 : (gcT (aOr (aTest (aOp gNe (aCall 2 F_multiplied [] (aCons (aVar 0) (aCons (aCall 2 F_added [] (aCons (aVar 1) (aCons (aVar 2) aNil))) aNil))) (aCall 2 F_added [] (aCons (aCall 2 F_multiplied [] (aCons (aVar 0) (aCons (aVar 1) aNil))) (aCons (aCall 2 F_multiplied [] (aCons (aVar 0) (aCons (aVar 2) aNil))) aNil))))) (aTest (aOp gNe (aCall 2 F_added [] (aCons (aCall 2 F_added [] (aCons (aVar 0) (aCons (aVar 1) aNil))) (aCons (aVar 1) aNil))) (aVar 0))))) [some (.int (a : Nat)), some (.int (b : Nat)), some (.int (c : Nat))] s = .ok false s := gcT_f (by simp! only [a1, m6, m1, m7, a2, a3, a4, deqI])
  have m8 := mult_ok (up5 xab (by decide)) (up5 xab (by decide)) s
  have e8 : PO.cm (a ^^^ b) (a ^^^ b) = PO.cm a a ^^^ PO.cm b b := by
    rw [PO.cm_xor_left, PO.cm_xor_right, PO.cm_xor_right, PO.cm_comm b a, Nat.xor_assoc, PO.xx]
  rw [e8] at m8
  have m9 := mult_ok (up5 ha (by decide)) (up5 ha (by decide)) s
  have mA := mult_ok (up5 hb (by decide)) (up5 hb (by decide)) s
  have a5 := added_ok (up5 aa (by decide)) (up5 bb (by decide)) s
  have g3 : (gcT (aTest (aOp gNe (aCall 2 F_multiplied [] (aCons (aCall 2 F_added [] (aCons (aVar 0) (aCons (aVar 1) aNil))) (aCons (aCall 2 F_added [] (aCons (aVar 0) (aCons (aVar 1) aNil))) aNil))) (aCall 2 F_added [] (aCons (aCall 2 F_multiplied [] (aCons (aVar 0) (aCons (aVar 0) aNil))) (aCons (aCall 2 F_multiplied [] (aCons (aVar 1) (aCons (aVar 1) aNil))) aNil)))))) [some (.int (a : Nat)), some (.int (b : Nat)), some (.int (c : Nat))] s = .ok false s := gcT_f (by simp! only [a3, m8, m9, mA, a5, deqI])
  have g4 : (gcT (aAnd (aTest (aOp gGt (aVar 0) (aC (.int 0)))) (aAnd (aTest (aOp gGt (aVar 1) (aC (.int 0)))) (aTest (aOp gNe (aCall 1 F_degree [] (aCons (aCall 2 F_multiplied [] (aCons (aVar 0) (aCons (aVar 1) aNil))) aNil)) (aOp gAdd (aCall 1 F_degree [] (aCons (aVar 0) aNil)) (aCall 1 F_degree [] (aCons (aVar 1) aNil)))))))) [some (.int (a : Nat)), some (.int (b : Nat)), some (.int (c : Nat))] s = .ok false s := by
    refine gcT_f ?_
    by_cases a0 : a = 0
    · have d : decide ((0 : Int) < ((a : Nat) : Int)) = false := decide_eq_false (by omega)
      simp! only [gGt_int, d]
    have d : decide ((0 : Int) < ((a : Nat) : Int)) = true := decide_eq_true (by omega)
    by_cases b0 : b = 0
    · have d2 : decide ((0 : Int) < ((b : Nat) : Int)) = false := decide_eq_false (by omega)
      simp! only [gGt_int, d, d2]
    have d2 : decide ((0 : Int) < ((b : Nat) : Int)) = true := decide_eq_true (by omega)
    have e1 := degree_ok (up5 ab (by decide)) s
    have e2 := degree_ok (up5 ha (by decide)) s
    have e3 := degree_ok (up5 hb (by decide)) s
    have l := PO.cm_len a0 b0
    have la := (PO.len_rng a0).2.2
    have dd : decide (((TW.len (PO.cm a b) : Nat) - 1 : Int) = ((TW.len a : Nat) - 1 : Int) + ((TW.len b : Nat) - 1 : Int)) = true := decide_eq_true (by omega)
    simp! only [gGt_int, d, d2, m1, e1, e2, e3, dd]
  have n0 := mult_ok (up5 ha (by decide)) (b := 0) (Nat.pow_pos (by decide)) s
  rw [PO.cm_zero_right] at n0
  have n1 := mult_ok (a := 1) (up5 (show 1 < 2 ^ 1 by decide) (by decide)) (up5 ha (by decide)) s
  rw [PO.cm_one_left] at n1
  have n2 := added_ok (up5 ha (by decide)) (up5 ha (by decide)) s
  rw [Nat.xor_self] at n2
  have n0 : F_multiplied [.int (a : Nat), .int 0] s = .ok (.int 0) s := n0
  have n1 : F_multiplied [.int 1, .int (a : Nat)] s = .ok (.int (a : Nat)) s := n1
  have n2 : F_added [.int (a : Nat), .int (a : Nat)] s = .ok (.int 0) s := n2
  refine gc0' ?_
  simp! [B__law_ring_right, g1, g2, g3, g4, n0, n1, n2, z3]
  refine post_eqL (xs := [.int 0, .int (a : Nat), .int 0]) (at_old (Nat.lt_succ_self _) Sto.new_at) Sto.new_at (fun x hx => ?_) ?_
  · simp only [List.mem_cons, List.not_mem_nil, or_false] at hx
    rcases hx with rfl | rfl | rfl
    · exact flat_d (.inl ⟨_, rfl⟩)
    · exact flat_d (.inl ⟨_, rfl⟩)
    · exact flat_d (.inl ⟨_, rfl⟩)
  · simp! [eq_self]
    exact (Gb.refl s).new.new
end
theorem inv_iff {a m g : Nat} (hm : m ≠ 0) (hg : PO.IsG g a m) : (∃ b, IsInv a m b) ↔ g = 1 := by
  constructor
  · rintro ⟨b, hb⟩
    exact PO.inv_dv hm hb.2 hg.1 hg.2.1
  · rintro rfl
    obtain ⟨g, u, v, h1, e⟩ := PO.bez a m
    have g1 := h1.uniq hg
    subst g1
    refine ⟨PO.md u m, (PO.md_spec u hm).2, ?_⟩
    rw [PO.md_right _ _ hm]
    refine (PO.md_iff hm).mpr ⟨v, ?_⟩
    rw [e, PO.cm_comm u a, PO.xx]
theorem lt_of_len2 {b m : Nat} (h : TW.len b < TW.len m) : b < m := PO.lt_of_len h
section
variable {a b m : Nat}
theorem diva_ok (ha : a < 2 ^ 60) (hb : b < 2 ^ 60) (hm : m < 2 ^ 60) (m0 : m ≠ 0) (s : Sto) : F__law_divisors_right [.int (a : Nat), .int (b : Nat), .int (m : Nat)] s = .ok (.bl true) s := by
  obtain ⟨g, hg⟩ := PO.gd_exists a m
  have g0 := PO.dv_ne m0 hg.2.1
  have gl := PO.dv_len m0 hg.2.1
  have g60 : g < 2 ^ 60 := Nat.lt_of_lt_of_le (TW.lt_len g) (Nat.pow_le_pow_right (by decide) (Nat.le_trans gl (TW.len_le hm)))
  have am := cm_lt ha hm
  obtain ⟨⟨q, hq⟩, rl⟩ := PO.md_spec b m0
  have bm : PO.cm a m ^^^ b < 2 ^ 120 := Nat.xor_lt_two_pow am (Nat.lt_of_lt_of_le hb (Nat.pow_le_pow_right (by decide) (by decide)))
  have q60 : q < 2 ^ 60 := by
    by_cases q0 : q = 0
    · subst q0; decide
    have e : PO.cm q m = b ^^^ PO.md b m := by
      conv => rhs; lhs; rw [hq]
      rw [Nat.xor_assoc, Nat.xor_self, Nat.xor_zero]
    have h1 := PO.cm_len q0 m0
    have h2 := (PO.len_rng m0).2.2
    have h3 : PO.cm q m < 2 ^ 60 := by
      rw [e]
      exact Nat.xor_lt_two_pow hb (md_lt' m0 hm)
    have := TW.len_le h3
    exact Nat.lt_of_lt_of_le (TW.lt_len q) (Nat.pow_le_pow_right (by decide) (by omega))
  have mb : PO.md (PO.cm a m ^^^ b) m = PO.md b m := by
    rw [PO.md_xor _ _ m0, (PO.md_dv m0).mpr (PO.dv_mul a (PO.dv_self m)), Nat.zero_xor]
  have hq2 : PO.cm a m ^^^ b = PO.cm (a ^^^ q) m ^^^ PO.md (PO.cm a m ^^^ b) m := by
    rw [mb, PO.cm_xor_left, Nat.xor_assoc, ← hq]
  have t1 := mult_ok (up5 ha (by decide)) (up5 hm (by decide)) s
  have t2 := added_ok (up5 am (by decide)) (up5 hb (by decide)) s
  have t3 := fun s => div_ok s m0 (up5 bm (by decide)) (up5 hm (by decide)) hq2
  rw [mb] at t3
  have t4 := fun s => div_ok s m0 (up5 hb (by decide)) (up5 hm (by decide)) hq
  have t5 := fun s => added_ok (up5 ha (by decide)) (up5 q60 (by decide)) s
  have rm := md_lt' (x := b) m0 hm
  have c1 := com_ok s hg (up5 ha (by decide)) (up5 hm (by decide))
  obtain ⟨q1, hq1⟩ := hg.1
  obtain ⟨q3, hq3⟩ := hg.2.1
  have md1 := (PO.md_dv g0).mpr hg.1
  have md2 := (PO.md_dv g0).mpr hg.2.1
  have t6 := div_ok (a := a) (m := g) (q := q1) s g0 (up5 ha (by decide)) (up5 g60 (by decide)) (by rw [md1, Nat.xor_zero]; exact hq1)
  have t7 := div_ok (a := m) (m := g) (q := q3) s g0 (up5 hm (by decide)) (up5 g60 (by decide)) (by rw [md2, Nat.xor_zero]; exact hq3)
  rw [md1] at t6
  rw [md2] at t7
  obtain ⟨k, hk⟩ := PO.gd_exists b m
  have c2 := com_ok s hk (up5 hb (by decide)) (up5 hm (by decide))
  have c3 := com_ok s ((PO.isG_step m0).mp hk).symm (up5 rm (by decide)) (up5 hm (by decide))
  have iv1 := inverse_ok (a := a) (m := m) s m0 (Nat.lt_of_lt_of_le hm (Nat.pow_le_pow_right (by decide) (by decide))) (Nat.lt_of_lt_of_le ha (Nat.pow_le_pow_right (by decide) (by decide)))
  have t0 := t4 s
  have d0 : decide (((0 : Nat) : Int) = 0) = true := rfl
  have g2 : (gcT (aOr (aTest (aOp gNe (aOp gIx (aCall 2 F_divided [] (aCons (aVar 0) (aCons (aVar 5) aNil))) (aC (.int 1))) (aC (.int 0)))) (aOr (aTest (aOp gNe (aOp gIx (aCall 2 F_divided [] (aCons (aVar 2) (aCons (aVar 5) aNil))) (aC (.int 1))) (aC (.int 0)))) (aTest (aOp gNe (aCall 2 F_common [] (aCons (aOp gIx (aCall 2 F_divided [] (aCons (aVar 1) (aCons (aVar 2) aNil))) (aC (.int 1))) (aCons (aVar 2) aNil))) (aCall 2 F_common [] (aCons (aVar 1) (aCons (aVar 2) aNil)))))))) [some (.int (a : Nat)), some (.int (b : Nat)), some (.int (m : Nat)), some (.int ((a ^^^ q : Nat) : Int)), some (.int ((PO.md b m : Nat) : Int)), some (.int (g : Nat)), none] s = .ok false s := gcT_f (by simp! only [t6, t7, ix1, d0, t0, c2, c3, deqI])
  have ii := inv_iff m0 hg
  refine gc0' ?_
  simp! [B__law_divisors_right, t1, t2, t3]
  refine gcT_g ?_
  simp! [t4, t5, ix0, ix1, z2]
  refine post_neL (xs := [.int ((a ^^^ q : Nat) : Int), .int ((PO.md b m : Nat) : Int)]) (at_old (Nat.lt_succ_self _) Sto.new_at) Sto.new_at (fun x hx => ?_) ?_
  · simp only [List.mem_cons, List.not_mem_nil, or_false] at hx
    rcases hx with rfl | rfl
    · exact flat_d (.inl ⟨_, rfl⟩)
    · exact flat_d (.inl ⟨_, rfl⟩)
  simp! [eq_self]
  refine ⟨(Gb.refl s).new.new, ?_⟩
  by_cases e : g = 1
  · obtain ⟨b', hb'⟩ := ii.mpr e
    rw [iv_yes m0 hb'] at iv1
    have dg : decide (((g : Nat) : Int) = 1) = true := decide_eq_true (by omega)
    have lb := lt_of_len2 hb'.1
    have b60 : b' < 2 ^ 60 := Nat.lt_trans lb hm
    have u1 := mult_ok (up5 ha (by decide)) (up5 b60 (by decide)) s
    obtain ⟨⟨q5, hq5⟩, _⟩ := PO.md_spec (PO.cm a b') m0
    have u2 := div_ok s m0 (up5 (cm_lt ha b60) (by decide)) (up5 hm (by decide)) hq5
    obtain ⟨⟨q6, hq6⟩, _⟩ := PO.md_spec 1 m0
    have u3 := div_ok (a := 1) s m0 (up5 (show 1 < 2 ^ 1 by decide) (by decide)) (up5 hm (by decide)) hq6
    rw [hb'.2] at u2
    have u3 : F_divided [.int 1, .int (m : Nat)] s = _ := u3
    have dl : decide (((b' : Nat) : Int) < ((m : Nat) : Int)) = true := decide_eq_true (by omega)
    have i1 : gIsN (.int (b' : Nat)) .non s = .ok (.bl false) s := rfl
    have n1 : gNe (.bl false) (.bl false) s = .ok (.bl false) s := by simp! only []
    simp! [c1, g2, iv1, i1, dg, n1, u1, u2, u3, ix1, deqI, dl]
    exact Gb.refl s
  · rw [iv_no fun b' hb' => e (ii.mp ⟨b', hb'⟩)] at iv1
    have dg : decide (((g : Nat) : Int) = 1) = false := decide_eq_false (by omega)
    have i1 : gIsN .non .non s = .ok (.bl true) s := rfl
    have n1 : gNe (.bl true) (.bl true) s = .ok (.bl false) s := by simp! only []
    simp! [c1, g2, iv1, i1, dg, n1]
    exact Gb.refl s
end
end Pf
set_option Elab.async false
set_option linter.all false
set_option maxRecDepth 100000
set_option maxHeartbeats 1000000
set_option exponentiation.threshold 3000
namespace Pf
open PySem Ab
local macro_rules | `(tactic| simp! [$xs,*]) => `(tactic| try simp (config := {maxSteps := 1000000}) only [k_bind, k_Kb, k_st, k_Kst, k_Rst, k_thn, k_loop, k_fn, k_forget, k_clr, k_noX, k_try, k_stuck, k_Astuck, d_thn_nx, d_thn_bk, d_thn_ct, d_thn_rt, d_thn_er, d_lp_nx, d_lp_bk, d_lp_ct, d_lp_rt, d_lp_er, d_fg_nx, d_fg_bk, d_fg_ct, d_fg_rt, d_fg_er, d_cl_nx, d_cl_bk, d_cl_ct, d_cl_rt, d_cl_er, d_tr_nx, d_tr_bk, d_tr_ct, d_tr_rt, d_tr_er, d_nX_nx, d_nX_bk, d_nX_ct, d_nX_rt, d_nX_er, d_fn_nx, d_fn_bk, d_fn_ct, d_fn_rt, d_fn_er, A_nx, A_bk, A_ct, A_rt, A_err, post_ok, post_err, post_noErr, e_op, e_opK, e_un, e_cb, e_nil, e_c, e_cons, e_consK, e_consK2, e_and, e_or, e_andK, e_orK, e_not, e_notK, e_test, e_testK, e_tand, e_tandK, e_tor, e_torK, e_tnot, e_tnotK, e_yes, e_if, e_ifK, e_ch, e_chK1, e_chK2, e_chK3, e_tup, e_tupK, e_lst, e_lstK, e_newL, e_call, e_callK, e_meth, e_methK, e_methK2, e_prop, e_propK, e_make, e_makeK, e_makeK2, e_makeV, e_sm, e_smK, e_smK2, e_cm, e_cmK, e_cmK2, e_sl, e_slK1, e_slK2, e_slK3, e_part, e_partK, e_nopart, e_rev, e_bm, e_bmK, e_pr, e_pr0, e_prK1, e_prK2, e_prK3, e_disp, e_dnew, e_own, e_ownK, e_lc, e_lcK, e_iter, e_rng1, e_rng1K, e_rng2, e_rng2K, e_enum, s_drop, s_dropK, s_ret, s_retK, s_retN, s_next, s_break, s_cont, s_seq, s_if, s_ifK, s_asg, s_asgK, s_name, s_par, s_parK, s_par3, s_parK3, s_gnil, s_gcons, s_gtup, s_for, s_forK, s_raise, s_raiseK, s_sf, s_sfK1, s_sfK2, s_dp, s_dpK1, s_dpK2, s_dpK3, s_forget, s_def, s_fld, e_enumU, e_enumUT, e_match, e_mcase, e_mcase2, e_many, e_mnil, e_lcX, e_lcXK, e_get2, e_methS, e_methS1, e_methS2, s_augS, s_augS1, gEqS_int, gEqS_str, gEqS_bl, gEqS_tup, e_fmt, e_js, e_jsC, e_jsN, e_join, e_joinK, eq_self, beq_self_eq_true, k_grd, k_grdS, k_ite, k_Aite, true_implies, false_implies, implies_true, List.map_cons, List.map_nil, List.nil_append, List.cons_append, List.append_nil, List.replicate_succ, List.replicate_zero, List.getElem?_cons_zero, List.getElem?_cons_succ, List.length_cons, List.length_nil, List.set_cons_zero, List.set_cons_succ, ↓reduceIte, ↓reduceDIte, Nat.reduceAdd, Nat.reduceLeDiff, Nat.reduceEqDiff, Nat.zero_add, if_true, if_false, aVar, gMinus_int, gLt_int, gLe_int, gGt_int, gGe_int, gEq_int, gNe_int, gEq_str, gNe_str, gEq_bl, gNe_bl, gXor_int, gAnd_int, gOr_int, gAdd_int, gIsN_non, gNotN_non, gIsB_bl, gNotB_bl, gNeg_int, gLen_tup, gLen_scr, gMax2_int, gMin2_int, gBits_int, gSl_tup, gSl_scr, Bool.not_true, Bool.not_false, Bool.true_eq_false, Bool.false_eq_true, Bool.true_and, Bool.false_and, Bool.and_true, Bool.and_false, Bool.true_or, Bool.false_or, decide_true, decide_false, and_self, and_true, true_and, and_false, false_and, not_true_eq_false, not_false_eq_true, reduceCtorEq, kz, z1, z2, z3, z4, z5, z6, z7, z8, z9, z10, z11, z12, z13, z14, z15, z16, isCls, isNon, aForget, aHand, toKey, keysA, iterOf_tup, iterOf_scr, oNx_some, noErr_ok, decide_eq_true_eq, decide_eq_false_iff_not, Sto.new_n, Sto.set_n, Sto.set_at, Sto.new_at, Nat.zero_le, aMakeV, Cl_non, Cl_bl, Cl_int, Cl_str, Cl_cls, Cl_obj, Cl_tup, ClL_nil, ClL_cons, $xs,*])
local macro_rules | `(tactic| simp! only [$xs,*]) => `(tactic| simp only [e_op, e_opK, e_un, e_cb, e_nil, e_c, e_cons, e_consK, e_consK2, e_and, e_or, e_andK, e_orK, e_not, e_notK, e_test, e_testK, e_tand, e_tandK, e_tor, e_torK, e_tnot, e_tnotK, e_yes, e_if, e_ifK, e_ch, e_chK1, e_chK2, e_chK3, e_tup, e_tupK, e_lst, e_lstK, e_newL, e_call, e_callK, e_meth, e_methK, e_methK2, e_prop, e_propK, e_make, e_makeK, e_makeK2, e_makeV, e_sm, e_smK, e_smK2, e_cm, e_cmK, e_cmK2, e_sl, e_slK1, e_slK2, e_slK3, e_part, e_partK, e_nopart, e_rev, e_bm, e_bmK, e_pr, e_pr0, e_prK1, e_prK2, e_prK3, e_disp, e_dnew, e_own, e_ownK, e_lc, e_lcK, e_iter, e_rng1, e_rng1K, e_rng2, e_rng2K, e_enum, s_drop, s_dropK, s_ret, s_retK, s_retN, s_next, s_break, s_cont, s_seq, s_if, s_ifK, s_asg, s_asgK, s_name, s_par, s_parK, s_par3, s_parK3, s_gnil, s_gcons, s_gtup, s_for, s_forK, s_raise, s_raiseK, s_sf, s_sfK1, s_sfK2, s_dp, s_dpK1, s_dpK2, s_dpK3, s_forget, s_def, s_fld, e_enumU, e_enumUT, e_match, e_mcase, e_mcase2, e_many, e_mnil, e_lcX, e_lcXK, e_get2, e_methS, e_methS1, e_methS2, s_augS, s_augS1, gEqS_int, gEqS_str, gEqS_bl, gEqS_tup, e_fmt, e_js, e_jsC, e_jsN, e_join, e_joinK, eq_self, beq_self_eq_true, true_implies, false_implies, implies_true, List.map_cons, List.map_nil, List.nil_append, List.cons_append, List.append_nil, List.replicate_succ, List.replicate_zero, List.getElem?_cons_zero, List.getElem?_cons_succ, List.length_cons, List.length_nil, List.set_cons_zero, List.set_cons_succ, ↓reduceIte, ↓reduceDIte, Nat.reduceAdd, Nat.reduceLeDiff, Nat.reduceEqDiff, Nat.zero_add, if_true, if_false, aVar, gMinus_int, gLt_int, gLe_int, gGt_int, gGe_int, gEq_int, gNe_int, gEq_str, gNe_str, gEq_bl, gNe_bl, gXor_int, gAnd_int, gOr_int, gAdd_int, gIsN_non, gNotN_non, gIsB_bl, gNotB_bl, gNeg_int, gLen_tup, gLen_scr, gMax2_int, gMin2_int, gBits_int, gSl_tup, gSl_scr, Bool.not_true, Bool.not_false, Bool.true_eq_false, Bool.false_eq_true, Bool.true_and, Bool.false_and, Bool.and_true, Bool.and_false, Bool.true_or, Bool.false_or, decide_true, decide_false, and_self, and_true, true_and, and_false, false_and, not_true_eq_false, not_false_eq_true, reduceCtorEq, kz, z1, z2, z3, z4, z5, z6, z7, z8, z9, z10, z11, z12, z13, z14, z15, z16, isCls, isNon, aForget, aHand, toKey, keysA, iterOf_tup, iterOf_scr, oNx_some, noErr_ok, decide_eq_true_eq, decide_eq_false_iff_not, Sto.new_n, Sto.set_n, Sto.set_at, Sto.new_at, Nat.zero_le, aMakeV, Cl_non, Cl_bl, Cl_int, Cl_str, Cl_cls, Cl_obj, Cl_tup, ClL_nil, ClL_cons, grd_pos, grdS_pos, Res.bind_ok, Res.bind_err, Res.st_ok, Res.st_err, SRes.thn_nx, SRes.thn_rt, SRes.thn_err, SRes.fn_rt, SRes.fn_nx, SRes.fn_err, SRes.loop_nx, SRes.loop_rt, SRes.loop_err, SRes.loop_ct, SRes.loop_bk, SRes.forget_nx, SRes.forget_rt, SRes.forget_err, SRes.clr_nx, SRes.clr_rt, SRes.noX_nx, SRes.noX_rt, aTry, sizeLine_ge, $xs,*])
section
variable {a m : Nat}
theorem ord_dvd {f k : Nat} (hm : m ≠ 0) (h1 : PO.md 1 m = 1) (h : PO.Ord a m f) (hk : PO.pw a k m = 1) (k0 : k ≠ 0) : f ∣ k := by
  have q := BM.per_gcd (a := fun i => PO.pw a i m) f k (PO.pw_per hm h1 h.one) (PO.pw_per hm h1 hk) 0
  rw [Nat.zero_add] at q
  have q : PO.pw a (Nat.gcd f k) m = 1 := q.trans h1
  have g0 : 1 ≤ Nat.gcd f k := Nat.gcd_pos_of_pos_right f (Nat.pos_of_ne_zero k0)
  have l := h.least _ g0 q
  have l2 := Nat.le_of_dvd h.pos (Nat.gcd_dvd_left f k)
  have e : Nat.gcd f k = f := Nat.le_antisymm l2 l
  exact e ▸ Nat.gcd_dvd_right f k
/-- squares have the same order, where it is odd -/
theorem ord_sq {f f2 : Nat} (hm : m ≠ 0) (h1 : PO.md 1 m = 1) (h : PO.Ord a m f) (h2 : PO.Ord (PO.cm a a) m f2) (odd : f % 2 = 1) : f2 = f := by
  have sq : ∀ k, PO.pw (PO.cm a a) k m = PO.pw a (2 * k) m := fun k => by rw [PO.pw_sq hm, PO.pw_base hm]
  have l1 : f2 ≤ f := h2.least f h.pos (by
    rw [sq, Nat.mul_comm]
    exact PO.pw_mul hm h1 h.one 2)
  have d : f ∣ 2 * f2 := ord_dvd hm h1 h (by rw [← sq]; exact h2.one) (by have := h2.pos; omega)
  have d2 : f ∣ f2 := (Nat.Coprime.dvd_of_dvd_mul_left (by
    rw [Nat.coprime_comm]
    show Nat.gcd 2 f = 1
    rw [Nat.gcd_rec, odd]
    rfl) d)
  exact Nat.le_antisymm l1 (Nat.le_of_dvd h2.pos d2)
theorem pw_zero (hm : m ≠ 0) (h : PO.md a m = 0) (n : Nat) : PO.pw a (n + 1) m = 0 := by
  show PO.md (PO.cm (PO.pw a n m) a) m = 0
  rw [← PO.md_right _ _ hm, h, PO.cm_zero_right, PO.md_zero hm]
theorem field_ok (M : Mo m) (d2 : 2 ≤ TW.len m - 1) (ha : a < 2 ^ 40) (s : Sto) : F__law_field_right [.int (a : Nat), .int (m : Nat)] s = .ok (.bl true) s := by
  have m0 := M.n0
  obtain ⟨z, hz⟩ : ∃ z, z = TW.len m - 1 := ⟨_, rfl⟩
  have ml := M.len
  have zc : ((TW.len m : Nat) : Int) - 1 = ((z : Nat) : Int) := by omega
  have m12 := M.lt
  have m5 := up5 m12 (by decide)
  have a5 := up5 ha (by decide)
  have dg := degree_ok m5 s
  rw [zc] at dg
  obtain ⟨⟨q, hq⟩, rl⟩ := PO.md_spec a m0
  have t1 := div_ok s m0 a5 m5 hq
  have p4 : 4 ≤ 2 ^ z := Nat.le_trans (by decide : 4 ≤ 2 ^ 2) (Nat.pow_le_pow_right (by decide) (by omega))
  have p7 : 2 ^ z ≤ 2 ^ 7 := Nat.pow_le_pow_right (by decide) (by omega)
  obtain ⟨N, hN⟩ : ∃ N, N = 2 ^ z := ⟨_, rfl⟩
  have sl : gShl (.int 1) (.int (z : Nat)) s = .ok (.int (N : Nat)) s := by
    rw [hN]
    exact shl_one (k := z) s (by omega)
  have pN : PO.pw a N m = PO.md a m := by
    rw [show N = N - 1 + 1 by omega]
    by_cases c : PO.md a m = 0
    · rw [pw_zero m0 c, c]
    · show PO.md (PO.cm (PO.pw a (N - 1) m) a) m = _
      have := M.fer a c
      rw [← hz, ← hN] at this
      rw [this, PO.cm_one_left]
  have e1 := powof_ok (a := a) (n := N) (m := m) s m0 m5 a5 (by omega)
  rw [pN] at e1
  have g1 : (gcT (aTest (aOp gNe (aCall 3 F_power_of [] (aCons (aVar 0) (aCons (aOp gShl (aC (.int 1)) (aVar 2)) (aCons (aVar 1) aNil)))) (aVar 3)))) [some (.int (a : Nat)), some (.int (m : Nat)), some (.int (z : Nat)), some (.int ((PO.md a m : Nat) : Int)), none] s = .ok false s := gcT_f (by simp! only [sl, e1, deqI])
  have iv1 := inverse_ok (a := a) (m := m) s m0 (Nat.lt_of_lt_of_le m12 (Nat.pow_le_pow_right (by decide) (by decide))) (Nat.lt_of_lt_of_le ha (Nat.pow_le_pow_right (by decide) (by decide)))
  by_cases c : PO.md a m = 0
  · have dz : decide (((PO.md a m : Nat) : Int) = 0) = true := decide_eq_true (by omega)
    rw [iv_no fun b hb => by
      have := hb.2
      rw [← PO.md_left _ _ m0, c, PO.cm_zero_left, PO.md_zero m0, M.one] at this
      cases this] at iv1
    have i1 : gIsN .non .non s = .ok (.bl true) s := rfl
    refine gc0' ?_
    simp! [B__law_field_right, dg, t1, ix1, g1, dz, iv1, i1]
    exact Gb.refl s
  · have dz : decide (((PO.md a m : Nat) : Int) = 0) = false := decide_eq_false (by omega)
    obtain ⟨f, ho, hd, hf, he⟩ := M.ord a (Nat.lt_of_lt_of_le ha (Nat.pow_le_pow_right (by decide) (by decide))) c
    rw [← hz, ← hN] at hd
    have fer := M.fer a c
    rw [← hz, ← hN] at fer
    have he := he s
    have e2 := powof_ok (a := a) (n := N - 2) (m := m) s m0 m5 a5 (by omega)
    have ii : IsInv a m (PO.pw a (N - 2) m) := by
      refine ⟨?_, ?_⟩
      · rw [← PO.pw_md m0]
        exact (PO.md_spec _ m0).2
      · rw [PO.cm_comm]
        show PO.pw a (N - 2 + 1) m = _
        rw [show N - 2 + 1 = N - 1 by omega, fer, M.one]
    rw [iv_yes m0 ii] at iv1
    have n2 : ((N : Nat) : Int) - 2 = ((N - 2 : Nat) : Int) := by omega
    have n1 : ((N : Nat) : Int) - 1 = ((N - 1 : Nat) : Int) := by omega
    have md := modN2 (a := N - 1) (b := f) ho.pos s
    rw [Nat.mod_eq_zero_of_dvd hd] at md
    have d0 : decide (((0 : Nat) : Int) = 0) = true := rfl
    have g2 : (gcT (aOr (aTest (aOp gNe (aCall 2 F_inverse_of [] (aCons (aVar 0) (aCons (aVar 1) aNil))) (aCall 3 F_power_of [] (aCons (aVar 0) (aCons (aOp gMinus (aOp gShl (aC (.int 1)) (aVar 2)) (aC (.int 2))) (aCons (aVar 1) aNil)))))) (aTest (aOp gNe (aOp gMod (aOp gMinus (aOp gShl (aC (.int 1)) (aVar 2)) (aC (.int 1))) (aVar 4)) (aC (.int 0)))))) [some (.int (a : Nat)), some (.int (m : Nat)), some (.int (z : Nat)), some (.int ((PO.md a m : Nat) : Int)), some (.int (f : Nat))] s = .ok false s := gcT_f (by simp! only [sl, n2, e2, iv1, deqI, n1, md, d0])
    have e3 := powof_ok (a := a) (n := f) (m := m) s m0 m5 a5 (by omega)
    rw [ho.one] at e3
    obtain ⟨⟨q6, hq6⟩, _⟩ := PO.md_spec 1 m0
    have u3 := div_ok (a := 1) s m0 (up5 (show 1 < 2 ^ 1 by decide) (by decide)) m5 hq6
    rw [M.one] at u3
    have u3 : F_divided [.int 1, .int (m : Nat)] s = .ok (.tup [.int (q6 : Nat), .int ((1 : Nat) : Int)]) s := u3
    have u4 := mult_ok a5 a5 s
    have aa := cm_lt ha ha
    have c2 : PO.md (PO.cm a a) m ≠ 0 := fun e => by
      have k : PO.pw a 2 m = 0 := by
        have := PO.pw_sq (m := m) m0 a 1
        rw [PO.pw_base m0, PO.pw_one m0, e] at this
        exact this
      have k2 := PO.pw_add (m := m) m0 a 2 (N - 1 - 2)
      rw [show 2 + (N - 1 - 2) = N - 1 by omega, fer, k, PO.cm_zero_left, PO.md_zero m0] at k2
      cases k2
    obtain ⟨f2, ho2, _, _, he2⟩ := M.ord (PO.cm a a) (Nat.lt_of_lt_of_le aa (Nat.pow_le_pow_right (by decide) (by decide))) c2
    have odd : f % 2 = 1 := by
      obtain ⟨r, hr⟩ := hd
      have h2 : N % 2 = 0 := by
        rw [hN, show z = z - 1 + 1 by omega, Nat.pow_succ]
        exact Nat.mul_mod_left _ _
      rcases Nat.mod_two_eq_zero_or_one f with h | h
      · have e : f = 2 * (f / 2) := by omega
        rw [e, Nat.mul_assoc] at hr
        omega
      · exact h
    have ff := ord_sq m0 M.one ho ho2 odd
    subst ff
    have he2 := he2 s
    refine gc0' ?_
    simp! [B__law_field_right, dg, t1, ix1, g1, dz, he, g2, e3, u3, deqI, u4, he2]
    exact Gb.refl s
end
end Pf
set_option Elab.async false
set_option linter.all false
set_option maxRecDepth 100000
set_option maxHeartbeats 1000000
set_option exponentiation.threshold 3000
namespace Pf
open PySem Ab
local macro_rules | `(tactic| simp! [$xs,*]) => `(tactic| try simp (config := {maxSteps := 1000000}) only [k_bind, k_Kb, k_st, k_Kst, k_Rst, k_thn, k_loop, k_fn, k_forget, k_clr, k_noX, k_try, k_stuck, k_Astuck, d_thn_nx, d_thn_bk, d_thn_ct, d_thn_rt, d_thn_er, d_lp_nx, d_lp_bk, d_lp_ct, d_lp_rt, d_lp_er, d_fg_nx, d_fg_bk, d_fg_ct, d_fg_rt, d_fg_er, d_cl_nx, d_cl_bk, d_cl_ct, d_cl_rt, d_cl_er, d_tr_nx, d_tr_bk, d_tr_ct, d_tr_rt, d_tr_er, d_nX_nx, d_nX_bk, d_nX_ct, d_nX_rt, d_nX_er, d_fn_nx, d_fn_bk, d_fn_ct, d_fn_rt, d_fn_er, A_nx, A_bk, A_ct, A_rt, A_err, post_ok, post_err, post_noErr, e_op, e_opK, e_un, e_cb, e_nil, e_c, e_cons, e_consK, e_consK2, e_and, e_or, e_andK, e_orK, e_not, e_notK, e_test, e_testK, e_tand, e_tandK, e_tor, e_torK, e_tnot, e_tnotK, e_yes, e_if, e_ifK, e_ch, e_chK1, e_chK2, e_chK3, e_tup, e_tupK, e_lst, e_lstK, e_newL, e_call, e_callK, e_meth, e_methK, e_methK2, e_prop, e_propK, e_make, e_makeK, e_makeK2, e_makeV, e_sm, e_smK, e_smK2, e_cm, e_cmK, e_cmK2, e_sl, e_slK1, e_slK2, e_slK3, e_part, e_partK, e_nopart, e_rev, e_bm, e_bmK, e_pr, e_pr0, e_prK1, e_prK2, e_prK3, e_disp, e_dnew, e_own, e_ownK, e_lc, e_lcK, e_iter, e_rng1, e_rng1K, e_rng2, e_rng2K, e_enum, s_drop, s_dropK, s_ret, s_retK, s_retN, s_next, s_break, s_cont, s_seq, s_if, s_ifK, s_asg, s_asgK, s_name, s_par, s_parK, s_par3, s_parK3, s_gnil, s_gcons, s_gtup, s_for, s_forK, s_raise, s_raiseK, s_sf, s_sfK1, s_sfK2, s_dp, s_dpK1, s_dpK2, s_dpK3, s_forget, s_def, s_fld, e_enumU, e_enumUT, e_match, e_mcase, e_mcase2, e_many, e_mnil, e_lcX, e_lcXK, e_get2, e_methS, e_methS1, e_methS2, s_augS, s_augS1, gEqS_int, gEqS_str, gEqS_bl, gEqS_tup, e_fmt, e_js, e_jsC, e_jsN, e_join, e_joinK, eq_self, beq_self_eq_true, k_grd, k_grdS, k_ite, k_Aite, true_implies, false_implies, implies_true, List.map_cons, List.map_nil, List.nil_append, List.cons_append, List.append_nil, List.replicate_succ, List.replicate_zero, List.getElem?_cons_zero, List.getElem?_cons_succ, List.length_cons, List.length_nil, List.set_cons_zero, List.set_cons_succ, ↓reduceIte, ↓reduceDIte, Nat.reduceAdd, Nat.reduceLeDiff, Nat.reduceEqDiff, Nat.zero_add, if_true, if_false, aVar, gMinus_int, gLt_int, gLe_int, gGt_int, gGe_int, gEq_int, gNe_int, gEq_str, gNe_str, gEq_bl, gNe_bl, gXor_int, gAnd_int, gOr_int, gAdd_int, gIsN_non, gNotN_non, gIsB_bl, gNotB_bl, gNeg_int, gLen_tup, gLen_scr, gMax2_int, gMin2_int, gBits_int, gSl_tup, gSl_scr, Bool.not_true, Bool.not_false, Bool.true_eq_false, Bool.false_eq_true, Bool.true_and, Bool.false_and, Bool.and_true, Bool.and_false, Bool.true_or, Bool.false_or, decide_true, decide_false, and_self, and_true, true_and, and_false, false_and, not_true_eq_false, not_false_eq_true, reduceCtorEq, kz, z1, z2, z3, z4, z5, z6, z7, z8, z9, z10, z11, z12, z13, z14, z15, z16, isCls, isNon, aForget, aHand, toKey, keysA, iterOf_tup, iterOf_scr, oNx_some, noErr_ok, decide_eq_true_eq, decide_eq_false_iff_not, Sto.new_n, Sto.set_n, Sto.set_at, Sto.new_at, Nat.zero_le, aMakeV, Cl_non, Cl_bl, Cl_int, Cl_str, Cl_cls, Cl_obj, Cl_tup, ClL_nil, ClL_cons, $xs,*])
local macro_rules | `(tactic| simp! only [$xs,*]) => `(tactic| simp only [e_op, e_opK, e_un, e_cb, e_nil, e_c, e_cons, e_consK, e_consK2, e_and, e_or, e_andK, e_orK, e_not, e_notK, e_test, e_testK, e_tand, e_tandK, e_tor, e_torK, e_tnot, e_tnotK, e_yes, e_if, e_ifK, e_ch, e_chK1, e_chK2, e_chK3, e_tup, e_tupK, e_lst, e_lstK, e_newL, e_call, e_callK, e_meth, e_methK, e_methK2, e_prop, e_propK, e_make, e_makeK, e_makeK2, e_makeV, e_sm, e_smK, e_smK2, e_cm, e_cmK, e_cmK2, e_sl, e_slK1, e_slK2, e_slK3, e_part, e_partK, e_nopart, e_rev, e_bm, e_bmK, e_pr, e_pr0, e_prK1, e_prK2, e_prK3, e_disp, e_dnew, e_own, e_ownK, e_lc, e_lcK, e_iter, e_rng1, e_rng1K, e_rng2, e_rng2K, e_enum, s_drop, s_dropK, s_ret, s_retK, s_retN, s_next, s_break, s_cont, s_seq, s_if, s_ifK, s_asg, s_asgK, s_name, s_par, s_parK, s_par3, s_parK3, s_gnil, s_gcons, s_gtup, s_for, s_forK, s_raise, s_raiseK, s_sf, s_sfK1, s_sfK2, s_dp, s_dpK1, s_dpK2, s_dpK3, s_forget, s_def, s_fld, e_enumU, e_enumUT, e_match, e_mcase, e_mcase2, e_many, e_mnil, e_lcX, e_lcXK, e_get2, e_methS, e_methS1, e_methS2, s_augS, s_augS1, gEqS_int, gEqS_str, gEqS_bl, gEqS_tup, e_fmt, e_js, e_jsC, e_jsN, e_join, e_joinK, eq_self, beq_self_eq_true, true_implies, false_implies, implies_true, List.map_cons, List.map_nil, List.nil_append, List.cons_append, List.append_nil, List.replicate_succ, List.replicate_zero, List.getElem?_cons_zero, List.getElem?_cons_succ, List.length_cons, List.length_nil, List.set_cons_zero, List.set_cons_succ, ↓reduceIte, ↓reduceDIte, Nat.reduceAdd, Nat.reduceLeDiff, Nat.reduceEqDiff, Nat.zero_add, if_true, if_false, aVar, gMinus_int, gLt_int, gLe_int, gGt_int, gGe_int, gEq_int, gNe_int, gEq_str, gNe_str, gEq_bl, gNe_bl, gXor_int, gAnd_int, gOr_int, gAdd_int, gIsN_non, gNotN_non, gIsB_bl, gNotB_bl, gNeg_int, gLen_tup, gLen_scr, gMax2_int, gMin2_int, gBits_int, gSl_tup, gSl_scr, Bool.not_true, Bool.not_false, Bool.true_eq_false, Bool.false_eq_true, Bool.true_and, Bool.false_and, Bool.and_true, Bool.and_false, Bool.true_or, Bool.false_or, decide_true, decide_false, and_self, and_true, true_and, and_false, false_and, not_true_eq_false, not_false_eq_true, reduceCtorEq, kz, z1, z2, z3, z4, z5, z6, z7, z8, z9, z10, z11, z12, z13, z14, z15, z16, isCls, isNon, aForget, aHand, toKey, keysA, iterOf_tup, iterOf_scr, oNx_some, noErr_ok, decide_eq_true_eq, decide_eq_false_iff_not, Sto.new_n, Sto.set_n, Sto.set_at, Sto.new_at, Nat.zero_le, aMakeV, Cl_non, Cl_bl, Cl_int, Cl_str, Cl_cls, Cl_obj, Cl_tup, ClL_nil, ClL_cons, grd_pos, grdS_pos, Res.bind_ok, Res.bind_err, Res.st_ok, Res.st_err, SRes.thn_nx, SRes.thn_rt, SRes.thn_err, SRes.fn_rt, SRes.fn_nx, SRes.fn_err, SRes.loop_nx, SRes.loop_rt, SRes.loop_err, SRes.loop_ct, SRes.loop_bk, SRes.forget_nx, SRes.forget_rt, SRes.forget_err, SRes.clr_nx, SRes.clr_rt, SRes.noX_nx, SRes.noX_rt, aTry, sizeLine_ge, $xs,*])
section
variable {n : Nat}
theorem fac_run (n0 : n ≠ 0) (h : n < 2 ^ 16) (s : Sto) : ∃ L, PO.Fac n L ∧ F_factors_of [.int (n : Nat)] s = .ok (.tup (iN L)) s := by
  have n5 := up5 h (by decide)
  have mt := mod_t s n5 n0
  have z0 : ((0 : Nat) ≤ sizeLine) = True := eq_true (Nat.zero_le _)
  have big : (200000 : Nat) ≤ sizeLine := by decide
  have ln := TW.len_le h
  have ln1 := (PO.len_rng n0).2.2
  have d0 : decide ((16 : Int) < ((TW.len n : Nat) : Int) - 1) = false := decide_eq_false (by omega)
  have g : (gcT (aTest (aOp gGt (aOp gMinus (aUn gBits (aVar 0)) (aC (.int 1))) (aC (.int 16))))) [some (.int (n : Nat)), none, none, none, none, none] s = .ok false s := gcT_f (by simp! only [bitsN, gGt_int, d0])
  have main := ex_of_post (r := aDef 5 B_factors_of [.int (n : Nat)] s) (P := fun v s' => ∃ L, v = .tup (iN L) ∧ PO.Fac n L ∧ Gb s s') (by
    simp! [B_factors_of, mt, g, z0]
    refine while_A (fun j σ s' => ∃ (f : List Nat) (r o : Nat) (z4 z5 : Option AV), σ = [some (.int (n : Nat)), some (.obj s.n), some (.int (r : Nat)), some (.int (o : Nat)), z4, z5] ∧ s' = s.new (.lst (iN f)) ∧ PO.Part n f r o ∧ TW.len r + (300 - o) ≤ j ∧ f.length + TW.len r ≤ 16 ∧ o ≤ 256) 400
      ⟨[], n, 2, _, _, rfl, rfl, PO.Part.start n0, by omega, by rw [List.length_nil]; omega, by decide⟩ ?_
    rintro j σ s' ⟨f, r, o, z4, z5, rfl, rfl, pt, hj, fl, ob⟩
    have o0 : o ≠ 0 := by have := pt.o2; omega
    have lo := (PO.len_rng o0).2.2
    have lr := (PO.len_rng pt.r0).2.2
    have oc : ((TW.len o : Nat) : Int) - 1 = ((TW.len o - 1 : Nat) : Int) := by omega
    have rc : ((TW.len r : Nat) : Int) - 1 = ((TW.len r - 1 : Nat) : Int) := by omega
    have lo9 : TW.len o ≤ 9 := TW.len_le (Nat.lt_of_le_of_lt ob (by decide))
    have ml : ∀ s, gMul (.int 2) (.int ((TW.len o - 1 : Nat) : Int)) s = .ok (.int (2 * ((TW.len o - 1 : Nat) : Int))) s := fun s => gMul_ok (m := 2) (n := 10) (by decide) (by rw [Int.natAbs_natCast]; omega) (by decide)
    by_cases c : 2 * (TW.len o - 1) ≤ TW.len r - 1
    · have d1 : decide (2 * ((TW.len o - 1 : Nat) : Int) ≤ ((TW.len r - 1 : Nat) : Int)) = true := decide_eq_true (by omega)
      have r16 : r < 2 ^ 16 := Nat.lt_of_lt_of_le (TW.lt_len r) (Nat.pow_le_pow_right (by decide) (by omega))
      have o256 : o < 256 := Nat.lt_of_lt_of_le (TW.lt_len o) (Nat.pow_le_pow_right (n := 2) (by decide) (show TW.len o ≤ 8 by omega))
      obtain ⟨q, p2, hq⟩ := parts2_ok (a := r) (m := o) (k := 16) (s.new (.lst (iN f))) o0 r16 (by decide)
      by_cases c2 : PO.md r o = 0
      · have d2 : decide (((PO.md r o : Nat) : Int) = 0) = true := decide_eq_true (by omega)
        rw [c2, Nat.xor_zero] at hq
        obtain ⟨pn, ql⟩ := pt.yes hq
        have sq := isSeqL_obj (s := s.new (.lst (iN f))) (i := s.n) Sto.new_at
        have ap := gAppend_obj (s := s.new (.lst (iN f))) (i := s.n) (y := .int (o : Nat)) Sto.new_at (by rw [iN_len]; omega)
        rw [new_set] at ap
        have e1 : iN f ++ [AV.int ((o : Nat) : Int)] = iN (f ++ [o]) := by
          unfold iN
          rw [List.map_append]
          rfl
        rw [e1] at ap
        simp! [bitsN, oc, rc, ml, d1, p2, d2, sq, ap]
        exact ⟨j - 1, by omega, f ++ [o], q, o, _, _, rfl, rfl, pn, by omega, by rw [List.length_append, List.length_cons, List.length_nil]; omega, ob⟩
      · have d2 : decide (((PO.md r o : Nat) : Int) = 0) = false := decide_eq_false (by omega)
        have ag2 : ∀ (u : Sto) (a b c : AV), aAug 3 (gI0 fun i j => .int (i + j)) (aC (.int 1)) [some (.int (n : Nat)), some a, some (.int (r : Nat)), some (.int (o : Nat)), some b, some c] u = .nx [some (.int (n : Nat)), some a, some (.int (r : Nat)), some (.int ((o + 1 : Nat) : Int)), some b, some c] u := fun u a b c => (aug_int (i := 3) (v := ((o : Nat) : Int)) (c := 1) (σ := [some (.int (n : Nat)), some a, some (.int (r : Nat)), some (.int (o : Nat)), some b, some c]) rfl :)
        simp! [bitsN, oc, rc, ml, d1, p2, d2, ag2]
        exact ⟨j - 1, by omega, f, r, o + 1, _, _, rfl, rfl, pt.no fun e => c2 ((PO.md_dv o0).mpr e), by omega, fl, by omega⟩
    · have d1 : decide (2 * ((TW.len o - 1 : Nat) : Int) ≤ ((TW.len r - 1 : Nat) : Int)) = false := decide_eq_false (by omega)
      by_cases c2 : 1 < r
      · have d2 : decide ((1 : Int) < ((r : Nat) : Int)) = true := decide_eq_true (by omega)
        simp! [bitsN, oc, rc, ml, d1, gGt_int, d2, z1]
        refine post_addL (at_old (Nat.lt_succ_self _) Sto.new_at) Sto.new_at (by rw [iN_len]; show _ + 1 ≤ 1000; omega) ?_
        have tu := gTuple_seq (seqOf_obj (s := ((s.new (.lst (iN f))).new (.lst [.int (r : Nat)])).new (.lst (iN f ++ [.int (r : Nat)]))) (i := s.n + 1 + 1) Sto.new_at)
        have e1 : iN f ++ [AV.int ((r : Nat) : Int)] = iN (f ++ [r]) := by
          unfold iN
          rw [List.map_append]
          rfl
        simp! [tu]
        rw [e1]
        exact ⟨_, rfl, pt.end2 c2 c, (Gb.refl s).new.new.new⟩
      · have d2 : decide ((1 : Int) < ((r : Nat) : Int)) = false := decide_eq_false (by omega)
        have r1 : r = 1 := by have := pt.r0; omega
        subst r1
        have tu := gTuple_seq (seqOf_obj (s := s.new (.lst (iN f))) (i := s.n) Sto.new_at)
        simp! [bitsN, oc, rc, ml, d1, gGt_int, d2, tu]
        exact ⟨_, rfl, pt.end1, (Gb.refl s).new⟩)
  obtain ⟨v, s', ⟨L, rfl, hF, gb⟩, e⟩ := main
  exact ⟨L, hF, gc1 e (by
    rw [Cl_tup]
    exact ClL_all.mpr fun x hx => by
      obtain ⟨n, _, rfl⟩ := List.mem_map.mp hx
      simp) gb.clean gb.cut⟩
theorem fac_ok (n0 : n ≠ 0) (h : n < 2 ^ 16) : ∃ L, PO.Fac n L ∧ ∀ s, F_factors_of [.int (n : Nat)] s = .ok (.tup (iN L)) s := by
  obtain ⟨L, hL, _⟩ := fac_run n0 h s0
  refine ⟨L, hL, fun s => ?_⟩
  obtain ⟨L2, h2, e⟩ := fac_run n0 h s
  rw [e, h2.uniq hL]
theorem irr_near (n0 : n ≠ 0) (h : n < 256) (s : Sto) : F_is_irreducible [.int (n : Nat)] s = .ok (.bl (PO.irr 12 n)) s := by
  have l1 := TW.len_le (k := 8) h
  have l2 := (PO.len_rng n0).2.2
  have k := List.all_eq_true.mp prI_all (TW.len n - 1) (List.mem_range.mpr (by omega))
  obtain ⟨L, hL⟩ := Option.isSome_iff_exists.mp k
  rw [irr_ok (k := 12) s hL n0 (Nat.lt_trans h (by decide)) (by decide) (by decide)]
  unfold PO.irr
  rw [hL]
theorem fac_len {L : List Nat} (h : n < 256) (hL : PO.Fac n L) : PO.irr 12 n = decide (((L.length : Nat) : Int) = 1) := by
  rw [Bool.eq_iff_iff, decide_eq_true_eq, PO.irr_iff h, ← PO.fac_one hL]
  omega
end
end Pf
set_option Elab.async false
set_option linter.all false
set_option maxRecDepth 100000
set_option maxHeartbeats 1000000
set_option exponentiation.threshold 3000
namespace Pf
open PySem Ab
local macro_rules | `(tactic| simp! [$xs,*]) => `(tactic| try simp (config := {maxSteps := 1000000}) only [k_bind, k_Kb, k_st, k_Kst, k_Rst, k_thn, k_loop, k_fn, k_forget, k_clr, k_noX, k_try, k_stuck, k_Astuck, d_thn_nx, d_thn_bk, d_thn_ct, d_thn_rt, d_thn_er, d_lp_nx, d_lp_bk, d_lp_ct, d_lp_rt, d_lp_er, d_fg_nx, d_fg_bk, d_fg_ct, d_fg_rt, d_fg_er, d_cl_nx, d_cl_bk, d_cl_ct, d_cl_rt, d_cl_er, d_tr_nx, d_tr_bk, d_tr_ct, d_tr_rt, d_tr_er, d_nX_nx, d_nX_bk, d_nX_ct, d_nX_rt, d_nX_er, d_fn_nx, d_fn_bk, d_fn_ct, d_fn_rt, d_fn_er, A_nx, A_bk, A_ct, A_rt, A_err, post_ok, post_err, post_noErr, e_op, e_opK, e_un, e_cb, e_nil, e_c, e_cons, e_consK, e_consK2, e_and, e_or, e_andK, e_orK, e_not, e_notK, e_test, e_testK, e_tand, e_tandK, e_tor, e_torK, e_tnot, e_tnotK, e_yes, e_if, e_ifK, e_ch, e_chK1, e_chK2, e_chK3, e_tup, e_tupK, e_lst, e_lstK, e_newL, e_call, e_callK, e_meth, e_methK, e_methK2, e_prop, e_propK, e_make, e_makeK, e_makeK2, e_makeV, e_sm, e_smK, e_smK2, e_cm, e_cmK, e_cmK2, e_sl, e_slK1, e_slK2, e_slK3, e_part, e_partK, e_nopart, e_rev, e_bm, e_bmK, e_pr, e_pr0, e_prK1, e_prK2, e_prK3, e_disp, e_dnew, e_own, e_ownK, e_lc, e_lcK, e_iter, e_rng1, e_rng1K, e_rng2, e_rng2K, e_enum, s_drop, s_dropK, s_ret, s_retK, s_retN, s_next, s_break, s_cont, s_seq, s_if, s_ifK, s_asg, s_asgK, s_name, s_par, s_parK, s_par3, s_parK3, s_gnil, s_gcons, s_gtup, s_for, s_forK, s_raise, s_raiseK, s_sf, s_sfK1, s_sfK2, s_dp, s_dpK1, s_dpK2, s_dpK3, s_forget, s_def, s_fld, e_enumU, e_enumUT, e_match, e_mcase, e_mcase2, e_many, e_mnil, e_lcX, e_lcXK, e_get2, e_methS, e_methS1, e_methS2, s_augS, s_augS1, gEqS_int, gEqS_str, gEqS_bl, gEqS_tup, e_fmt, e_js, e_jsC, e_jsN, e_join, e_joinK, eq_self, beq_self_eq_true, k_grd, k_grdS, k_ite, k_Aite, true_implies, false_implies, implies_true, List.map_cons, List.map_nil, List.nil_append, List.cons_append, List.append_nil, List.replicate_succ, List.replicate_zero, List.getElem?_cons_zero, List.getElem?_cons_succ, List.length_cons, List.length_nil, List.set_cons_zero, List.set_cons_succ, ↓reduceIte, ↓reduceDIte, Nat.reduceAdd, Nat.reduceLeDiff, Nat.reduceEqDiff, Nat.zero_add, if_true, if_false, aVar, gMinus_int, gLt_int, gLe_int, gGt_int, gGe_int, gEq_int, gNe_int, gEq_str, gNe_str, gEq_bl, gNe_bl, gXor_int, gAnd_int, gOr_int, gAdd_int, gIsN_non, gNotN_non, gIsB_bl, gNotB_bl, gNeg_int, gLen_tup, gLen_scr, gMax2_int, gMin2_int, gBits_int, gSl_tup, gSl_scr, Bool.not_true, Bool.not_false, Bool.true_eq_false, Bool.false_eq_true, Bool.true_and, Bool.false_and, Bool.and_true, Bool.and_false, Bool.true_or, Bool.false_or, decide_true, decide_false, and_self, and_true, true_and, and_false, false_and, not_true_eq_false, not_false_eq_true, reduceCtorEq, kz, z1, z2, z3, z4, z5, z6, z7, z8, z9, z10, z11, z12, z13, z14, z15, z16, isCls, isNon, aForget, aHand, toKey, keysA, iterOf_tup, iterOf_scr, oNx_some, noErr_ok, decide_eq_true_eq, decide_eq_false_iff_not, Sto.new_n, Sto.set_n, Sto.set_at, Sto.new_at, Nat.zero_le, aMakeV, Cl_non, Cl_bl, Cl_int, Cl_str, Cl_cls, Cl_obj, Cl_tup, ClL_nil, ClL_cons, $xs,*])
local macro_rules | `(tactic| simp! only [$xs,*]) => `(tactic| simp only [e_op, e_opK, e_un, e_cb, e_nil, e_c, e_cons, e_consK, e_consK2, e_and, e_or, e_andK, e_orK, e_not, e_notK, e_test, e_testK, e_tand, e_tandK, e_tor, e_torK, e_tnot, e_tnotK, e_yes, e_if, e_ifK, e_ch, e_chK1, e_chK2, e_chK3, e_tup, e_tupK, e_lst, e_lstK, e_newL, e_call, e_callK, e_meth, e_methK, e_methK2, e_prop, e_propK, e_make, e_makeK, e_makeK2, e_makeV, e_sm, e_smK, e_smK2, e_cm, e_cmK, e_cmK2, e_sl, e_slK1, e_slK2, e_slK3, e_part, e_partK, e_nopart, e_rev, e_bm, e_bmK, e_pr, e_pr0, e_prK1, e_prK2, e_prK3, e_disp, e_dnew, e_own, e_ownK, e_lc, e_lcK, e_iter, e_rng1, e_rng1K, e_rng2, e_rng2K, e_enum, s_drop, s_dropK, s_ret, s_retK, s_retN, s_next, s_break, s_cont, s_seq, s_if, s_ifK, s_asg, s_asgK, s_name, s_par, s_parK, s_par3, s_parK3, s_gnil, s_gcons, s_gtup, s_for, s_forK, s_raise, s_raiseK, s_sf, s_sfK1, s_sfK2, s_dp, s_dpK1, s_dpK2, s_dpK3, s_forget, s_def, s_fld, e_enumU, e_enumUT, e_match, e_mcase, e_mcase2, e_many, e_mnil, e_lcX, e_lcXK, e_get2, e_methS, e_methS1, e_methS2, s_augS, s_augS1, gEqS_int, gEqS_str, gEqS_bl, gEqS_tup, e_fmt, e_js, e_jsC, e_jsN, e_join, e_joinK, eq_self, beq_self_eq_true, true_implies, false_implies, implies_true, List.map_cons, List.map_nil, List.nil_append, List.cons_append, List.append_nil, List.replicate_succ, List.replicate_zero, List.getElem?_cons_zero, List.getElem?_cons_succ, List.length_cons, List.length_nil, List.set_cons_zero, List.set_cons_succ, ↓reduceIte, ↓reduceDIte, Nat.reduceAdd, Nat.reduceLeDiff, Nat.reduceEqDiff, Nat.zero_add, if_true, if_false, aVar, gMinus_int, gLt_int, gLe_int, gGt_int, gGe_int, gEq_int, gNe_int, gEq_str, gNe_str, gEq_bl, gNe_bl, gXor_int, gAnd_int, gOr_int, gAdd_int, gIsN_non, gNotN_non, gIsB_bl, gNotB_bl, gNeg_int, gLen_tup, gLen_scr, gMax2_int, gMin2_int, gBits_int, gSl_tup, gSl_scr, Bool.not_true, Bool.not_false, Bool.true_eq_false, Bool.false_eq_true, Bool.true_and, Bool.false_and, Bool.and_true, Bool.and_false, Bool.true_or, Bool.false_or, decide_true, decide_false, and_self, and_true, true_and, and_false, false_and, not_true_eq_false, not_false_eq_true, reduceCtorEq, kz, z1, z2, z3, z4, z5, z6, z7, z8, z9, z10, z11, z12, z13, z14, z15, z16, isCls, isNon, aForget, aHand, toKey, keysA, iterOf_tup, iterOf_scr, oNx_some, noErr_ok, decide_eq_true_eq, decide_eq_false_iff_not, Sto.new_n, Sto.set_n, Sto.set_at, Sto.new_at, Nat.zero_le, aMakeV, Cl_non, Cl_bl, Cl_int, Cl_str, Cl_cls, Cl_obj, Cl_tup, ClL_nil, ClL_cons, grd_pos, grdS_pos, Res.bind_ok, Res.bind_err, Res.st_ok, Res.st_err, SRes.thn_nx, SRes.thn_rt, SRes.thn_err, SRes.fn_rt, SRes.fn_nx, SRes.fn_err, SRes.loop_nx, SRes.loop_rt, SRes.loop_err, SRes.loop_ct, SRes.loop_bk, SRes.forget_nx, SRes.forget_rt, SRes.forget_err, SRes.clr_nx, SRes.clr_rt, SRes.noX_nx, SRes.noX_rt, aTry, sizeLine_ge, $xs,*])
section
variable {P : AV → Sto → Prop} {R : String → List Str → List AV → Sto → Prop} {d g B : Nat} {s t : Sto}
theorem wi2_polyI {k : Nat} {ki : Int} (hk : ki = ((k : Nat) : Int)) (S : Inv2 d g B t s) (hB : B ≤ 20000000) (k0 : 5 ≤ k) (k1 : k ≤ 600) (q : ∀ (n : Nat) s', n < 2 ^ k → Inv2 d g (B + 10) t s' → Gd2 d g s s' → P (.int (n : Nat)) s') : (F__law_poly [.obj d, .int ki] s).Post P R := by
  subst hk
  exact wi2_poly S hB k0 k1 q
theorem next_ex {k : Int} (S : Inv2 d g B t s) (hB : B ≤ 10000000) (k0 : 0 < k) (k1 : k.natAbs.log2 < 9000) : ∃ v s', (∃ n : Nat, v = .int (n : Nat) ∧ ((n : Nat) : Int) < k ∧ Inv2 d g (B + 1) t s' ∧ Gd2 d g s s') ∧ F__law_next [.obj d, .int k] s = .ok v s' := by
  refine ex_of_post ?_
  refine wi_next S (by omega) k0 k1 fun v1 s1 a1 b1 S1 g1 => ?_
  obtain ⟨n, rfl⟩ := Int.eq_ofNat_of_zero_le a1
  exact ⟨n, rfl, b1, S1, g1⟩
end
section
variable {s : Sto} {x0 x1 x2 x3 x4 x5 x6 x7 x8 x9 x10 x11 x12 : Option AV} {a b c m n f : Nat}
theorem st_args {t : Sto} {d : Nat} {v : AV} (e : F__law_next [.obj d, .int 6] t = .ok (.int (n : Nat)) s) : (aCons (aOp gAdd (aC (.int 2)) (aCall 2 F__law_next [] (aCons (aVar 1) (aCons (aC (.int 6)) aNil)))) aNil) [x0, some (.obj d), x2, x3, x4, x5, x6, x7, x8, x9, x10, x11, x12] t = .ok [.int ((n + 2 : Nat) : Int)] s := by
  have c : (2 : Int) + ((n : Nat) : Int) = ((n + 2 : Nat) : Int) := by omega
  simp! only [e, c]
theorem st1 (ha : a < 2 ^ 40) (hb : b < 2 ^ 40) (hc : c < 2 ^ 40) (hm : m < 2 ^ 60) (m0 : m ≠ 0) : (gcT (aOr (aNot (aTest (aCall 3 F__law_ring_right [] (aCons (aVar 5) (aCons (aVar 6) (aCons (aVar 7) aNil)))))) (aNot (aTest (aCall 3 F__law_divisors_right [] (aCons (aVar 5) (aCons (aVar 6) (aCons (aVar 8) aNil)))))))) [x0, x1, x2, x3, x4, some (.int (a : Nat)), some (.int (b : Nat)), some (.int (c : Nat)), some (.int (m : Nat)), x9, x10, x11, x12] s = .ok false s := by
  have e1 := ring_ok ha hb hc s
  have e2 := diva_ok (Nat.lt_of_lt_of_le ha (Nat.pow_le_pow_right (by decide) (by decide))) (Nat.lt_of_lt_of_le hb (Nat.pow_le_pow_right (by decide) (by decide))) hm m0 s
  exact gcT_f (by simp! only [e1, e2])
theorem st2 (hb : b < 2 ^ 40) (hm : m < 2 ^ 60) : (gcT (aNot (aTest (aCall 3 F__law_divisors_right [] (aCons (aVar 6) (aCons (aVar 8) (aCons (aOp gAdd (aOp gMod (aVar 7) (aC (.int 64))) (aC (.int 1))) aNil))))))) [x0, x1, x2, x3, x4, x5, some (.int (b : Nat)), some (.int (c : Nat)), some (.int (m : Nat)), x9, x10, x11, x12] s = .ok false s := by
  have md := modN2 (a := c) (b := 64) (by decide) s
  have md : gMod (.int (c : Nat)) (.int 64) s = .ok (.int ((c % 64 : Nat) : Int)) s := md
  have cc : ((c % 64 : Nat) : Int) + 1 = ((c % 64 + 1 : Nat) : Int) := by omega
  have c64 : c % 64 < 64 := Nat.mod_lt _ (by decide)
  have e2 := diva_ok (a := b) (b := m) (m := c % 64 + 1) (Nat.lt_of_lt_of_le hb (Nat.pow_le_pow_right (by decide) (by decide))) hm (Nat.lt_of_le_of_lt (show _ ≤ 64 by omega) (by decide)) (by omega) s
  exact gcT_f (by simp! only [md, cc, e2])
theorem st3 (M : Mo m) (d2 : 2 ≤ TW.len m - 1) (ha : a < 2 ^ 40) (hb : b < 2 ^ 40) : (gcT (aOr (aNot (aTest (aCall 2 F__law_field_right [] (aCons (aVar 5) (aCons (aVar 3) aNil))))) (aOr (aNot (aTest (aCall 2 F__law_field_right [] (aCons (aVar 6) (aCons (aVar 3) aNil))))) (aNot (aTest (aCall 1 F_is_irreducible [] (aCons (aVar 3) aNil))))))) [x0, x1, x2, some (.int (m : Nat)), x4, some (.int (a : Nat)), some (.int (b : Nat)), x7, x8, x9, x10, x11, x12] s = .ok false s := by
  have e1 := field_ok M d2 ha s
  have e2 := field_ok M d2 hb s
  have e3 := M.irr s
  exact gcT_f (by simp! only [e1, e2, e3])
theorem st5 (n0 : n ≠ 0) (hn : n < 256) : (gcT (aTest (aOp gNe (aCall 1 F_is_irreducible [] (aCons (aVar 9) aNil)) (aOp gEq (aCB gLen (aCons (aCall 1 F_factors_of [] (aCons (aVar 9) aNil)) aNil)) (aC (.int 1)))))) [x0, x1, x2, x3, x4, x5, x6, x7, x8, some (.int (n : Nat)), x10, x11, x12] s = .ok false s := by
  obtain ⟨L, hL, e⟩ := fac_ok n0 (Nat.lt_trans hn (by decide))
  have e := e s
  have i := irr_near n0 hn s
  rw [fac_len hn hL] at i
  have ln : gLen [.tup (iN L)] s = .ok (.int (L.length : Nat)) s := by rw [gLen_tup, iN_len]
  have nb : ∀ b, gNe (.bl b) (.bl b) s = .ok (.bl false) s := fun b => by simp! only []
  exact gcT_f (by simp! only [e, i, ln, nb])
theorem st4 {o : Nat} {C : List Nat} (on : o < s.n) (h : s.c o = .lst (iN C)) (hC : PO.Fac (PO.cm n f) C) (n0 : n ≠ 0) (f0 : f ≠ 0) (hn : n < 256) (hf : f < 256) : (gcT (aTest (aOp gNe (aCB gList (aCons (aCall 1 F_factors_of [] (aCons (aCall 2 F_multiplied [] (aCons (aVar 9) (aCons (aVar 10) aNil))) aNil)) aNil)) (aVar 11)))) [x0, x1, x2, x3, x4, x5, x6, x7, x8, some (.int (n : Nat)), some (.int (f : Nat)), some (.obj o), x12] s = .ok false s := by
  have nf := cm_lt (n := 8) (k := 8) hn hf
  obtain ⟨L, hL, e⟩ := fac_ok (PO.cm_ne n0 f0) nf
  have LC := hL.uniq hC
  subst LC
  have e := e s
  have m1 := mult_ok (a := n) (b := f) (up5 (k := 8) hn (by decide)) (up5 (k := 8) hf (by decide)) s
  have gl := gList_seq (x := .tup (iN L)) (ys := iN L) (s := s) rfl
  refine gcT_none ?_
  simp! [m1, e, gl]
  refine post_neL Sto.new_at (at_old on h) (fun x hx => ?_) ?_
  · obtain ⟨y, _, rfl⟩ := List.mem_map.mp hx
    exact flat_d (.inl ⟨_, rfl⟩)
  · simp! [eq_self]
    exact (Gb.refl s).new
end
end Pf
set_option Elab.async false
set_option linter.all false
set_option maxRecDepth 100000
set_option maxHeartbeats 1000000
set_option exponentiation.threshold 3000
namespace Pf
open PySem Ab
local macro_rules | `(tactic| simp! [$xs,*]) => `(tactic| try simp (config := {maxSteps := 1000000}) only [k_bind, k_Kb, k_st, k_Kst, k_Rst, k_thn, k_loop, k_fn, k_forget, k_clr, k_noX, k_try, k_stuck, k_Astuck, d_thn_nx, d_thn_bk, d_thn_ct, d_thn_rt, d_thn_er, d_lp_nx, d_lp_bk, d_lp_ct, d_lp_rt, d_lp_er, d_fg_nx, d_fg_bk, d_fg_ct, d_fg_rt, d_fg_er, d_cl_nx, d_cl_bk, d_cl_ct, d_cl_rt, d_cl_er, d_tr_nx, d_tr_bk, d_tr_ct, d_tr_rt, d_tr_er, d_nX_nx, d_nX_bk, d_nX_ct, d_nX_rt, d_nX_er, d_fn_nx, d_fn_bk, d_fn_ct, d_fn_rt, d_fn_er, A_nx, A_bk, A_ct, A_rt, A_err, post_ok, post_err, post_noErr, e_op, e_opK, e_un, e_cb, e_nil, e_c, e_cons, e_consK, e_consK2, e_and, e_or, e_andK, e_orK, e_not, e_notK, e_test, e_testK, e_tand, e_tandK, e_tor, e_torK, e_tnot, e_tnotK, e_yes, e_if, e_ifK, e_ch, e_chK1, e_chK2, e_chK3, e_tup, e_tupK, e_lst, e_lstK, e_newL, e_call, e_callK, e_meth, e_methK, e_methK2, e_prop, e_propK, e_make, e_makeK, e_makeK2, e_makeV, e_sm, e_smK, e_smK2, e_cm, e_cmK, e_cmK2, e_sl, e_slK1, e_slK2, e_slK3, e_part, e_partK, e_nopart, e_rev, e_bm, e_bmK, e_pr, e_pr0, e_prK1, e_prK2, e_prK3, e_disp, e_dnew, e_own, e_ownK, e_lc, e_lcK, e_iter, e_rng1, e_rng1K, e_rng2, e_rng2K, e_enum, s_drop, s_dropK, s_ret, s_retK, s_retN, s_next, s_break, s_cont, s_seq, s_if, s_ifK, s_asg, s_asgK, s_name, s_par, s_parK, s_par3, s_parK3, s_gnil, s_gcons, s_gtup, s_for, s_forK, s_raise, s_raiseK, s_sf, s_sfK1, s_sfK2, s_dp, s_dpK1, s_dpK2, s_dpK3, s_forget, s_def, s_fld, e_enumU, e_enumUT, e_match, e_mcase, e_mcase2, e_many, e_mnil, e_lcX, e_lcXK, e_get2, e_methS, e_methS1, e_methS2, s_augS, s_augS1, gEqS_int, gEqS_str, gEqS_bl, gEqS_tup, e_fmt, e_js, e_jsC, e_jsN, e_join, e_joinK, eq_self, beq_self_eq_true, k_grd, k_grdS, k_ite, k_Aite, true_implies, false_implies, implies_true, List.map_cons, List.map_nil, List.nil_append, List.cons_append, List.append_nil, List.replicate_succ, List.replicate_zero, List.getElem?_cons_zero, List.getElem?_cons_succ, List.length_cons, List.length_nil, List.set_cons_zero, List.set_cons_succ, ↓reduceIte, ↓reduceDIte, Nat.reduceAdd, Nat.reduceLeDiff, Nat.reduceEqDiff, Nat.zero_add, if_true, if_false, aVar, gMinus_int, gLt_int, gLe_int, gGt_int, gGe_int, gEq_int, gNe_int, gEq_str, gNe_str, gEq_bl, gNe_bl, gXor_int, gAnd_int, gOr_int, gAdd_int, gIsN_non, gNotN_non, gIsB_bl, gNotB_bl, gNeg_int, gLen_tup, gLen_scr, gMax2_int, gMin2_int, gBits_int, gSl_tup, gSl_scr, Bool.not_true, Bool.not_false, Bool.true_eq_false, Bool.false_eq_true, Bool.true_and, Bool.false_and, Bool.and_true, Bool.and_false, Bool.true_or, Bool.false_or, decide_true, decide_false, and_self, and_true, true_and, and_false, false_and, not_true_eq_false, not_false_eq_true, reduceCtorEq, kz, z1, z2, z3, z4, z5, z6, z7, z8, z9, z10, z11, z12, z13, z14, z15, z16, isCls, isNon, aForget, aHand, toKey, keysA, iterOf_tup, iterOf_scr, oNx_some, noErr_ok, decide_eq_true_eq, decide_eq_false_iff_not, Sto.new_n, Sto.set_n, Sto.set_at, Sto.new_at, Nat.zero_le, aMakeV, Cl_non, Cl_bl, Cl_int, Cl_str, Cl_cls, Cl_obj, Cl_tup, ClL_nil, ClL_cons, $xs,*])
local macro_rules | `(tactic| simp! only [$xs,*]) => `(tactic| simp only [e_op, e_opK, e_un, e_cb, e_nil, e_c, e_cons, e_consK, e_consK2, e_and, e_or, e_andK, e_orK, e_not, e_notK, e_test, e_testK, e_tand, e_tandK, e_tor, e_torK, e_tnot, e_tnotK, e_yes, e_if, e_ifK, e_ch, e_chK1, e_chK2, e_chK3, e_tup, e_tupK, e_lst, e_lstK, e_newL, e_call, e_callK, e_meth, e_methK, e_methK2, e_prop, e_propK, e_make, e_makeK, e_makeK2, e_makeV, e_sm, e_smK, e_smK2, e_cm, e_cmK, e_cmK2, e_sl, e_slK1, e_slK2, e_slK3, e_part, e_partK, e_nopart, e_rev, e_bm, e_bmK, e_pr, e_pr0, e_prK1, e_prK2, e_prK3, e_disp, e_dnew, e_own, e_ownK, e_lc, e_lcK, e_iter, e_rng1, e_rng1K, e_rng2, e_rng2K, e_enum, s_drop, s_dropK, s_ret, s_retK, s_retN, s_next, s_break, s_cont, s_seq, s_if, s_ifK, s_asg, s_asgK, s_name, s_par, s_parK, s_par3, s_parK3, s_gnil, s_gcons, s_gtup, s_for, s_forK, s_raise, s_raiseK, s_sf, s_sfK1, s_sfK2, s_dp, s_dpK1, s_dpK2, s_dpK3, s_forget, s_def, s_fld, e_enumU, e_enumUT, e_match, e_mcase, e_mcase2, e_many, e_mnil, e_lcX, e_lcXK, e_get2, e_methS, e_methS1, e_methS2, s_augS, s_augS1, gEqS_int, gEqS_str, gEqS_bl, gEqS_tup, e_fmt, e_js, e_jsC, e_jsN, e_join, e_joinK, eq_self, beq_self_eq_true, true_implies, false_implies, implies_true, List.map_cons, List.map_nil, List.nil_append, List.cons_append, List.append_nil, List.replicate_succ, List.replicate_zero, List.getElem?_cons_zero, List.getElem?_cons_succ, List.length_cons, List.length_nil, List.set_cons_zero, List.set_cons_succ, ↓reduceIte, ↓reduceDIte, Nat.reduceAdd, Nat.reduceLeDiff, Nat.reduceEqDiff, Nat.zero_add, if_true, if_false, aVar, gMinus_int, gLt_int, gLe_int, gGt_int, gGe_int, gEq_int, gNe_int, gEq_str, gNe_str, gEq_bl, gNe_bl, gXor_int, gAnd_int, gOr_int, gAdd_int, gIsN_non, gNotN_non, gIsB_bl, gNotB_bl, gNeg_int, gLen_tup, gLen_scr, gMax2_int, gMin2_int, gBits_int, gSl_tup, gSl_scr, Bool.not_true, Bool.not_false, Bool.true_eq_false, Bool.false_eq_true, Bool.true_and, Bool.false_and, Bool.and_true, Bool.and_false, Bool.true_or, Bool.false_or, decide_true, decide_false, and_self, and_true, true_and, and_false, false_and, not_true_eq_false, not_false_eq_true, reduceCtorEq, kz, z1, z2, z3, z4, z5, z6, z7, z8, z9, z10, z11, z12, z13, z14, z15, z16, isCls, isNon, aForget, aHand, toKey, keysA, iterOf_tup, iterOf_scr, oNx_some, noErr_ok, decide_eq_true_eq, decide_eq_false_iff_not, Sto.new_n, Sto.set_n, Sto.set_at, Sto.new_at, Nat.zero_le, aMakeV, Cl_non, Cl_bl, Cl_int, Cl_str, Cl_cls, Cl_obj, Cl_tup, ClL_nil, ClL_cons, grd_pos, grdS_pos, Res.bind_ok, Res.bind_err, Res.st_ok, Res.st_err, SRes.thn_nx, SRes.thn_rt, SRes.thn_err, SRes.fn_rt, SRes.fn_nx, SRes.fn_err, SRes.loop_nx, SRes.loop_rt, SRes.loop_err, SRes.loop_ct, SRes.loop_bk, SRes.forget_nx, SRes.forget_rt, SRes.forget_err, SRes.clr_nx, SRes.clr_rt, SRes.noX_nx, SRes.noX_rt, aTry, sizeLine_ge, $xs,*])
local macro_rules | `(tactic| dsimp! only [$xs,*]) => `(tactic| try simp (config := {maxSteps := 1000000}) only [k_bind, k_Kb, k_st, k_Kst, k_Rst, k_thn, k_loop, k_fn, k_forget, k_clr, k_noX, k_try, k_stuck, k_Astuck, d_thn_nx, d_thn_bk, d_thn_ct, d_thn_rt, d_thn_er, d_lp_nx, d_lp_bk, d_lp_ct, d_lp_rt, d_lp_er, d_fg_nx, d_fg_bk, d_fg_ct, d_fg_rt, d_fg_er, d_cl_nx, d_cl_bk, d_cl_ct, d_cl_rt, d_cl_er, d_tr_nx, d_tr_bk, d_tr_ct, d_tr_rt, d_tr_er, d_nX_nx, d_nX_bk, d_nX_ct, d_nX_rt, d_nX_er, d_fn_nx, d_fn_bk, d_fn_ct, d_fn_rt, d_fn_er, A_nx, A_bk, A_ct, A_rt, A_err, post_ok, post_err, post_noErr, e_op, e_opK, e_un, e_cb, e_nil, e_c, e_cons, e_consK, e_consK2, e_and, e_or, e_andK, e_orK, e_not, e_notK, e_test, e_testK, e_tand, e_tandK, e_tor, e_torK, e_tnot, e_tnotK, e_yes, e_ifK, e_ch, e_chK1, e_chK2, e_chK3, e_tup, e_tupK, e_lst, e_lstK, e_newL, e_call, e_callK, e_meth, e_methK, e_methK2, e_prop, e_propK, e_make, e_makeK, e_makeK2, e_makeV, e_sm, e_smK, e_smK2, e_cm, e_cmK, e_cmK2, e_sl, e_slK1, e_slK2, e_slK3, e_part, e_partK, e_nopart, e_rev, e_bm, e_bmK, e_pr, e_pr0, e_prK1, e_prK2, e_prK3, e_disp, e_dnew, e_own, e_ownK, e_lc, e_lcK, e_iter, e_rng1, e_rng1K, e_rng2, e_rng2K, e_enum, s_drop, s_dropK, s_ret, s_retK, s_retN, s_next, s_break, s_cont, s_seq, s_ifK, s_asg, s_asgK, s_name, s_par, s_parK, s_par3, s_parK3, s_gnil, s_gcons, s_gtup, s_for, s_forK, s_raise, s_raiseK, s_sf, s_sfK1, s_sfK2, s_dp, s_dpK1, s_dpK2, s_dpK3, s_forget, s_def, s_fld, e_enumU, e_enumUT, e_match, e_mcase, e_mcase2, e_many, e_mnil, e_lcX, e_lcXK, e_get2, e_methS, e_methS1, e_methS2, s_augS, s_augS1, gEqS_int, gEqS_str, gEqS_bl, gEqS_tup, e_fmt, e_js, e_jsC, e_jsN, e_join, e_joinK, eq_self, beq_self_eq_true, k_grd, k_grdS, k_ite, k_Aite, true_implies, false_implies, implies_true, List.map_cons, List.map_nil, List.nil_append, List.cons_append, List.append_nil, List.replicate_succ, List.replicate_zero, List.getElem?_cons_zero, List.getElem?_cons_succ, List.length_cons, List.length_nil, List.set_cons_zero, List.set_cons_succ, ↓reduceIte, ↓reduceDIte, Nat.reduceAdd, Nat.reduceLeDiff, Nat.reduceEqDiff, Nat.zero_add, if_true, if_false, aVar, gMinus_int, gLt_int, gLe_int, gGt_int, gGe_int, gEq_int, gNe_int, gEq_str, gNe_str, gEq_bl, gNe_bl, gXor_int, gAnd_int, gOr_int, gAdd_int, gIsN_non, gNotN_non, gIsB_bl, gNotB_bl, gNeg_int, gLen_tup, gLen_scr, gMax2_int, gMin2_int, gBits_int, gSl_tup, gSl_scr, Bool.not_true, Bool.not_false, Bool.true_eq_false, Bool.false_eq_true, Bool.true_and, Bool.false_and, Bool.and_true, Bool.and_false, Bool.true_or, Bool.false_or, decide_true, decide_false, and_self, and_true, true_and, and_false, false_and, not_true_eq_false, not_false_eq_true, reduceCtorEq, kz, z1, z2, z3, z4, z5, z6, z7, z8, z9, z10, z11, z12, z13, z14, z15, z16, isCls, isNon, aForget, aHand, toKey, keysA, iterOf_tup, iterOf_scr, oNx_some, noErr_ok, decide_eq_true_eq, decide_eq_false_iff_not, Sto.new_n, Sto.set_n, Sto.set_at, Sto.new_at, Nat.zero_le, aMakeV, Cl_non, Cl_bl, Cl_int, Cl_str, Cl_cls, Cl_obj, Cl_tup, ClL_nil, ClL_cons, $xs,*])
section
variable {P : AV → Sto → Prop} {R : String → List Str → List AV → Sto → Prop} {d g B : Nat} {s t : Sto}
theorem wi2_pick {L : Nat} {xs : List AV} (S : Inv2 d g B t s) (hB : B ≤ 20000000) (hL : s.c L = .lst xs) (ng : L ≠ g) (h0 : 0 < xs.length) (h1 : xs.length ≤ 100) (hc : ClL s.n xs) (q : ∀ y s', y ∈ xs → Inv2 d g (B + 1) t s' → Gd2 d g s s' → P y s') (hl : L < s.n) : (F__law_pick [.obj d, .obj L] s).Post P R := by
  unfold F__law_pick
  refine gcF_d2 S.lsd S.lsg ?_
  have ln := gLen_seq (seqOf_obj hL)
  obtain ⟨b1, t1, gs, hd, _⟩ := S.ok.ex
  have nd : L ≠ d := by rintro rfl; rw [hd] at hL; cases hL
  simp! [B__law_pick, ln]
  refine wi_next S (by omega) (by omega) (by
    rw [Int.natAbs_natCast]
    exact Nat.lt_of_le_of_lt (Nat.log2_le_self _) (by omega)) fun v1 s1 a1 b1 S1 g1 => ?_
  refine post_ix (seqOf_obj ((g1.c _ hl nd ng).trans hL)) a1 b1 fun y hy => ?_
  exact ⟨ClL_all.mp hc y hy, g1, S1.ok.cl S.lsg, q y _ hy (S.back S1.ok) (Gd2.back d g s)⟩
end
theorem lt_srt {s : Sto} {o : Nat} {A B C : List Nat} {a b : Nat} (h : s.c o = .lst (iN (A ++ B))) (hA : PO.Fac a A) (hB : PO.Fac b B) (hC : PO.Fac (PO.cm a b) C) : gSorted [.obj o] s = .ok (.obj s.n) (s.new (.lst (iN C))) := by
  have hm : ∀ L : List Nat, iN L = (L.map fun n => ((n : Nat) : Int)).map AV.int := fun L => by
    simp only [iN, List.map_map]
    rfl
  have e := gSorted_lst (x := .obj o) (ns := (A ++ B).map fun n => ((n : Nat) : Int)) (s := s) (lstOf_obj (h.trans (congrArg Cell.lst (hm (A ++ B)))))
  rw [e]
  unfold srt
  rw [PO.fac_sort (c := 0) hA hB hC, ← hm C]
  rfl
theorem fac_small {a : Nat} {A : List Nat} (n0 : a ≠ 0) (h : a < 2 ^ 16) (hA : PO.Fac a A) : A.length ≤ 16 := by
  have key : ∀ (L : List Nat), (∀ p ∈ L, PO.Irr p) → PO.prod L ≠ 0 ∧ L.length + 1 ≤ TW.len (PO.prod L) := by
    intro L
    induction L with
    | nil => exact fun _ => ⟨by decide, by decide⟩
    | cons p L ih =>
      intro h
      obtain ⟨h0, h1⟩ := ih fun x hx => h x (List.mem_cons_of_mem _ hx)
      have hp := (h p (List.mem_cons_self ..)).1
      have p0 : p ≠ 0 := by omega
      have l := PO.cm_len p0 h0
      have l2 := TW.le_len (k := 1) hp
      refine ⟨PO.cm_ne p0 h0, ?_⟩
      show L.length + 1 + 1 ≤ TW.len (PO.cm p (PO.prod L))
      omega
  have k := (key A hA.irr).2
  rw [hA.pr] at k
  have := TW.len_le h
  omega
theorem irrs_len : ((List.range 8).all fun d => decide ((PO.irrs d).length ≤ 41) && (decide (d < 2) || decide (0 < (PO.irrs d).length))) = true := by decide +kernel
theorem irrs_rng {d : Nat} (h : d < 8) (h2 : 2 ≤ d) : (PO.irrs d).length ≤ 41 ∧ 0 < (PO.irrs d).length := by
  have k := List.all_eq_true.mp irrs_len d (List.mem_range.mpr h)
  rw [Bool.and_eq_true, Bool.or_eq_true, decide_eq_true_eq, decide_eq_true_eq, decide_eq_true_eq] at k
  exact ⟨k.1, k.2.resolve_left (by omega)⟩
theorem law_true (ns : List Int) (hl : ns.length ≤ 63) (hbit : ∀ z ∈ ns, Builtin.Int.intBits z ≤ 1048576) : ∃ s', F_law [.scr (ns.map .int)] s0 = .ok (.bl true) s' := by
  refine ok_of_post ?_
  unfold F_law
  have z0 : ((0 : Nat) ≤ sizeLine) = True := eq_true (Nat.zero_le _)
  have ln : ∀ s, gLen [.scr (ns.map .int)] s = .ok (.int (ns.length : Nat)) s := fun s => by rw [gLen_scr, List.length_map]
  obtain ⟨K, hK⟩ : ∃ K : Nat, ((2 : Int) + (if ((ns.length : Nat) : Int) < 6 then ((ns.length : Nat) : Int) else 6)) = (K : Nat) := ⟨(2 + (if ((ns.length : Nat) : Int) < 6 then ((ns.length : Nat) : Int) else 6)).toNat, by split <;> omega⟩
  have K5 : K ≤ 8 := by split at hK <;> omega
  have rg : -(2 ^ 62) ≤ ((K : Nat) : Int) ∧ ((K : Nat) : Int) < 2 ^ 62 := by omega
  have tn : ((K : Nat) : Int).toNat = K := by omega
  have s20 : ∀ s, gShl (.int 1) (.int 20) s = .ok (.int 1048576) s := fun s => shl_one (k := 20) s (by decide)
  simp! [B_law]
  refine begun_post (by omega) fun d g s1 g1 d0 d1 g0 gg D => ?_
  have S0 : Inv2 d g 0 s1 s1 := Inv2.start d1 gg D
  obtain ⟨v, s2, ⟨n6, rfl, b6, S2, G2⟩, e6⟩ := next_ex (k := 6) S0 (by decide) (by decide) (by decide)
  have dd8 : n6 + 2 < 8 := by omega
  have lv := live_irr (d := n6 + 2) dd8 (by omega) (st_args (s := s2) (x0 := some (.scr (ns.map .int))) (x2 := none) (x3 := none) (x4 := none) (x5 := none) (x6 := none) (x7 := none) (x8 := none) (x9 := none) (x10 := none) (x11 := none) (x12 := none) (v := .non) e6)
  simp! [lv, ln, hK, rg, tn]
  obtain ⟨o, ho⟩ : ∃ o, o = s2.n := ⟨_, rfl⟩
  obtain ⟨sA, hA⟩ : ∃ sA, sA = s2.new (.lst (iN (PO.irrs (n6 + 2)))) := ⟨_, rfl⟩
  have co : sA.c o = .lst (iN (PO.irrs (n6 + 2))) := by rw [hA, ho]; exact Sto.new_at
  have on : o < sA.n := by rw [hA, ho]; exact Nat.lt_succ_self _
  have lg2 := S2.lsg
  have ld2 := S2.lsd
  have od : o ≠ d := by omega
  have og : o ≠ g := by omega
  have SA : Inv2 d g 1 s1 sA := by rw [hA]; exact S2.new
  have SB : Inv2 d g 1 sA sA := Inv2.start SA.lsd SA.lsg SA.ok
  rw [← hA, ← ho]
  clear SA S0 S2 G2 d0 g0 lv e6 ld2 lg2
  refine for_rng (n := K) (fun i σ s' => Inv2 d g (500 * i + 1) sA s' ∧ ∃ x3 x4 x5 x6 x7 x8 x9 x10 x11, σ = [some (.scr (ns.map .int)), some (.obj d), some (.obj o), x3, x4, x5, x6, x7, x8, x9, x10, x11, none]) ⟨SB, _, _, _, _, _, _, _, _, _, rfl⟩ ?_ ?_
  · rintro i σ s' hi ⟨S1, x3, x4, x5, x6, x7, x8, x9, x10, x11, rfl⟩
    refine ⟨trivial, ?_⟩
    simp! [eq_self]
    refine wi2_polyI (k := 40) rfl S1 (by omega) (by decide) (by decide) fun a s3 ha S3 g3 => ?_
    simp! [eq_self]
    refine wi2_polyI (k := 40) rfl S3 (by omega) (by decide) (by decide) fun b s4 hb S4 g4 => ?_
    simp! [eq_self]
    refine wi2_polyI (k := 40) rfl S4 (by omega) (by decide) (by decide) fun c s5 hc S5 g5 => ?_
    simp! [s20]
    refine wi_next S5 (by omega) (by decide) (by decide) fun v6 s6 a6 b6' S6 g6 => ?_
    obtain ⟨m', rfl⟩ := Int.eq_ofNat_of_zero_le a6
    have mc : (1 : Int) + ((m' : Nat) : Int) = ((m' + 1 : Nat) : Int) := by omega
    have m60 : m' + 1 < 2 ^ 60 := by omega
    have i1 := ifF (a := aRet (aC (.bl false))) (st1 (s := s6) (x0 := some (.scr (ns.map .int))) (x1 := some (.obj d)) (x2 := some (.obj o)) (x3 := x3) (x4 := some (.int (0 + (i : Nat)))) (x9 := x9) (x10 := x10) (x11 := x11) (x12 := none) ha hb hc m60 (by omega))
    have i2 := ifF (a := aRet (aC (.bl false))) (st2 (s := s6) (x0 := some (.scr (ns.map .int))) (x1 := some (.obj d)) (x2 := some (.obj o)) (x3 := x3) (x4 := some (.int (0 + (i : Nat)))) (x5 := some (.int (a : Nat))) (c := c) (x9 := x9) (x10 := x10) (x11 := x11) (x12 := none) hb m60)
    dsimp! only [mc, i1, i2]
    have on6 : o < s6.n := Nat.lt_of_lt_of_le on S6.gd.n
    have co6 : s6.c o = .lst (iN (PO.irrs (n6 + 2))) := (S6.gd.c o on od og).trans co
    obtain ⟨r1, r2⟩ := irrs_rng dd8 (by omega)
    refine wi2_pick S6 (by omega) co6 og (by rw [iN_len]; exact r2) (by rw [iN_len]; omega) (ClL_all.mpr fun x hx => by
      obtain ⟨n, _, rfl⟩ := List.mem_map.mp hx
      simp) (fun y s7 hy S7 g7 => ?_) on6
    obtain ⟨m, hm, rfl⟩ := List.mem_map.mp hy
    have M := mo_of (by omega) (by omega) hm
    have ml : 2 ≤ TW.len m - 1 := by
      have l0 := (PO.irrs_mem hm).2.1
      have l1 := TW.le_len l0
      omega
    have i3 := ifF (a := aRet (aC (.bl false))) (st3 (s := s7) (x0 := some (.scr (ns.map .int))) (x1 := some (.obj d)) (x2 := some (.obj o)) (x4 := some (.int (0 + (i : Nat)))) (x7 := some (.int (c : Nat))) (x8 := some (.int ((m' + 1 : Nat) : Int))) (x9 := x9) (x10 := x10) (x11 := x11) (x12 := none) M ml ha hb)
    dsimp! only [i3]
    refine wi_next S7 (by omega) (by decide) (by decide) fun v8 s8 a8 b8 S8 g8 => ?_
    obtain ⟨n', rfl⟩ := Int.eq_ofNat_of_zero_le a8
    have nc : (1 : Int) + ((n' : Nat) : Int) = ((n' + 1 : Nat) : Int) := by omega
    simp! [nc]
    refine wi_next S8 (by omega) (by decide) (by decide) fun v9 s9 a9 b9 S9 g9 => ?_
    obtain ⟨f', rfl⟩ := Int.eq_ofNat_of_zero_le a9
    have fc : (1 : Int) + ((f' : Nat) : Int) = ((f' + 1 : Nat) : Int) := by omega
    have n256 : n' + 1 < 256 := by omega
    have f256 : f' + 1 < 256 := by omega
    obtain ⟨L1, h1, e1⟩ := fac_ok (n := n' + 1) (by omega) (Nat.lt_trans n256 (by decide))
    obtain ⟨L2, h2, e2⟩ := fac_ok (n := f' + 1) (by omega) (Nat.lt_trans f256 (by decide))
    have nf := cm_lt (n := 8) (k := 8) n256 f256
    obtain ⟨C, hC, _⟩ := fac_ok (PO.cm_ne (q := n' + 1) (m := f' + 1) (by omega) (by omega)) nf
    have q1 := fac_small (by omega) (Nat.lt_trans n256 (by decide)) h1
    have q2 := fac_small (by omega) (Nat.lt_trans f256 (by decide)) h2
    have ad : ∀ s, gAdd (.tup (iN L1)) (.tup (iN L2)) s = .ok (.tup (iN (L1 ++ L2))) s := fun s => by
      rw [gAdd_tup (by rw [iN_len, iN_len]; exact Nat.le_trans (show _ ≤ 100 by omega) (by decide))]
      unfold iN
      rw [List.map_append]
    have it : ∀ s, iterOf (.tup (iN (L1 ++ L2))) s = .ok ((L1 ++ L2).map fun n => AV.int (n : Nat), fun _ => True) s := fun s => rfl
    simp! [fc, e1, e2, ad, it]
    refine lc_el (L := L1 ++ L2) (φ := fun n => AV.int (n : Nat)) (fun _ => true) (fun n => AV.int (n : Nat)) (by rw [List.length_append]; omega) (fun _ _ => trivial) (fun x hx s' g' => ?_) ?_
    · refine ⟨rfl, fun _ => ?_⟩
      simp! only [wipeA]
      exact gIntOf_int
    have e0 : ((L1 ++ L2).filter fun _ => true).map (fun n => AV.int (n : Nat)) = iN (L1 ++ L2) := by
      rw [List.filter_eq_self.mpr fun _ _ => rfl]
    rw [e0]
    have sr := lt_srt (s := s9.new (.lst (iN (L1 ++ L2)))) (o := s9.n) Sto.new_at h1 h2 hC
    have S10 : Inv2 d g (500 * i + 36) sA ((s9.new (.lst (iN (L1 ++ L2)))).new (.lst (iN C))) := (S9.new.new).mono (by omega)
    have i4 := ifF (a := aRet (aC (.bl false))) (st4 (s := (s9.new (.lst (iN (L1 ++ L2)))).new (.lst (iN C))) (o := s9.n + 1) (C := C) (n := n' + 1) (f := f' + 1) (x0 := some (.scr (ns.map .int))) (x1 := some (.obj d)) (x2 := some (.obj o)) (x3 := some (.int (m : Nat))) (x4 := some (.int (0 + (i : Nat)))) (x5 := some (.int (a : Nat))) (x6 := some (.int (b : Nat))) (x7 := some (.int (c : Nat))) (x8 := some (.int ((m' + 1 : Nat) : Int))) (x12 := none) (Nat.lt_succ_self _) Sto.new_at hC (by omega) (by omega) n256 f256)
    have i5 := ifF (a := aRet (aC (.bl false))) (st5 (s := (s9.new (.lst (iN (L1 ++ L2)))).new (.lst (iN C))) (n := n' + 1) (x0 := some (.scr (ns.map .int))) (x1 := some (.obj d)) (x2 := some (.obj o)) (x3 := some (.int (m : Nat))) (x4 := some (.int (0 + (i : Nat)))) (x5 := some (.int (a : Nat))) (x6 := some (.int (b : Nat))) (x7 := some (.int (c : Nat))) (x8 := some (.int ((m' + 1 : Nat) : Int))) (x10 := some (.int ((f' + 1 : Nat) : Int))) (x11 := some (.obj (s9.n + 1))) (x12 := none) (by omega) n256)
    dsimp! only [sr, i4, i5]
    exact ⟨S10.mono (by omega), _, _, _, _, _, _, _, _, _, rfl⟩
  · rintro σ s' ⟨S1, x3, x4, x5, x6, x7, x8, x9, x10, x11, rfl⟩
    refine ⟨trivial, ?_⟩
    simp! [eq_self]
end Pf
set_option Elab.async false
set_option linter.all false
set_option maxRecDepth 100000
set_option maxHeartbeats 4000000
set_option exponentiation.threshold 3000
namespace Pf
open PySem PySem.Spec PyProof.Rows L2 Ab
theorem txt_kap {K : PySem.W.Frag} {mg : Str → Option Value} (T : Txt K mg ) : Txt K mg   := by

  exact T
theorem law_mk {l : PySem.W.OpenLaw} {w : World} {K : PySem.W.Frag} {mg : Str → Option Value} {fa   : Addr} {h : Heap} (hmg : mg "law" = some (.ref fa)) (T : Txt K mg ) : Gx.LawF l w K 10 "_law_script" mg fa h := by
  have T := txt_kap T
  obtain ⟨f, fd, F, b, hb⟩ := T.d_law
  have e := hmg.symm.trans F.mgf
  cases e
  exact ⟨fd, [], spLaw K, fun p hp => (nomatch hp), fun p hp => (nomatch hp), fun p hp => (nomatch hp), hb, fun H a ns hl hbit _ hS => ⟨a, ns, rfl, hS, fun p hp => (nomatch hp), law_true ns hl hbit, fun _ => rfl⟩, fun base _ _ _ => fn_law T F⟩
set_option maxHeartbeats 4000000 in
theorem txt_mk {K : PySem.W.Frag} {h : Heap} {mg : Str → Option Value} {f_is_integer f_s3_is_whole f_is_polynomial f_s3_need f_s3_need_modulus f_s3_product f_s3_parts f_s3_power f_s3_common f_degree f_added f_multiplied f_divided f_common f_power_of f_inverse_of f_s3_primes f_s3_twice f_is_irreducible f_factors_of f_irreducibles f_order_of f__law_begun f__law_next f__law_pick f__law_number f__law_poly f__law_ring_right f__law_divisors_right f__law_field_right f_law : Addr} {od_is_integer an_is_integer od_s3_is_whole an_s3_is_whole od_is_polynomial an_is_polynomial od_s3_need an_s3_need od_s3_need_modulus an_s3_need_modulus od_s3_product an_s3_product od_s3_parts an_s3_parts od_s3_power an_s3_power od_s3_common an_s3_common od_degree an_degree od_added an_added od_multiplied an_multiplied od_divided an_divided od_common an_common od_power_of an_power_of od_inverse_of an_inverse_of od_s3_primes an_s3_primes od_s3_twice an_s3_twice od_is_irreducible an_is_irreducible od_factors_of an_factors_of od_irreducibles an_irreducibles od_order_of an_order_of od__law_begun an__law_begun od__law_next an__law_next od__law_pick an__law_pick od__law_number an__law_number od__law_poly an__law_poly od__law_ring_right an__law_ring_right od__law_divisors_right an__law_divisors_right od__law_field_right an__law_field_right od_law an_law : Option Addr} {sl_is_integer sl_s3_is_whole sl_is_polynomial sl_s3_need sl_s3_need_modulus sl_s3_product sl_s3_parts sl_s3_power sl_s3_common sl_degree sl_added sl_multiplied sl_divided sl_common sl_power_of sl_inverse_of sl_s3_primes sl_s3_twice sl_is_irreducible sl_factors_of sl_irreducibles sl_order_of sl__law_begun sl__law_next sl__law_pick sl__law_number sl__law_poly sl__law_ring_right sl__law_divisors_right sl__law_field_right sl_law : Array (Option Value)} {oc_is_integer kV_is_integer dc_is_integer pm_is_integer cd_is_integer ct_is_integer oc_s3_is_whole kV_s3_is_whole dc_s3_is_whole pm_s3_is_whole cd_s3_is_whole ct_s3_is_whole oc_is_polynomial kV_is_polynomial dc_is_polynomial pm_is_polynomial cd_is_polynomial ct_is_polynomial oc_s3_need kV_s3_need dc_s3_need pm_s3_need cd_s3_need ct_s3_need oc_s3_need_modulus kV_s3_need_modulus dc_s3_need_modulus pm_s3_need_modulus cd_s3_need_modulus ct_s3_need_modulus oc_s3_product kV_s3_product dc_s3_product pm_s3_product cd_s3_product ct_s3_product oc_s3_parts kV_s3_parts dc_s3_parts pm_s3_parts cd_s3_parts ct_s3_parts oc_s3_power kV_s3_power dc_s3_power pm_s3_power cd_s3_power ct_s3_power oc_s3_common kV_s3_common dc_s3_common pm_s3_common cd_s3_common ct_s3_common oc_degree kV_degree dc_degree pm_degree cd_degree ct_degree oc_added kV_added dc_added pm_added cd_added ct_added oc_multiplied kV_multiplied dc_multiplied pm_multiplied cd_multiplied ct_multiplied oc_divided kV_divided dc_divided pm_divided cd_divided ct_divided oc_common kV_common dc_common pm_common cd_common ct_common oc_power_of kV_power_of dc_power_of pm_power_of cd_power_of ct_power_of oc_inverse_of kV_inverse_of dc_inverse_of pm_inverse_of cd_inverse_of ct_inverse_of oc_s3_primes kV_s3_primes dc_s3_primes pm_s3_primes cd_s3_primes ct_s3_primes oc_s3_twice kV_s3_twice dc_s3_twice pm_s3_twice cd_s3_twice ct_s3_twice oc_is_irreducible kV_is_irreducible dc_is_irreducible pm_is_irreducible cd_is_irreducible ct_is_irreducible oc_factors_of kV_factors_of dc_factors_of pm_factors_of cd_factors_of ct_factors_of oc_irreducibles kV_irreducibles dc_irreducibles pm_irreducibles cd_irreducibles ct_irreducibles oc_order_of kV_order_of dc_order_of pm_order_of cd_order_of ct_order_of oc__law_begun kV__law_begun dc__law_begun pm__law_begun cd__law_begun ct__law_begun oc__law_next kV__law_next dc__law_next pm__law_next cd__law_next ct__law_next oc__law_pick kV__law_pick dc__law_pick pm__law_pick cd__law_pick ct__law_pick oc__law_number kV__law_number dc__law_number pm__law_number cd__law_number ct__law_number oc__law_poly kV__law_poly dc__law_poly pm__law_poly cd__law_poly ct__law_poly oc__law_ring_right kV__law_ring_right dc__law_ring_right pm__law_ring_right cd__law_ring_right ct__law_ring_right oc__law_divisors_right kV__law_divisors_right dc__law_divisors_right pm__law_divisors_right cd__law_divisors_right ct__law_divisors_right oc__law_field_right kV__law_field_right dc__law_field_right pm__law_field_right cd__law_field_right ct__law_field_right oc_law kV_law dc_law pm_law cd_law ct_law : Value} {tk_MOST_DIGITS tk_MOST_FACTORED tk_MOST_LISTED tk_MOST_ORDER : Tok} (X : K.In h) (G : h.Ns mainGlobals mg)
    (a_is_integer : PySem.W.nsIn K mainGlobals "is_integer" = some (some (.ref f_is_integer)))
    (l_is_integer : K.lookup f_is_integer = some ⟨oc_is_integer, od_is_integer, .func (PySem.W.fnOf "is_integer" "is_integer" (C8.fnArgs s_is_integer) (C8.fnBody s_is_integer) (C8.fnScope s_is_integer) .none kV_is_integer dc_is_integer pm_is_integer an_is_integer cd_is_integer ct_is_integer), sl_is_integer⟩)
    (c_is_integer : PySem.W.codeIn K cd_is_integer "is_integer" = true)
    (k_is_integer : PySem.W.keepIn K (.ref f_is_integer) = true)
    (a_s3_is_whole : PySem.W.nsIn K mainGlobals "s3_is_whole" = some (some (.ref f_s3_is_whole)))
    (l_s3_is_whole : K.lookup f_s3_is_whole = some ⟨oc_s3_is_whole, od_s3_is_whole, .func (PySem.W.fnOf "s3_is_whole" "s3_is_whole" (C8.fnArgs s_s3_is_whole) (C8.fnBody s_s3_is_whole) (C8.fnScope s_s3_is_whole) .none kV_s3_is_whole dc_s3_is_whole pm_s3_is_whole an_s3_is_whole cd_s3_is_whole ct_s3_is_whole), sl_s3_is_whole⟩)
    (c_s3_is_whole : PySem.W.codeIn K cd_s3_is_whole "s3_is_whole" = true)
    (k_s3_is_whole : PySem.W.keepIn K (.ref f_s3_is_whole) = true)
    (a_is_polynomial : PySem.W.nsIn K mainGlobals "is_polynomial" = some (some (.ref f_is_polynomial)))
    (l_is_polynomial : K.lookup f_is_polynomial = some ⟨oc_is_polynomial, od_is_polynomial, .func (PySem.W.fnOf "is_polynomial" "is_polynomial" (C8.fnArgs s_is_polynomial) (C8.fnBody s_is_polynomial) (C8.fnScope s_is_polynomial) .none kV_is_polynomial dc_is_polynomial pm_is_polynomial an_is_polynomial cd_is_polynomial ct_is_polynomial), sl_is_polynomial⟩)
    (c_is_polynomial : PySem.W.codeIn K cd_is_polynomial "is_polynomial" = true)
    (k_is_polynomial : PySem.W.keepIn K (.ref f_is_polynomial) = true)
    (a_s3_need : PySem.W.nsIn K mainGlobals "s3_need" = some (some (.ref f_s3_need)))
    (l_s3_need : K.lookup f_s3_need = some ⟨oc_s3_need, od_s3_need, .func (PySem.W.fnOf "s3_need" "s3_need" (C8.fnArgs s_s3_need) (C8.fnBody s_s3_need) (C8.fnScope s_s3_need) .none kV_s3_need dc_s3_need pm_s3_need an_s3_need cd_s3_need ct_s3_need), sl_s3_need⟩)
    (c_s3_need : PySem.W.codeIn K cd_s3_need "s3_need" = true)
    (k_s3_need : PySem.W.keepIn K (.ref f_s3_need) = true)
    (a_s3_need_modulus : PySem.W.nsIn K mainGlobals "s3_need_modulus" = some (some (.ref f_s3_need_modulus)))
    (l_s3_need_modulus : K.lookup f_s3_need_modulus = some ⟨oc_s3_need_modulus, od_s3_need_modulus, .func (PySem.W.fnOf "s3_need_modulus" "s3_need_modulus" (C8.fnArgs s_s3_need_modulus) (C8.fnBody s_s3_need_modulus) (C8.fnScope s_s3_need_modulus) .none kV_s3_need_modulus dc_s3_need_modulus pm_s3_need_modulus an_s3_need_modulus cd_s3_need_modulus ct_s3_need_modulus), sl_s3_need_modulus⟩)
    (c_s3_need_modulus : PySem.W.codeIn K cd_s3_need_modulus "s3_need_modulus" = true)
    (k_s3_need_modulus : PySem.W.keepIn K (.ref f_s3_need_modulus) = true)
    (a_s3_product : PySem.W.nsIn K mainGlobals "s3_product" = some (some (.ref f_s3_product)))
    (l_s3_product : K.lookup f_s3_product = some ⟨oc_s3_product, od_s3_product, .func (PySem.W.fnOf "s3_product" "s3_product" (C8.fnArgs s_s3_product) (C8.fnBody s_s3_product) (C8.fnScope s_s3_product) .none kV_s3_product dc_s3_product pm_s3_product an_s3_product cd_s3_product ct_s3_product), sl_s3_product⟩)
    (c_s3_product : PySem.W.codeIn K cd_s3_product "s3_product" = true)
    (k_s3_product : PySem.W.keepIn K (.ref f_s3_product) = true)
    (a_s3_parts : PySem.W.nsIn K mainGlobals "s3_parts" = some (some (.ref f_s3_parts)))
    (l_s3_parts : K.lookup f_s3_parts = some ⟨oc_s3_parts, od_s3_parts, .func (PySem.W.fnOf "s3_parts" "s3_parts" (C8.fnArgs s_s3_parts) (C8.fnBody s_s3_parts) (C8.fnScope s_s3_parts) .none kV_s3_parts dc_s3_parts pm_s3_parts an_s3_parts cd_s3_parts ct_s3_parts), sl_s3_parts⟩)
    (c_s3_parts : PySem.W.codeIn K cd_s3_parts "s3_parts" = true)
    (k_s3_parts : PySem.W.keepIn K (.ref f_s3_parts) = true)
    (a_s3_power : PySem.W.nsIn K mainGlobals "s3_power" = some (some (.ref f_s3_power)))
    (l_s3_power : K.lookup f_s3_power = some ⟨oc_s3_power, od_s3_power, .func (PySem.W.fnOf "s3_power" "s3_power" (C8.fnArgs s_s3_power) (C8.fnBody s_s3_power) (C8.fnScope s_s3_power) .none kV_s3_power dc_s3_power pm_s3_power an_s3_power cd_s3_power ct_s3_power), sl_s3_power⟩)
    (c_s3_power : PySem.W.codeIn K cd_s3_power "s3_power" = true)
    (k_s3_power : PySem.W.keepIn K (.ref f_s3_power) = true)
    (a_s3_common : PySem.W.nsIn K mainGlobals "s3_common" = some (some (.ref f_s3_common)))
    (l_s3_common : K.lookup f_s3_common = some ⟨oc_s3_common, od_s3_common, .func (PySem.W.fnOf "s3_common" "s3_common" (C8.fnArgs s_s3_common) (C8.fnBody s_s3_common) (C8.fnScope s_s3_common) .none kV_s3_common dc_s3_common pm_s3_common an_s3_common cd_s3_common ct_s3_common), sl_s3_common⟩)
    (c_s3_common : PySem.W.codeIn K cd_s3_common "s3_common" = true)
    (k_s3_common : PySem.W.keepIn K (.ref f_s3_common) = true)
    (a_degree : PySem.W.nsIn K mainGlobals "degree" = some (some (.ref f_degree)))
    (l_degree : K.lookup f_degree = some ⟨oc_degree, od_degree, .func (PySem.W.fnOf "degree" "degree" (C8.fnArgs s_degree) (C8.fnBody s_degree) (C8.fnScope s_degree) .none kV_degree dc_degree pm_degree an_degree cd_degree ct_degree), sl_degree⟩)
    (c_degree : PySem.W.codeIn K cd_degree "degree" = true)
    (k_degree : PySem.W.keepIn K (.ref f_degree) = true)
    (a_added : PySem.W.nsIn K mainGlobals "added" = some (some (.ref f_added)))
    (l_added : K.lookup f_added = some ⟨oc_added, od_added, .func (PySem.W.fnOf "added" "added" (C8.fnArgs s_added) (C8.fnBody s_added) (C8.fnScope s_added) .none kV_added dc_added pm_added an_added cd_added ct_added), sl_added⟩)
    (c_added : PySem.W.codeIn K cd_added "added" = true)
    (k_added : PySem.W.keepIn K (.ref f_added) = true)
    (a_multiplied : PySem.W.nsIn K mainGlobals "multiplied" = some (some (.ref f_multiplied)))
    (l_multiplied : K.lookup f_multiplied = some ⟨oc_multiplied, od_multiplied, .func (PySem.W.fnOf "multiplied" "multiplied" (C8.fnArgs s_multiplied) (C8.fnBody s_multiplied) (C8.fnScope s_multiplied) .none kV_multiplied dc_multiplied pm_multiplied an_multiplied cd_multiplied ct_multiplied), sl_multiplied⟩)
    (c_multiplied : PySem.W.codeIn K cd_multiplied "multiplied" = true)
    (k_multiplied : PySem.W.keepIn K (.ref f_multiplied) = true)
    (a_divided : PySem.W.nsIn K mainGlobals "divided" = some (some (.ref f_divided)))
    (l_divided : K.lookup f_divided = some ⟨oc_divided, od_divided, .func (PySem.W.fnOf "divided" "divided" (C8.fnArgs s_divided) (C8.fnBody s_divided) (C8.fnScope s_divided) .none kV_divided dc_divided pm_divided an_divided cd_divided ct_divided), sl_divided⟩)
    (c_divided : PySem.W.codeIn K cd_divided "divided" = true)
    (k_divided : PySem.W.keepIn K (.ref f_divided) = true)
    (a_common : PySem.W.nsIn K mainGlobals "common" = some (some (.ref f_common)))
    (l_common : K.lookup f_common = some ⟨oc_common, od_common, .func (PySem.W.fnOf "common" "common" (C8.fnArgs s_common) (C8.fnBody s_common) (C8.fnScope s_common) .none kV_common dc_common pm_common an_common cd_common ct_common), sl_common⟩)
    (c_common : PySem.W.codeIn K cd_common "common" = true)
    (k_common : PySem.W.keepIn K (.ref f_common) = true)
    (a_power_of : PySem.W.nsIn K mainGlobals "power_of" = some (some (.ref f_power_of)))
    (l_power_of : K.lookup f_power_of = some ⟨oc_power_of, od_power_of, .func (PySem.W.fnOf "power_of" "power_of" (C8.fnArgs s_power_of) (C8.fnBody s_power_of) (C8.fnScope s_power_of) .none kV_power_of dc_power_of pm_power_of an_power_of cd_power_of ct_power_of), sl_power_of⟩)
    (c_power_of : PySem.W.codeIn K cd_power_of "power_of" = true)
    (k_power_of : PySem.W.keepIn K (.ref f_power_of) = true)
    (a_inverse_of : PySem.W.nsIn K mainGlobals "inverse_of" = some (some (.ref f_inverse_of)))
    (l_inverse_of : K.lookup f_inverse_of = some ⟨oc_inverse_of, od_inverse_of, .func (PySem.W.fnOf "inverse_of" "inverse_of" (C8.fnArgs s_inverse_of) (C8.fnBody s_inverse_of) (C8.fnScope s_inverse_of) .none kV_inverse_of dc_inverse_of pm_inverse_of an_inverse_of cd_inverse_of ct_inverse_of), sl_inverse_of⟩)
    (c_inverse_of : PySem.W.codeIn K cd_inverse_of "inverse_of" = true)
    (k_inverse_of : PySem.W.keepIn K (.ref f_inverse_of) = true)
    (a_s3_primes : PySem.W.nsIn K mainGlobals "s3_primes" = some (some (.ref f_s3_primes)))
    (l_s3_primes : K.lookup f_s3_primes = some ⟨oc_s3_primes, od_s3_primes, .func (PySem.W.fnOf "s3_primes" "s3_primes" (C8.fnArgs s_s3_primes) (C8.fnBody s_s3_primes) (C8.fnScope s_s3_primes) .none kV_s3_primes dc_s3_primes pm_s3_primes an_s3_primes cd_s3_primes ct_s3_primes), sl_s3_primes⟩)
    (c_s3_primes : PySem.W.codeIn K cd_s3_primes "s3_primes" = true)
    (k_s3_primes : PySem.W.keepIn K (.ref f_s3_primes) = true)
    (a_s3_twice : PySem.W.nsIn K mainGlobals "s3_twice" = some (some (.ref f_s3_twice)))
    (l_s3_twice : K.lookup f_s3_twice = some ⟨oc_s3_twice, od_s3_twice, .func (PySem.W.fnOf "s3_twice" "s3_twice" (C8.fnArgs s_s3_twice) (C8.fnBody s_s3_twice) (C8.fnScope s_s3_twice) .none kV_s3_twice dc_s3_twice pm_s3_twice an_s3_twice cd_s3_twice ct_s3_twice), sl_s3_twice⟩)
    (c_s3_twice : PySem.W.codeIn K cd_s3_twice "s3_twice" = true)
    (k_s3_twice : PySem.W.keepIn K (.ref f_s3_twice) = true)
    (a_is_irreducible : PySem.W.nsIn K mainGlobals "is_irreducible" = some (some (.ref f_is_irreducible)))
    (l_is_irreducible : K.lookup f_is_irreducible = some ⟨oc_is_irreducible, od_is_irreducible, .func (PySem.W.fnOf "is_irreducible" "is_irreducible" (C8.fnArgs s_is_irreducible) (C8.fnBody s_is_irreducible) (C8.fnScope s_is_irreducible) .none kV_is_irreducible dc_is_irreducible pm_is_irreducible an_is_irreducible cd_is_irreducible ct_is_irreducible), sl_is_irreducible⟩)
    (c_is_irreducible : PySem.W.codeIn K cd_is_irreducible "is_irreducible" = true)
    (k_is_irreducible : PySem.W.keepIn K (.ref f_is_irreducible) = true)
    (a_factors_of : PySem.W.nsIn K mainGlobals "factors_of" = some (some (.ref f_factors_of)))
    (l_factors_of : K.lookup f_factors_of = some ⟨oc_factors_of, od_factors_of, .func (PySem.W.fnOf "factors_of" "factors_of" (C8.fnArgs s_factors_of) (C8.fnBody s_factors_of) (C8.fnScope s_factors_of) .none kV_factors_of dc_factors_of pm_factors_of an_factors_of cd_factors_of ct_factors_of), sl_factors_of⟩)
    (c_factors_of : PySem.W.codeIn K cd_factors_of "factors_of" = true)
    (k_factors_of : PySem.W.keepIn K (.ref f_factors_of) = true)
    (a_irreducibles : PySem.W.nsIn K mainGlobals "irreducibles" = some (some (.ref f_irreducibles)))
    (l_irreducibles : K.lookup f_irreducibles = some ⟨oc_irreducibles, od_irreducibles, .func (PySem.W.fnOf "irreducibles" "irreducibles" (C8.fnArgs s_irreducibles) (C8.fnBody s_irreducibles) (C8.fnScope s_irreducibles) .none kV_irreducibles dc_irreducibles pm_irreducibles an_irreducibles cd_irreducibles ct_irreducibles), sl_irreducibles⟩)
    (c_irreducibles : PySem.W.codeIn K cd_irreducibles "irreducibles" = true)
    (k_irreducibles : PySem.W.keepIn K (.ref f_irreducibles) = true)
    (a_order_of : PySem.W.nsIn K mainGlobals "order_of" = some (some (.ref f_order_of)))
    (l_order_of : K.lookup f_order_of = some ⟨oc_order_of, od_order_of, .func (PySem.W.fnOf "order_of" "order_of" (C8.fnArgs s_order_of) (C8.fnBody s_order_of) (C8.fnScope s_order_of) .none kV_order_of dc_order_of pm_order_of an_order_of cd_order_of ct_order_of), sl_order_of⟩)
    (c_order_of : PySem.W.codeIn K cd_order_of "order_of" = true)
    (k_order_of : PySem.W.keepIn K (.ref f_order_of) = true)
    (a__law_begun : PySem.W.nsIn K mainGlobals "_law_begun" = some (some (.ref f__law_begun)))
    (l__law_begun : K.lookup f__law_begun = some ⟨oc__law_begun, od__law_begun, .func (PySem.W.fnOf "_law_begun" "_law_begun" (C8.fnArgs s__law_begun) (C8.fnBody s__law_begun) (C8.fnScope s__law_begun) .none kV__law_begun dc__law_begun pm__law_begun an__law_begun cd__law_begun ct__law_begun), sl__law_begun⟩)
    (c__law_begun : PySem.W.codeIn K cd__law_begun "_law_begun" = true)
    (k__law_begun : PySem.W.keepIn K (.ref f__law_begun) = true)
    (a__law_next : PySem.W.nsIn K mainGlobals "_law_next" = some (some (.ref f__law_next)))
    (l__law_next : K.lookup f__law_next = some ⟨oc__law_next, od__law_next, .func (PySem.W.fnOf "_law_next" "_law_next" (C8.fnArgs s__law_next) (C8.fnBody s__law_next) (C8.fnScope s__law_next) .none kV__law_next dc__law_next pm__law_next an__law_next cd__law_next ct__law_next), sl__law_next⟩)
    (c__law_next : PySem.W.codeIn K cd__law_next "_law_next" = true)
    (k__law_next : PySem.W.keepIn K (.ref f__law_next) = true)
    (a__law_pick : PySem.W.nsIn K mainGlobals "_law_pick" = some (some (.ref f__law_pick)))
    (l__law_pick : K.lookup f__law_pick = some ⟨oc__law_pick, od__law_pick, .func (PySem.W.fnOf "_law_pick" "_law_pick" (C8.fnArgs s__law_pick) (C8.fnBody s__law_pick) (C8.fnScope s__law_pick) .none kV__law_pick dc__law_pick pm__law_pick an__law_pick cd__law_pick ct__law_pick), sl__law_pick⟩)
    (c__law_pick : PySem.W.codeIn K cd__law_pick "_law_pick" = true)
    (k__law_pick : PySem.W.keepIn K (.ref f__law_pick) = true)
    (a__law_number : PySem.W.nsIn K mainGlobals "_law_number" = some (some (.ref f__law_number)))
    (l__law_number : K.lookup f__law_number = some ⟨oc__law_number, od__law_number, .func (PySem.W.fnOf "_law_number" "_law_number" (C8.fnArgs s__law_number) (C8.fnBody s__law_number) (C8.fnScope s__law_number) .none kV__law_number dc__law_number pm__law_number an__law_number cd__law_number ct__law_number), sl__law_number⟩)
    (c__law_number : PySem.W.codeIn K cd__law_number "_law_number" = true)
    (k__law_number : PySem.W.keepIn K (.ref f__law_number) = true)
    (a__law_poly : PySem.W.nsIn K mainGlobals "_law_poly" = some (some (.ref f__law_poly)))
    (l__law_poly : K.lookup f__law_poly = some ⟨oc__law_poly, od__law_poly, .func (PySem.W.fnOf "_law_poly" "_law_poly" (C8.fnArgs s__law_poly) (C8.fnBody s__law_poly) (C8.fnScope s__law_poly) .none kV__law_poly dc__law_poly pm__law_poly an__law_poly cd__law_poly ct__law_poly), sl__law_poly⟩)
    (c__law_poly : PySem.W.codeIn K cd__law_poly "_law_poly" = true)
    (k__law_poly : PySem.W.keepIn K (.ref f__law_poly) = true)
    (a__law_ring_right : PySem.W.nsIn K mainGlobals "_law_ring_right" = some (some (.ref f__law_ring_right)))
    (l__law_ring_right : K.lookup f__law_ring_right = some ⟨oc__law_ring_right, od__law_ring_right, .func (PySem.W.fnOf "_law_ring_right" "_law_ring_right" (C8.fnArgs s__law_ring_right) (C8.fnBody s__law_ring_right) (C8.fnScope s__law_ring_right) .none kV__law_ring_right dc__law_ring_right pm__law_ring_right an__law_ring_right cd__law_ring_right ct__law_ring_right), sl__law_ring_right⟩)
    (c__law_ring_right : PySem.W.codeIn K cd__law_ring_right "_law_ring_right" = true)
    (k__law_ring_right : PySem.W.keepIn K (.ref f__law_ring_right) = true)
    (a__law_divisors_right : PySem.W.nsIn K mainGlobals "_law_divisors_right" = some (some (.ref f__law_divisors_right)))
    (l__law_divisors_right : K.lookup f__law_divisors_right = some ⟨oc__law_divisors_right, od__law_divisors_right, .func (PySem.W.fnOf "_law_divisors_right" "_law_divisors_right" (C8.fnArgs s__law_divisors_right) (C8.fnBody s__law_divisors_right) (C8.fnScope s__law_divisors_right) .none kV__law_divisors_right dc__law_divisors_right pm__law_divisors_right an__law_divisors_right cd__law_divisors_right ct__law_divisors_right), sl__law_divisors_right⟩)
    (c__law_divisors_right : PySem.W.codeIn K cd__law_divisors_right "_law_divisors_right" = true)
    (k__law_divisors_right : PySem.W.keepIn K (.ref f__law_divisors_right) = true)
    (a__law_field_right : PySem.W.nsIn K mainGlobals "_law_field_right" = some (some (.ref f__law_field_right)))
    (l__law_field_right : K.lookup f__law_field_right = some ⟨oc__law_field_right, od__law_field_right, .func (PySem.W.fnOf "_law_field_right" "_law_field_right" (C8.fnArgs s__law_field_right) (C8.fnBody s__law_field_right) (C8.fnScope s__law_field_right) .none kV__law_field_right dc__law_field_right pm__law_field_right an__law_field_right cd__law_field_right ct__law_field_right), sl__law_field_right⟩)
    (c__law_field_right : PySem.W.codeIn K cd__law_field_right "_law_field_right" = true)
    (k__law_field_right : PySem.W.keepIn K (.ref f__law_field_right) = true)
    (a_law : PySem.W.nsIn K mainGlobals "law" = some (some (.ref f_law)))
    (l_law : K.lookup f_law = some ⟨oc_law, od_law, .func (PySem.W.fnOf "law" "law" (C8.fnArgs s_law) (C8.fnBody s_law) (C8.fnScope s_law) .none kV_law dc_law pm_law an_law cd_law ct_law), sl_law⟩)
    (c_law : PySem.W.codeIn K cd_law "law" = true)
    (k_law : PySem.W.keepIn K (.ref f_law) = true)
    (e_MOST_DIGITS : PySem.W.nsIn K mainGlobals "MOST_DIGITS" = some (some (.int 512 tk_MOST_DIGITS)))
    (e_MOST_FACTORED : PySem.W.nsIn K mainGlobals "MOST_FACTORED" = some (some (.int 16 tk_MOST_FACTORED)))
    (e_MOST_LISTED : PySem.W.nsIn K mainGlobals "MOST_LISTED" = some (some (.int 10 tk_MOST_LISTED)))
    (e_MOST_ORDER : PySem.W.nsIn K mainGlobals "MOST_ORDER" = some (some (.int 32 tk_MOST_ORDER)))
    (z_all : PySem.W.nsIn K mainGlobals "all" = some none)
    (z_bool : PySem.W.nsIn K mainGlobals "bool" = some none)
    (z_enumerate : PySem.W.nsIn K mainGlobals "enumerate" = some none)
    (z_int : PySem.W.nsIn K mainGlobals "int" = some none)
    (z_isinstance : PySem.W.nsIn K mainGlobals "isinstance" = some none)
    (z_len : PySem.W.nsIn K mainGlobals "len" = some none)
    (z_list : PySem.W.nsIn K mainGlobals "list" = some none)
    (z_max : PySem.W.nsIn K mainGlobals "max" = some none)
    (z_min : PySem.W.nsIn K mainGlobals "min" = some none)
    (z_range : PySem.W.nsIn K mainGlobals "range" = some none)
    (z_sorted : PySem.W.nsIn K mainGlobals "sorted" = some none)
    (z_tuple : PySem.W.nsIn K mainGlobals "tuple" = some none)
    : Txt K mg  :=
  { d_is_integer := ⟨f_is_integer, _, ⟨⟨⟨oc_is_integer, od_is_integer, .none, kV_is_integer, dc_is_integer, pm_is_integer, an_is_integer, cd_is_integer, ct_is_integer, sl_is_integer, rfl, l_is_integer, c_is_integer⟩⟩, PySem.W.mg_of X G a_is_integer, k_is_integer⟩, C8.Fun.binds (x := "is_integer") (qual := "is_integer") (st := s_is_integer) (f := f_is_integer) ⟨⟨oc_is_integer, od_is_integer, .none, kV_is_integer, dc_is_integer, pm_is_integer, an_is_integer, cd_is_integer, ct_is_integer, sl_is_integer, rfl, l_is_integer, c_is_integer⟩⟩ rfl (fun _ _ _ _ _ _ us hl => match us, hl with | [_], _ => rfl)⟩,
    d_s3_is_whole := ⟨f_s3_is_whole, _, ⟨⟨⟨oc_s3_is_whole, od_s3_is_whole, .none, kV_s3_is_whole, dc_s3_is_whole, pm_s3_is_whole, an_s3_is_whole, cd_s3_is_whole, ct_s3_is_whole, sl_s3_is_whole, rfl, l_s3_is_whole, c_s3_is_whole⟩⟩, PySem.W.mg_of X G a_s3_is_whole, k_s3_is_whole⟩, C8.Fun.binds (x := "s3_is_whole") (qual := "s3_is_whole") (st := s_s3_is_whole) (f := f_s3_is_whole) ⟨⟨oc_s3_is_whole, od_s3_is_whole, .none, kV_s3_is_whole, dc_s3_is_whole, pm_s3_is_whole, an_s3_is_whole, cd_s3_is_whole, ct_s3_is_whole, sl_s3_is_whole, rfl, l_s3_is_whole, c_s3_is_whole⟩⟩ rfl (fun _ _ _ _ _ _ us hl => match us, hl with | [_, _, _], _ => rfl)⟩,
    d_is_polynomial := ⟨f_is_polynomial, _, ⟨⟨⟨oc_is_polynomial, od_is_polynomial, .none, kV_is_polynomial, dc_is_polynomial, pm_is_polynomial, an_is_polynomial, cd_is_polynomial, ct_is_polynomial, sl_is_polynomial, rfl, l_is_polynomial, c_is_polynomial⟩⟩, PySem.W.mg_of X G a_is_polynomial, k_is_polynomial⟩, C8.Fun.binds (x := "is_polynomial") (qual := "is_polynomial") (st := s_is_polynomial) (f := f_is_polynomial) ⟨⟨oc_is_polynomial, od_is_polynomial, .none, kV_is_polynomial, dc_is_polynomial, pm_is_polynomial, an_is_polynomial, cd_is_polynomial, ct_is_polynomial, sl_is_polynomial, rfl, l_is_polynomial, c_is_polynomial⟩⟩ rfl (fun _ _ _ _ _ _ us hl => match us, hl with | [_], _ => rfl)⟩,
    d_s3_need := ⟨f_s3_need, _, ⟨⟨⟨oc_s3_need, od_s3_need, .none, kV_s3_need, dc_s3_need, pm_s3_need, an_s3_need, cd_s3_need, ct_s3_need, sl_s3_need, rfl, l_s3_need, c_s3_need⟩⟩, PySem.W.mg_of X G a_s3_need, k_s3_need⟩, Gx.starB_of rfl (fun _ _ => rfl)⟩,
    d_s3_need_modulus := ⟨f_s3_need_modulus, _, ⟨⟨⟨oc_s3_need_modulus, od_s3_need_modulus, .none, kV_s3_need_modulus, dc_s3_need_modulus, pm_s3_need_modulus, an_s3_need_modulus, cd_s3_need_modulus, ct_s3_need_modulus, sl_s3_need_modulus, rfl, l_s3_need_modulus, c_s3_need_modulus⟩⟩, PySem.W.mg_of X G a_s3_need_modulus, k_s3_need_modulus⟩, C8.Fun.binds (x := "s3_need_modulus") (qual := "s3_need_modulus") (st := s_s3_need_modulus) (f := f_s3_need_modulus) ⟨⟨oc_s3_need_modulus, od_s3_need_modulus, .none, kV_s3_need_modulus, dc_s3_need_modulus, pm_s3_need_modulus, an_s3_need_modulus, cd_s3_need_modulus, ct_s3_need_modulus, sl_s3_need_modulus, rfl, l_s3_need_modulus, c_s3_need_modulus⟩⟩ rfl (fun _ _ _ _ _ _ us hl => match us, hl with | [_], _ => rfl)⟩,
    d_s3_product := ⟨f_s3_product, _, ⟨⟨⟨oc_s3_product, od_s3_product, .none, kV_s3_product, dc_s3_product, pm_s3_product, an_s3_product, cd_s3_product, ct_s3_product, sl_s3_product, rfl, l_s3_product, c_s3_product⟩⟩, PySem.W.mg_of X G a_s3_product, k_s3_product⟩, C8.Fun.binds (x := "s3_product") (qual := "s3_product") (st := s_s3_product) (f := f_s3_product) ⟨⟨oc_s3_product, od_s3_product, .none, kV_s3_product, dc_s3_product, pm_s3_product, an_s3_product, cd_s3_product, ct_s3_product, sl_s3_product, rfl, l_s3_product, c_s3_product⟩⟩ rfl (fun _ _ _ _ _ _ us hl => match us, hl with | [_, _], _ => rfl)⟩,
    d_s3_parts := ⟨f_s3_parts, _, ⟨⟨⟨oc_s3_parts, od_s3_parts, .none, kV_s3_parts, dc_s3_parts, pm_s3_parts, an_s3_parts, cd_s3_parts, ct_s3_parts, sl_s3_parts, rfl, l_s3_parts, c_s3_parts⟩⟩, PySem.W.mg_of X G a_s3_parts, k_s3_parts⟩, C8.Fun.binds (x := "s3_parts") (qual := "s3_parts") (st := s_s3_parts) (f := f_s3_parts) ⟨⟨oc_s3_parts, od_s3_parts, .none, kV_s3_parts, dc_s3_parts, pm_s3_parts, an_s3_parts, cd_s3_parts, ct_s3_parts, sl_s3_parts, rfl, l_s3_parts, c_s3_parts⟩⟩ rfl (fun _ _ _ _ _ _ us hl => match us, hl with | [_, _], _ => rfl)⟩,
    d_s3_power := ⟨f_s3_power, _, ⟨⟨⟨oc_s3_power, od_s3_power, .none, kV_s3_power, dc_s3_power, pm_s3_power, an_s3_power, cd_s3_power, ct_s3_power, sl_s3_power, rfl, l_s3_power, c_s3_power⟩⟩, PySem.W.mg_of X G a_s3_power, k_s3_power⟩, C8.Fun.binds (x := "s3_power") (qual := "s3_power") (st := s_s3_power) (f := f_s3_power) ⟨⟨oc_s3_power, od_s3_power, .none, kV_s3_power, dc_s3_power, pm_s3_power, an_s3_power, cd_s3_power, ct_s3_power, sl_s3_power, rfl, l_s3_power, c_s3_power⟩⟩ rfl (fun _ _ _ _ _ _ us hl => match us, hl with | [_, _, _], _ => rfl)⟩,
    d_s3_common := ⟨f_s3_common, _, ⟨⟨⟨oc_s3_common, od_s3_common, .none, kV_s3_common, dc_s3_common, pm_s3_common, an_s3_common, cd_s3_common, ct_s3_common, sl_s3_common, rfl, l_s3_common, c_s3_common⟩⟩, PySem.W.mg_of X G a_s3_common, k_s3_common⟩, C8.Fun.binds (x := "s3_common") (qual := "s3_common") (st := s_s3_common) (f := f_s3_common) ⟨⟨oc_s3_common, od_s3_common, .none, kV_s3_common, dc_s3_common, pm_s3_common, an_s3_common, cd_s3_common, ct_s3_common, sl_s3_common, rfl, l_s3_common, c_s3_common⟩⟩ rfl (fun _ _ _ _ _ _ us hl => match us, hl with | [_, _], _ => rfl)⟩,
    d_degree := ⟨f_degree, _, ⟨⟨⟨oc_degree, od_degree, .none, kV_degree, dc_degree, pm_degree, an_degree, cd_degree, ct_degree, sl_degree, rfl, l_degree, c_degree⟩⟩, PySem.W.mg_of X G a_degree, k_degree⟩, C8.Fun.binds (x := "degree") (qual := "degree") (st := s_degree) (f := f_degree) ⟨⟨oc_degree, od_degree, .none, kV_degree, dc_degree, pm_degree, an_degree, cd_degree, ct_degree, sl_degree, rfl, l_degree, c_degree⟩⟩ rfl (fun _ _ _ _ _ _ us hl => match us, hl with | [_], _ => rfl)⟩,
    d_added := ⟨f_added, _, ⟨⟨⟨oc_added, od_added, .none, kV_added, dc_added, pm_added, an_added, cd_added, ct_added, sl_added, rfl, l_added, c_added⟩⟩, PySem.W.mg_of X G a_added, k_added⟩, C8.Fun.binds (x := "added") (qual := "added") (st := s_added) (f := f_added) ⟨⟨oc_added, od_added, .none, kV_added, dc_added, pm_added, an_added, cd_added, ct_added, sl_added, rfl, l_added, c_added⟩⟩ rfl (fun _ _ _ _ _ _ us hl => match us, hl with | [_, _], _ => rfl)⟩,
    d_multiplied := ⟨f_multiplied, _, ⟨⟨⟨oc_multiplied, od_multiplied, .none, kV_multiplied, dc_multiplied, pm_multiplied, an_multiplied, cd_multiplied, ct_multiplied, sl_multiplied, rfl, l_multiplied, c_multiplied⟩⟩, PySem.W.mg_of X G a_multiplied, k_multiplied⟩, C8.Fun.binds (x := "multiplied") (qual := "multiplied") (st := s_multiplied) (f := f_multiplied) ⟨⟨oc_multiplied, od_multiplied, .none, kV_multiplied, dc_multiplied, pm_multiplied, an_multiplied, cd_multiplied, ct_multiplied, sl_multiplied, rfl, l_multiplied, c_multiplied⟩⟩ rfl (fun _ _ _ _ _ _ us hl => match us, hl with | [_, _], _ => rfl)⟩,
    d_divided := ⟨f_divided, _, ⟨⟨⟨oc_divided, od_divided, .none, kV_divided, dc_divided, pm_divided, an_divided, cd_divided, ct_divided, sl_divided, rfl, l_divided, c_divided⟩⟩, PySem.W.mg_of X G a_divided, k_divided⟩, C8.Fun.binds (x := "divided") (qual := "divided") (st := s_divided) (f := f_divided) ⟨⟨oc_divided, od_divided, .none, kV_divided, dc_divided, pm_divided, an_divided, cd_divided, ct_divided, sl_divided, rfl, l_divided, c_divided⟩⟩ rfl (fun _ _ _ _ _ _ us hl => match us, hl with | [_, _], _ => rfl)⟩,
    d_common := ⟨f_common, _, ⟨⟨⟨oc_common, od_common, .none, kV_common, dc_common, pm_common, an_common, cd_common, ct_common, sl_common, rfl, l_common, c_common⟩⟩, PySem.W.mg_of X G a_common, k_common⟩, C8.Fun.binds (x := "common") (qual := "common") (st := s_common) (f := f_common) ⟨⟨oc_common, od_common, .none, kV_common, dc_common, pm_common, an_common, cd_common, ct_common, sl_common, rfl, l_common, c_common⟩⟩ rfl (fun _ _ _ _ _ _ us hl => match us, hl with | [_, _], _ => rfl)⟩,
    d_power_of := ⟨f_power_of, _, ⟨⟨⟨oc_power_of, od_power_of, .none, kV_power_of, dc_power_of, pm_power_of, an_power_of, cd_power_of, ct_power_of, sl_power_of, rfl, l_power_of, c_power_of⟩⟩, PySem.W.mg_of X G a_power_of, k_power_of⟩, C8.Fun.binds (x := "power_of") (qual := "power_of") (st := s_power_of) (f := f_power_of) ⟨⟨oc_power_of, od_power_of, .none, kV_power_of, dc_power_of, pm_power_of, an_power_of, cd_power_of, ct_power_of, sl_power_of, rfl, l_power_of, c_power_of⟩⟩ rfl (fun _ _ _ _ _ _ us hl => match us, hl with | [_, _, _], _ => rfl)⟩,
    d_inverse_of := ⟨f_inverse_of, _, ⟨⟨⟨oc_inverse_of, od_inverse_of, .none, kV_inverse_of, dc_inverse_of, pm_inverse_of, an_inverse_of, cd_inverse_of, ct_inverse_of, sl_inverse_of, rfl, l_inverse_of, c_inverse_of⟩⟩, PySem.W.mg_of X G a_inverse_of, k_inverse_of⟩, C8.Fun.binds (x := "inverse_of") (qual := "inverse_of") (st := s_inverse_of) (f := f_inverse_of) ⟨⟨oc_inverse_of, od_inverse_of, .none, kV_inverse_of, dc_inverse_of, pm_inverse_of, an_inverse_of, cd_inverse_of, ct_inverse_of, sl_inverse_of, rfl, l_inverse_of, c_inverse_of⟩⟩ rfl (fun _ _ _ _ _ _ us hl => match us, hl with | [_, _], _ => rfl)⟩,
    d_s3_primes := ⟨f_s3_primes, _, ⟨⟨⟨oc_s3_primes, od_s3_primes, .none, kV_s3_primes, dc_s3_primes, pm_s3_primes, an_s3_primes, cd_s3_primes, ct_s3_primes, sl_s3_primes, rfl, l_s3_primes, c_s3_primes⟩⟩, PySem.W.mg_of X G a_s3_primes, k_s3_primes⟩, C8.Fun.binds (x := "s3_primes") (qual := "s3_primes") (st := s_s3_primes) (f := f_s3_primes) ⟨⟨oc_s3_primes, od_s3_primes, .none, kV_s3_primes, dc_s3_primes, pm_s3_primes, an_s3_primes, cd_s3_primes, ct_s3_primes, sl_s3_primes, rfl, l_s3_primes, c_s3_primes⟩⟩ rfl (fun _ _ _ _ _ _ us hl => match us, hl with | [_], _ => rfl)⟩,
    d_s3_twice := ⟨f_s3_twice, _, ⟨⟨⟨oc_s3_twice, od_s3_twice, .none, kV_s3_twice, dc_s3_twice, pm_s3_twice, an_s3_twice, cd_s3_twice, ct_s3_twice, sl_s3_twice, rfl, l_s3_twice, c_s3_twice⟩⟩, PySem.W.mg_of X G a_s3_twice, k_s3_twice⟩, C8.Fun.binds (x := "s3_twice") (qual := "s3_twice") (st := s_s3_twice) (f := f_s3_twice) ⟨⟨oc_s3_twice, od_s3_twice, .none, kV_s3_twice, dc_s3_twice, pm_s3_twice, an_s3_twice, cd_s3_twice, ct_s3_twice, sl_s3_twice, rfl, l_s3_twice, c_s3_twice⟩⟩ rfl (fun _ _ _ _ _ _ us hl => match us, hl with | [_, _, _], _ => rfl)⟩,
    d_is_irreducible := ⟨f_is_irreducible, _, ⟨⟨⟨oc_is_irreducible, od_is_irreducible, .none, kV_is_irreducible, dc_is_irreducible, pm_is_irreducible, an_is_irreducible, cd_is_irreducible, ct_is_irreducible, sl_is_irreducible, rfl, l_is_irreducible, c_is_irreducible⟩⟩, PySem.W.mg_of X G a_is_irreducible, k_is_irreducible⟩, C8.Fun.binds (x := "is_irreducible") (qual := "is_irreducible") (st := s_is_irreducible) (f := f_is_irreducible) ⟨⟨oc_is_irreducible, od_is_irreducible, .none, kV_is_irreducible, dc_is_irreducible, pm_is_irreducible, an_is_irreducible, cd_is_irreducible, ct_is_irreducible, sl_is_irreducible, rfl, l_is_irreducible, c_is_irreducible⟩⟩ rfl (fun _ _ _ _ _ _ us hl => match us, hl with | [_], _ => rfl)⟩,
    d_factors_of := ⟨f_factors_of, _, ⟨⟨⟨oc_factors_of, od_factors_of, .none, kV_factors_of, dc_factors_of, pm_factors_of, an_factors_of, cd_factors_of, ct_factors_of, sl_factors_of, rfl, l_factors_of, c_factors_of⟩⟩, PySem.W.mg_of X G a_factors_of, k_factors_of⟩, C8.Fun.binds (x := "factors_of") (qual := "factors_of") (st := s_factors_of) (f := f_factors_of) ⟨⟨oc_factors_of, od_factors_of, .none, kV_factors_of, dc_factors_of, pm_factors_of, an_factors_of, cd_factors_of, ct_factors_of, sl_factors_of, rfl, l_factors_of, c_factors_of⟩⟩ rfl (fun _ _ _ _ _ _ us hl => match us, hl with | [_], _ => rfl)⟩,
    d_irreducibles := ⟨f_irreducibles, _, ⟨⟨⟨oc_irreducibles, od_irreducibles, .none, kV_irreducibles, dc_irreducibles, pm_irreducibles, an_irreducibles, cd_irreducibles, ct_irreducibles, sl_irreducibles, rfl, l_irreducibles, c_irreducibles⟩⟩, PySem.W.mg_of X G a_irreducibles, k_irreducibles⟩, C8.Fun.binds (x := "irreducibles") (qual := "irreducibles") (st := s_irreducibles) (f := f_irreducibles) ⟨⟨oc_irreducibles, od_irreducibles, .none, kV_irreducibles, dc_irreducibles, pm_irreducibles, an_irreducibles, cd_irreducibles, ct_irreducibles, sl_irreducibles, rfl, l_irreducibles, c_irreducibles⟩⟩ rfl (fun _ _ _ _ _ _ us hl => match us, hl with | [_], _ => rfl)⟩,
    d_order_of := ⟨f_order_of, _, ⟨⟨⟨oc_order_of, od_order_of, .none, kV_order_of, dc_order_of, pm_order_of, an_order_of, cd_order_of, ct_order_of, sl_order_of, rfl, l_order_of, c_order_of⟩⟩, PySem.W.mg_of X G a_order_of, k_order_of⟩, C8.Fun.binds (x := "order_of") (qual := "order_of") (st := s_order_of) (f := f_order_of) ⟨⟨oc_order_of, od_order_of, .none, kV_order_of, dc_order_of, pm_order_of, an_order_of, cd_order_of, ct_order_of, sl_order_of, rfl, l_order_of, c_order_of⟩⟩ rfl (fun _ _ _ _ _ _ us hl => match us, hl with | [_, _], _ => rfl)⟩,
    d__law_begun := ⟨f__law_begun, _, ⟨⟨⟨oc__law_begun, od__law_begun, .none, kV__law_begun, dc__law_begun, pm__law_begun, an__law_begun, cd__law_begun, ct__law_begun, sl__law_begun, rfl, l__law_begun, c__law_begun⟩⟩, PySem.W.mg_of X G a__law_begun, k__law_begun⟩, C8.Fun.binds (x := "_law_begun") (qual := "_law_begun") (st := s__law_begun) (f := f__law_begun) ⟨⟨oc__law_begun, od__law_begun, .none, kV__law_begun, dc__law_begun, pm__law_begun, an__law_begun, cd__law_begun, ct__law_begun, sl__law_begun, rfl, l__law_begun, c__law_begun⟩⟩ rfl (fun _ _ _ _ _ _ us hl => match us, hl with | [_], _ => rfl)⟩,
    d__law_next := ⟨f__law_next, _, ⟨⟨⟨oc__law_next, od__law_next, .none, kV__law_next, dc__law_next, pm__law_next, an__law_next, cd__law_next, ct__law_next, sl__law_next, rfl, l__law_next, c__law_next⟩⟩, PySem.W.mg_of X G a__law_next, k__law_next⟩, C8.Fun.binds (x := "_law_next") (qual := "_law_next") (st := s__law_next) (f := f__law_next) ⟨⟨oc__law_next, od__law_next, .none, kV__law_next, dc__law_next, pm__law_next, an__law_next, cd__law_next, ct__law_next, sl__law_next, rfl, l__law_next, c__law_next⟩⟩ rfl (fun _ _ _ _ _ _ us hl => match us, hl with | [_, _], _ => rfl)⟩,
    d__law_pick := ⟨f__law_pick, _, ⟨⟨⟨oc__law_pick, od__law_pick, .none, kV__law_pick, dc__law_pick, pm__law_pick, an__law_pick, cd__law_pick, ct__law_pick, sl__law_pick, rfl, l__law_pick, c__law_pick⟩⟩, PySem.W.mg_of X G a__law_pick, k__law_pick⟩, C8.Fun.binds (x := "_law_pick") (qual := "_law_pick") (st := s__law_pick) (f := f__law_pick) ⟨⟨oc__law_pick, od__law_pick, .none, kV__law_pick, dc__law_pick, pm__law_pick, an__law_pick, cd__law_pick, ct__law_pick, sl__law_pick, rfl, l__law_pick, c__law_pick⟩⟩ rfl (fun _ _ _ _ _ _ us hl => match us, hl with | [_, _], _ => rfl)⟩,
    d__law_number := ⟨f__law_number, _, ⟨⟨⟨oc__law_number, od__law_number, .none, kV__law_number, dc__law_number, pm__law_number, an__law_number, cd__law_number, ct__law_number, sl__law_number, rfl, l__law_number, c__law_number⟩⟩, PySem.W.mg_of X G a__law_number, k__law_number⟩, C8.Fun.binds (x := "_law_number") (qual := "_law_number") (st := s__law_number) (f := f__law_number) ⟨⟨oc__law_number, od__law_number, .none, kV__law_number, dc__law_number, pm__law_number, an__law_number, cd__law_number, ct__law_number, sl__law_number, rfl, l__law_number, c__law_number⟩⟩ rfl (fun _ _ _ _ _ _ us hl => match us, hl with | [_], _ => rfl)⟩,
    d__law_poly := ⟨f__law_poly, _, ⟨⟨⟨oc__law_poly, od__law_poly, .none, kV__law_poly, dc__law_poly, pm__law_poly, an__law_poly, cd__law_poly, ct__law_poly, sl__law_poly, rfl, l__law_poly, c__law_poly⟩⟩, PySem.W.mg_of X G a__law_poly, k__law_poly⟩, C8.Fun.binds (x := "_law_poly") (qual := "_law_poly") (st := s__law_poly) (f := f__law_poly) ⟨⟨oc__law_poly, od__law_poly, .none, kV__law_poly, dc__law_poly, pm__law_poly, an__law_poly, cd__law_poly, ct__law_poly, sl__law_poly, rfl, l__law_poly, c__law_poly⟩⟩ rfl (fun _ _ _ _ _ _ us hl => match us, hl with | [_, _], _ => rfl)⟩,
    d__law_ring_right := ⟨f__law_ring_right, _, ⟨⟨⟨oc__law_ring_right, od__law_ring_right, .none, kV__law_ring_right, dc__law_ring_right, pm__law_ring_right, an__law_ring_right, cd__law_ring_right, ct__law_ring_right, sl__law_ring_right, rfl, l__law_ring_right, c__law_ring_right⟩⟩, PySem.W.mg_of X G a__law_ring_right, k__law_ring_right⟩, C8.Fun.binds (x := "_law_ring_right") (qual := "_law_ring_right") (st := s__law_ring_right) (f := f__law_ring_right) ⟨⟨oc__law_ring_right, od__law_ring_right, .none, kV__law_ring_right, dc__law_ring_right, pm__law_ring_right, an__law_ring_right, cd__law_ring_right, ct__law_ring_right, sl__law_ring_right, rfl, l__law_ring_right, c__law_ring_right⟩⟩ rfl (fun _ _ _ _ _ _ us hl => match us, hl with | [_, _, _], _ => rfl)⟩,
    d__law_divisors_right := ⟨f__law_divisors_right, _, ⟨⟨⟨oc__law_divisors_right, od__law_divisors_right, .none, kV__law_divisors_right, dc__law_divisors_right, pm__law_divisors_right, an__law_divisors_right, cd__law_divisors_right, ct__law_divisors_right, sl__law_divisors_right, rfl, l__law_divisors_right, c__law_divisors_right⟩⟩, PySem.W.mg_of X G a__law_divisors_right, k__law_divisors_right⟩, C8.Fun.binds (x := "_law_divisors_right") (qual := "_law_divisors_right") (st := s__law_divisors_right) (f := f__law_divisors_right) ⟨⟨oc__law_divisors_right, od__law_divisors_right, .none, kV__law_divisors_right, dc__law_divisors_right, pm__law_divisors_right, an__law_divisors_right, cd__law_divisors_right, ct__law_divisors_right, sl__law_divisors_right, rfl, l__law_divisors_right, c__law_divisors_right⟩⟩ rfl (fun _ _ _ _ _ _ us hl => match us, hl with | [_, _, _], _ => rfl)⟩,
    d__law_field_right := ⟨f__law_field_right, _, ⟨⟨⟨oc__law_field_right, od__law_field_right, .none, kV__law_field_right, dc__law_field_right, pm__law_field_right, an__law_field_right, cd__law_field_right, ct__law_field_right, sl__law_field_right, rfl, l__law_field_right, c__law_field_right⟩⟩, PySem.W.mg_of X G a__law_field_right, k__law_field_right⟩, C8.Fun.binds (x := "_law_field_right") (qual := "_law_field_right") (st := s__law_field_right) (f := f__law_field_right) ⟨⟨oc__law_field_right, od__law_field_right, .none, kV__law_field_right, dc__law_field_right, pm__law_field_right, an__law_field_right, cd__law_field_right, ct__law_field_right, sl__law_field_right, rfl, l__law_field_right, c__law_field_right⟩⟩ rfl (fun _ _ _ _ _ _ us hl => match us, hl with | [_, _], _ => rfl)⟩,
    d_law := ⟨f_law, _, ⟨⟨⟨oc_law, od_law, .none, kV_law, dc_law, pm_law, an_law, cd_law, ct_law, sl_law, rfl, l_law, c_law⟩⟩, PySem.W.mg_of X G a_law, k_law⟩, C8.Fun.binds (x := "law") (qual := "law") (st := s_law) (f := f_law) ⟨⟨oc_law, od_law, .none, kV_law, dc_law, pm_law, an_law, cd_law, ct_law, sl_law, rfl, l_law, c_law⟩⟩ rfl (fun _ _ _ _ _ _ us hl => match us, hl with | [_], _ => rfl), fun s v => .of_eq rfl⟩,
    c_MOST_DIGITS := ⟨_, PySem.W.mg_of X G e_MOST_DIGITS, _, rfl⟩,
    c_MOST_FACTORED := ⟨_, PySem.W.mg_of X G e_MOST_FACTORED, _, rfl⟩,
    c_MOST_LISTED := ⟨_, PySem.W.mg_of X G e_MOST_LISTED, _, rfl⟩,
    c_MOST_ORDER := ⟨_, PySem.W.mg_of X G e_MOST_ORDER, _, rfl⟩,
    b_all := PySem.W.mg_none_of X G z_all,
    b_bool := PySem.W.mg_none_of X G z_bool,
    b_enumerate := PySem.W.mg_none_of X G z_enumerate,
    b_int := PySem.W.mg_none_of X G z_int,
    b_isinstance := PySem.W.mg_none_of X G z_isinstance,
    b_len := PySem.W.mg_none_of X G z_len,
    b_list := PySem.W.mg_none_of X G z_list,
    b_max := PySem.W.mg_none_of X G z_max,
    b_min := PySem.W.mg_none_of X G z_min,
    b_range := PySem.W.mg_none_of X G z_range,
    b_sorted := PySem.W.mg_none_of X G z_sorted,
    b_tuple := PySem.W.mg_none_of X G z_tuple }
end Pf
open PySem PySem.W PyProof.Rows
set_option maxRecDepth 100000 in
set_option maxHeartbeats 0 in
theorem PySem.Challenge.cw_drawstate_k75_whole_rings_and_fields_of_holds : PySem.Challenge.rw_drawstate_k75_whole_rings_and_fields_of.Holds := by
  refine Pf.hd ?_
  k_fill
  refine Gx.walkF (l := PySem.Challenge.rw_drawstate_k75_whole_rings_and_fields_of) (k := 10) (x := "_law_script") rfl rfl ⟨rfl, by decide, by decide⟩ (fun w h Y => Hd1.q_in_of Y) ?F
  case F =>
    intro w mg fa h Y KX G hmg
    refine' Pf.law_mk hmg (Pf.txt_mk KX G ?a_is_integer ?l_is_integer ?c_is_integer ?k_is_integer ?a_s3_is_whole ?l_s3_is_whole ?c_s3_is_whole ?k_s3_is_whole ?a_is_polynomial ?l_is_polynomial ?c_is_polynomial ?k_is_polynomial ?a_s3_need ?l_s3_need ?c_s3_need ?k_s3_need ?a_s3_need_modulus ?l_s3_need_modulus ?c_s3_need_modulus ?k_s3_need_modulus ?a_s3_product ?l_s3_product ?c_s3_product ?k_s3_product ?a_s3_parts ?l_s3_parts ?c_s3_parts ?k_s3_parts ?a_s3_power ?l_s3_power ?c_s3_power ?k_s3_power ?a_s3_common ?l_s3_common ?c_s3_common ?k_s3_common ?a_degree ?l_degree ?c_degree ?k_degree ?a_added ?l_added ?c_added ?k_added ?a_multiplied ?l_multiplied ?c_multiplied ?k_multiplied ?a_divided ?l_divided ?c_divided ?k_divided ?a_common ?l_common ?c_common ?k_common ?a_power_of ?l_power_of ?c_power_of ?k_power_of ?a_inverse_of ?l_inverse_of ?c_inverse_of ?k_inverse_of ?a_s3_primes ?l_s3_primes ?c_s3_primes ?k_s3_primes ?a_s3_twice ?l_s3_twice ?c_s3_twice ?k_s3_twice ?a_is_irreducible ?l_is_irreducible ?c_is_irreducible ?k_is_irreducible ?a_factors_of ?l_factors_of ?c_factors_of ?k_factors_of ?a_irreducibles ?l_irreducibles ?c_irreducibles ?k_irreducibles ?a_order_of ?l_order_of ?c_order_of ?k_order_of ?a__law_begun ?l__law_begun ?c__law_begun ?k__law_begun ?a__law_next ?l__law_next ?c__law_next ?k__law_next ?a__law_pick ?l__law_pick ?c__law_pick ?k__law_pick ?a__law_number ?l__law_number ?c__law_number ?k__law_number ?a__law_poly ?l__law_poly ?c__law_poly ?k__law_poly ?a__law_ring_right ?l__law_ring_right ?c__law_ring_right ?k__law_ring_right ?a__law_divisors_right ?l__law_divisors_right ?c__law_divisors_right ?k__law_divisors_right ?a__law_field_right ?l__law_field_right ?c__law_field_right ?k__law_field_right ?a_law ?l_law ?c_law ?k_law ?e_MOST_DIGITS ?e_MOST_FACTORED ?e_MOST_LISTED ?e_MOST_ORDER ?z_all ?z_bool ?z_enumerate ?z_int ?z_isinstance ?z_len ?z_list ?z_max ?z_min ?z_range ?z_sorted ?z_tuple)
    (case a_is_integer => k_is)
    (case l_is_integer => k_is)
    (case c_is_integer => k_is)
    (case k_is_integer => k_is)
    (case a_s3_is_whole => k_is)
    (case l_s3_is_whole => k_is)
    (case c_s3_is_whole => k_is)
    (case k_s3_is_whole => k_is)
    (case a_is_polynomial => k_is)
    (case l_is_polynomial => k_is)
    (case c_is_polynomial => k_is)
    (case k_is_polynomial => k_is)
    (case a_s3_need => k_is)
    (case l_s3_need => k_is)
    (case c_s3_need => k_is)
    (case k_s3_need => k_is)
    (case a_s3_need_modulus => k_is)
    (case l_s3_need_modulus => k_is)
    (case c_s3_need_modulus => k_is)
    (case k_s3_need_modulus => k_is)
    (case a_s3_product => k_is)
    (case l_s3_product => k_is)
    (case c_s3_product => k_is)
    (case k_s3_product => k_is)
    (case a_s3_parts => k_is)
    (case l_s3_parts => k_is)
    (case c_s3_parts => k_is)
    (case k_s3_parts => k_is)
    (case a_s3_power => k_is)
    (case l_s3_power => k_is)
    (case c_s3_power => k_is)
    (case k_s3_power => k_is)
    (case a_s3_common => k_is)
    (case l_s3_common => k_is)
    (case c_s3_common => k_is)
    (case k_s3_common => k_is)
    (case a_degree => k_is)
    (case l_degree => k_is)
    (case c_degree => k_is)
    (case k_degree => k_is)
    (case a_added => k_is)
    (case l_added => k_is)
    (case c_added => k_is)
    (case k_added => k_is)
    (case a_multiplied => k_is)
    (case l_multiplied => k_is)
    (case c_multiplied => k_is)
    (case k_multiplied => k_is)
    (case a_divided => k_is)
    (case l_divided => k_is)
    (case c_divided => k_is)
    (case k_divided => k_is)
    (case a_common => k_is)
    (case l_common => k_is)
    (case c_common => k_is)
    (case k_common => k_is)
    (case a_power_of => k_is)
    (case l_power_of => k_is)
    (case c_power_of => k_is)
    (case k_power_of => k_is)
    (case a_inverse_of => k_is)
    (case l_inverse_of => k_is)
    (case c_inverse_of => k_is)
    (case k_inverse_of => k_is)
    (case a_s3_primes => k_is)
    (case l_s3_primes => k_is)
    (case c_s3_primes => k_is)
    (case k_s3_primes => k_is)
    (case a_s3_twice => k_is)
    (case l_s3_twice => k_is)
    (case c_s3_twice => k_is)
    (case k_s3_twice => k_is)
    (case a_is_irreducible => k_is)
    (case l_is_irreducible => k_is)
    (case c_is_irreducible => k_is)
    (case k_is_irreducible => k_is)
    (case a_factors_of => k_is)
    (case l_factors_of => k_is)
    (case c_factors_of => k_is)
    (case k_factors_of => k_is)
    (case a_irreducibles => k_is)
    (case l_irreducibles => k_is)
    (case c_irreducibles => k_is)
    (case k_irreducibles => k_is)
    (case a_order_of => k_is)
    (case l_order_of => k_is)
    (case c_order_of => k_is)
    (case k_order_of => k_is)
    (case a__law_begun => k_is)
    (case l__law_begun => k_is)
    (case c__law_begun => k_is)
    (case k__law_begun => k_is)
    (case a__law_next => k_is)
    (case l__law_next => k_is)
    (case c__law_next => k_is)
    (case k__law_next => k_is)
    (case a__law_pick => k_is)
    (case l__law_pick => k_is)
    (case c__law_pick => k_is)
    (case k__law_pick => k_is)
    (case a__law_number => k_is)
    (case l__law_number => k_is)
    (case c__law_number => k_is)
    (case k__law_number => k_is)
    (case a__law_poly => k_is)
    (case l__law_poly => k_is)
    (case c__law_poly => k_is)
    (case k__law_poly => k_is)
    (case a__law_ring_right => k_is)
    (case l__law_ring_right => k_is)
    (case c__law_ring_right => k_is)
    (case k__law_ring_right => k_is)
    (case a__law_divisors_right => k_is)
    (case l__law_divisors_right => k_is)
    (case c__law_divisors_right => k_is)
    (case k__law_divisors_right => k_is)
    (case a__law_field_right => k_is)
    (case l__law_field_right => k_is)
    (case c__law_field_right => k_is)
    (case k__law_field_right => k_is)
    (case a_law => k_is)
    (case l_law => k_is)
    (case c_law => k_is)
    (case k_law => k_is)
    (case e_MOST_DIGITS => k_is)
    (case e_MOST_FACTORED => k_is)
    (case e_MOST_LISTED => k_is)
    (case e_MOST_ORDER => k_is)
    (case z_all => k_is)
    (case z_bool => k_is)
    (case z_enumerate => k_is)
    (case z_int => k_is)
    (case z_isinstance => k_is)
    (case z_len => k_is)
    (case z_list => k_is)
    (case z_max => k_is)
    (case z_min => k_is)
    (case z_range => k_is)
    (case z_sorted => k_is)
    (case z_tuple => k_is)
#print axioms PySem.Challenge.cw_drawstate_k75_whole_rings_and_fields_of_holds
