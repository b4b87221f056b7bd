import PyProof.Rows.All
import Wide.All
import OpenK.AllK
import Wide.FinOn
import KE.KNestM
import PySem.Challenge.RW_drawstate_k80_whole_draws_by_one_another
import HandS.ForMost
import HandS.Exc
import HandS.Codes
import HandS.Wide
import HandS.WideBits
import HandS.IsInst
import HandS.Property
import HandS.Style
import HandS.Flow
import HandS.Small
import HandS.Lambda
import HandS.EndTab
import HandS.Walk
import HandS.GenCall
import HandS.GenList
import KE.KOpsOwn
import HandS.ClsMeth
import HandS.TupAny
import HandS.ExcInit
import HandS.ExcField
import HandS.ExcIs
import KE.KExcInit
import HandS.CallSlots
import HandS.Defaults
import HandS.TryMany
import HandS.Zip
import KE.KTryMore
import PyProof.StrLawsRepr
import HandS.HotCalls
import KE.KDflt
import HandS.TupMul
import HandS.Deep
import HandS.SetFor
import HandS.Star
import HandS.TupSets
import HandS.Iter
import KE.GoesEnum
import HandS.DictSubView
import KE.KDictWalk
import HandS.Conv
import HandS.Comp
import HandS.SortInts
import HandS.GenOver
import PyProof.GenRules
import PyProof.GenQ
import HandS.FStr
import HandS.ExcSuper
import KE.KDictList
import PyProof.CollectStr
def PySem.W.Fast.tw11486218846082593434 : Nat := 0
def PySem.W.Fast.tw12637417655303594271 : Nat := 0
def PySem.W.Fast.tw14152253508332116450 : Nat := 0
def PySem.W.Fast.tw14275900576302955466 : Nat := 0
def PySem.W.Fast.tw14417686293187039114 : Nat := 0
def PySem.W.Fast.tw15007688306190574602 : Nat := 0
def PySem.W.Fast.tw15078014386105358723 : Nat := 0
def PySem.W.Fast.tw15604099941961454504 : Nat := 0
def PySem.W.Fast.tw15764938250397372875 : Nat := 0
def PySem.W.Fast.tw17169020637729816530 : Nat := 0
def PySem.W.Fast.tw1717494907254855979 : Nat := 0
def PySem.W.Fast.tw17335524952729397999 : Nat := 0
def PySem.W.Fast.tw17491758028887032162 : Nat := 0
def PySem.W.Fast.tw17719863642317650077 : Nat := 0
def PySem.W.Fast.tw18091113803730183377 : Nat := 0
def PySem.W.Fast.tw18168387054444707732 : Nat := 0
def PySem.W.Fast.tw2032235237078699995 : Nat := 0
def PySem.W.Fast.tw2372806607175289878 : Nat := 0
def PySem.W.Fast.tw281057903099054696 : Nat := 0
def PySem.W.Fast.tw2970211612486566199 : Nat := 0
def PySem.W.Fast.tw3311823444856684839 : Nat := 0
def PySem.W.Fast.tw3466733194111220211 : Nat := 0
def PySem.W.Fast.tw4052822354096418059 : Nat := 0
def PySem.W.Fast.tw4648435820930797954 : Nat := 0
def PySem.W.Fast.tw5404315007302236481 : Nat := 0
def PySem.W.Fast.tw5621960244155967757 : Nat := 0
def PySem.W.Fast.tw665975042254222016 : Nat := 0
def PySem.W.Fast.tw7396096745821031353 : Nat := 0
def PySem.W.Fast.tw7966351555061219239 : Nat := 0
set_option Elab.async false
set_option linter.all false
set_option maxRecDepth 100000
namespace Hd1
open PySem PySem.W PySem.Calls PyProof.Rows
def liv (x : Option Obj) : Option Obj := match x with
  | some ⟨_, _, .freed, _⟩ => none
  | o => o
theorem get_liv (h : Heap) (a : Addr) : h.get? a = liv (h.objs.toList[a]?) := by
  rw [Array.getElem?_toList]
  rfl
def pick : List Obj → Nat → List Nat → List (Option Obj)
  | [], _, as => as.map fun _ => none
  | o :: r, n, as => match as with
    | [] => []
    | a :: as' => match Nat.beq a n with
      | true => liv (some o) :: pick r (n + 1) as'
      | false => pick r (n + 1) (a :: as')
def asc : List Nat → Bool
  | [] => true
  | [_] => true
  | a :: b :: r => match Nat.blt a b with
    | true => asc (b :: r)
    | false => false
theorem asc_lt : ∀ {r : List Nat} {a : Nat}, asc (a :: r) = true → ∀ b ∈ r, a < b
  | [], _, _, b, h => by cases h
  | b :: r, a, h, c, hc => by
    have h1 : (match Nat.blt a b with
      | true => asc (b :: r)
      | false => false) = true := h
    cases e : Nat.blt a b with
    | false => rw [e] at h1; cases h1
    | true =>
      rw [e] at h1
      have ab : a < b := Nat.le_of_ble_eq_true e
      rcases List.mem_cons.mp hc with rfl | hc
      · exact ab
      · exact Nat.lt_trans ab (asc_lt h1 c hc)
theorem asc_tail : ∀ {r : List Nat} {a : Nat}, asc (a :: r) = true → asc r = true
  | [], _, _ => rfl
  | b :: r, a, h => by
    have h1 : (match Nat.blt a b with
      | true => asc (b :: r)
      | false => false) = true := h
    cases e : Nat.blt a b with
    | false => rw [e] at h1; cases h1
    | true => rw [e] at h1; exact h1
theorem pick_eq : ∀ (l : List Obj) (n : Nat) (as : List Nat), asc as = true → (∀ a ∈ as, n ≤ a) → pick l n as = as.map fun a => liv l[a - n]?
  | [], n, as, _, _ => List.map_congr_left fun a _ => by simp [liv]
  | o :: r, n, [], _, _ => rfl
  | o :: r, n, a :: as, h, hn => by
    show (match Nat.beq a n with
      | true => liv (some o) :: pick r (n + 1) as
      | false => pick r (n + 1) (a :: as)) = _
    have na := hn a (List.mem_cons_self ..)
    cases e : Nat.beq a n with
    | true =>
      have e : a = n := Nat.eq_of_beq_eq_true e
      subst e
      have lt := asc_lt h
      show liv (some o) :: pick r (a + 1) as = _
      rw [pick_eq r (a + 1) as (asc_tail h) (fun b hb => lt b hb), List.map_cons, Nat.sub_self]
      congr 1
      exact List.map_congr_left fun b hb => by
        have := lt b hb
        rw [show b - a = b - (a + 1) + 1 by omega, List.getElem?_cons_succ]
    | false =>
      have e : a ≠ n := fun c => by rw [c, Nat.beq_refl] at e; cases e
      have lt := asc_lt h
      show pick r (n + 1) (a :: as) = _
      rw [pick_eq r (n + 1) (a :: as) h (fun b hb => by
        rcases List.mem_cons.mp hb with rfl | hb
        · omega
        · have := lt b hb
          omega)]
      exact List.map_congr_left fun b hb => by
        have : n < b := by
          rcases List.mem_cons.mp hb with rfl | hb
          · omega
          · have := lt b hb
            omega
        rw [show b - n = b - (n + 1) + 1 by omega, List.getElem?_cons_succ]
theorem pick_get {h : Heap} {as : List Addr} (so : asc as = true) : pick h.objs.toList 0 as = as.map h.get? := by
  rw [pick_eq _ 0 as so fun a _ => Nat.zero_le a]
  exact List.map_congr_left fun a _ => by rw [Nat.sub_zero, get_liv]
def qHook (K : Params → Frag) (as : List Addr) (e : ∀ P, as = (K P).map (·.1)) (ts : List Addr) (so : asc as = true) : Hook where
  α := List (Option Obj) × List (Option Obj)
  obs := fun s => (pick s.heap.objs.toList 0 as, ts.map s.heap.get?)
  val := fun w => ((K w.params).map fun p => some p.2, ts.map fun _ => some (tabObj #[]))
  says := fun w h => InK K w h ∧ ∀ P ∈ ts, h.get? P = some (tabObj #[])
  of := fun w s x => (kmHook K as e ts).of w s (by rw [pick_get so] at x; exact x)
  keeps := (kmHook K as e ts).keeps
theorem q_in_of {K : Params → Frag} {as : List Addr} {e : ∀ P, as = (K P).map (·.1)} {ts : List Addr} {so : asc as = true} {w : World} {h : Heap} (Y : (qHook K as e ts so).says w h) : (K w.params).In h := Y.1
end Hd1
set_option Elab.async false
set_option linter.all false
namespace Pf
open PySem PySem.W PyProof.Rows
local macro_rules | `(tactic| o_head (kmHook $K $a $e $t)) => `(tactic| o_head (Hd1.qHook $K $a $e $t (by decide +kernel)))
local macro_rules | `(tactic| o_head (kHook $K $a $e)) => `(tactic| o_head (Hd1.qHook $K $a $e [] (by decide +kernel)))
set_option maxRecDepth 100000
set_option maxHeartbeats 0
open_top hd for PySem.Challenge.rw_drawstate_k80_whole_draws_by_one_another
end Pf
set_option Elab.async false
set_option linter.all false
set_option maxRecDepth 100000
set_option maxHeartbeats 4000000
namespace Gx
open PySem PySem.Spec PyProof.Rows L2
structure FnG (P : Program) (w : World) (K : PySem.W.Frag) (mg : Str → Option Value) (base : Heap) (k : Nat) (f : Addr) (fd : FuncData) (ps : List Str) (sp : Sp) : Prop where
  len : ∀ vs H Q E, sp vs H Q E → vs.length = ps.length
  run : ∀ (A : Around) (outer : List Env) (s : Shared) (H : Hp) (args : Args) (us : List Value) (vs : List V) (Q : VK), A.guards = some [] → Room k A → Env0 P w K mg base A outer s H →
    BindsTo s fd args (ps.zip us) → Vals vs us → sp vs H Q C8.E0 → codeAny (model P w) A (.call (.ref f) args) (CR C8.CX0 outer P w H s Q C8.E0) s
section
variable {P : Program} {w : World} {K : PySem.W.Frag} {mg : Str → Option Value} {base : Heap}
theorem fnG_of {x qual : Str} {st : Stmt} {f : Addr} {fd : FuncData} {N ps : List Str} {k : Nat} {sp : Sp} (F : C8.Fun K x qual st f fd) (S : FnScope N ps (C8.fnScope st)) (len : ∀ vs H Q E, sp vs H Q E → vs.length = ps.length)
    (hbody : ∀ (cdv : Value) (A : Around) (outer : List Env) (s : Shared) (H : Hp) (vs : List V) (Q : VK), A.guards = some [] → Room k (A.deeper (envOfC qual (C8.fnScope st) s.heap.objs.size f cdv)) → sp vs H Q C8.E0 →
      ∃ t, PSs (cxOf C8.CX0 P w K mg base N qual (C8.fnScope st) f cdv A outer s H C8.E0).nox (C8.fnBody st) t ∧ t { nx := fun _ H' => Q .non H', rt := Q } (start N vs) H) : FnG P w K mg base (k + 1) f fd ps sp := by
  obtain ⟨oc, od, dV, kV, doc, pm, an, cdv, ct, osl, rfl, lk, hcd⟩ := F.ex
  refine ⟨len, fun A outer s H args us vs Q hg hr e0 hb r hsp => ?_⟩
  refine LamX.run_ofS (CX := C8.CX0) (E := C8.E0) lk hcd S hr e0 hb r (len _ _ _ _ hsp) fun hr' => ?_
  obtain ⟨t, h, q⟩ := hbody cdv A outer s H vs Q hg hr' hsp
  exact ⟨t, h.nox, q⟩
end
end Gx
set_option Elab.async false
set_option linter.all false
set_option maxRecDepth 100000
set_option maxHeartbeats 4000000
namespace Gx
open PySem PySem.Spec PyProof.Rows L2
structure PrpC (P : Program) (w : World) (K : PySem.W.Frag) (mg : Str → Option Value) (base : Heap) (k : Nat) (C : Addr) (nm : Str) (sp : Sp) : Prop where
  ex : ∃ (p f : Addr) (fd : FuncData) (ps : List Str), Cls K C ∧ PropOf K C nm p f ∧ FnOk P w K mg base C8.CX0 k f fd ps sp ∧ Binds K fd ps []
theorem prp0 {P : Program} {w : World} {K : PySem.W.Frag} {mg : Str → Option Value} {base : Heap} {nm qual : Str} {C p : Addr} {st : Stmt} {f : Addr} {fd : FuncData} {N ps : List Str} {k : Nat} {sp : Sp} (c : Cls K C) (pr : PropOf K C nm p f) (F : C8.Fun K nm qual st f fd) (b : Binds K fd ps [])
    (S : FnScope N ps (C8.fnScope st)) (len : ∀ vs H Q E, sp vs H Q E → vs.length = ps.length)
    (hbody : ∀ (cdv : Value) (A : Around) (outer : List Env) (s : Shared) (H : Hp) (vs : List V) (Q : VK) (E : XK), Room k (A.deeper (envOfC qual (C8.fnScope st) s.heap.objs.size f cdv)) → sp vs H Q E →
      ∃ t, PSs (cxOf C8.CX0 P w K mg base N qual (C8.fnScope st) f cdv A outer s H E).nox (C8.fnBody st) t ∧ t { nx := fun _ H' => Q .non H', rt := Q } (start N vs) H) : PrpC P w K mg base (k + 1) C nm sp :=
  ⟨p, f, fd, ps, c, pr, C8.fn0 F S len hbody, b⟩
theorem pe_propC {X : Cx} {k j : Nat} {C : Addr} {nm : Str} {sp : Sp} {e : Expr} {ta : TE} {pos : Pos} (he : PE X e ta) (c : PrpC X.prog X.w X.K X.mg X.base k C nm sp) (hr : Room j X.A) (hk : k + 1 ≤ j) (hab : attributeBase e nm X.env (eval e X.env) = eval e X.env) :
    PE X (.Attribute e nm pos) (tProp C sp [] C8.E0 ta) := by
  obtain ⟨p, f, fd, ps, cl, pr, F, b⟩ := c.ex
  exact pe_prop he cl pr F (hr.mono hk) b .nil C8.pass0 hab
end Gx
set_option Elab.async false
set_option linter.all false
set_option maxRecDepth 100000
set_option maxHeartbeats 4000000
namespace Rd
open PySem PySem.Spec PyProof.Rows L2
section
variable {D : Ends} {σ : L2.St} {H H1 : Hp} {Q : VK} {QB : Bool → Hp → Prop} {QA : List V → Hp → Prop} {t1 t2 : TS} {te ta tb tc : TE} {t u : TT} {i j : Nat} {v x y : V} {m n : Int} {r r2 : R2} {K : PySem.W.Frag} {A B : Prop} {b : Bool} {p : Prop}
theorem seq (h : t1 { D with nx := t2 D } σ H) : tSeq t1 t2 D σ H := h
theorem next (h : D.nx σ H) : tNext D σ H := h
theorem nm {Qs : L2.St → Hp → Prop} (h : Qs (σ.set i (some v)) H) : gName i v σ H Qs := h
theorem ret (h : te σ H D.rt) : tRet te D σ H := h
theorem drop (h : te σ H fun _ H1 => D.nx σ H1) : tDrop te D σ H := h
theorem par {ta : TA} (h : ta σ H fun vs H1 => ∃ v w, vs = [v, w] ∧ D.nx ((σ.set i (some v)).set j (some w)) H1) : tPar i j ta D σ H := h
theorem op (h : ta σ H fun x H1 => tb σ H1 fun y H2 => r x y H2 Q) : tOp r ta tb σ H Q := h
theorem un {g : V → Hp → VK → Prop} (h : ta σ H fun x H1 => g x H1 Q) : tUn g ta σ H Q := h
theorem nil (h : QA [] H) : tNil σ H QA := h
theorem cons {tr : TA} (h : ta σ H fun x H1 => tr σ H1 fun xs H2 => QA (x :: xs) H2) : tCons ta tr σ H QA := h
theorem call {sp : Sp} {E : XK} {tr : TA} (h : tr σ H fun vs H1 => sp (vs ++ []) H1 Q E) : tCall sp [] E tr σ H Q := h
theorem cb {g : List V → Hp → VK → Prop} {tr : TA} (h : tr σ H fun vs H1 => g vs H1 Q) : tCB g tr σ H Q := h
theorem tup {tr : TA} (h : tr σ H fun xs H1 => xs.length ≤ sizeLine ∧ ∀ p, H1 p = none → Q (.ref p) (upd H1 p (.tup xs))) : tTup tr σ H Q := h
theorem lst {tr : TA} (h : tr σ H fun xs H1 => xs.length ≤ sizeLine ∧ ∀ p, H1 p = none → Q (.ref p) (upd H1 p (.lst xs))) : tLst tr σ H Q := h
end
def rLenQ (K : PySem.W.Frag) : List V → Hp → VK → Prop := fun xs H Q => ∃ p ys, xs = [.ref p] ∧ (SqL K H p ys ∨ SqT K H p ys) ∧ Q (.int ys.length) H
theorem call_lenQ {X : Cx} : CallR X (.builtin "len") (rLenQ X.K) := call_len_seq
def rMax2 : List V → Hp → VK → Prop := fun xs H Q => ∃ i j, xs = [.int i, .int j] ∧ Q (.int (if j > i then j else i)) H
theorem call_mx2 {X : Cx} (hc : X.calm = true) : CallR X (.builtin "max") rMax2 := call_max2 hc
def rMin2 : List V → Hp → VK → Prop := fun xs H Q => ∃ i j, xs = [.int i, .int j] ∧ Q (.int (if j < i then j else i)) H
theorem call_mn2 {X : Cx} (hc : X.calm = true) : CallR X (.builtin "min") rMin2 := call_min2 hc
theorem kit_self (K : PySem.W.Frag) (C : Addr) : PySem.W.kitOne K (.ref C) (.ref C) = some true := by
  unfold PySem.W.kitOne
  simp
theorem sql {K : PySem.W.Frag} {H : Hp} {a : Addr} {xs : List V} (h : H a = some (.lst xs)) : SqL K H a xs := .inl (.inl h)
theorem setL {p : Addr} {xs : List V} {k : Int} {j : Nat} {v : V} {H : Hp} {Q : Hp → Prop} (h : H p = some (.lst xs)) (hj : ixN xs.length k = some j) (q : Q (upd H p (.lst (xs.set j v)))) : rSetL (.ref p) (.int k) v H Q := ⟨p, xs, k, j, rfl, rfl, h, hj, q⟩
theorem cut {t u : TS} {D : Ends} {σ : L2.St} {H : Hp} (Mid : L2.St → Hp → Prop) (h1 : t { D with nx := Mid } σ H) (h2 : ∀ σ' H', Mid σ' H' → u D σ' H') : C8.tCut t u D σ H := ⟨Mid, h1, h2⟩
/-- all that was tracked stands -/
abbrev Ex := L2.Same
theorem ex_new {H : Hp} {p : Addr} {o : HO} (h : H p = none) : Ex H (upd H p o) := fun b z e => by
  rw [upd_ne (ne_of_none e h)]
  exact e
theorem ex_t {K : PySem.W.Frag} {H H' : Hp} {a : Addr} {xs : List V} (e : Ex H H') (h : SqT K H a xs) : SqT K H' a xs := by
  rcases h with (h | ⟨o, h⟩) | h
  · exact .inl (.inl (e _ _ h))
  · exact .inl (.inr ⟨o, e _ _ h⟩)
  · exact .inr h
end Rd
set_option Elab.async false
set_option linter.all false
set_option maxRecDepth 100000
set_option maxHeartbeats 4000000
set_option exponentiation.threshold 2000
namespace Gx
open PySem PySem.Spec PyProof.Rows L2
mutual
def nodes : PyData → Nat
  | .list xs => nodesAll xs + 1
  | .tuple xs => nodesAll xs + 1
  | .none => 1
  | .bool _ => 1
  | .int _ => 1
  | .str _ => 1
  | .dict _ => 1
def nodesAll : List PyData → Nat
  | [] => 0
  | x :: xs => nodes x + nodesAll xs
end
theorem log_lt {n k : Nat} (hk : 0 < k) (h : n < 2 ^ k) : n.log2 < k := PySem.Flt.log2_lt_of hk h
/-- what repr asks of the data -/
structure Okd (d : PyData) : Prop where
  sh : d.showable = true
  dp : d.depth ≤ 60
  ln : d.shown.length ≤ sizeLine
theorem pick {l : List Int} {P : Int → Prop} (h : ∀ x ∈ l, P x) {i : Int} (h0 : 0 ≤ i) (h1 : i < (l.length : Int)) : ∃ x, P x ∧ atI (l.map V.int) i = some (.int x) := by
  obtain ⟨n, rfl⟩ := Int.eq_ofNat_of_zero_le h0
  have hl : n < l.length := by omega
  refine ⟨l[n], h _ (List.getElem_mem hl), ?_⟩
  refine atI_nat ?_
  rw [List.getElem?_map, List.getElem?_eq_getElem hl]
  rfl
end Gx
set_option Elab.async false
set_option linter.all false
set_option maxRecDepth 100000
set_option maxHeartbeats 1000000
namespace Gx
open PySem PySem.Spec PyProof.Rows L2 GenW
def hX (env : Env) (x : Value) : Sem PySem.Fin := (do noteFrame x env; theTreesLotGoes x : Sem Unit).wrap (fun _ => .raise x) .raise id id
end Gx
set_option Elab.async false
set_option linter.all false
set_option maxRecDepth 100000
set_option maxHeartbeats 1000000
namespace Gx
open PySem PySem.Spec PyProof.Rows L2 GenW
structure SAt (K : PySem.W.Frag) (C : Addr) (m : Str) (f : Addr) : Prop where
  ex : ∃ (mc : Value) (p : Addr) (rest : List Value), ClX.CRead K C mc ∧ PySem.W.findCls K (.ref C) mc m = some (.get (.builtin "staticmethod.__get__") (.ref p) .none (.ref C)) ∧ PySem.W.recIn K p "staticmethod" = some (.ref f :: rest) ∧ PySem.W.keepIn K (.ref f) = true
end Gx
namespace Gx
open PySem PySem.Spec PyProof.Rows L2 GenW
theorem isTup {K : PySem.W.Frag} {a : Addr} {xs : List V} {H : Hp} {Q : VK} (h : H a = some (.tup xs)) (q : Q (.bl true) H) : rIsi K [.ref a, .ty "tuple"] H Q :=
  ⟨_, _, .type "tuple", _, true, rfl, .ty _, .base (.tup h), by first | rfl | decide +kernel | kernel_rfl, q⟩
section
variable {t u : TGn} {tp : TS} {te : TE} {D : GEnds} {ys : List V} {σ : L2.St} {H : Hp}
theorem lg {tg : TGen} {Q : VK} (h : tg σ H fun out H2 => ∀ p, H2 p = none → Q (.ref p) (upd H2 p (.lst out))) : tListG tg σ H Q := h
theorem mg {C : Addr} {m : Str} {sp : SpG} {E : XK} {ta : TE} {t : TA} {cont : List V → Hp → Prop} (h : ta σ H fun x H1 => ∃ a dx fs, x = .ref a ∧ H1 a = some (.ins C dx fs) ∧ fs.lookup m = none ∧ t σ H1 fun vs H2 => sp (x :: (vs ++ [])) H2 cont E) : tMethG C m sp [] E ta t σ H cont := h
end
end Gx
namespace Gx
open PySem PySem.Spec PyProof.Rows L2 GenW
end Gx
set_option Elab.async false
set_option linter.all false
set_option maxRecDepth 100000
set_option maxHeartbeats 1000000
namespace Gx
open PySem PySem.Spec PyProof.Rows L2 GenW HT
end Gx
set_option Elab.async false
set_option linter.all false
set_option maxRecDepth 100000
set_option maxHeartbeats 1000000
namespace Gx
open PySem PySem.Spec PyProof.Rows L2 GenW
/-- the promise of such a class's __init__ -/
def spExc (C : Addr) (fl : Str) : Sp := fun vs H Q _ => ∃ (p : Addr) (v : V), vs = [.ref p, v] ∧ H p = some (exo p C none) ∧ ∀ dx, H dx = none → dx ≠ p → Q .non (upd (upd H dx (exd dx [(fl, v)])) p (exo p C (some dx)))
/-- the exception is made: its dict holds the value -/
theorem mkO {C : Addr} {fl : Str} {v : V} {H : Hp} {Q : XK} (q : ∀ d H', H d = none → Rd.Ex H H' → H' d = some (.xd [(fl, v)]) → Q (.ref C) (some d) H') :
    [v].length ≤ 1000 ∧ ∀ a, H a = none → spExc C fl (.ref a :: ([v] ++ [])) (upd H a (exo a C none))
      (fun r H2 => r = .non ∧ ∃ (d : Addr) (fs : List (Str × V)), H2 a = some (exo a C (some d)) ∧ H2 d = some (exd d fs) ∧ H d = none ∧ Q (.ref C) (some d) (upd (del H2 a) d (.xd fs))) (fun _ _ _ => False) := by
  refine ⟨Nat.le_of_ble_eq_true rfl, fun a ha => ⟨a, v, rfl, upd_same, fun dx hd ne => ⟨rfl, dx, [(fl, v)], upd_same, ?_, ?_, ?_⟩⟩⟩
  · rw [upd_ne ne, upd_same]
  · rw [upd_ne ne] at hd; exact hd
  · have hd' : H dx = none := by rw [upd_ne ne] at hd; exact hd
    refine q dx _ hd' (fun c o h => ?_) upd_same
    have n1 : c ≠ a := ne_of_none h ha
    have n2 : c ≠ dx := ne_of_none h hd'
    rw [upd_ne n2, del_ne n1, upd_ne n1, upd_ne n2, upd_ne n1]
    exact h
structure CalX (P : Program) (w : World) (K : PySem.W.Frag) (mg : Str → Option Value) (base : Heap) (k : Nat) (x : Str) (sp : Sp) : Prop where
  ex : ∃ (f : Addr) (fd : FuncData) (ps : List Str), FnOk P w K mg base (CX P w) k f fd ps sp ∧ mg x = some (.ref f) ∧ PySem.W.keepIn K (.ref f) = true ∧ Binds K fd ps []
theorem takes_cx {P : Program} {w : World} {K : PySem.W.Frag} {mg : Str → Option Value} {base : Heap} {N : List Str} {qual : Str} {scope : Scope} {f : Addr} {cd : Value} {A : Around} {outer : List Env} {s : Shared} {H : Hp} {E : XK} :
    Takes (cxOf (CX P w) P w K mg base N qual scope f cd A outer s H E) (fun cls d _ H' => E cls d H') := takes_of rfl rfl rfl rfl
theorem calX {P : Program} {w : World} {K : PySem.W.Frag} {mg : Str → Option Value} {base : Heap} {x : Str} {st : Stmt} {f : Addr} {fd : FuncData} {N ps : List Str} {k : Nat} {sp : Sp} (F : C8.Def K mg x st f fd) (b : Binds K fd ps []) (S : FnScope N ps (C8.fnScope st)) (len : ∀ vs H Q E, sp vs H Q E → vs.length = ps.length)
    (hbody : ∀ (cdv : Value) (A : Around) (outer : List Env) (s : Shared) (H : Hp) (vs : List V) (Q : VK) (E : XK), Room k (A.deeper (envOfC x (C8.fnScope st) s.heap.objs.size f cdv)) → sp vs H Q E →
      ∃ t, PSs (cxOf (CX P w) P w K mg base N x (C8.fnScope st) f cdv A outer s H E) (C8.fnBody st) t ∧ t { nx := fun _ H' => Q .non H', rt := Q } (start N vs) H) : CalX P w K mg base (k + 1) x sp := by
  obtain ⟨oc, od, dV, kV, doc, pm, an, cdv, ct, osl, rfl, lk, hcd⟩ := F.fn.ex
  exact ⟨f, _, ps, fn_of lk hcd S len (hbody cdv), F.mgf, F.kp, b⟩
section
variable {X : Cx} {k j : Nat} {x : Str} {sp : Sp} {p pos : Pos} {e : Expr} {es : List Expr} {t : TA} {W : WX} {E : XK}
theorem pe_cx (c : CalX X.prog X.w X.K X.mg X.base k x sp) (tk : Takes X W) (hW : ∀ cls d σ H, E cls d H → W cls d σ H) (hr : Room j X.A) (hk : k ≤ j) (hg : Gl X x) (ha : PA X (e :: es) t)
    (hdb : (x == ("__debug__" : Str)) = false := by decide) (he : starEach (e :: es) X.env = (false, eval e X.env) :: starEach es X.env := by rfl) (hpl : (backTo pos (starEach es X.env)).any (·.1) = false := by rfl) :
    PE X (.Call (.Name x p) (e :: es) [] pos) (tCall sp [] E t) := by
  obtain ⟨f, fd, ps, F, hm, kp, b⟩ := c.ex
  exact pe_call F (hr.mono hk) hg hm kp b .nil (passes_call tk hW) ha hdb he hpl
end
end Gx
set_option Elab.async false
set_option linter.all false
set_option maxRecDepth 100000
set_option maxHeartbeats 1000000
namespace Gx
open PySem PySem.Spec PySem.Calls PyProof.Rows PySem.W
section
variable {prog : Program} {w : World} {A : Around} {E : Value → Shared → Prop} {s : Shared} {K : Frag} {a D : Addr} {oa odict : Obj}
/-- e.__class__ -/
theorem cls_of_exc {Q : Option Value → Shared → Prop} (G : L2.ExcC K D) (KI : K.In s.heap) (J : InstAt s.heap a oa D (some odict)) (q : Q (some (.ref D)) { s with toks := s.toks + 1 }) : wpAny (model prog w) A (getAttr? (.ref a) "__class__") Q E s := by
  have some1 : (clsIn K D).isSome = true := by
    obtain ⟨_, e, _⟩ := any_some G.hd
    rw [e]; rfl
  have found := findObj_data (od := odict) some1 G.ha G.hn G.ht
  obtain ⟨hp, gs, dr, tk, oss⟩ := s
  have M1 : Looks (model prog w) hp (typeOf (.ref a)) (.ref D) := J.type
  have M2 := looks_findIn (M := model prog w) KI G.hg
  have M3 := looks_findIn (M := model prog w) KI G.hk
  have M4 := looks_find (M := model prog w) KI J found
  have M5 : Looks (model prog w) hp (isInstance (.ref a) (.type "BaseException")) true := M1.andThen (looks_subIn KI G.hs)
  have other : (Value.builtin "BaseException.__getattribute__" == Value.builtin "object.__getattribute__") = false := by decide +kernel
  have b1 : (onTheHeap (Value.ref D) && Value.builtin "BaseException.__getattribute__" == Value.builtin "object.__getattribute__") = false := by rw [other]; rfl
  unfold getAttr? getAttrBy? getAttrBy
  refine wpAny_bind (wpAny_mkText (wpAny_bind (wpAny_attempt (wpAny_holding (wpAny_bind (M1.at (wpAny_bind (M2.at ?a1))))))))
  case a1 =>
    show wpAny _ _ (if (onTheHeap (Value.ref D) && Value.builtin "BaseException.__getattribute__" == Value.builtin "object.__getattribute__") = true then _ else _) _ _ _
    rw [b1, if_neg Bool.false_ne_true]
    unfold getAttrByItsOwn hookBefore
    refine wpAny_bind ?a2
    case a2 =>
      rw [if_pos (show onTheHeap (Value.ref D) = true from rfl)]
      refine M3.at (wpAny_bind (wpAny_attempt (wpAny_holding ?a3)))
      case a3 =>
        unfold callGetattribute
        rw [show (false && onTheHeap (Value.builtin "BaseException.__getattribute__")) = false from rfl, if_neg Bool.false_ne_true]
        unfold boundAndCalled
        rw [PySem.F.excAttr_ValueError.ga.bind (.ref a)]
        refine wpAny_bind (wpAny_pure ?a4)
        case a4 =>
          show wpAny _ _ (call (.builtin "BaseException.__getattribute__") [.ref a, .str "__class__" tk]) _ _ _
          refine wpAny_call (codeAny_call_builtin PySem.F.excAttr_ValueError.ga.plain PySem.F.entry_bexc_ga (@check_slot (model prog w) _ _ ⟨hp, gs, dr, tk + 1, oss⟩ "BaseException.__getattribute__" "BaseException" "__getattribute__" (.ref a) [.str "__class__" tk] [] _
            (by decide +kernel) (by decide +kernel) M5 (PySem.F.args_bexc_ga (.ref a) (.str "__class__" tk)) ?a5))
          case a5 =>
            unfold Builtin.«object.__getattribute__»
            refine wpAny_bind (wpAny_of_eq (a := ((Value.ref a : Value), [Value.str "__class__" tk])) (by first | rfl | (simp only [slotArgs]; rfl)) (wpAny_bind (wpAny_pure (wpAny_bind (M1.at (wpAny_bind (M4.at ?a6)))))))
            case a6 =>
              show wpAny _ _ (holding [Value.builtin "object.__class__"] (call (.builtin "getset_descriptor.__get__") [.builtin "object.__class__", .ref a, .ref D]) >>= ret) _ _ _
              refine wpAny_bind (wpAny_holding (wpAny_call (class_get (s := ⟨hp, gs, dr, tk + 1, oss⟩) KI J G.hm (wpAny_pure ?a7))))
              case a7 =>
                show wpAny _ _ (handedOut (.ref D)) _ _ _
                rw [handedOut_of (v := .ref D) rfl]
                first
                  | exact wpAny_pure (wpAny_pure q)
                  | exact wpAny_pure q
                  | exact wpAny_pure (wpAny_bind (wpAny_pure (wpAny_pure q)))
theorem kit_exc (G : L2.ExcC K D) : KitX K (.ref a) (.ref D) (fun h => InstAt h a oa D (some odict)) := by
  have atK : ∃ c d cd sl, K.lookup D = some ⟨c, d, .cls cd, sl⟩ := by
    obtain ⟨_, e, _⟩ := any_some G.hd
    unfold clsIn at e
    split at e
    · exact ⟨_, _, _, _, by assumption⟩
    · cases e
  obtain ⟨c, d, cd, sl, eD⟩ := atK
  refine ⟨fun _ _ _ J => J.type, fun _ _ KI _ => ?_, fun h tp dd its n sl' KI e => ?_, fun KI J q => cls_of_exc G KI J q⟩
  · intro A' Q' E' s' k q
    unfold isType loadHead
    exact wpAny_bind (wpAny_loadPart (k _ _ (KI _ _ eD)) (wpAny_pure q))
  · refine Bool.eq_false_iff.mpr fun z => ?_
    obtain rfl : D = tp := Value.ref.inj (beq_iff_eq.mp z)
    cases (KI _ _ eD).symm.trans e
end
open L2
end Gx
set_option Elab.async false
set_option linter.all false
set_option maxRecDepth 100000
set_option maxHeartbeats 1000000
namespace Gx
open PySem PySem.Spec PyProof.Rows L2
end Gx
set_option Elab.async false
set_option linter.all false
set_option maxRecDepth 100000
set_option maxHeartbeats 1000000
namespace Gx
open PySem PySem.Spec PyProof.Rows L2
end Gx
set_option Elab.async false
set_option linter.all false
set_option maxRecDepth 100000
set_option maxHeartbeats 4000000
namespace Au
open PySem PySem.Spec PyProof.Rows L2
def ExP (p : Addr) (H H' : Hp) : Prop := ∀ c o, H c = some o → c ≠ p → H' c = some o
theorem ExP.refl {p : Addr} (H : Hp) : ExP p H H := fun _ _ e _ => e
theorem ExP.of {p : Addr} {H H' : Hp} (e : Rd.Ex H H') : ExP p H H' := fun c o h _ => e c o h
theorem ExP.trans {p : Addr} {H H1 H2 : Hp} (a : ExP p H H1) (b : ExP p H1 H2) : ExP p H H2 := fun c o h n => b c o (a c o h n) n
theorem rep {H : Hp} {Q : VK} {l : Addr} {k : Int} {xs : List V} (h1 : H l = some (.lst xs)) (hk : 0 ≤ k ∧ k < 100) (hl : xs.length ≤ 10) (q : ∀ p H', H p = none → Rd.Ex H H' → H' p = some (.lst (List.replicate k.toNat xs).flatten) → Q (.ref p) H') : rRep (.ref l) (.int k) H Q :=
  ⟨l, k, xs, rfl, rfl, h1, by omega, by omega, Nat.le_trans (Nat.mul_le_mul hl (show k.toNat ≤ 100 by omega)) (Nat.le_of_ble_eq_true rfl), fun p hp => q p _ hp (Rd.ex_new hp) upd_same⟩
def NewO (H : Hp) (o : HO) (Q : VK) : Prop := ∀ p, H p = none → Q (.ref p) (upd H p o)
section
variable {σ : L2.St} {H : Hp} {Q : VK} {K : PySem.W.Frag} {tr : TA} {te ti : TE} {o : HO} {a C dx : Addr} {fs : List (Str × V)} {xs : List V} {v : V}
theorem new (q : ∀ p H', H p = none → Rd.Ex H H' → H' p = some o → Q (.ref p) H') : NewO H o Q := fun p hp => q p _ hp (Rd.ex_new hp) upd_same
theorem tup (h : tr σ H fun xs H1 => xs.length ≤ sizeLine ∧ NewO H1 (.tup xs) Q) : tTup tr σ H Q := h
theorem lst (h : tr σ H fun xs H1 => xs.length ≤ sizeLine ∧ NewO H1 (.lst xs) Q) : tLst tr σ H Q := h
theorem sum {ns : List Int} (h : SqL K H a (ns.map V.int)) (q : Q (.int ns.sum) H) : rSum K [.ref a] H Q := ⟨a, ns, rfl, h, q⟩
end
end Au
set_option maxRecDepth 100000
namespace ML
def A : Int := 205891132094649
def M : Int := 281474976710656
def S : Nat → Int
  | 0 => 0
  | n + 1 => A * S n + 1
/-- the state after n steps, as an integer -/
def raw (n : Nat) (x : Int) : Int := A ^ n * x + 11 * S n
def m1 (n : Nat) : Int := A ^ n % 281474976710656
def m2 (n : Nat) : Int := 11 * S n % 281474976710656
end ML
set_option linter.all false
namespace MX
def xs (k n : Nat) : Nat := n ^^^ (n / 2 ^ k)
def F : Nat := 3486784401
def U : Nat := 3396732273
theorem FU : F * U % 4294967296 = 1 := by decide
def tmp (n : Nat) : Nat := xs 16 (xs 13 n * F % 4294967296)
theorem xx (a b : Nat) : a ^^^ b ^^^ b = a := by rw [Nat.xor_assoc, Nat.xor_self, Nat.xor_zero]
theorem mod_lt (a : Nat) : a % 4294967296 < 2 ^ 32 := Nat.mod_lt _ (by decide)
/-- the rounds -/
def fe (s : Nat) (p : Nat × Nat) : Nat × Nat := (p.2, p.1 ^^^ tmp ((p.2 + 1000003 * s) % 4294967296))
def bk (s : Nat) (p : Nat × Nat) : Nat × Nat := (p.2 ^^^ tmp ((p.1 + 1000003 * s) % 4294967296), p.1)
def ok (p : Nat × Nat) : Prop := p.1 < 2 ^ 32 ∧ p.2 < 2 ^ 32
end MX
set_option Elab.async false
set_option linter.all false
set_option maxRecDepth 100000
set_option maxHeartbeats 4000000
set_option exponentiation.threshold 2000
namespace Pr
open PySem PySem.Spec PyProof.Rows L2
def NonInt (H : Hp) (v : V) : Prop := v = .non ∨ (∃ b, v = .bl b) ∨ (∃ s, v = .str s) ∨ (∃ a xs, v = .ref a ∧ H a = some (.tup xs)) ∨ (∃ a xs, v = .ref a ∧ H a = some (.lst xs)) ∨ ∃ a kvs, v = .ref a ∧ H a = some (.dK kvs)
/-- is the value a number in its bounds -/
abbrev spIs (lo hi : Int) : Sp := fun vs H Q _ => ∃ v, vs = [v] ∧ ((∃ n : Int, v = .int n ∧ Q (.bl (decide (lo ≤ n ∧ n ≤ hi))) H) ∨ (NonInt H v ∧ Q (.bl false) H))
def MapAt (K : PySem.W.Frag) (H : Hp) (a : Addr) (n : Nat) : Prop := SqT K H a [.int (ML.m1 n), .int (ML.m2 n)]
theorem MapAt.ex {K : PySem.W.Frag} {H H' : Hp} {a : Addr} {n : Nat} (e : Rd.Ex H H') (h : MapAt K H a n) : MapAt K H' a n := Rd.ex_t e h
end Pr
set_option Elab.async false
set_option linter.all false
set_option maxRecDepth 100000
set_option maxHeartbeats 4000000
namespace Gx
open PySem PySem.Spec PyProof.Rows L2
def gFld (K : PySem.W.Frag) (to : TE) (f : Str) : TG := fun v σ H Q => to σ H fun x H1 => ∃ a C dx fs, x = .ref a ∧ H1 a = some (.ins C dx fs) ∧ Cls K C ∧ NoAttr K C f ∧ fs.length < 1000 ∧ Q σ (upd H1 a (.ins C dx (putF f v fs)))
theorem pg_fld {X : Cx} {o : Expr} {to : TE} {f : Str} {pos : Pos} (ho : PE X o to) : PG X (.Attribute o f pos) (gFld X.K to f) := by
  refine ⟨fun pins s σ H v u Q I r h => ?_⟩
  rw [assign_Attribute]
  refine wpAny_bind (wpAny_holding (thn (ho.run pins s σ H _ I h) fun ov s1 ⟨x, H1, I1, r1, a, C, dx, fs, ex, ea, c, n, l, q⟩ => ?_))
  subst ex
  obtain rfl : ov = Value.ref a := r1
  refine wpAny_bind (wpAny_standAt (wpAny_bind (wpAny_holding (setattr_ok I1 ea c n l r fun s3 I3 => ?_))))
  exact wpAny_release ⟨σ, _, I3, q⟩
end Gx
set_option Elab.async false
set_option linter.all false
set_option maxRecDepth 100000
set_option maxHeartbeats 1000000
namespace Gx
open PySem PySem.Spec PyProof.Rows L2 GenW Builtin Builtin.ObjectAttr
end Gx
set_option Elab.async false
set_option linter.all false
set_option maxRecDepth 100000
set_option maxHeartbeats 1000000
namespace Gx
open PySem PySem.Spec PyProof.Rows L2 GenW
structure MetX (P : Program) (w : World) (K : PySem.W.Frag) (mg : Str → Option Value) (base : Heap) (k : Nat) (C : Addr) (m : Str) (sp : Sp) : Prop where
  ex : ∃ (f : Addr) (fd : FuncData) (ps : List Str), Cls K C ∧ Meth K C m f ∧ FnOk P w K mg base (CX P w) k f fd ps sp ∧ Binds K fd ps []
theorem metX {P : Program} {w : World} {K : PySem.W.Frag} {mg : Str → Option Value} {base : Heap} {m qual : Str} {C : Addr} {st : Stmt} {f : Addr} {fd : FuncData} {N ps : List Str} {k : Nat} {sp : Sp} (c : Cls K C) (me : Meth K C m f) (F : C8.Fun K m qual st f fd) (b : Binds K fd ps [])
    (S : FnScope N ps (C8.fnScope st)) (len : ∀ vs H Q E, sp vs H Q E → vs.length = ps.length)
    (hbody : ∀ (cdv : Value) (A : Around) (outer : List Env) (s : Shared) (H : Hp) (vs : List V) (Q : VK) (E : XK), Room k (A.deeper (envOfC qual (C8.fnScope st) s.heap.objs.size f cdv)) → sp vs H Q E →
      ∃ t, PSs (cxOf (CX P w) P w K mg base N qual (C8.fnScope st) f cdv A outer s H E) (C8.fnBody st) t ∧ t { nx := fun _ H' => Q .non H', rt := Q } (start N vs) H) : MetX P w K mg base (k + 1) C m sp := by
  obtain ⟨oc, od, dV, kV, doc, pm, an, cdv, ct, osl, rfl, lk, hcd⟩ := F.ex
  exact ⟨f, _, ps, c, me, fn_of lk hcd S len (hbody cdv), b⟩
section
variable {X : Cx} {k j : Nat} {C : Addr} {x m : Str} {sp : Sp} {p pos apos : Pos} {e o : Expr} {es : List Expr} {ta : TE} {t : TA} {W : WX} {E : XK} {pl : Sem Bool}
theorem pe_mx (c : MetX X.prog X.w X.K X.mg X.base k C m sp) (tk : Takes X W) (hW : ∀ cls d σ H, E cls d H → W cls d σ H) (hr : Room j X.A) (hk : k ≤ j) (he : PE X o ta) (ha : PA X (e :: es) t)
    (hst : starEach (e :: es) X.env = (false, eval e X.env) :: starEach es X.env := by rfl) (hpl : (backTo pos (starEach es X.env)).any (·.1) = false := by rfl)
    (ht : eval (.Call (.Attribute o m apos) (e :: es) [] pos) X.env = (do
      let ov ← eval o X.env
      standAt apos.atName
      let (f, first) ← holding [ov] (getMethod ov m pl)
      callWith pos f first (backTo pos (starEach (e :: es) X.env)) (backToKw pos (keywordEach [] X.env))) := by rfl) :
    PE X (.Call (.Attribute o m apos) (e :: es) [] pos) (tMeth C m sp [] E ta t) := by
  obtain ⟨f, fd, ps, hc, hm, F, b⟩ := c.ex
  exact pe_meth (pl := pl) he hc hm F (hr.mono hk) b .nil (passes_call tk hW) ha hst hpl ht
theorem pe_mx0 (c : MetX X.prog X.w X.K X.mg X.base k C m sp) (tk : Takes X W) (hW : ∀ cls d σ H, E cls d H → W cls d σ H) (hr : Room j X.A) (hk : k ≤ j) (he : PE X o ta)
    (ht : eval (.Call (.Attribute o m apos) [] [] pos) X.env = (do
      let ov ← eval o X.env
      standAt apos.atName
      let (f, first) ← holding [ov] (getMethod ov m pl)
      callWith pos f first (backTo pos (starEach [] X.env)) (backToKw pos (keywordEach [] X.env))) := by rfl) :
    PE X (.Call (.Attribute o m apos) [] [] pos) (tMeth C m sp [] E ta tNil) := by
  obtain ⟨f, fd, ps, hc, hm, F, b⟩ := c.ex
  exact pe_meth0 (pl := pl) he hc hm F (hr.mono hk) b .nil (passes_call tk hW) ht
end
end Gx
set_option Elab.async false
set_option linter.all false
set_option maxRecDepth 100000
set_option maxHeartbeats 1000000
namespace Gx
open PySem PySem.Spec PyProof.Rows L2 GenW
structure IVal (K : PySem.W.Frag) (C : Addr) (f : Str) (v : V) : Prop where
  ex : ∃ u, PySem.W.findIn K (.ref C) f = some (some u) ∧ PySem.W.specialIn K u "__get__" = some none ∧ PySem.W.handedIn u = true ∧ RelV v u
  cp : PySem.W.copiedNames.contains f = false
def tIVal (K : PySem.W.Frag) (ta : TE) (f : Str) : TE := fun σ H Q => ta σ H fun x H1 => ∃ a C dx fs v, x = .ref a ∧ H1 a = some (.ins C dx fs) ∧ Cls K C ∧ IVal K C f v ∧ fs.lookup f = none ∧ Q v H1
theorem pe_ival {X : Cx} {e : Expr} {ta : TE} {f : Str} {pos : Pos} (he : PE X e ta) (hb : attributeBase e f X.env (eval e X.env) = eval e X.env := by rfl) : PE X (.Attribute e f pos) (tIVal X.K ta f) := by
  refine ⟨fun pins s σ H Q I h => attr_of hb (thn (he.run pins s σ H _ I h) fun u s1 got => ?_)⟩
  obtain ⟨x, H1, I1, rx, a, C, dx, fs, v, ex, ea, c, k, l, q⟩ := got
  subst ex
  obtain rfl : u = Value.ref a := rx
  obtain ⟨mA, O, rel, _, _, _⟩ := ins_get I1.hok ea
  obtain ⟨od, J, hl⟩ := O.look
  obtain ⟨w, h1, h2, h3, h4⟩ := k.ex
  have no : mA f = none := by
    have z := rel f
    rw [l] at z
    cases hm : mA f with
    | none => rfl
    | some y => rw [hm] at z; exact z.elim
  refine PySem.W.get_value I1.kIn J (PySem.W.plainGet_of (c.get f)).1 (PySem.W.findObj_cls c.hd h1 h2 h3 k.cp (by rw [hl f, no])) h3 ⟨v, H1, I1.tok _, h4, q⟩
def rTupOf (K : PySem.W.Frag) : List V → Hp → VK → Prop := fun xs H Q => ∃ p ys, xs = [.ref p] ∧ ((SqL K H p ys ∧ ∀ l, H l = none → Q (.ref l) (upd H l (.tup ys))) ∨ (SqT K H p ys ∧ Q (.ref p) H))
theorem call_tupOf {X : Cx} : CallR X (.type "tuple") (rTupOf X.K) := call_tuple_of
def rLstOf (K : PySem.W.Frag) : List V → Hp → VK → Prop := fun xs H Q => ∃ p ys, xs = [.ref p] ∧ (SqL K H p ys ∨ SqT K H p ys) ∧ ∀ l, H l = none → Q (.ref l) (upd H l (.lst ys))
section
variable {H : Hp} {Q : VK} {K : PySem.W.Frag} {a b : Addr} {xs zs : List V}
theorem ext (h : H a = some (.lst xs)) (h2 : H b = some (.lst zs)) (hl : xs.length + zs.length ≤ 1000000) (q : ∀ H', Au.ExP a H H' → H' a = some (.lst (xs ++ zs)) → Q .non H') : rExtend (.ref a) [.ref b] H Q :=
  ⟨a, b, xs, zs, rfl, rfl, h, h2, Nat.le_trans hl (Nat.le_of_ble_eq_true rfl), q _ (fun c z h n => by rw [upd_ne n]; exact h) upd_same⟩
theorem frz {ta : TA} {g : TG} {tb : TS} {D : Ends} {σ : L2.St} (h : ta σ H fun vs H1 => ∃ a b xs ys, vs = [.ref a, .ref b] ∧ SqL K H1 a xs ∧ SqL K H1 b ys ∧ ∃ W : Nat → Nat → L2.St → Hp → Prop, (∃ m, W 0 m σ H1) ∧ ∀ i m σ H, W i m σ H →
    ((Itz K a b).stop i H ∧ D.nx σ H) ∨ ((Itz K a b).go i H ∧ ∃ N : L2.St → Hp → Prop, (∀ σ' H', N σ' H' → ∃ m', m' < m ∧ W (i + 1) m' σ' H') ∧ ∀ x H', (Itz K a b).yld i H x H' → g x σ H' fun σ2 H2 => tb { D with nx := N, ct := N, bk := D.nx } σ2 H2)) :
    tFor (iZip K ta) g tb D σ H := h
end
end Gx
set_option Elab.async false
set_option linter.all false
set_option maxRecDepth 100000
set_option maxHeartbeats 1000000
namespace Pr
open PySem PySem.Spec PyProof.Rows L2
/-- all but two objects stand -/
def ExQ (p r : Addr) (H H' : Hp) : Prop := ∀ c o, H c = some o → c ≠ p → c ≠ r → H' c = some o
theorem ExQ.refl {p r : Addr} (H : Hp) : ExQ p r H H := fun _ _ e _ _ => e
abbrev ScrO (C dx sa : Addr) (pl : Nat) : HO := .ins C dx [("s1_script", .ref sa), ("s1_place", .int (pl : Int))]
abbrev DrwO (C dx so : Addr) (n : Nat) : HO := .ins C dx [("s5_source", .ref so), ("s5_used", .int (n : Int))]
abbrev words (ws : List Nat) : List V := ws.map fun (w : Nat) => V.int (w : Int)
/-- a script at its object -/
structure SAt (C : Addr) (H : Hp) (o dx a : Addr) (ws : List Nat) (pl : Nat) : Prop where
  obj : H o = some (ScrO C dx a pl)
  tup : H a = some (.tup (words ws))
  le : pl ≤ ws.length
/-- draws over a script -/
structure DAt (C S : Addr) (H : Hp) (p dx o dy a : Addr) (ws : List Nat) (pl n : Nat) : Prop where
  drw : H p = some (DrwO C dx o n)
  scr : SAt S H o dy a ws pl
theorem DAt.ne {C S p dx o dy a : Addr} {H : Hp} {ws : List Nat} {pl n : Nat} (h : DAt C S H p dx o dy a ws pl n) : p ≠ o ∧ a ≠ p ∧ a ≠ o := by
  refine ⟨ne_of h.drw h.scr.obj (fun z => ?_), ne_of h.scr.tup h.drw (fun z => by cases z), ne_of h.scr.tup h.scr.obj (fun z => by cases z)⟩
  have e : ("s5_source" : Str) = "s1_script" := congrArg (fun o => match o with | HO.ins _ _ ((f, _) :: _) => f | _ => "") z
  exact absurd e (by decide +kernel)
end Pr
set_option Elab.async false
set_option linter.all false
set_option maxRecDepth 100000
set_option maxHeartbeats 1000000
namespace Gx
open PySem PySem.Spec PyProof.Rows L2 GenW
end Gx
set_option Elab.async false
set_option linter.all false
set_option maxRecDepth 100000
set_option maxHeartbeats 1000000
namespace Gx
open PySem PySem.Spec PyProof.Rows L2
section
variable {σ : L2.St} {H : Hp} {Q : VK} {te : TE} {j : Nat} {z : Str}
def rLenS : List V → Hp → VK → Prop := fun xs H Q => ∃ z, xs = [.str z] ∧ z.length ≤ sizeLine ∧ Q (.int (z.length : Nat)) H
theorem call_lenS {X : Cx} : CallR X (.builtin "len") rLenS := call_len_str
end
end Gx
set_option Elab.async false
set_option linter.all false
set_option maxRecDepth 100000
set_option maxHeartbeats 1000000
namespace Gx
open PySem PySem.Spec PyProof.Rows L2
/-- an exception that is kept: at a, of the class cls, its dict at d -/
def xob (a : Addr) (cls : Value) (d : Option Addr) : HO := .ext fun h => ∃ (oe : Obj) (vs : Array Value), h.get? a = some oe ∧ oe.cls = cls ∧ oe.dict = d ∧ oe.data = .fields vs
theorem xob_at {P : Program} {w : World} {H : Hp} {h : Heap} {a : Addr} {cls : Value} {d : Option Addr} (ok : HOk P w H h) (e : H a = some (xob a cls d)) : ∃ (oe : Obj) (vs : Array Value), h.get? a = some oe ∧ oe.cls = cls ∧ oe.dict = d ∧ oe.data = .fields vs := (ok a _ e).1
def rIsK (K : PySem.W.Frag) : List V → Hp → VK → Prop := fun xs H Q => ∃ (a D dd : Addr) (fs : List (Str × V)) (c : V) (cv : Value) (b : Bool), xs = [.ref a, c] ∧ ExcC K D ∧ H a = some (xob a (.ref D) (some dd)) ∧ H dd = some (.xd fs) ∧ (∀ u, RelV c u → u = cv) ∧ PySem.W.kitOne K (.ref D) cv = some b ∧ Q (.bl b) H
theorem call_isK {X : Cx} : CallR X (.builtin "isinstance") (rIsK X.K) := by
  intro pins s σ H xs us Q I r h
  obtain ⟨a, D, dd, fs, c, cv, b, rfl, G, ha, hd, hcv, e, q⟩ := h
  cases r with
  | cons rx rr =>
    cases rr with
    | cons rt rr =>
      cases rr
      cases rx
      obtain rfl := hcv _ rt
      obtain ⟨oe, vs, e1, e2, e3, e4⟩ := xob_at I.hok ha
      obtain ⟨mA, ns, _⟩ := (show ObjOk X.prog X.w H s.heap dd (.xd fs) from I.hok dd _ hd)
      obtain ⟨od, ho, _⟩ := lookIn_ns ns
      have J : PySem.W.InstAt s.heap a oe D (some od) := ⟨e1, e2, by unfold PySem.W.notCls; rw [e4] <;> rfl, by rw [e3]; exact ho⟩
      exact PySem.W.kia_one (kit_exc G) I.kIn J e (fun z => nomatch z) fun tk => ⟨.bl b, H, I.kept (t' := tk) fun _ _ z => z, rfl, q⟩
/-- e.f of a kept exception -/
def tXk (K : PySem.W.Frag) (f : Str) (te : TE) : TE := fun σ H Q => te σ H fun x H1 => ∃ (a C dd : Addr) (fs : List (Str × V)) (v : V), x = .ref a ∧ XfC K C ∧ PySem.W.findIn K (.ref C) f = some none ∧ H1 a = some (xob a (.ref C) (some dd)) ∧ H1 dd = some (.xd fs) ∧ fs.lookup f = some v ∧ Q v H1
theorem xk {K : PySem.W.Frag} {σ : L2.St} {H : Hp} {Q : VK} {f : Str} {te : TE} (h : te σ H fun x H1 => ∃ (a C dd : Addr) (fs : List (Str × V)) (v : V), x = .ref a ∧ XfC K C ∧ PySem.W.findIn K (.ref C) f = some none ∧ H1 a = some (xob a (.ref C) (some dd)) ∧ H1 dd = some (.xd fs) ∧ fs.lookup f = some v ∧ Q v H1) : tXk K f te σ H Q := h
end Gx
set_option Elab.async false
set_option linter.all false
set_option maxRecDepth 100000
set_option maxHeartbeats 1000000
namespace Gx
open PySem PySem.Spec PyProof.Rows L2
end Gx
set_option Elab.async false
set_option linter.all false
set_option maxRecDepth 100000
set_option maxHeartbeats 1000000
namespace Pr
open PySem PySem.Spec PyProof.Rows L2
/-- a value as a number in its bounds -/
inductive Nm (lo hi : Int) (H : Hp) : V → Option Int → Prop
  | int (n : Int) : Nm lo hi H (.int n) (if lo ≤ n ∧ n ≤ hi then some n else none)
  | non {v : V} (h : NonInt H v) : Nm lo hi H v none
theorem Nm.bad {lo hi n : Int} {H : Hp} (h : ¬ (lo ≤ n ∧ n ≤ hi)) : Nm lo hi H (.int n) none := by
  have z := Nm.int (lo := lo) (hi := hi) (H := H) n
  rwa [if_neg h] at z
/-- what is refused -/
abbrev Out (lo hi : Int) (H : Hp) (v : V) : Prop := Nm lo hi H v none
theorem NonInt.ex {H H' : Hp} {v : V} (e : Rd.Ex H H') (h : NonInt H v) : NonInt H' v := by
  rcases h with h | h | h | ⟨a, xs, h, k⟩ | ⟨a, xs, h, k⟩ | ⟨a, xs, h, k⟩
  · exact .inl h
  · exact .inr (.inl h)
  · exact .inr (.inr (.inl h))
  · exact .inr (.inr (.inr (.inl ⟨a, xs, h, e _ _ k⟩)))
  · exact .inr (.inr (.inr (.inr (.inl ⟨a, xs, h, e _ _ k⟩))))
  · exact .inr (.inr (.inr (.inr (.inr ⟨a, xs, h, e _ _ k⟩))))
theorem Nm.ex {lo hi : Int} {H H' : Hp} {v : V} {r : Option Int} (e : Rd.Ex H H') (h : Nm lo hi H v r) : Nm lo hi H' v r := by
  cases h with
  | int n => exact .int n
  | non h => exact .non (NonInt.ex e h)
theorem Nm.inv {lo hi : Int} {H : Hp} {v : V} {r : Option Int} (h : Nm lo hi H v r) : (∃ n, v = .int n ∧ r = some n ∧ lo ≤ n ∧ n ≤ hi) ∨ (∃ n, v = .int n ∧ r = none ∧ ¬ (lo ≤ n ∧ n ≤ hi)) ∨ (NonInt H v ∧ r = none) := by
  cases h with
  | int n =>
    by_cases c : lo ≤ n ∧ n ≤ hi
    · exact .inl ⟨n, rfl, if_pos c, c⟩
    · exact .inr (.inl ⟨n, rfl, if_neg c, c⟩)
  | non h => exact .inr (.inr ⟨h, rfl⟩)
/-- exception of the class CE with the value v in its field fl -/
def Xs (CE : Addr) (fl : Str) (v : V) (H : Hp) (E : XK) : Prop := ∀ d H', H d = none → Rd.Ex H H' → H' d = some (.xd [(fl, v)]) → E (.ref CE) (some d) H'
theorem ex_none {H H1 : Hp} {p : Addr} (e : Rd.Ex H H1) (h : H1 p = none) : H p = none := by
  cases hh : H p with
  | none => rfl
  | some o => rw [e p o hh] at h; cases h
theorem Xs.ex {CE : Addr} {fl : Str} {v : V} {H H' : Hp} {E : XK} (e : Rd.Ex H H') (h : Xs CE fl v H E) : Xs CE fl v H' E := fun d H2 hd e2 k => h d H2 (ex_none e hd) (e.trans e2) k
theorem Xs.mk {C : Addr} {fl : Str} {v : V} {H : Hp} {Q : XK} (h : Xs C fl v H Q) :
    [v].length ≤ 1000 ∧ ∀ a, H a = none → Gx.spExc C fl (.ref a :: ([v] ++ [])) (upd H a (exo a C none))
      (fun r H2 => r = .non ∧ ∃ (d : Addr) (fs : List (Str × V)), H2 a = some (exo a C (some d)) ∧ H2 d = some (exd d fs) ∧ H d = none ∧ Q (.ref C) (some d) (upd (del H2 a) d (.xd fs))) (fun _ _ _ => False) := Gx.mkO h
theorem Out.is {lo hi : Int} {H : Hp} {v : V} {Q : VK} {E : XK} (h : Out lo hi H v) (q : Q (.bl false) H) : spIs lo hi ([v] ++ []) H Q E := by
  refine ⟨v, rfl, ?_⟩
  rcases h.inv with ⟨n, _, z, _⟩ | ⟨n, rfl, _, c⟩ | ⟨h', _⟩
  · cases z
  · exact .inl ⟨n, rfl, by rw [decide_eq_false c]; exact q⟩
  · exact .inr ⟨h', q⟩
theorem Nm.is {lo hi : Int} {H : Hp} {v : V} {r : Option Int} {Q : VK} {E : XK} (h : Nm lo hi H v r) (q : Q (.bl r.isSome) H) : spIs lo hi ([v] ++ []) H Q E := by
  refine ⟨v, rfl, ?_⟩
  rcases h.inv with ⟨n, rfl, rfl, c⟩ | ⟨n, rfl, rfl, c⟩ | ⟨h', rfl⟩
  · exact .inl ⟨n, rfl, by rw [decide_eq_true c]; exact q⟩
  · exact .inl ⟨n, rfl, by rw [decide_eq_false c]; exact q⟩
  · exact .inr ⟨h', q⟩
end Pr
namespace Gx
open PySem PySem.Spec PyProof.Rows L2
/-- written objects that stand -/
def Hold (L : List (Addr × HO)) (H : Hp) : Prop := ∀ x ∈ L, H x.1 = some x.2
def Plain (L : List (Addr × HO)) : Prop := ∀ x ∈ L, (∃ xs, x.2 = .tup xs) ∨ ∃ xs, x.2 = .lst xs
section
variable {L : List (Addr × HO)} {H H' : Hp}
theorem Hold.ex (h : Hold L H) (e : Rd.Ex H H') : Hold L H' := fun x hx => e _ _ (h x hx)
/-- an object that was not there then is changed -/
theorem Hold.new {H0 : Hp} (h : Hold L H) (h0 : Hold L H0) {d : Addr} (hd : H0 d = none) (e : Au.ExP d H H') : Hold L H' := fun x hx => e _ _ (h x hx) fun z => by
  have k := h0 x hx
  rw [z, hd] at k
  cases k
theorem Hold.cons {a : Addr} {o : HO} (h : Hold L H) (k : H a = some o) : Hold ((a, o) :: L) H := fun x hx => by
  rcases List.mem_cons.mp hx with rfl | hx
  · exact k
  · exact h x hx
theorem Hold.nil : Hold [] H := fun x hx => by cases hx
theorem Plain.nil : Plain [] := fun x hx => by cases hx
theorem Plain.tup {a : Addr} {xs : List V} (h : Plain L) : Plain ((a, .tup xs) :: L) := fun x hx => by
  rcases List.mem_cons.mp hx with rfl | hx
  · exact .inl ⟨_, rfl⟩
  · exact h x hx
theorem Plain.lst {a : Addr} {xs : List V} (h : Plain L) : Plain ((a, .lst xs) :: L) := fun x hx => by
  rcases List.mem_cons.mp hx with rfl | hx
  · exact .inr ⟨_, rfl⟩
  · exact h x hx
theorem Hold.at {a : Addr} {o : HO} (i : Nat) (h : Hold L H) (hi : L[i]? = some (a, o)) : H a = some o := h (a, o) (List.mem_of_getElem? hi)
end
end Gx
set_option Elab.async false
set_option linter.all false
set_option maxRecDepth 100000
set_option maxHeartbeats 1000000
namespace Sx
open PySem PySem.Spec PyProof.Rows L2
/-- a thing that may be written -/
def Mo : HO → Prop
  | .lst _ => True
  | .ins _ _ _ => True
  | .dK _ => True
  | .dT _ => True
  | .set _ _ => True
  | .xd _ => True
  | _ => False
theorem Mo.tup {xs : List V} : ¬ Mo (.tup xs) := fun h => h
theorem Mo.tbl {ps} : ¬ Mo (.tbl ps) := fun h => h
theorem Mo.ext {ps} : ¬ Mo (.ext ps) := fun h => h
/-- tuples stay -/
def Kp (H H' : Hp) : Prop := ∀ c xs, H c = some (.tup xs) → H' c = some (.tup xs)
theorem Kp.ex {H H' : Hp} (e : Rd.Ex H H') : Kp H H' := fun c xs h => e c _ h
theorem Kp.exn {H H' : Hp} (e : LamX.ExtN H H') : Kp H H' := fun c xs h => e c _ h fun _ z => by cases z
theorem Kp.exp {H H' : Hp} {x : Addr} {o : HO} (e : Au.ExP x H H') (hx : H x = some o) (m : Mo o) : Kp H H' := fun c xs h => e c _ h fun z => by
  rw [z, hx] at h
  cases h
  exact m
/-- what is told of a thing -/
structure Cl where
  P : Hp → HO → Prop
  st : ∀ {H H' : Hp} {o : HO}, Kp H H' → P H o → P H' o
def Is (o : HO) : Cl := ⟨fun _ x => x = o, fun _ h => h⟩
/-- read only; new tuple; new and writable; to be written -/
inductive Fl where | ro | nt | nm | mu
def Fl.mut : Fl → Bool
  | .nm => true
  | .mu => true
  | _ => false
abbrev En := Addr × Cl × Fl
structure Bs where
  H0 : Hp
  M : List Addr
  T : List (Addr × Str)
/-- it was not there at the entry -/
def Fr (B : Bs) (a : Addr) : Prop := ∀ o, B.H0 a = some o → B.T ≠ [] ∧ ∃ ps, o = .tbl ps
def Fl.ok (B : Bs) (a : Addr) : Fl → Prop
  | .ro => True
  | .nt => Fr B a
  | .nm => Fr B a
  | .mu => a ∈ B.M
def Df (e e' : En) : Prop := (e.2.2.mut = false ∧ e'.2.2.mut = false) ∨ e.1 ≠ e'.1
theorem Df.symm {e e' : En} (h : Df e e') : Df e' e := h.elim (fun h => .inl ⟨h.2, h.1⟩) (fun h => .inr (Ne.symm h))
structure Hs (B : Bs) (L : List En) (H : Hp) : Prop where
  fr : ∀ c o, B.H0 c = some o → c ∉ B.M → (B.T ≠ [] → ∀ ps, o ≠ .tbl ps) → H c = some o
  mm : ∀ c ∈ B.M, ∃ o, H c = some o ∧ Mo o
  tb : LamX.Tabs B.T H
  df : L.Pairwise Df
  ok : ∀ e ∈ L, e.2.2.ok B e.1 ∧ ∃ o, H e.1 = some o ∧ e.2.1.P H o ∧ (e.2.2.mut = true → Mo o) ∧ ∀ ps, o ≠ .tbl ps
def W (B : Bs) (L : List En) (G : Hp → Prop) : Prop := ∀ H, Hs B L H → G H
section
variable {B : Bs} {L L' L1 L2 : List En} {H H' H1 : Hp} {p x a : Addr} {o : HO} {φ φ' : Cl} {f : Fl} {G G' : Hp → Prop}
theorem Hs.at (S : Hs B L H) (m : (a, Is o, f) ∈ L) : H a = some o := by
  obtain ⟨_, z, h1, h2, _⟩ := S.ok _ m
  cases h2
  exact h1
theorem Hs.fresh (S : Hs B L H) (n : H p = none) : Fr B p := fun o h => by
  refine Classical.byContradiction fun nc => ?_
  by_cases hm : p ∈ B.M
  · obtain ⟨o', h', _⟩ := S.mm p hm
    rw [n] at h'; cases h'
  · have := S.fr p o h hm fun hT ps z => nc ⟨hT, ps, z⟩
    rw [n] at this; cases this
theorem Hs.ex (S : Hs B L H) (e : Rd.Ex H H') : Hs B L H' where
  fr := fun c o h n t => e _ _ (S.fr c o h n t)
  mm := fun c h => by
    obtain ⟨o, h1, h2⟩ := S.mm c h
    exact ⟨o, e _ _ h1, h2⟩
  tb := S.tb.ext e
  df := S.df
  ok := fun z hz => by
    obtain ⟨h0, o, h1, h2, h3⟩ := S.ok z hz
    exact ⟨h0, o, e _ _ h1, z.2.1.st (.ex e) h2, h3⟩
theorem Hs.exn (S : Hs B L H) (hT : B.T ≠ []) (e : LamX.ExtN H H') (t : LamX.Tabs B.T H') : Hs B L H' where
  fr := fun c o h n t => e _ _ (S.fr c o h n t) (t hT)
  mm := fun c h => by
    obtain ⟨o, h1, h2⟩ := S.mm c h
    exact ⟨o, e _ _ h1 (fun ps z => by subst z; exact h2), h2⟩
  tb := t
  df := S.df
  ok := fun z hz => by
    obtain ⟨h0, o, h1, h2, h3, h4⟩ := S.ok z hz
    exact ⟨h0, o, e _ _ h1 h4, z.2.1.st (.exn e) h2, h3, h4⟩
theorem Hs.ad (S : Hs B L H) (n : H p = none) (e : Rd.Ex H H') (k : H' p = some o) (c : φ.P H' o) (hf : f = .nt ∨ f = .nm ∧ Mo o) (nb : ∀ ps, o ≠ .tbl ps) : Hs B ((p, φ, f) :: L) H' where
  fr := (S.ex e).fr
  mm := (S.ex e).mm
  tb := (S.ex e).tb
  df := List.pairwise_cons.mpr ⟨fun z hz => .inr fun q => (by
    obtain ⟨_, o', h1, _⟩ := S.ok z hz
    simp only at q
    rw [← q, n] at h1
    cases h1), S.df⟩
  ok := fun z hz => by
    rcases List.mem_cons.mp hz with rfl | hz
    · refine ⟨?_, o, k, c, ?_, nb⟩
      · rcases hf with rfl | ⟨rfl, _⟩ <;> exact S.fresh n
      · rcases hf with rfl | ⟨rfl, h⟩
        · intro h; cases h
        · exact fun _ => h
    · exact (S.ex e).ok z hz
theorem Hs.nw (S : Hs B L H) (n : H p = none) (e : Rd.Ex H H') (k : H' p = some o) (hf : f = .nt ∨ f = .nm ∧ Mo o) (nb : ∀ ps, o ≠ .tbl ps) : Hs B ((p, Is o, f) :: L) H' := S.ad n e k rfl hf nb
/-- one thing's row is written anew -/
inductive Upd : List En → Addr → Cl → List En → Prop
  | hd {φ φ' : Cl} {f : Fl} {x : Addr} {L : List En} (h : f.mut = true) : Upd ((x, φ, f) :: L) x φ' ((x, φ', f) :: L)
  | tl {e : En} {L L' : List En} {x : Addr} {φ' : Cl} (h : Upd L x φ' L') : Upd (e :: L) x φ' (e :: L')
theorem Upd.mem {L L' : List En} {x : Addr} {φ' : Cl} (u : Upd L x φ' L') (d : L.Pairwise Df) : (∃ φ f, f.mut = true ∧ (x, φ, f) ∈ L) ∧ (∀ e ∈ L', (e.1 = x ∧ e.2.1 = φ' ∧ e.2.2.mut = true ∧ ∃ φ, (x, φ, e.2.2) ∈ L) ∨ (e ∈ L ∧ e.1 ≠ x)) ∧ L'.map (fun e => (e.1, e.2.2)) = L.map (fun e => (e.1, e.2.2)) := by
  induction u with
  | hd h =>
    refine ⟨⟨_, _, h, List.mem_cons_self⟩, fun e he => ?_, rfl⟩
    rcases List.mem_cons.mp he with rfl | he
    · exact .inl ⟨rfl, rfl, h, _, List.mem_cons_self⟩
    · refine .inr ⟨List.mem_cons_of_mem _ he, fun z => ?_⟩
      rcases (List.pairwise_cons.mp d).1 e he with q | q
      · rw [h] at q; cases q.1
      · exact q z.symm
  | @tl e L L' x φ' u ih =>
    obtain ⟨⟨φ, f, h1, h2⟩, h3, h4⟩ := ih (List.pairwise_cons.mp d).2
    refine ⟨⟨φ, f, h1, List.mem_cons_of_mem _ h2⟩, fun z hz => ?_, by simp only [List.map_cons, h4]⟩
    rcases List.mem_cons.mp hz with rfl | hz
    · refine .inr ⟨List.mem_cons_self, fun q => ?_⟩
      rcases (List.pairwise_cons.mp d).1 _ h2 with w | w
      · rw [h1] at w; cases w.2
      · exact w q
    · rcases h3 z hz with ⟨a, b, c, φ, d⟩ | ⟨a, b⟩
      · exact .inl ⟨a, b, c, φ, List.mem_cons_of_mem _ d⟩
      · exact .inr ⟨List.mem_cons_of_mem _ a, b⟩
theorem df_map {L L' : List En} (h : L'.map (fun e => (e.1, e.2.2)) = L.map (fun e => (e.1, e.2.2))) (d : L.Pairwise Df) : L'.Pairwise Df := by
  have e : ∀ K : List En, K.Pairwise Df ↔ (K.map (fun e => (e.1, e.2.2))).Pairwise (fun p q => (p.2.mut = false ∧ q.2.mut = false) ∨ p.1 ≠ q.1) := fun K => by
    rw [List.pairwise_map]; rfl
  rw [e, h, ← e]
  exact d
theorem Hs.set (S : Hs B L H) (u : Upd L x φ L') (e : Au.ExP x H H') (k : H' x = some o) (c : φ.P H' o) (mo : Mo o) : Hs B L' H' := by
  obtain ⟨⟨ψ, f, h1, h2⟩, h3, h4⟩ := u.mem S.df
  obtain ⟨s0, z, s1, s2, s3, s4⟩ := S.ok _ h2
  have mz := s3 h1
  have kp := Kp.exp e s1 mz
  have nb : ∀ ps, o ≠ .tbl ps := fun ps q => by subst q; exact mo
  refine ⟨fun c o' h n t => e _ _ (S.fr c o' h n t) fun q => ?_, fun c hc => ?_, fun q hq => ?_, df_map h4 S.df, fun v hv => ?_⟩
  · subst q
    cases f with
    | ro => cases h1
    | nt => cases h1
    | nm =>
      obtain ⟨hT, ps, q⟩ := s0 _ h
      exact t hT ps q
    | mu => exact n s0
  · by_cases q : c = x
    · exact ⟨o, q ▸ k, mo⟩
    · obtain ⟨o', h1, h2⟩ := S.mm c hc
      exact ⟨o', e _ _ h1 q, h2⟩
  · obtain ⟨ps, t1, t2, t3⟩ := S.tb q hq
    refine ⟨ps, e _ _ t1 (fun w => by rw [w, s1] at t1; cases t1; exact mz), t2, fun pos cv hcv => ?_⟩
    obtain ⟨c', rfl, hc'⟩ := t3 pos cv hcv
    exact ⟨c', rfl, e _ _ hc' (fun w => by rw [w, s1] at hc'; cases hc'; exact mz)⟩
  · rcases h3 v hv with ⟨rfl, rfl, q3, φ0, q4⟩ | ⟨q1, q2⟩
    · exact ⟨(S.ok _ q4).1, o, k, c, fun _ => mo, nb⟩
    · obtain ⟨w0, o', w1, w2, w3⟩ := S.ok v q1
      exact ⟨w0, o', e _ _ w1 q2, v.2.1.st kp w2, w3⟩
inductive Sel : List En → Addr → Cl → List En → Prop
  | hd {φ : Cl} {f : Fl} {x : Addr} {L : List En} (h : f.mut = true) : Sel ((x, φ, f) :: L) x φ L
  | tl {e : En} {L L' : List En} {x : Addr} {φ : Cl} (h : Sel L x φ L') : Sel (e :: L) x φ (e :: L')
inductive FindR : List En → List En → Prop
  | nil {L : List En} : FindR L []
  | cons {L ps : List En} {x : Addr} {φ : Cl} {f : Fl} (m : (x, φ, f) ∈ L) (h : FindR L ps) : FindR L ((x, φ, .ro) :: ps)
/-- first what is to be written, then what is read -/
inductive Find : List En → List En → Prop
  | ros {L ps : List En} (h : FindR L ps) : Find L ps
  | mu {L L1 ps : List En} {x : Addr} {φ : Cl} (m : Sel L x φ L1) (h : Find L1 ps) : Find L ((x, φ, .mu) :: ps)
theorem Sel.mem {L L' : List En} {x : Addr} {φ : Cl} (u : Sel L x φ L') (d : L.Pairwise Df) : (∃ f, f.mut = true ∧ (x, φ, f) ∈ L) ∧ (∀ e ∈ L', e ∈ L ∧ e.1 ≠ x) ∧ L'.Sublist L := by
  induction u with
  | hd h =>
    refine ⟨⟨_, h, List.mem_cons_self⟩, fun e he => ⟨List.mem_cons_of_mem _ he, fun z => ?_⟩, List.sublist_cons_self _ _⟩
    rcases (List.pairwise_cons.mp d).1 e he with q | q
    · rw [h] at q; cases q.1
    · exact q z.symm
  | @tl e L L' x φ u ih =>
    obtain ⟨⟨f, h1, h2⟩, h3, h4⟩ := ih (List.pairwise_cons.mp d).2
    refine ⟨⟨f, h1, List.mem_cons_of_mem _ h2⟩, fun z hz => ?_, h4.cons_cons _⟩
    rcases List.mem_cons.mp hz with rfl | hz
    · refine ⟨List.mem_cons_self, fun q => ?_⟩
      rcases (List.pairwise_cons.mp d).1 _ h2 with w | w
      · rw [h1] at w; cases w.2
      · exact w q
    · exact ⟨List.mem_cons_of_mem _ (h3 z hz).1, (h3 z hz).2⟩
def mus (L : List En) : List Addr := (L.filter fun e => match e.2.2 with | .mu => true | _ => false).map (·.1)
theorem FindR.mem {L ps : List En} (u : FindR L ps) : (∀ e ∈ ps, e.2.2 = .ro ∧ ∃ f, (e.1, e.2.1, f) ∈ L) ∧ ps.Pairwise Df := by
  induction u with
  | nil => exact ⟨fun e h => (by cases h), .nil⟩
  | @cons ps x φ f m h ih =>
    refine ⟨fun e he => ?_, List.pairwise_cons.mpr ⟨fun e he => .inl ⟨rfl, by rw [(ih.1 e he).1]; rfl⟩, ih.2⟩⟩
    rcases List.mem_cons.mp he with rfl | he
    · exact ⟨rfl, f, m⟩
    · exact ih.1 e he
theorem Find.mem {L ps : List En} (u : Find L ps) (d : L.Pairwise Df) : (∀ e ∈ ps, ∃ f, (e.1, e.2.1, f) ∈ L ∧ (e.2.2 = .ro ∨ (e.2.2 = .mu ∧ f.mut = true))) ∧ ps.Pairwise Df := by
  induction u with
  | ros h =>
    refine ⟨fun e he => ?_, h.mem.2⟩
    obtain ⟨h1, f, h2⟩ := h.mem.1 e he
    exact ⟨f, h2, .inl h1⟩
  | @mu L L1 ps x φ m h ih =>
    obtain ⟨⟨f, m1, m2⟩, m3, m4⟩ := m.mem d
    obtain ⟨h1, h2⟩ := ih (d.sublist m4)
    refine ⟨fun e he => ?_, List.pairwise_cons.mpr ⟨fun e he => ?_, h2⟩⟩
    · rcases List.mem_cons.mp he with rfl | he
      · exact ⟨f, m2, .inr ⟨rfl, m1⟩⟩
      · obtain ⟨g, g1, g2⟩ := h1 e he
        exact ⟨g, (m3 _ g1).1, g2⟩
    · obtain ⟨g, g1, g2⟩ := h1 e he
      exact .inr fun z => (m3 _ g1).2 z.symm
/-- what it leaves -/
def Post (H : Hp) (T : List (Addr × Str)) (pre post : List En) (G : Hp → Prop) : Prop := ∀ H', Hs ⟨H, mus pre, T⟩ post H' → G H'
/-- the caller's list behind the call -/
inductive Rep : List En → List En → List En → Prop
  | nil {L : List En} : Rep L [] L
  | ro {L ps L' : List En} {x : Addr} {φ : Cl} (h : Rep L ps L') : Rep L ((x, φ, .ro) :: ps) L'
  | nt {L ps L' : List En} {x : Addr} {φ : Cl} (h : Rep L ps L') : Rep L ((x, φ, .nt) :: ps) ((x, φ, .nt) :: L')
  | nm {L ps L' : List En} {x : Addr} {φ : Cl} (h : Rep L ps L') : Rep L ((x, φ, .nm) :: ps) ((x, φ, .nm) :: L')
  | mu {L ps L' L1 : List En} {x : Addr} {φ : Cl} (u : Upd L x φ L1) (h : Rep L1 ps L') : Rep L ((x, φ, .mu) :: ps) L'
/-- new -/
def Fl.isN : Fl → Prop
  | .nt => True
  | .nm => True
  | _ => False
theorem Rep.mem {L ps L' : List En} (u : Rep L ps L') : L.Pairwise Df → ps.Pairwise Df → (∀ e ∈ ps, e.2.2.isN → ∀ z ∈ L, e.1 ≠ z.1) →
    (∀ e ∈ L', (e ∈ ps ∧ e.2.2.isN) ∨ (∃ φ, (e.1, φ, e.2.2) ∈ L ∧ (e.1, e.2.1, .mu) ∈ ps ∧ e.2.2.mut = true) ∨ (e ∈ L ∧ ∀ φ, (e.1, φ, .mu) ∉ ps)) ∧ L'.Pairwise Df := by
  induction u with
  | nil => exact fun d _ _ => ⟨fun e he => .inr (.inr ⟨he, fun φ h => (by cases h)⟩), d⟩
  | ro h ih =>
    intro d dp hn
    obtain ⟨h1, h2⟩ := ih d (List.pairwise_cons.mp dp).2 fun e he => hn e (List.mem_cons_of_mem _ he)
    refine ⟨fun e he => ?_, h2⟩
    rcases h1 e he with ⟨a, b⟩ | ⟨φ, a, b, c⟩ | ⟨a, b⟩
    · exact .inl ⟨List.mem_cons_of_mem _ a, b⟩
    · exact .inr (.inl ⟨φ, a, List.mem_cons_of_mem _ b, c⟩)
    · refine .inr (.inr ⟨a, fun φ z => ?_⟩)
      rcases List.mem_cons.mp z with z | z
      · cases z
      · exact b φ z
  | @nt L ps L' x φ h ih =>
    intro d dp hn
    obtain ⟨h1, h2⟩ := ih d (List.pairwise_cons.mp dp).2 fun e he => hn e (List.mem_cons_of_mem _ he)
    refine ⟨fun e he => ?_, List.pairwise_cons.mpr ⟨fun e he => ?_, h2⟩⟩
    · rcases List.mem_cons.mp he with rfl | he
      · exact .inl ⟨List.mem_cons_self, trivial⟩
      rcases h1 e he with ⟨a, b⟩ | ⟨φ, a, b, c⟩ | ⟨a, b⟩
      · exact .inl ⟨List.mem_cons_of_mem _ a, b⟩
      · exact .inr (.inl ⟨φ, a, List.mem_cons_of_mem _ b, c⟩)
      · refine .inr (.inr ⟨a, fun φ z => ?_⟩)
        rcases List.mem_cons.mp z with z | z
        · cases z
        · exact b φ z
    · rcases h1 e he with ⟨a, b⟩ | ⟨φ, a, b⟩ | ⟨a, b⟩
      · exact (List.pairwise_cons.mp dp).1 e a
      · exact .inr fun q => hn _ List.mem_cons_self trivial _ a q
      · exact .inr (hn _ List.mem_cons_self trivial _ a)
  | @nm L ps L' x φ h ih =>
    intro d dp hn
    obtain ⟨h1, h2⟩ := ih d (List.pairwise_cons.mp dp).2 fun e he => hn e (List.mem_cons_of_mem _ he)
    refine ⟨fun e he => ?_, List.pairwise_cons.mpr ⟨fun e he => ?_, h2⟩⟩
    · rcases List.mem_cons.mp he with rfl | he
      · exact .inl ⟨List.mem_cons_self, trivial⟩
      rcases h1 e he with ⟨a, b⟩ | ⟨φ, a, b, c⟩ | ⟨a, b⟩
      · exact .inl ⟨List.mem_cons_of_mem _ a, b⟩
      · exact .inr (.inl ⟨φ, a, List.mem_cons_of_mem _ b, c⟩)
      · refine .inr (.inr ⟨a, fun φ z => ?_⟩)
        rcases List.mem_cons.mp z with z | z
        · cases z
        · exact b φ z
    · rcases h1 e he with ⟨a, b⟩ | ⟨φ, a, b⟩ | ⟨a, b⟩
      · exact (List.pairwise_cons.mp dp).1 e a
      · exact .inr fun q => hn _ List.mem_cons_self trivial _ a q
      · exact .inr (hn _ List.mem_cons_self trivial _ a)
  | @mu L ps L' L1 x φ u h ih =>
    intro d dp hn
    obtain ⟨u1, u2, u3⟩ := u.mem d
    have ads : ∀ z ∈ L1, ∃ y ∈ L, y.1 = z.1 := fun z hz => by
      rcases u2 z hz with ⟨a, _, _, φ0, b⟩ | ⟨a, _⟩
      · exact ⟨_, b, a.symm⟩
      · exact ⟨_, a, rfl⟩
    obtain ⟨h1, h2⟩ := ih (df_map u3 d) (List.pairwise_cons.mp dp).2 fun e he hN z hz => by
      obtain ⟨y, y1, y2⟩ := ads z hz
      rw [← y2]
      exact hn e (List.mem_cons_of_mem _ he) hN y y1
    refine ⟨fun e he => ?_, h2⟩
    rcases h1 e he with ⟨a, b⟩ | ⟨φ', a, b, c⟩ | ⟨a, b⟩
    · exact .inl ⟨List.mem_cons_of_mem _ a, b⟩
    · rcases u2 _ a with ⟨w1, w2, _, φ0, w3⟩ | ⟨w1, w2⟩
      · simp only at w1 w2 w3
        refine .inr (.inl ⟨φ0, ?_, List.mem_cons_of_mem _ b, c⟩)
        rw [w1]
        exact w3
      · exact .inr (.inl ⟨φ', w1, List.mem_cons_of_mem _ b, c⟩)
    · rcases u2 _ a with ⟨w1, w2, w3, φ0, w4⟩ | ⟨w1, w2⟩
      · refine .inr (.inl ⟨φ0, by rw [w1]; exact w4, ?_, w3⟩)
        rw [w1, w2]
        exact List.mem_cons_self
      · refine .inr (.inr ⟨w1, fun ψ z => ?_⟩)
        rcases List.mem_cons.mp z with z | z
        · cases z
          exact w2 rfl
        · exact b ψ z
def Cl.le (φ ψ : Cl) : Prop := ∀ H o, φ.P H o → ψ.P H o
theorem Cl.le.rfl {φ : Cl} : Cl.le φ φ := fun _ _ h => h
/-- a row is taken out -/
inductive Rm : List En → Addr → Cl → Fl → List En → Prop
  | hd {φ : Cl} {f : Fl} {x : Addr} {L : List En} : Rm ((x, φ, f) :: L) x φ f L
  | tl {e : En} {L L' : List En} {x : Addr} {φ : Cl} {f : Fl} (h : Rm L x φ f L') : Rm (e :: L) x φ f (e :: L')
theorem Rm.ex {L L' : List En} {x : Addr} {φ : Cl} {f : Fl} (h : Rm L x φ f L') : ∃ L0 R0, L = L0 ++ (x, φ, f) :: R0 ∧ L' = L0 ++ R0 := by
  induction h with
  | hd => exact ⟨[], _, rfl, rfl⟩
  | @tl e L L' x φ f h ih =>
    obtain ⟨L0, R0, h1, h2⟩ := ih
    exact ⟨e :: L0, R0, by rw [h1]; rfl, by rw [h2]; rfl⟩
inductive Sub : List En → List En → Prop
  | nil {L : List En} : Sub [] L
  | rfl {L : List En} : Sub L L
  | cons {L L1 ps : List En} {x : Addr} {φ ψ : Cl} {f : Fl} (m : Rm L x φ f L1) (h : Cl.le φ ψ) (r : Sub ps L1) : Sub ((x, ψ, f) :: ps) L
theorem Sub.mem {L ps : List En} (u : Sub ps L) : L.Pairwise Df → (∀ e ∈ ps, ∃ φ, (e.1, φ, e.2.2) ∈ L ∧ Cl.le φ e.2.1) ∧ ps.Pairwise Df := by
  induction u with
  | nil => exact fun _ => ⟨fun e h => (by cases h), .nil⟩
  | rfl => exact fun d => ⟨fun e h => ⟨_, h, Cl.le.rfl⟩, d⟩
  | @cons L L1 ps x φ ψ f m h r ih =>
    intro d
    obtain ⟨L0, R0, rfl, rfl⟩ := m.ex
    have d' := (List.pairwise_append.mp d)
    have dm : ∀ e ∈ L0 ++ R0, Df (x, φ, f) e := fun e he => by
      rcases List.mem_append.mp he with he | he
      · exact (d'.2.2 e he _ List.mem_cons_self).symm
      · exact (List.pairwise_cons.mp d'.2.1).1 e he
    have sub : (L0 ++ R0).Sublist (L0 ++ (x, φ, f) :: R0) := (List.Sublist.refl L0).append (List.sublist_cons_self _ _)
    obtain ⟨h1, h2⟩ := ih (d.sublist sub)
    refine ⟨fun e he => ?_, List.pairwise_cons.mpr ⟨fun e he => ?_, h2⟩⟩
    · rcases List.mem_cons.mp he with rfl | he
      · exact ⟨φ, by simp, h⟩
      · obtain ⟨φ', a, b⟩ := h1 e he
        exact ⟨φ', sub.mem a, b⟩
    · obtain ⟨φ', a, _⟩ := h1 e he
      rcases dm _ a with q | q
      · exact .inl q
      · exact .inr q
theorem Hs.sub {ps : List En} (S : Hs B L H) (u : Sub ps L) : Hs B ps H where
  fr := S.fr
  mm := S.mm
  tb := S.tb
  df := (u.mem S.df).2
  ok := fun e he => by
    obtain ⟨φ, h1, h2⟩ := (u.mem S.df).1 e he
    obtain ⟨k0, o, k1, k2, k3⟩ := S.ok _ h1
    exact ⟨k0, o, k1, h2 _ _ k2, k3⟩
end
end Sx
set_option Elab.async false
set_option linter.all false
set_option maxRecDepth 100000
set_option maxHeartbeats 1000000
namespace Gx
open PySem PySem.Spec PyProof.Rows L2 GenW
structure MakX (P : Program) (w : World) (K : PySem.W.Frag) (mg : Str → Option Value) (base : Heap) (k : Nat) (x : Str) (C : Addr) (sp : Sp) (dvs : List V) : Prop where
  ex : ∃ (f : Addr) (fd : FuncData) (ps : List Str) (ds : List Value), Mk K C f ∧ FnOk P w K mg base (CX P w) k f fd ps sp ∧ mg x = some (.ref C) ∧ Binds K fd ps ds ∧ Vals dvs ds
section
variable {P : Program} {w : World} {K : PySem.W.Frag} {mg : Str → Option Value} {base : Heap}
theorem fnX {x qual : Str} {st : Stmt} {f : Addr} {fd : FuncData} {N ps : List Str} {k : Nat} {sp : Sp} (F : C8.Fun K x qual st f fd) (S : FnScope N ps (C8.fnScope st)) (len : ∀ vs H Q E, sp vs H Q E → vs.length = ps.length)
    (hbody : ∀ (cdv : Value) (A : Around) (outer : List Env) (s : Shared) (H : Hp) (vs : List V) (Q : VK) (E : XK), Room k (A.deeper (envOfC qual (C8.fnScope st) s.heap.objs.size f cdv)) → sp vs H Q E →
      ∃ t, PSs (cxOf (CX P w) P w K mg base N qual (C8.fnScope st) f cdv A outer s H E) (C8.fnBody st) t ∧ t { nx := fun _ H' => Q .non H', rt := Q } (start N vs) H) : FnOk P w K mg base (CX P w) (k + 1) f fd ps sp := by
  obtain ⟨oc, od, dV, kV, doc, pm, an, cdv, ct, osl, rfl, lk, hcd⟩ := F.ex
  exact fn_of lk hcd S len (hbody cdv)
theorem makX {x qual : Str} {C : Addr} {st : Stmt} {f : Addr} {fd : FuncData} {N ps : List Str} {k : Nat} {sp : Sp} (M : Mk K C f) (hm : mg x = some (.ref C)) (F : C8.Fun K "__init__" qual st f fd) (b : Binds K fd ps []) (S : FnScope N ps (C8.fnScope st)) (len : ∀ vs H Q E, sp vs H Q E → vs.length = ps.length)
    (hbody : ∀ (cdv : Value) (A : Around) (outer : List Env) (s : Shared) (H : Hp) (vs : List V) (Q : VK) (E : XK), Room k (A.deeper (envOfC qual (C8.fnScope st) s.heap.objs.size f cdv)) → sp vs H Q E →
      ∃ t, PSs (cxOf (CX P w) P w K mg base N qual (C8.fnScope st) f cdv A outer s H E) (C8.fnBody st) t ∧ t { nx := fun _ H' => Q .non H', rt := Q } (start N vs) H) : MakX P w K mg base (k + 1) x C sp [] :=
  ⟨f, fd, ps, [], M, fnX F S len hbody, hm, b, .nil⟩
end
section
variable {X : Cx} {k j i : Nat} {C : Addr} {x : Str} {sp : Sp} {dvs : List V} {p pos : Pos} {e : Expr} {es : List Expr} {t : TA} {W : WX} {E : XK}
theorem pe_mkx (c : MakX X.prog X.w X.K X.mg X.base k x C sp dvs) (tk : Takes X W) (hW : ∀ cls d σ H, E cls d H → W cls d σ H) (hr : Room j X.A) (hk : k + 1 ≤ j) (hg : Gl X x) (ha : PA X (e :: es) t)
    (hdb : (x == ("__debug__" : Str)) = false := by decide) (he : starEach (e :: es) X.env = (false, eval e X.env) :: starEach es X.env := by rfl) (hpl : (backTo pos (starEach es X.env)).any (·.1) = false := by rfl) :
    PE X (.Call (.Name x p) (e :: es) [] pos) (tMake C sp dvs E t) := by
  obtain ⟨f, fd, ps, ds, M, F, hm, b, d⟩ := c.ex
  exact pe_make M F (hr.mono hk) hg hm b d (passes_call tk hW) ha hdb he hpl
end
structure OwnT (K : PySem.W.Frag) (C : Addr) (nm T : String) : Prop where
  l1 : ∃ fo, PySem.W.findIn K (.type T) (PySem.dunder nm) = some fo
  l2 : ∃ ro, PySem.W.findIn K (.type T) (dunderR nm) = some ro
  sub : PySem.W.subIn K (.type T) (.ref C) = some false
def rOwnX (K : PySem.W.Frag) (C : Addr) (nm : String) (sp : Sp) (E : XK) : V → V → Hp → VK → Prop := fun x y H Q => ∃ (a dx : Addr) (fs : List (Str × V)) (T : String), x = .ref a ∧ TyX K H y (.type T) ∧ OwnT K C nm T ∧ H a = some (.ins C dx fs) ∧ sp ([x, y] ++ []) H (fun v H' => (∃ b, v = .ref b) ∧ Q v H') E
/-- a text times a number -/
def rMulS : R2 := fun x y H Q => ∃ (z : Str) (n : Int), x = .str z ∧ y = .int n ∧ PySem.MulOk z n ∧ Q (.str (Txt.mul z n)) H
theorem op_mulS {X : Cx} : OpR X (binaryOp .Mult) rMulS := by
  intro pins s σ H x y v u Q I rx ry h
  obtain ⟨z, n, rfl, rfl, ok, q⟩ := h
  obtain ⟨t, rfl⟩ := rx
  obtain ⟨t', rfl⟩ := ry
  exact PySem.SB.mul ok fun a k => ⟨.str _, H, I.tok _, ⟨_, rfl⟩, q⟩
end Gx
set_option Elab.async false
set_option linter.all false
set_option maxRecDepth 100000
set_option maxHeartbeats 1000000
namespace Gx
open PySem PySem.Spec PyProof.Rows L2 L2H
end Gx
set_option Elab.async false
set_option linter.all false
set_option maxRecDepth 100000
set_option maxHeartbeats 4000000
set_option exponentiation.threshold 2000
namespace Gx
open PySem PySem.Spec PyProof.Rows L2
end Gx
set_option Elab.async false
set_option linter.all false
set_option maxRecDepth 100000
set_option maxHeartbeats 1000000
namespace Sx
open PySem PySem.Spec PyProof.Rows L2
/-- a promise is being read -/
def Do (p : Prop) : Prop := p
section
variable {B : Bs} {L L' L1 : List En} {D : Ends} {σ : L2.St} {Q : VK} {QB : Bool → Hp → Prop} {QA : List V → Hp → Prop} {t1 t2 : TS} {te ta tb tc : TE} {tr : TA} {t u : TT} {i j : Nat} {v x y : V} {m n : Int} {r r2 : R2} {K : PySem.W.Frag} {G G1 G2 : Hp → Prop} {b : Bool} {p : Prop} {C a dx : Addr} {fs : List (Str × V)} {f : Str} {fl : Fl} {sp : Sp} {E : XK} {g : TG} {xs : List V}
theorem l1 {G G' : Hp → Prop} (f : ∀ H, G H → G' H) (h : W B L G) : W B L G' := fun H S => f H (h H S)
theorem seq (h : W B L fun H => t1 { D with nx := t2 D } σ H) : W B L fun H => tSeq t1 t2 D σ H := h
theorem next (h : W B L fun H => D.nx σ H) : W B L fun H => tNext D σ H := h
theorem nm {Qs : L2.St → Hp → Prop} (h : W B L fun H => Qs (σ.set i (some v)) H) : W B L fun H => gName i v σ H Qs := h
theorem ret (h : W B L fun H => te σ H D.rt) : W B L fun H => tRet te D σ H := h
theorem brk (h : W B L fun H => D.bk σ H) : W B L fun H => tBreak D σ H := h
theorem drop (h : W B L fun H => te σ H fun _ H1 => D.nx σ H1) : W B L fun H => tDrop te D σ H := h
theorem par (h : W B L fun H => tr σ H fun vs H1 => ∃ v w, vs = [v, w] ∧ D.nx ((σ.set i (some v)).set j (some w)) H1) : W B L fun H => tPar i j tr D σ H := h
theorem op (h : W B L fun H => ta σ H fun x H1 => tb σ H1 fun y H2 => r x y H2 Q) : W B L fun H => tOp r ta tb σ H Q := h
theorem un {g : V → Hp → VK → Prop} (h : W B L fun H => ta σ H fun x H1 => g x H1 Q) : W B L fun H => tUn g ta σ H Q := h
/-- is None, is not None -/
theorem isN {G : V → Hp → Prop} (h : W B L fun H => G (.bl (decide (v = .non))) H) : W B L fun H => V.non = .non ∧ G (.bl (decide (v = .non))) H := fun H S => ⟨rfl, h H S⟩
theorem nil (h : W B L fun H => QA [] H) : W B L fun H => tNil σ H QA := h
theorem cons (h : W B L fun H => ta σ H fun x H1 => tr σ H1 fun xs H2 => QA (x :: xs) H2) : W B L fun H => tCons ta tr σ H QA := h
theorem cb {g : List V → Hp → VK → Prop} (h : W B L fun H => tr σ H fun vs H1 => g vs H1 Q) : W B L fun H => tCB g tr σ H Q := h
theorem call {dvs : List V} (h : W B L fun H => tr σ H fun vs H1 => Do (sp (vs ++ dvs) H1 Q E)) : W B L fun H => tCall sp dvs E tr σ H Q := h
theorem tup (h : W B L fun H => tr σ H fun xs H1 => xs.length ≤ sizeLine ∧ Au.NewO H1 (.tup xs) Q) : W B L fun H => tTup tr σ H Q := h
theorem lst (h : W B L fun H => tr σ H fun xs H1 => xs.length ≤ sizeLine ∧ Au.NewO H1 (.lst xs) Q) : W B L fun H => tLst tr σ H Q := h
theorem rep {xs : List V} {k : Int} {fl : Fl} (m : (a, Is (.lst xs), fl) ∈ L) (hk : 0 ≤ k ∧ k < 100) (hl : xs.length ≤ 10) (q : ∀ t, W B ((t, Is (.lst (List.replicate k.toNat xs).flatten), .nm) :: L) fun H => Q (.ref t) H) : W B L fun H => rRep (.ref a) (.int k) H Q :=
  fun H S => Au.rep (S.at m) hk hl fun p H' n e k => q p H' (S.nw n e k (.inr ⟨rfl, trivial⟩) fun ps z => by cases z)
theorem setL {k : Int} {jn : Nat} {G : Hp → Prop} (m : (a, Is (.lst xs), fl) ∈ L) (hj : ixN xs.length k = some jn) (u : Upd L a (Is (.lst (xs.set jn v))) L') (q : W B L' G) : W B L fun H => rSetL (.ref a) (.int k) v H G :=
  fun H S => Rd.setL (S.at m) hj (q _ (S.set u (fun c z h n => by rw [upd_ne n]; exact h) upd_same rfl trivial))
def In (B : Bs) (P : L2.St → List En → Prop) : L2.St → Hp → Prop := fun σ H => ∃ L, P σ L ∧ Hs B L H
theorem sub (s : Sub L' L) (h : W B L' G) : W B L G := fun H S => h H (S.sub s)
theorem frz {g : TG} {tb : TS} (h : W B L fun H => tr σ H fun vs H1 => ∃ a b xs ys, vs = [.ref a, .ref b] ∧ SqL K H1 a xs ∧ SqL K H1 b ys ∧ ∃ W : Nat → Nat → L2.St → Hp → Prop, (∃ m, W 0 m σ H1) ∧ ∀ i m σ H, W i m σ H →
    ((Itz K a b).stop i H ∧ D.nx σ H) ∨ ((Itz K a b).go i H ∧ ∃ N : L2.St → Hp → Prop, (∀ σ' H', N σ' H' → ∃ m', m' < m ∧ W (i + 1) m' σ' H') ∧ ∀ x H', (Itz K a b).yld i H x H' → g x σ H' fun σ2 H2 => tb { D with nx := N, ct := N, bk := D.nx } σ2 H2)) :
    W B L fun H => tFor (iZip K tr) g tb D σ H := h
theorem cut {t u : TS} (Mid : L2.St → List En → Prop) (h1 : W B L fun H => t { D with nx := In B Mid } σ H) (h2 : ∀ σ' L', Mid σ' L' → W B L' fun H => u D σ' H) : W B L fun H => C8.tCut t u D σ H := fun H S =>
  Rd.cut (In B Mid) (h1 H S) fun σ' H' z => by
    obtain ⟨L', p, S'⟩ := z
    exact h2 σ' L' p H' S'
theorem lg {tg : TGen} (h : W B L fun H => tg σ H fun out H2 => Au.NewO H2 (.lst out) Q) : W B L fun H => tListG tg σ H Q := h
theorem mg {spg : SpG} {cont : List V → Hp → Prop} (h : W B L fun H => ta σ H fun x H1 => ∃ a dx fs, x = .ref a ∧ H1 a = some (.ins C dx fs) ∧ fs.lookup f = none ∧ tr σ H1 fun vs H2 => Do (spg (x :: (vs ++ [])) H2 cont E)) : W B L fun H => tMethG C f spg [] E ta tr σ H cont := h
end
end Sx
set_option Elab.async false
set_option linter.all false
set_option maxRecDepth 100000
set_option maxHeartbeats 1000000
namespace Sx
open PySem PySem.Spec PyProof.Rows L2
section
variable {H0 H : Hp} {T : List (Addr × Str)} {L : List En} {K : PySem.W.Frag} {a : Addr} {xs : List V} {Q : VK}
/-- the first cells and the sum -/
theorem cells {ns : List Int} {k : Int} (hl : ns.length ≤ 63) : ∃ M : List Int, cutV (ns.map V.int) none (some k) ++ [V.int ns.sum] = M.map V.int ∧ M.length ≤ 64 := by
  refine ⟨((ns.drop (HT.sIx (ns.map V.int).length 0 none)).take (HT.sIx (ns.map V.int).length (ns.map V.int).length (some k) - HT.sIx (ns.map V.int).length 0 none)) ++ [ns.sum], ?_, ?_⟩
  · unfold cutV
    rw [List.map_append, List.map_take, List.map_drop]
    rfl
  · have h1 : ((ns.drop (HT.sIx (ns.map V.int).length 0 none)).take (HT.sIx (ns.map V.int).length (ns.map V.int).length (some k) - HT.sIx (ns.map V.int).length 0 none)).length ≤ ns.length := by
      rw [List.length_take, List.length_drop]; omega
    rw [List.length_append]
    simp only [List.length_cons, List.length_nil]
    omega
end
end Sx
set_option Elab.async false
set_option linter.all false
set_option maxRecDepth 100000
set_option maxHeartbeats 1000000
namespace Un
open PySem PySem.Spec PyProof.Rows L2
section
variable {prog : Program} {w : World} {A : Around} {E : Value → Shared → Prop}
theorem draw_list {it t : Addr} {items : Array Value} (hne : t ≠ it) : ∀ (n i : Nat) (s : Shared) (Q : List Value → Shared → Prop), s.heap.IsListIter it t i → s.heap.IsList t items → i + n ≤ items.size →
    (∀ h', h'.IsListIter it t (i + n) → Heap.SameBut it s.heap h' → Q ((items.toList.drop i).take n) { s with heap := h' }) → wpAny (model prog w) A (draw (.ref it) n) Q E s
  | 0, i, s, Q, hit, _, _, hQ => by
    show wpAny _ _ (pure []) Q E s
    exact wpAny_pure (by simpa using hQ s.heap hit (Heap.SameBut.refl ..))
  | n + 1, i, s, Q, hit, ht, hle, hQ => by
    have hlt : i < items.size := by omega
    show wpAny _ _ (pyNext (.ref it) >>= _) Q E s
    refine wpAny_bind (wpAny_pyNext_list_item hit ht (x := items[i]) (by simp [hlt]) fun h₁ hit₁ hs₁ => ?_)
    refine wpAny_bind (wpAny_holding (draw_list hne n (i + 1) _ _ hit₁ (ht.extBut hs₁.extBut hne) (by omega) fun h₂ hit₂ hs₂ => wpAny_pure ?_))
    have hd : items.toList.drop i = items[i] :: items.toList.drop (i + 1) := by simp [List.drop_eq_getElem_cons, hlt]
    have := hQ h₂ (by rw [show i + (n + 1) = i + 1 + n by omega]; exact hit₂) (hs₁.trans hs₂)
    rw [hd, List.take_succ_cons] at this
    exact this
theorem unpackItems_list {s : Shared} {t : Addr} {items : Array Value} {Q : List Value → Shared → Prop} (hh : A.handled = none) (ht : s.heap.IsList t items)
    (hQ : ∀ h', Heap.ExtBut s.heap.objs.size s.heap h' → Q items.toList { s with heap := h' }) : wpAny (model prog w) A (unpackItems (.ref t) items.size none) Q E s := by
  have hlt : t ≠ s.heap.objs.size := by obtain ⟨o, ho, _⟩ := ht; exact Nat.ne_of_lt (Heap.lt_size ho)
  unfold unpackItems
  refine wpAny_bind ?_
  · unfold notIterableAtAll
    refine wpAny_bind (wpAny_specialOf ht.typeIs slot_list_iter.lookup ?_)
    refine wpAny_pure ?_
    simp only [Bool.false_eq_true, if_false]
    refine wpAny_bind (wpAny_holding (wpAny_pyIter_list ht ?_))
    refine wpAny_bind (wpAny_holding (draw_list hlt items.size 0 _ _ ⟨_, Heap.get?_push_size _ rfl, rfl, rfl⟩ (ht.push _) (by omega) fun h₁ hit₁ hs₁ => ?_))
    have hall : List.take items.size (List.drop 0 items.toList) = items.toList := by
      rw [List.drop_zero]; exact List.take_of_length_le (by simp)
    rw [hall]
    rw [if_neg (by simp)]
    have ht₁ : h₁.IsList t items := (ht.push _).extBut hs₁.extBut hlt
    refine wpAny_bind (wpAny_holding (wpAny_pyNext_list_end hh hit₁ ht₁ (by simp) fun h₂ he₂ => ?_))
    simp only [Option.isSome_none, Bool.false_eq_true, if_false]
    refine wpAny_pure (hQ h₂ fun b o hb e => he₂ b o hb (hs₁.extBut b o hb (Heap.get?_push_of_some _ e)))
theorem assign_Tuple_list {s : Shared} {env : Env} {elts : List Expr} {x1} {pos : Pos} {t : Addr} {items : Array Value} {Q : Unit → Shared → Prop} (hh : A.handled = none) (ht : s.heap.IsList t items)
    (hn : (assignEach elts env).length = items.size) (hstar : (assignEach elts env).findIdx? (·.1) = none)
    (h : ∀ h', Heap.ExtBut s.heap.objs.size s.heap h' → wpAny (model prog w) A (assignInOrder ((assignEach elts env).map (·.2)) items.toList) Q E { s with heap := h' }) :
    wpAny (model prog w) A (assign (.Tuple elts x1 pos) env (.ref t)) Q E s := by
  rw [assign_Tuple]
  refine wpAny_bind (wpAny_standAt ?_)
  unfold unpack
  rw [hn, hstar]
  exact wpAny_bind (wpAny_holding (unpackItems_list hh ht h))
end
def gTupL (K : PySem.W.Frag) (n : Nat) (t : TGs) : TG := fun v σ H Q => ∃ a xs, v = .ref a ∧ SqL K H a xs ∧ xs.length = n ∧ t xs σ H Q
theorem pg_tupL {X : Cx} {pos : Pos} {es : List Expr} {k : Nat} {t : TGs} {n : Nat} (hc : X.calm = true) (h : PGs X es t)
    (hn : (assignEach es X.env).length = n := by rfl) (hst : (assignEach es X.env).findIdx? (·.1) = none := by rfl) : PG X (.Tuple es k pos) (gTupL X.K n t) := by
  refine ⟨fun pins s σ H v u Q I r hw => ?_⟩
  obtain ⟨a, xs, e1, hq, hl, hw⟩ := hw
  subst e1
  cases r
  obtain ⟨its, rv, ⟨o, n', ho, hcl, _, hd⟩, hz⟩ := I.list hq
  refine assign_Tuple_list (I.ok.hd hc) ⟨o, ho, hcl, n', hd⟩ (by simp [hn, ← hl, rv.length]) hst fun h' hx => ?_
  have I1 : Inv X pins σ H { s with heap := h' } := I.kept (t' := s.toks) fun b o e => hx b o (Nat.ne_of_lt (Heap.lt_size e)) e
  exact h.run pins _ σ H xs _ Q I1 (by simpa using rv) hw
end Un
set_option Elab.async false
set_option linter.all false
set_option maxRecDepth 100000
set_option maxHeartbeats 1000000
namespace Sx
open PySem PySem.Spec PyProof.Rows L2
theorem kb_NoneType_int {K : PySem.W.Frag} : PySem.W.kitOne K (.type "NoneType") (.type "int") = some false := by first | rfl | decide +kernel | kernel_rfl
theorem kb_NoneType_bool {K : PySem.W.Frag} : PySem.W.kitOne K (.type "NoneType") (.type "bool") = some false := by first | rfl | decide +kernel | kernel_rfl
theorem kb_NoneType_str {K : PySem.W.Frag} : PySem.W.kitOne K (.type "NoneType") (.type "str") = some false := by first | rfl | decide +kernel | kernel_rfl
theorem kb_NoneType_tuple {K : PySem.W.Frag} : PySem.W.kitOne K (.type "NoneType") (.type "tuple") = some false := by first | rfl | decide +kernel | kernel_rfl
theorem kb_NoneType_list {K : PySem.W.Frag} : PySem.W.kitOne K (.type "NoneType") (.type "list") = some false := by first | rfl | decide +kernel | kernel_rfl
theorem kb_bool_int {K : PySem.W.Frag} : PySem.W.kitOne K (.type "bool") (.type "int") = some true := by first | rfl | decide +kernel | kernel_rfl
theorem kb_bool_bool {K : PySem.W.Frag} : PySem.W.kitOne K (.type "bool") (.type "bool") = some true := by first | rfl | decide +kernel | kernel_rfl
theorem kb_bool_str {K : PySem.W.Frag} : PySem.W.kitOne K (.type "bool") (.type "str") = some false := by first | rfl | decide +kernel | kernel_rfl
theorem kb_bool_tuple {K : PySem.W.Frag} : PySem.W.kitOne K (.type "bool") (.type "tuple") = some false := by first | rfl | decide +kernel | kernel_rfl
theorem kb_bool_list {K : PySem.W.Frag} : PySem.W.kitOne K (.type "bool") (.type "list") = some false := by first | rfl | decide +kernel | kernel_rfl
theorem kb_int_int {K : PySem.W.Frag} : PySem.W.kitOne K (.type "int") (.type "int") = some true := by first | rfl | decide +kernel | kernel_rfl
theorem kb_int_bool {K : PySem.W.Frag} : PySem.W.kitOne K (.type "int") (.type "bool") = some false := by first | rfl | decide +kernel | kernel_rfl
theorem kb_int_str {K : PySem.W.Frag} : PySem.W.kitOne K (.type "int") (.type "str") = some false := by first | rfl | decide +kernel | kernel_rfl
theorem kb_int_tuple {K : PySem.W.Frag} : PySem.W.kitOne K (.type "int") (.type "tuple") = some false := by first | rfl | decide +kernel | kernel_rfl
theorem kb_int_list {K : PySem.W.Frag} : PySem.W.kitOne K (.type "int") (.type "list") = some false := by first | rfl | decide +kernel | kernel_rfl
theorem kb_str_int {K : PySem.W.Frag} : PySem.W.kitOne K (.type "str") (.type "int") = some false := by first | rfl | decide +kernel | kernel_rfl
theorem kb_str_bool {K : PySem.W.Frag} : PySem.W.kitOne K (.type "str") (.type "bool") = some false := by first | rfl | decide +kernel | kernel_rfl
theorem kb_str_str {K : PySem.W.Frag} : PySem.W.kitOne K (.type "str") (.type "str") = some true := by first | rfl | decide +kernel | kernel_rfl
theorem kb_str_tuple {K : PySem.W.Frag} : PySem.W.kitOne K (.type "str") (.type "tuple") = some false := by first | rfl | decide +kernel | kernel_rfl
theorem kb_str_list {K : PySem.W.Frag} : PySem.W.kitOne K (.type "str") (.type "list") = some false := by first | rfl | decide +kernel | kernel_rfl
theorem kb_tuple_int {K : PySem.W.Frag} : PySem.W.kitOne K (.type "tuple") (.type "int") = some false := by first | rfl | decide +kernel | kernel_rfl
theorem kb_tuple_bool {K : PySem.W.Frag} : PySem.W.kitOne K (.type "tuple") (.type "bool") = some false := by first | rfl | decide +kernel | kernel_rfl
theorem kb_tuple_str {K : PySem.W.Frag} : PySem.W.kitOne K (.type "tuple") (.type "str") = some false := by first | rfl | decide +kernel | kernel_rfl
theorem kb_tuple_tuple {K : PySem.W.Frag} : PySem.W.kitOne K (.type "tuple") (.type "tuple") = some true := by first | rfl | decide +kernel | kernel_rfl
theorem kb_tuple_list {K : PySem.W.Frag} : PySem.W.kitOne K (.type "tuple") (.type "list") = some false := by first | rfl | decide +kernel | kernel_rfl
theorem kb_list_int {K : PySem.W.Frag} : PySem.W.kitOne K (.type "list") (.type "int") = some false := by first | rfl | decide +kernel | kernel_rfl
theorem kb_list_bool {K : PySem.W.Frag} : PySem.W.kitOne K (.type "list") (.type "bool") = some false := by first | rfl | decide +kernel | kernel_rfl
theorem kb_list_str {K : PySem.W.Frag} : PySem.W.kitOne K (.type "list") (.type "str") = some false := by first | rfl | decide +kernel | kernel_rfl
theorem kb_list_tuple {K : PySem.W.Frag} : PySem.W.kitOne K (.type "list") (.type "tuple") = some false := by first | rfl | decide +kernel | kernel_rfl
theorem kb_list_list {K : PySem.W.Frag} : PySem.W.kitOne K (.type "list") (.type "list") = some true := by first | rfl | decide +kernel | kernel_rfl
theorem kb_dict_int {K : PySem.W.Frag} : PySem.W.kitOne K (.type "dict") (.type "int") = some false := by first | rfl | decide +kernel | kernel_rfl
theorem kb_dict_bool {K : PySem.W.Frag} : PySem.W.kitOne K (.type "dict") (.type "bool") = some false := by first | rfl | decide +kernel | kernel_rfl
theorem kb_dict_str {K : PySem.W.Frag} : PySem.W.kitOne K (.type "dict") (.type "str") = some false := by first | rfl | decide +kernel | kernel_rfl
theorem kb_dict_tuple {K : PySem.W.Frag} : PySem.W.kitOne K (.type "dict") (.type "tuple") = some false := by first | rfl | decide +kernel | kernel_rfl
theorem kb_dict_list {K : PySem.W.Frag} : PySem.W.kitOne K (.type "dict") (.type "list") = some false := by first | rfl | decide +kernel | kernel_rfl
end Sx
set_option Elab.async false
set_option linter.all false
set_option maxRecDepth 100000
set_option maxHeartbeats 1000000
namespace Sm
open PySem PySem.Spec PyProof.Rows L2
inductive Sm (K : PySem.W.Frag) (H : Hp) : Nat → V → V → Prop
  | int {n : Nat} (i : Int) : Sm K H n (.int i) (.int i)
  | str {n : Nat} (z : Str) : Sm K H n (.str z) (.str z)
  | bl {n : Nat} (b : Bool) : Sm K H n (.bl b) (.bl b)
  | non {n : Nat} : Sm K H n .non .non
  | ref {n : Nat} (a : Addr) : Sm K H n (.ref a) (.ref a)
  | tup {n : Nat} {a b : Addr} {xs ys : List V} (h : SqT K H a xs) (h' : SqT K H b ys) (hl : xs.length = ys.length) (hi : ∀ (i : Nat) (x y : V), xs[i]? = some x → ys[i]? = some y → Sm K H n x y) : Sm K H (n + 1) (.ref a) (.ref b)
  | lst {n : Nat} {a b : Addr} {xs ys : List V} (h : SqL K H a xs) (h' : SqL K H b ys) (hl : xs.length = ys.length) (hi : ∀ (i : Nat) (x y : V), xs[i]? = some x → ys[i]? = some y → Sm K H n x y) : Sm K H (n + 1) (.ref a) (.ref b)
section
variable {X : Cx} {pins : List (Addr × Obj)} {σ : L2.St} {H : Hp} {s : Shared}
theorem at_of {xs : List V} {its : List Value} (r : Vals xs its) {i : Nat} (h : i < its.length) : ∃ x, xs[i]? = some x ∧ RelV x its[i] := by
  induction r generalizing i with
  | nil => exact absurd h (by simp)
  | cons h1 h2 ih =>
    cases i with
    | zero => exact ⟨_, rfl, h1⟩
    | succ i => exact ih (by simpa using h)
theorem allT (n : Nat) : ((List.range n).all fun _ => true) = true := by simp
theorem eqAt (I : Inv X pins σ H s) : ∀ (n : Nat) (x y : V) (v u : Value) (A : Around), Sm X.K H n x y → RelV x v → RelV y u → A.units + n < cLine → SeqAt.EqAt A s v u true := by
  intro n
  induction n with
  | zero =>
    intro x y v u A h rv ru hu
    cases h with
    | int i => obtain ⟨t, rfl⟩ := rv; obtain ⟨t', rfl⟩ := ru; have := SeqAt.EqAt.int_int (A := A) (s := s) i t i t'; rwa [beq_self_eq_true] at this
    | str z => obtain ⟨t, rfl⟩ := rv; obtain ⟨t', rfl⟩ := ru; have := SeqAt.EqAt.str_str (A := A) (s := s) z t z t'; rwa [beq_self_eq_true] at this
    | bl b => cases rv; cases ru; exact .same _
    | non => cases rv; cases ru; exact .same _
    | ref a => cases rv; cases ru; exact .same _
  | succ n ih =>
    intro x y v u A h rv ru hu
    cases h with
    | int i => obtain ⟨t, rfl⟩ := rv; obtain ⟨t', rfl⟩ := ru; have := SeqAt.EqAt.int_int (A := A) (s := s) i t i t'; rwa [beq_self_eq_true] at this
    | str z => obtain ⟨t, rfl⟩ := rv; obtain ⟨t', rfl⟩ := ru; have := SeqAt.EqAt.str_str (A := A) (s := s) z t z t'; rwa [beq_self_eq_true] at this
    | bl b => cases rv; cases ru; exact .same _
    | non => cases rv; cases ru; exact .same _
    | ref a => cases rv; cases ru; exact .same _
    | @tup _ a b xs ys h h' hl hi =>
      cases rv
      cases ru
      by_cases e : a = b
      · subst e; exact .same _
      · obtain ⟨its, r1, p1, _⟩ := I.tuple h
        obtain ⟨its2, r2, p2, _⟩ := I.tuple h'
        have e1 := r1.length
        have e2 := r2.length
        refine .of_refs e ?_
        have := SeqAt.RcAt.tuples (A := A) (e := fun _ => true) p1 p2 (by omega) fun j h1 h2 => ?_
        · rwa [allT, show (its.toArray.size == its2.toArray.size) = true by simp [← e1, ← e2, hl], Bool.and_true] at this
        · rw [List.size_toArray] at h1 h2
          obtain ⟨x, hx, rx⟩ := at_of r1 h1
          obtain ⟨y, hy, ry⟩ := at_of r2 h2
          simp only [List.getElem_toArray]
          exact ih x y _ _ A.in1 (hi j x y hx hy) rx ry (by show A.units + 1 + n < _; omega)
    | @lst _ a b xs ys h h' hl hi =>
      cases rv
      cases ru
      by_cases e : a = b
      · subst e; exact .same _
      · obtain ⟨its, r1, ⟨o, m, ho, hc, _, hd⟩, _⟩ := I.list h
        obtain ⟨its2, r2, ⟨o2, m2, ho2, hc2, _, hd2⟩, _⟩ := I.list h'
        have e1 := r1.length
        have e2 := r2.length
        refine .of_refs e ?_
        have := SeqAt.RcAt.lists (A := A) (e := fun _ => true) (items := its.toArray) (items2 := its2.toArray) ⟨o, ho, hc, m, hd⟩ ⟨o2, ho2, hc2, m2, hd2⟩ (by simp [← e1, ← e2, hl]) (by omega) fun j h1 h2 => ?_
        · rwa [allT] at this
        · rw [List.size_toArray] at h1 h2
          obtain ⟨x, hx, rx⟩ := at_of r1 h1
          obtain ⟨y, hy, ry⟩ := at_of r2 h2
          simp only [List.getElem_toArray]
          exact ih x y _ _ A.in1 (hi j x y hx hy) rx ry (by show A.units + 1 + n < _; omega)
/-- what may stand at the top -/
theorem Sm.up {K : PySem.W.Frag} {H : Hp} : ∀ {n : Nat} {x y : V}, Sm K H n x y → Sm K H (n + 1) x y := fun {n x y} h => by
  induction h with
  | int i => exact .int i
  | str z => exact .str z
  | bl b => exact .bl b
  | non => exact .non
  | ref a => exact .ref a
  | tup h h' hl hi ih => exact .tup h h' hl ih
  | lst h h' hl hi ih => exact .lst h h' hl ih
inductive Top (K : PySem.W.Frag) (H : Hp) : V → V → Prop
  | tup {a b : Addr} {xs ys : List V} (h : SqT K H a xs) (h' : SqT K H b ys) (hl : xs.length = ys.length) (hi : ∀ (i : Nat) (x y : V), xs[i]? = some x → ys[i]? = some y → Sm K H 20 x y) : Top K H (.ref a) (.ref b)
  | lst {a b : Addr} {xs ys : List V} (h : SqL K H a xs) (h' : SqL K H b ys) (hl : xs.length = ys.length) (hi : ∀ (i : Nat) (x y : V), xs[i]? = some x → ys[i]? = some y → Sm K H 20 x y) : Top K H (.ref a) (.ref b)
def rEqS (K : PySem.W.Frag) : R2 := fun x y H Q => rEqD K x y H Q ∨ (Top K H x y ∧ Q (.bl true) H)
def rNeS (K : PySem.W.Frag) : R2 := fun x y H Q => rNeD K x y H Q ∨ (Top K H x y ∧ Q (.bl false) H)
theorem op_eqS (hu : X.A.units + 64 < cLine) : OpR X (compareOp .Eq) (rEqS X.K) := by
  intro pins s σ H x y v u Q I rx ry h
  rcases h with h | ⟨t, q⟩
  · exact op_eqD hu pins s σ H x y v u Q I rx ry h
  · cases t with
    | tup h h' hl hi =>
      cases rx
      cases ry
      obtain ⟨its, r1, p1, _⟩ := I.tuple h
      obtain ⟨its2, r2, p2, _⟩ := I.tuple h'
      have e1 := r1.length
      have e2 := r2.length
      have := SeqAt.RcAt.tuples (A := X.A) (e := fun _ => true) p1 p2 (by omega) fun j h1 h2 => by
        rw [List.size_toArray] at h1 h2
        obtain ⟨x, hx, rx⟩ := at_of r1 h1
        obtain ⟨y, hy, ry⟩ := at_of r2 h2
        simp only [List.getElem_toArray]
        exact eqAt I 20 x y _ _ X.A.in1 (hi j x y hx hy) rx ry (by show X.A.units + 1 + 20 < _; omega)
      rw [allT, show (its.toArray.size == its2.toArray.size) = true by simp [← e1, ← e2, hl], Bool.and_true] at this
      exact this _ _ _ _ ⟨.bl _, H, I, rfl, q⟩
    | lst h h' hl hi =>
      cases rx
      cases ry
      obtain ⟨its, r1, ⟨o, m, ho, hc, _, hd⟩, _⟩ := I.list h
      obtain ⟨its2, r2, ⟨o2, m2, ho2, hc2, _, hd2⟩, _⟩ := I.list h'
      have e1 := r1.length
      have e2 := r2.length
      have := SeqAt.RcAt.lists (A := X.A) (e := fun _ => true) (items := its.toArray) (items2 := its2.toArray) ⟨o, ho, hc, m, hd⟩ ⟨o2, ho2, hc2, m2, hd2⟩ (by simp [← e1, ← e2, hl]) (by omega) fun j h1 h2 => by
        rw [List.size_toArray] at h1 h2
        obtain ⟨x, hx, rx⟩ := at_of r1 h1
        obtain ⟨y, hy, ry⟩ := at_of r2 h2
        simp only [List.getElem_toArray]
        exact eqAt I 20 x y _ _ X.A.in1 (hi j x y hx hy) rx ry (by show X.A.units + 1 + 20 < _; omega)
      rw [allT] at this
      exact this _ _ _ _ ⟨.bl _, H, I, rfl, q⟩
theorem op_neS (hu : X.A.units + 64 < cLine) : OpR X (compareOp .NotEq) (rNeS X.K) := by
  intro pins s σ H x y v u Q I rx ry h
  rcases h with h | ⟨t, q⟩
  · exact op_neD hu pins s σ H x y v u Q I rx ry h
  · cases t with
    | tup h h' hl hi =>
      cases rx
      cases ry
      obtain ⟨its, r1, p1, _⟩ := I.tuple h
      obtain ⟨its2, r2, p2, _⟩ := I.tuple h'
      have e1 := r1.length
      have e2 := r2.length
      have := SeqAt.RcNeAt.tuples (A := X.A) (e := fun _ => true) p1 p2 (by omega) fun j h1 h2 => by
        rw [List.size_toArray] at h1 h2
        obtain ⟨x, hx, rx⟩ := at_of r1 h1
        obtain ⟨y, hy, ry⟩ := at_of r2 h2
        simp only [List.getElem_toArray]
        exact eqAt I 20 x y _ _ X.A.in1 (hi j x y hx hy) rx ry (by show X.A.units + 1 + 20 < _; omega)
      rw [allT, show (its.toArray.size == its2.toArray.size) = true by simp [← e1, ← e2, hl], Bool.and_true] at this
      exact this _ _ _ _ ⟨.bl _, H, I, rfl, q⟩
    | lst h h' hl hi =>
      cases rx
      cases ry
      obtain ⟨its, r1, ⟨o, m, ho, hc, _, hd⟩, _⟩ := I.list h
      obtain ⟨its2, r2, ⟨o2, m2, ho2, hc2, _, hd2⟩, _⟩ := I.list h'
      have e1 := r1.length
      have e2 := r2.length
      have := SeqAt.RcNeAt.lists (A := X.A) (e := fun _ => true) (items := its.toArray) (items2 := its2.toArray) ⟨o, ho, hc, m, hd⟩ ⟨o2, ho2, hc2, m2, hd2⟩ (by simp [← e1, ← e2, hl]) (by omega) fun j h1 h2 => by
        rw [List.size_toArray] at h1 h2
        obtain ⟨x, hx, rx⟩ := at_of r1 h1
        obtain ⟨y, hy, ry⟩ := at_of r2 h2
        simp only [List.getElem_toArray]
        exact eqAt I 20 x y _ _ X.A.in1 (hi j x y hx hy) rx ry (by show X.A.units + 1 + 20 < _; omega)
      rw [allT] at this
      exact this _ _ _ _ ⟨.bl _, H, I, rfl, q⟩
end
end Sm
set_option Elab.async false
set_option linter.all false
set_option maxRecDepth 100000
set_option maxHeartbeats 2000000
namespace Cd
open PySem PySem.Spec PyProof.Rows L2
/-- an object that is a dict with these entries -/
def DicO (P : Program) (w : World) (o : Obj) (kvs : List (Key × V)) : Prop :=
  o.ExactDict ∧ ∃ es ep vs, o.data = .dict es ep ∧ KeysOf (mixKind P w) es ∧ Pairs (mixKind P w) es.toList vs ∧ KV kvs vs ∧ (vs.map (·.1)).Nodup
theorem DicO.at {P : Program} {w : World} {o : Obj} {kvs : List (Key × V)} {h : Heap} {a : Addr} (D : DicO P w o kvs) (e : h.get? a = some o) : ∃ vs, KV kvs vs ∧ h.DictOf (mixKind P w) a vs := by
  obtain ⟨h1, es, ep, vs, h2, h3, h4, h5, h6⟩ := D
  exact ⟨vs, h5, o, es, ep, e, h1, h2, h3, h4, h6⟩
def tDGetC (kvs : List (Key × V)) (ty : TE) : TE := fun σ H Q => ty σ H fun y H1 => ∃ k : Key, y = kV k ∧ Q ((valV kvs k).getD .non) H1
theorem pe_dgetC {X : Cx} {o e : Expr} {apos cpos : Pos} {ty : TE} {A : Addr} {od : Obj} {kvs : List (Key × V)} (ho : PE X o (tC (.ref A))) (hk : X.K.lookup A = some od) (hd : (A == sysModules) = false) (D : DicO X.prog X.w od kvs)
    (he : PE X e ty) (m : M1 X o "get" apos e cpos) : PE X (.Call (.Attribute o "get" apos) [e] [] cpos) (tDGetC kvs ty) := by
  refine ⟨fun pins s σ H Q I h => ?_⟩
  refine wpAny_Call_method m.base m.few m.line PySem.F.plainAttrs_dict PySem.F.slot_dict_get PySem.F.type_dict_get (thn (ho.run pins s σ H (fun x H1 => x = .ref A ∧ tDGetC kvs ty σ H1 Q) I ⟨rfl, h⟩) fun u s1 ⟨x, H1, I1, rx, ex, q1⟩ => ?_)
  subst ex
  obtain rfl : u = Value.ref A := rx
  obtain ⟨_, _, dd0⟩ := D.at (I1.kIn A od hk)
  refine ⟨dd0.typeIs, fun b q => ?_, ?_⟩
  · cases q
    obtain ⟨ob, _, _, h1, h2, _⟩ := dd0
    exact ⟨ob, h1, h2.2.1⟩
  rw [m.trees]
  refine Calls.callWith_builtin rfl (Calls.evalArgs_plain (Calls.spliced_cons (thn (he.run pins s1 σ H1 _ I1 q1) fun iv s2 ⟨y, H2, I2, ry, k, ey, q2⟩ => Calls.spliced_nil ?_)))
  subst ey
  obtain ⟨vs, rel, dd⟩ := D.at (I2.kIn A od hk)
  refine call_meetsIn PySem.F.slot_dict_get dd.typeIs PySem.F.entry_dict_get (PySem.F.args_dict_get_2 _ _) (meets_dict_get (mixKind X.prog X.w) A (kV_is ry) hd) ⟨_, dd.mapOf, ⟨_, H2, I2.tok _, ?_, q2⟩⟩
  exact (rel.val k).getD rfl
theorem pe_dgetT {X : Cx} {o e : Expr} {apos cpos : Pos} {ty : TE} {A : Addr} {kvs : List (Key × V)} (ho : PE X o (tC (.ref A))) (hS : ∃ od, X.K.lookup A = some od ∧ (A == sysModules) = false ∧ ∀ P : Program, DicO P X.w od kvs)
    (he : PE X e ty) (m : M1 X o "get" apos e cpos) : PE X (.Call (.Attribute o "get" apos) [e] [] cpos) (tDGetC kvs ty) := by
  obtain ⟨od, hk, hd, D⟩ := hS
  exact pe_dgetC ho hk hd (D X.prog) he m
/-- entries of texts -/
inductive Ents (w : World) : List DictEntry → List (Key × V) → Prop
  | nil : Ents w [] []
  | cons {x : Str} {t : Tok} {v : V} {u : Value} {hh : Int} {es : List DictEntry} {kvs : List (Key × V)} (e : hh = hashStr w x) (r : RelV v u) (h : Ents w es kvs) : Ents w (⟨hh, .str x t, u⟩ :: es) ((Sum.inr x, v) :: kvs)
theorem Ents.out {P : Program} {w : World} {es : List DictEntry} {kvs : List (Key × V)} (E : Ents w es kvs) : ∃ vs : List (Key × Value), (∀ e ∈ es, ∃ k, (mixKind P w).is k e.key = true ∧ e.hash = (mixKind P w).hash k) ∧ Pairs (mixKind P w) es vs ∧ KV kvs vs ∧ vs.map (·.1) = kvs.map (·.1) := by
  induction E with
  | nil => exact ⟨[], fun e h => (by cases h), .nil, .nil, rfl⟩
  | @cons x t v u hh es kvs e r h ih =>
    obtain ⟨vs, a, b, c, d⟩ := ih
    have k1 : keyIs (Sum.inr x) (Value.str x t) = true := kV_is (P := P) (w := w) (k := Sum.inr x) ⟨t, rfl⟩
    refine ⟨(Sum.inr x, u) :: vs, fun e' h' => ?_, .cons k1 rfl b, .cons ⟨rfl, r⟩ c, by rw [List.map_cons, List.map_cons, d]⟩
    rcases List.mem_cons.mp h' with rfl | h'
    · exact ⟨Sum.inr x, k1, e⟩
    · exact a e' h'
theorem DicO.mk {P : Program} {w : World} {es : Array DictEntry} {ep : Nat} {kvs : List (Key × V)} (E : Ents w es.toList kvs) (nd : (kvs.map (·.1)).Nodup) : DicO P w ⟨.type "dict", none, .dict es ep, #[]⟩ kvs := by
  obtain ⟨vs, a, b, c, d⟩ := E.out (P := P)
  exact ⟨⟨rfl, rfl, rfl⟩, es, ep, vs, rfl, fun e h => a e (Array.mem_toList_iff.mpr h), b, c, by rw [d]; exact nd⟩
end Cd
set_option Elab.async false
set_option linter.all false
set_option maxRecDepth 100000
set_option maxHeartbeats 2000000
namespace Mt
open PySem PySem.Spec PyProof.Rows L2
section
variable {X : Cx}
/-- the cases, at a subject -/
structure PMC (X : Cx) (cs : List MatchCase) (t : V → TS) : Prop where
  run : ∀ (pins : List (Addr × Obj)) (s : Shared) (σ : L2.St) (H : Hp) (D : Ends) (v : V) (u : Value) (first : Bool), Inv X pins σ H s → RelV v u → t v D σ H → wpAny (model X.prog X.w) X.A (matchCases cs X.env u first) (SP X pins D) X.xe s
def tEnd : V → TS := fun _ D σ H => D.nx σ H
/-- a case of one value -/
def tCase (te : TE) (tb : TS) (tr : V → TS) : V → TS := fun v => tIfS (tTest (tOp rEq (tC v) te)) tb (tr v)
theorem pmc_val {value : Expr} {pos : Pos} {body : List Stmt} {rest : List MatchCase} {te : TE} {tb : TS} {tr : V → TS} (he : PE X value te) (hb : PSs X body tb) (hr : PMC X rest tr) : PMC X (⟨.MatchValue value pos, none, body⟩ :: rest) (tCase te tb tr) := by
  refine ⟨fun pins s σ H D v u first I r h => ?_⟩
  refine wpAny_matchCases_cons (wpAny_matchPattern_Value ?_)
  refine thn (he.run pins s σ H _ I h) fun x s1 ⟨y, H1, I1, r1, q1⟩ => ?_
  refine thn (op_eq pins s1 σ H1 v y u x _ I1 r r1 q1) fun c s2 ⟨z, H2, I2, r2, k, e, q2⟩ => ?_
  subst e
  cases r2
  refine wpAny_truthy_bool ?_
  cases k with
  | true => exact wpAny_assignInOrder_none (hb.run pins s2 σ H2 D I2 q2)
  | false => exact hr.run pins s2 σ H2 D v u false I2 r q2
/-- the case of all -/
def tAny (tb : TS) : V → TS := fun _ => tb
theorem pmc_any {pos : Pos} {body : List Stmt} {rest : List MatchCase} {tb : TS} (hb : PSs X body tb) : PMC X (⟨.MatchAs none none pos, none, body⟩ :: rest) (tAny tb) := by
  refine ⟨fun pins s σ H D v u first I r h => ?_⟩
  refine wpAny_matchCases_cons (wpAny_matchPattern_Capture ?_)
  exact wpAny_assignInOrder_none (hb.run pins s σ H D I h)
def tMatch (te : TE) (tc : V → TS) : TS := fun D σ H => te σ H fun v H1 => tc v D σ H1
theorem ps_match {subject : Expr} {cases : List MatchCase} {pos : Pos} {te : TE} {tc : V → TS} (he : PE X subject te) (hc : PMC X cases tc) : PS X (.Match subject cases pos) (tMatch te tc) := by
  refine ⟨fun pins s σ H D I h => wpAny_Match ?_⟩
  refine thn (he.run pins s σ H _ I h) fun u s1 ⟨v, H1, I1, r1, q1⟩ => ?_
  exact hc.run pins s1 σ H1 D v u true I1 r1 q1
end
theorem any {tb : TS} {D : Ends} {σ : L2.St} {H : Hp} {v : V} (h : tb D σ H) : tAny tb v D σ H := h
end Mt
set_option Elab.async false
set_option linter.all false
set_option maxRecDepth 100000
set_option maxHeartbeats 2000000
namespace LamD
open PySem PySem.Spec PyProof.Rows L2 PySem.W
section
variable {X : Cx} {pins : List (Addr × Obj)} {σ : L2.St} {H : Hp} {s : Shared}
abbrev CL (X : Cx) (scope : Scope) : List (Str × Addr) := cloFrom X.env.cells scope.names []
/-- one local name x, captured ones and globals -/
structure LamS1 (sc scope : Scope) (x : Str) : Prop where
  kind : scope.kind = .function
  co : scope.isCoroutine = false
  gen : scope.isGenerator = false
  loc : scope.names.lookup x = some .local
  own : ∀ y ∈ scope.names, (y.2 = .local → y.1 = x) ∧ y.2 ≠ .cell
  free : ∀ y ∈ scope.names, y.2 = .free → sc.names.lookup y.1 = some .cell ∨ sc.names.lookup y.1 = some .free
theorem LamS1.has {scope : Scope} {x : Str} (L : LamS1 X.env.scope scope x) (ok : X.Ok) : ∀ y ∈ scope.names, y.2 = .free → ∃ c, X.env.cells.lookup y.1 = some c := fun y hy q =>
  (L.free y hy q).elim (fun k => ok.has _ (.inl k)) (fun k => ok.has _ (.inr k))
theorem start {A : Around} {outer : List Env} {E : XK} {scope : Scope} {x : Str} {f c' : Addr} {g : Heap} {tk : Nat} {s1 : Shared} {HZ : Hp} {m : Str → Option Value} (I : Inv X pins σ H s) (L : LamS1 X.env.scope scope x) (hx : x ∉ X.N) (e0 : Env0 X.prog X.w X.K X.mg X.base A outer s1 HZ) (hd : A.handled = none)
    (un : Un (frs X.stack) [] H HZ s.heap s1.heap) (hns : g.Ns s1.heap.objs.size m) (kp : ∀ b o, s1.heap.get? b = some o → g.get? b = some o) : Inv (LamX.lamCx X A outer s1 HZ E scope f c') [] σ HZ { s1 with heap := g, toks := tk } := by
  have hfree := L.has I.ok
  have same : ∀ {y c}, (CL X scope).lookup y = some c → X.env.cells.lookup y = some c := fun {y c} q => by
    rcases cloFrom_mem (PySem.mem_of_lookup q) with k | ⟨k1, k2⟩
    · cases k
    · obtain ⟨c1, q1⟩ := hfree _ k1 rfl
      have q1 : X.env.cells.lookup y = some c1 := q1
      have : c = c1 := by rw [k2, q1] <;> rfl
      rw [this]; exact q1
  have there : ∀ {y}, scope.names.lookup y = some .free → ∃ c, (CL X scope).lookup y = some c := fun {y} q => mem_lookup (cloFrom_has (cells := X.env.cells) (acc := []) (show (y, NameKind.free) ∈ scope.names from PySem.mem_of_lookup q))
  have cell : ∀ {c : Addr} {v : Option Value}, H c = none → s.heap.IsCell c v → g.IsCell c v := fun {c v} n ⟨o, ho, hv⟩ => by
    obtain ⟨sl, q⟩ := un.any ho n (by simp)
    exact ⟨_, kp _ _ q, hv⟩
  have none_ : ∀ b : Addr, b ∉ (LamX.lamCx X A outer s1 HZ E scope f c').ex := fun b z => by cases (show b ∈ ([] : List Addr) from z)
  refine ⟨⟨e0.mod, L.kind, rfl, rfl, Nat.le_refl _, fun y z c q1 q2 => I.ok.inj y z c (same q1) (same q2), fun y hy => ?_, fun y c z _ => ?_, fun _ => hd, Around.frames_deeper e0.frames, .inr ⟨rfl, rfl⟩, fun b z => absurd z (none_ b), e0.bs, e0.bsz, fun b _ _ => none_ b,
      fun b z => absurd z (none_ b), e0.funs, e0.frf⟩, rfl, e0.bare, Un.kept kp, ⟨_, hns, fun i y v q1 q2 q3 => ?_⟩, fun y c q => ?_, e0.hok.fresh (Nat.le_refl _), fun y c q => ?_, fun q hq => (by cases (show q ∈ ([] : List (Addr × Obj)) ++ [] from hq)), e0.hok.kept kp, I.len⟩
  · rcases (show scope.names.lookup y = some .cell ∨ scope.names.lookup y = some .free from hy) with hy | hy
    · exact absurd rfl (L.own _ (PySem.mem_of_lookup hy)).2
    · exact there hy
  · cases (show false = true from z)
  · rcases (show Vis scope y from q3) with k | k | k
    · have hxy := (L.own _ (PySem.mem_of_lookup k)).1 rfl
      exact absurd (hxy ▸ List.mem_of_getElem? q1) hx
    · exact absurd rfl (L.own _ (PySem.mem_of_lookup k)).2
    · obtain ⟨m', hn, hl⟩ := I.loc
      have vis : Vis X.env.scope y := (L.free _ (PySem.mem_of_lookup k) rfl).elim (fun k => .inr (.inl k)) (fun k => .inr (.inr k))
      obtain ⟨w', r, q⟩ := hl i y v q1 q2 vis
      obtain ⟨c2, h2⟩ := there k
      refine ⟨w', r, .inr ⟨.inr k, c2, h2, ?_⟩⟩
      have c1 := same h2
      rcases q with ⟨k', _⟩ | ⟨_, c3, e', z⟩
      · rcases L.free _ (PySem.mem_of_lookup k) rfl with k2 | k2 <;> (have := (show X.env.scope.names.lookup y = _ from k2).symm.trans k'; cases this)
      · cases c1.symm.trans e'
        exact cell (I.freeC y _ c1) z
  · obtain ⟨w', z⟩ := I.cell y c (same q)
    exact ⟨w', cell (I.freeC y c (same q)) z⟩
  · obtain ⟨v, o, ho, hv⟩ := I.cell y c (same q)
    exact un.free c o ho (I.freeC y c (same q)) (by simp)
end
end LamD
set_option Elab.async false
set_option linter.all false
set_option maxRecDepth 100000
set_option maxHeartbeats 1000000
namespace Ab
open PySem PySem.Spec PyProof.Rows L2
inductive AV where
  | non | bl (b : Bool) | int (i : Int) | str (s : Str) | ty (n : String) | cls (c : String)
  | raw (a : Addr) | obj (i : Nat) | tup (xs : List AV) | scr (xs : List AV) | exn (c : String) (ns : List Str) (vs : List AV)
inductive Cell where
  | lst (xs : List AV) | ins (c : String) (fs : List (Str × AV)) | dic (kvs : List (Key × AV))
structure Sto where
  n : Nat
  c : Nat → Cell
def Sto.new (s : Sto) (x : Cell) : Sto := ⟨s.n + 1, fun i => if i = s.n then x else s.c i⟩
def Sto.set (s : Sto) (i : Nat) (x : Cell) : Sto := ⟨s.n, fun j => if j = i then x else s.c j⟩
/-- where a store lies -/
structure Wd where
  m : Nat → Addr
  n : Nat
  H : Hp
def Imm : HO → Prop
  | .tup _ => True
  | .xd _ => True
  | .frz _ _ => True
  | .ext _ => True
  | _ => False
structure Ext (w w' : Wd) : Prop where
  n : w.n ≤ w'.n
  m : ∀ i, i < w.n → w'.m i = w.m i
  im : ∀ a o, w.H a = some o → Imm o → w'.H a = some o
theorem Ext.refl (w : Wd) : Ext w w := ⟨Nat.le_refl _, fun _ _ => rfl, fun _ _ h _ => h⟩
theorem imm_xob {a : Addr} {cls : Value} {d : Option Addr} : Imm (Gx.xob a cls d) := trivial
theorem Ext.trans {w w1 w2 : Wd} (a : Ext w w1) (b : Ext w1 w2) : Ext w w2 :=
  ⟨Nat.le_trans a.n b.n, fun i h => (b.m i (Nat.lt_of_lt_of_le h a.n)).trans (a.m i h), fun c o h k => b.im c o (a.im c o h k) k⟩
/-- what is known of the program: its module, its classes' addresses, the tables of code objects, the classes that live -/
structure Wc where
  K : PySem.W.Frag
  κ : String → Addr
  T : List (Addr × Str)
  live : List String
  xlive : List String
/-- and what stays true as it grows -/
structure Wl extends Wc where
  inv : Wd → Prop
  cl : ∀ w w', Ext w w' → inv w → inv w'
instance : Coe Wl Wc := ⟨Wl.toWc⟩
def SqF (K : PySem.W.Frag) (H : Hp) (a : Addr) (xs : List V) : Prop :=
  (∃ o, H a = some (.frz o (.lst xs))) ∨
    ∃ (o : Obj) (its : Array Value) (n : Nat), K.lookup a = some o ∧ o.cls = .type "list" ∧ o.dict = none ∧ o.data = .seq its n ∧ its.size ≤ sizeLine ∧ Vals xs its.toList
theorem SqF.sql {K : PySem.W.Frag} {H : Hp} {a : Addr} {xs : List V} (h : SqF K H a xs) : SqL K H a xs := h.elim (fun h => .inl (.inr h)) .inr
section
variable (W : Wc) (w : Wd)
mutual
inductive Rel : AV → V → Prop
  | non : Rel .non .non
  | bl (b : Bool) : Rel (.bl b) (.bl b)
  | int (i : Int) : Rel (.int i) (.int i)
  | str (s : Str) : Rel (.str s) (.str s)
  | ty (n : String) : Rel (.ty n) (.ty n)
  | cls (c : String) : Rel (.cls c) (.ref (W.κ c))
  | raw (a : Addr) : Rel (.raw a) (.ref a)
  | obj {i : Nat} (h : i < w.n) : Rel (.obj i) (.ref (w.m i))
  | tup {a : Addr} {xs : List AV} {vs : List V} (h : SqT W.K w.H a vs) (r : RelL xs vs) : Rel (.tup xs) (.ref a)
  | scr {a : Addr} {xs : List AV} {vs : List V} (h : SqF W.K w.H a vs) (r : RelL xs vs) : Rel (.scr xs) (.ref a)
  | exn {c : String} {a d : Addr} {ns : List Str} {xs : List AV} {vs : List V} (hc : c ∈ W.xlive) (h : w.H a = some (Gx.xob a (.ref (W.κ c)) (some d)) ) (hd : w.H d = some (.xd (ns.zip vs))) (hl : ns.length = xs.length) (r : RelL xs vs) : Rel (.exn c ns xs) (.ref a)
inductive RelL : List AV → List V → Prop
  | nil : RelL [] []
  | cons {x : AV} {v : V} {xs : List AV} {vs : List V} (h : Rel x v) (r : RelL xs vs) : RelL (x :: xs) (v :: vs)
end
def RelF (fs : List (Str × AV)) (gs : List (Str × V)) : Prop := Paired (fun (p : Str × AV) (q : Str × V) => p.1 = q.1 ∧ Rel W w p.2 q.2) fs gs
def RelK (fs : List (Key × AV)) (gs : List (Key × V)) : Prop := Paired (fun (p : Key × AV) (q : Key × V) => p.1 = q.1 ∧ Rel W w p.2 q.2) fs gs
inductive CRel : Cell → HO → Prop
  | lst {xs : List AV} {vs : List V} (r : RelL W w xs vs) : CRel (.lst xs) (.lst vs)
  | ins {c : String} {dx : Addr} {fs : List (Str × AV)} {gs : List (Str × V)} (hc : c ∈ W.live) (r : RelF W w fs gs) : CRel (.ins c fs) (.ins (W.κ c) dx gs)
  | dic {fs : List (Key × AV)} {gs : List (Key × V)} (r : RelK W w fs gs) : CRel (.dic fs) (.dK gs)
end
section
variable (W : Wl) (w : Wd)
structure Sim (s : Sto) : Prop where
  n : w.n = s.n
  inj : ∀ i j, i < s.n → j < s.n → w.m i = w.m j → i = j
  cell : ∀ i, i < s.n → ∃ o, w.H (w.m i) = some o ∧ CRel W w (s.c i) o
  tab : LamX.Tabs W.T w.H
  inv : W.inv w
end
section
variable (W : Wc) (w : Wd)
abbrev ASt := List (Option AV)
def RO : Option AV → Option V → Prop
  | some x, some v => Rel W w x v
  | none, _ => True
  | _, _ => False
def RSt (σ : ASt) (σc : L2.St) : Prop := Paired (RO W w) σ σc
end
theorem sqt_ext {K : PySem.W.Frag} {w w' : Wd} {a : Addr} {vs : List V} (e : Ext w w') (h : SqT K w.H a vs) : SqT K w'.H a vs := by
  rcases h with (h | ⟨o, h⟩) | h
  · exact .inl (.inl (e.im _ _ h trivial))
  · exact .inl (.inr ⟨o, e.im _ _ h trivial⟩)
  · exact .inr h
theorem sqf_ext {K : PySem.W.Frag} {w w' : Wd} {a : Addr} {vs : List V} (e : Ext w w') (h : SqF K w.H a vs) : SqF K w'.H a vs := by
  rcases h with ⟨o, h⟩ | h
  · exact .inl ⟨o, e.im _ _ h trivial⟩
  · exact .inr h
mutual
theorem Rel.mono {W : Wc} {w w' : Wd} (e : Ext w w') : ∀ {x : AV} {v : V}, Rel W w x v → Rel W w' x v
  | _, _, .non => .non
  | _, _, .bl b => .bl b
  | _, _, .int i => .int i
  | _, _, .str s => .str s
  | _, _, .ty n => .ty n
  | _, _, .cls c => .cls c
  | _, _, .raw a => .raw a
  | _, _, .obj h => by rw [← e.m _ h]; exact .obj (Nat.lt_of_lt_of_le h e.n)
  | _, _, .tup h r => .tup (sqt_ext e h) (RelL.mono e r)
  | _, _, .scr h r => .scr (sqf_ext e h) (RelL.mono e r)
  | _, _, .exn hc h hd hl r => .exn hc (e.im _ _ h imm_xob) (e.im _ _ hd trivial) hl (RelL.mono e r)
theorem RelL.mono {W : Wc} {w w' : Wd} (e : Ext w w') : ∀ {x : List AV} {v : List V}, RelL W w x v → RelL W w' x v
  | _, _, .nil => .nil
  | _, _, .cons h r => .cons (Rel.mono e h) (RelL.mono e r)
end
section
variable {W : Wc} {w w' : Wd} {s s' : Sto}
theorem RelF.mono (e : Ext w w') {fs : List (Str × AV)} {gs : List (Str × V)} (h : RelF W w fs gs) : RelF W w' fs gs := Paired.mapP h fun _ _ z => ⟨z.1, z.2.mono e⟩
theorem RelK.mono (e : Ext w w') {fs : List (Key × AV)} {gs : List (Key × V)} (h : RelK W w fs gs) : RelK W w' fs gs := Paired.mapP h fun _ _ z => ⟨z.1, z.2.mono e⟩
theorem CRel.mono (e : Ext w w') {c : Cell} {o : HO} (h : CRel W w c o) : CRel W w' c o := by
  cases h with
  | lst r => exact .lst (r.mono e)
  | ins hc r => exact .ins hc (r.mono e)
  | dic r => exact .dic (r.mono e)
theorem RO.mono (e : Ext w w') : ∀ {x : Option AV} {v : Option V}, RO W w x v → RO W w' x v
  | some _, some _, h => Rel.mono e h
  | none, _, _ => trivial
  | some _, none, h => h
theorem RSt.mono (e : Ext w w') {σ : ASt} {σc : L2.St} (h : RSt W w σ σc) : RSt W w' σ σc := Paired.mapP h fun _ _ z => z.mono e
theorem CRel.mut {c : Cell} {o : HO} (h : CRel W w c o) : ¬ Imm o ∧ (∀ ps, o ≠ .tbl ps) ∧ ∀ φ, o ≠ .ext φ := by
  cases h <;> exact ⟨fun z => z, fun ps z => (by cases z), fun φ z => (by cases z)⟩
theorem RelL.length : ∀ {xs : List AV} {vs : List V}, RelL W w xs vs → xs.length = vs.length
  | _, _, .nil => rfl
  | _, _, .cons _ r => congrArg (· + 1) (RelL.length r)
theorem RelL.append : ∀ {xs ys : List AV} {vs us : List V}, RelL W w xs vs → RelL W w ys us → RelL W w (xs ++ ys) (vs ++ us)
  | _, _, _, _, .nil, h => h
  | _, _, _, _, .cons h r, k => .cons h (RelL.append r k)
theorem RelL.get : ∀ {xs : List AV} {vs : List V}, RelL W w xs vs → ∀ (i : Nat) (x : AV), xs[i]? = some x → ∃ v, vs[i]? = some v ∧ Rel W w x v
  | _, _, .nil, i, x, e => by simp at e
  | _, _, .cons h r, 0, x, e => by
    simp only [List.getElem?_cons_zero, Option.some.injEq] at e
    subst e
    exact ⟨_, by simp, h⟩
  | _, _, .cons h r, i + 1, x, e => by
    simp only [List.getElem?_cons_succ] at e ⊢
    exact RelL.get r i x e
theorem RelL.getv : ∀ {xs : List AV} {vs : List V}, RelL W w xs vs → ∀ (i : Nat) (v : V), vs[i]? = some v → ∃ x, xs[i]? = some x ∧ Rel W w x v
  | _, _, .nil, i, x, e => by simp at e
  | _, _, .cons h r, 0, x, e => by
    simp only [List.getElem?_cons_zero, Option.some.injEq] at e
    subst e
    exact ⟨_, by simp, h⟩
  | _, _, .cons h r, i + 1, x, e => by
    simp only [List.getElem?_cons_succ] at e ⊢
    exact RelL.getv r i x e
theorem RelL.set : ∀ {xs : List AV} {vs : List V} {x : AV} {v : V}, RelL W w xs vs → Rel W w x v → ∀ i, RelL W w (xs.set i x) (vs.set i v)
  | _, _, _, _, .nil, _, _ => .nil
  | _, _, _, _, .cons h r, k, 0 => .cons k r
  | _, _, _, _, .cons h r, k, i + 1 => .cons h (RelL.set r k i)
theorem RelL.take : ∀ {xs : List AV} {vs : List V}, RelL W w xs vs → ∀ i, RelL W w (xs.take i) (vs.take i)
  | _, _, .nil, i => by simp only [List.take_nil]; exact .nil
  | _, _, .cons h r, 0 => .nil
  | _, _, .cons h r, i + 1 => .cons h (RelL.take r i)
theorem RelL.drop : ∀ {xs : List AV} {vs : List V}, RelL W w xs vs → ∀ i, RelL W w (xs.drop i) (vs.drop i)
  | _, _, .nil, i => by simp only [List.drop_nil]; exact .nil
  | _, _, .cons h r, 0 => .cons h r
  | _, _, .cons h r, i + 1 => RelL.drop r i
theorem RSt.get : ∀ {σ : ASt} {σc : L2.St}, RSt W w σ σc → ∀ (i : Nat) (x : AV), σ[i]? = some (some x) → ∃ v, σc[i]? = some (some v) ∧ Rel W w x v
  | _, _, .nil, i, x, e => by simp at e
  | _, _, .cons h r, 0, x, e => by
    simp only [List.getElem?_cons_zero, Option.some.injEq] at e
    subst e
    revert h
    rename_i oc _ _
    cases oc with
    | none => exact fun h => (show False from h).elim
    | some v => exact fun h => ⟨v, by simp, h⟩
  | _, _, .cons h r, i + 1, x, e => by
    simp only [List.getElem?_cons_succ] at e ⊢
    exact RSt.get r i x e
theorem RSt.set : ∀ {σ : ASt} {σc : L2.St} {x : Option AV} {v : Option V}, RSt W w σ σc → RO W w x v → ∀ i, RSt W w (σ.set i x) (σc.set i v)
  | _, _, _, _, .nil, _, _ => .nil
  | _, _, _, _, .cons h r, k, 0 => .cons k r
  | _, _, _, _, .cons h r, k, i + 1 => .cons h (RSt.set r k i)
theorem RSt.length {σ : ASt} {σc : L2.St} (h : RSt W w σ σc) : σ.length = σc.length := Paired.length h
/-- wipe -/
def wipeA (σ : ASt) : List Nat → ASt
  | [] => σ
  | v :: vs => (wipeA σ vs).set v none
theorem RSt.wipe {σ : ASt} {σc : L2.St} (h : RSt W w σ σc) : ∀ vs : List Nat, RSt W w (wipeA σ vs) (wipe σc vs)
  | [] => h
  | v :: vs => RSt.set (RSt.wipe h vs) (show RO W w none none from trivial) v
end
section
variable {W : Wl} {w w' : Wd} {s s' : Sto}
theorem Ext.grow {H' : Hp} (e : ∀ a o, w.H a = some o → H' a = some o) : Ext w { w with H := H' } := ⟨Nat.le_refl _, fun _ _ => rfl, fun a o h _ => e a o h⟩
theorem Sim.grow {H' : Hp} (S : Sim W w s) (e : ∀ a o, w.H a = some o → H' a = some o) : Sim W { w with H := H' } s :=
  ⟨S.n, S.inj, fun i h => by
    obtain ⟨o, h1, h2⟩ := S.cell i h
    exact ⟨o, e _ _ h1, h2.mono (.grow e)⟩, S.tab.ext e, W.cl _ _ (.grow e) S.inv⟩
theorem grow_upd {H : Hp} {p : Addr} {o : HO} (n : H p = none) : ∀ a u, H a = some u → upd H p o a = some u := fun a u h => by
  rw [upd_ne (ne_of_none h n)]; exact h
/-- a new cell -/
def Wd.new (w : Wd) (p : Addr) (H' : Hp) : Wd := ⟨fun i => if i = w.n then p else w.m i, w.n + 1, H'⟩
theorem Ext.new {p : Addr} {H' : Hp} (e : ∀ a o, w.H a = some o → H' a = some o) : Ext w (w.new p H') :=
  ⟨Nat.le_succ _, fun i h => if_neg (Nat.ne_of_lt h), fun a o h _ => e a o h⟩
theorem Sim.new {p : Addr} {H' : Hp} {x : Cell} {o : HO} (S : Sim W w s) (hp : w.H p = none) (e : ∀ a o, w.H a = some o → H' a = some o) (k : H' p = some o) (r : CRel W (w.new p H') x o) : Sim W (w.new p H') (s.new x) := by
  have sn := S.n
  refine ⟨congrArg (· + 1) S.n, fun i j hi hj q => ?_, fun i hi => ?_, S.tab.ext e, W.cl _ _ (.new e) S.inv⟩
  · have hi : i < s.n + 1 := hi
    have hj : j < s.n + 1 := hj
    have q : (if i = w.n then p else w.m i) = if j = w.n then p else w.m j := q
    have at_ : ∀ i, i < s.n + 1 → ¬ i = w.n → w.m i ≠ p := fun i h1 h2 z => by
      obtain ⟨o, h3, _⟩ := S.cell i (by omega)
      rw [z, hp] at h3
      cases h3
    by_cases h1 : i = w.n
    · by_cases h2 : j = w.n
      · omega
      · rw [if_pos h1, if_neg h2] at q
        exact absurd q.symm (at_ j hj h2)
    · by_cases h2 : j = w.n
      · rw [if_neg h1, if_pos h2] at q
        exact absurd q (at_ i hi h1)
      · rw [if_neg h1, if_neg h2] at q
        exact S.inj i j (by omega) (by omega) q
  · have hi : i < s.n + 1 := hi
    by_cases h : i = s.n
    · subst h
      refine ⟨o, ?_, ?_⟩
      · show H' (if s.n = w.n then p else w.m s.n) = _
        rw [if_pos sn.symm]; exact k
      · show CRel W _ (if s.n = s.n then x else _) o
        rw [if_pos rfl]; exact r
    · obtain ⟨o', h1, h2⟩ := S.cell i (by omega)
      refine ⟨o', ?_, ?_⟩
      · show H' (if i = w.n then p else w.m i) = _
        rw [if_neg (by omega)]; exact e _ _ h1
      · show CRel W _ (if i = s.n then x else s.c i) o'
        rw [if_neg h]; exact h2.mono (.new e)
theorem Rel.new (p : Addr) (H' : Hp) (n : w.n = s.n) : Rel W (w.new p H') (.obj s.n) (.ref p) := by
  have := Rel.obj (W := W) (w := w.new p H') (i := s.n) (by show s.n < w.n + 1; omega)
  have e : (w.new p H').m s.n = p := if_pos n.symm
  rw [e] at this
  exact this
/-- a cell is written -/
theorem Ext.wr {i : Nat} {o : HO} (S : Sim W w s) (hi : i < s.n) : Ext w { w with H := upd w.H (w.m i) o } :=
  ⟨Nat.le_refl _, fun _ _ => rfl, fun a u h k => by
    obtain ⟨o', h1, h2⟩ := S.cell i hi
    have : a ≠ w.m i := fun z => by
      rw [z, h1] at h
      cases h
      exact h2.mut.1 k
    show upd w.H (w.m i) o a = some u
    rw [upd_ne this]; exact h⟩
theorem Sim.wr {i : Nat} {x : Cell} {o : HO} (S : Sim W w s) (hi : i < s.n) (r : CRel W w x o) : Sim W { w with H := upd w.H (w.m i) o } (s.set i x) := by
  have e := Ext.wr (o := o) S hi
  refine ⟨S.n, S.inj, fun j hj => ?_, fun p hp => ?_, W.cl _ _ e S.inv⟩
  · by_cases h : j = i
    · subst h
      exact ⟨o, upd_same, by show CRel W _ (if j = j then x else _) o; rw [if_pos rfl]; exact r.mono e⟩
    · obtain ⟨o', h1, h2⟩ := S.cell j hj
      refine ⟨o', ?_, ?_⟩
      · show upd w.H (w.m i) o (w.m j) = _
        rw [upd_ne fun z => h (S.inj j i hj hi z)]; exact h1
      · show CRel W _ (if j = i then x else s.c j) o'
        rw [if_neg h]; exact h2.mono e
  · obtain ⟨oi, i1, i2⟩ := S.cell i hi
    obtain ⟨ps, t1, t2, t3⟩ := S.tab p hp
    have ne1 : p.1 ≠ w.m i := fun z => by
      rw [z, i1] at t1
      cases t1
      exact i2.mut.2.1 _ rfl
    refine ⟨ps, by show upd w.H (w.m i) o p.1 = _; rw [upd_ne ne1]; exact t1, t2, fun pos cv hcv => ?_⟩
    obtain ⟨c', rfl, hc'⟩ := t3 pos cv hcv
    refine ⟨c', rfl, ?_⟩
    have ne2 : c' ≠ w.m i := fun z => by
      rw [z, i1] at hc'
      cases hc'
      exact i2.mut.2.2 _ rfl
    show upd w.H (w.m i) o c' = _
    rw [upd_ne ne2]; exact hc'
end
inductive Res (α : Type) where
  | ok (a : α) (s : Sto)
  | err (c : String) (ns : List Str) (vs : List AV) (s : Sto)
  | stuck
def Res.bind {α β : Type} : Res α → (α → Sto → Res β) → Res β
  | .ok a s, k => k a s
  | .err c ns vs s, _ => .err c ns vs s
  | .stuck, _ => .stuck
def Res.Post {α : Type} : Res α → (α → Sto → Prop) → (String → List Str → List AV → Sto → Prop) → Prop
  | .ok a s, P, _ => P a s
  | .err c ns vs s, _, R => R c ns vs s
  | .stuck, _, _ => False
@[simp] theorem Res.bind_ok {α β : Type} {a : α} {s : Sto} {k : α → Sto → Res β} : (Res.ok a s).bind k = k a s := rfl
@[simp] theorem Res.bind_err {α β : Type} {c : String} {ns : List Str} {vs : List AV} {s : Sto} {k : α → Sto → Res β} : (Res.err c ns vs s).bind k = .err c ns vs s := rfl
@[simp] theorem Res.bind_stuck {α β : Type} {k : α → Sto → Res β} : (Res.stuck : Res α).bind k = .stuck := rfl
theorem Res.post_bind {α β : Type} {r : Res α} {k : α → Sto → Res β} {P : β → Sto → Prop} {R : String → List Str → List AV → Sto → Prop} : (r.bind k).Post P R ↔ r.Post (fun a s => (k a s).Post P R) R := by
  cases r <;> exact Iff.rfl
theorem Res.Post.mono {α : Type} {r : Res α} {P P' : α → Sto → Prop} {R R' : String → List Str → List AV → Sto → Prop} (h : r.Post P R) (f : ∀ a s, P a s → P' a s) (g : ∀ c ns vs s, R c ns vs s → R' c ns vs s) : r.Post P' R' := by
  cases r with
  | ok a s => exact f _ _ h
  | err c ns vs s => exact g _ _ _ _ h
  | stuck => exact h
inductive SRes where
  | nx (σ : ASt) (s : Sto) | rt (v : AV) (s : Sto) | bk (σ : ASt) (s : Sto) | ct (σ : ASt) (s : Sto)
  | err (c : String) (ns : List Str) (vs : List AV) (σ : ASt) (s : Sto)
  | stuck
abbrev AE := ASt → Sto → Res AV
abbrev AT := ASt → Sto → Res Bool
abbrev AA := ASt → Sto → Res (List AV)
abbrev AS := ASt → Sto → SRes
section
variable (W : Wl)
def ExcD (w : Wd) (c : String) (d : Addr) (ns : List Str) (xs : List AV) : Prop := c ∈ W.xlive ∧ ∃ vs, w.H d = some (.xd (ns.zip vs)) ∧ ns.length = xs.length ∧ RelL W w xs vs
def ErrP (w : Wd) (E : XK) (c : String) (ns : List Str) (vs : List AV) (s : Sto) : Prop := ∀ w' d, Ext w w' → Sim W w' s → ExcD W w' c d ns vs → E (.ref (W.κ c)) (some d) w'.H
def OkP (w : Wd) (Q : VK) (v : AV) (s : Sto) : Prop := ∀ w' vc, Ext w w' → Sim W w' s → Rel W w' v vc → Q vc w'.H
def OkL (w : Wd) (Q : List V → Hp → Prop) (v : List AV) (s : Sto) : Prop := ∀ w' vc, Ext w w' → Sim W w' s → RelL W w' v vc → Q vc w'.H
def OkB (w : Wd) (Q : Bool → Hp → Prop) (b : Bool) (s : Sto) : Prop := ∀ w', Ext w w' → Sim W w' s → Q b w'.H
def DE (E : L2.St → XK) (te : TE) (f : AE) : Prop := ∀ (w : Wd) (s : Sto) (σ : ASt) (σc : L2.St) (Q : VK), Sim W w s → RSt W w σ σc → (f σ s).Post (OkP W w Q) (ErrP W w (E σc)) → te σc w.H Q
def DT (E : L2.St → XK) (tt : TT) (f : AT) : Prop := ∀ (w : Wd) (s : Sto) (σ : ASt) (σc : L2.St) (Q : Bool → Hp → Prop), Sim W w s → RSt W w σ σc → (f σ s).Post (OkB W w Q) (ErrP W w (E σc)) → tt σc w.H Q
def DA (E : L2.St → XK) (ta : TA) (f : AA) : Prop := ∀ (w : Wd) (s : Sto) (σ : ASt) (σc : L2.St) (Q : List V → Hp → Prop), Sim W w s → RSt W w σ σc → (f σ s).Post (OkL W w Q) (ErrP W w (E σc)) → ta σc w.H Q
def SRes.P (r : SRes) (w : Wd) (D : Ends) (E : L2.St → XK) : Prop :=
  match r with
  | .nx σ s => ∀ w' σc, Ext w w' → Sim W w' s → RSt W w' σ σc → D.nx σc w'.H
  | .rt v s => ∀ w' vc, Ext w w' → Sim W w' s → Rel W w' v vc → D.rt vc w'.H
  | .bk σ s => ∀ w' σc, Ext w w' → Sim W w' s → RSt W w' σ σc → D.bk σc w'.H
  | .ct σ s => ∀ w' σc, Ext w w' → Sim W w' s → RSt W w' σ σc → D.ct σc w'.H
  | .err c ns vs σ s => ∀ w' σc d, Ext w w' → Sim W w' s → RSt W w' σ σc → ExcD W w' c d ns vs → E σc (.ref (W.κ c)) (some d) w'.H
  | .stuck => False
def DS (E : L2.St → XK) (ts : TS) (f : AS) : Prop := ∀ (w : Wd) (s : Sto) (σ : ASt) (σc : L2.St) (D : Ends), Sim W w s → RSt W w σ σc → (f σ s).P W w D E → ts D σc w.H
/-- a target -/
def DG (tg : TG) (g : AV → AS) : Prop := ∀ (w : Wd) (s : Sto) (σ : ASt) (σc : L2.St) (x : AV) (v : V) (Q : L2.St → Hp → Prop), Sim W w s → RSt W w σ σc → Rel W w x v → (g x σ s).P W w ⟨Q, fun _ _ => False, fun _ _ => False, fun _ _ => False⟩ (fun _ _ _ _ => False) → tg v σc w.H Q
def DGs (tg : TGs) (g : List AV → AS) : Prop := ∀ (w : Wd) (s : Sto) (σ : ASt) (σc : L2.St) (x : List AV) (v : List V) (Q : L2.St → Hp → Prop), Sim W w s → RSt W w σ σc → RelL W w x v → (g x σ s).P W w ⟨Q, fun _ _ => False, fun _ _ => False, fun _ _ => False⟩ (fun _ _ _ _ => False) → tg v σc w.H Q
/-- an operator, a built-in of arguments -/
def DR (r : R2) (g : AV → AV → Sto → Res AV) : Prop := ∀ (w : Wd) (s : Sto) (x y : AV) (v u : V) (Q : VK), Sim W w s → Rel W w x v → Rel W w y u → (g x y s).Post (OkP W w Q) (fun _ _ _ _ => False) → r v u w.H Q
def DU (r : V → Hp → VK → Prop) (g : AV → Sto → Res AV) : Prop := ∀ (w : Wd) (s : Sto) (x : AV) (v : V) (Q : VK), Sim W w s → Rel W w x v → (g x s).Post (OkP W w Q) (fun _ _ _ _ => False) → r v w.H Q
def DB (r : List V → Hp → VK → Prop) (g : List AV → Sto → Res AV) : Prop := ∀ (w : Wd) (s : Sto) (x : List AV) (v : List V) (Q : VK), Sim W w s → RelL W w x v → (g x s).Post (OkP W w Q) (fun _ _ _ _ => False) → r v w.H Q
/-- a promise -/
def spF (n : Nat) (F : List AV → Sto → Res AV) : Sp := fun vs H Q E => ∃ (w : Wd) (s : Sto) (args : List AV), H = w.H ∧ Sim W w s ∧ RelL W w args vs ∧ args.length = n ∧ (F args s).Post (OkP W w Q) (ErrP W w E)
end
section
variable {W : Wl} {w w' : Wd}
theorem OkP.mono {Q : VK} {v : AV} {s : Sto} (e : Ext w w') (h : OkP W w Q v s) : OkP W w' Q v s := fun w2 vc e2 S r => h w2 vc (e.trans e2) S r
theorem OkL.mono {Q : List V → Hp → Prop} {v : List AV} {s : Sto} (e : Ext w w') (h : OkL W w Q v s) : OkL W w' Q v s := fun w2 vc e2 S r => h w2 vc (e.trans e2) S r
theorem OkB.mono {Q : Bool → Hp → Prop} {v : Bool} {s : Sto} (e : Ext w w') (h : OkB W w Q v s) : OkB W w' Q v s := fun w2 e2 S => h w2 (e.trans e2) S
theorem ErrP.mono {E : XK} {c : String} {ns : List Str} {vs : List AV} {s : Sto} (e : Ext w w') (h : ErrP W w E c ns vs s) : ErrP W w' E c ns vs s := fun w2 d e2 S x => h w2 d (e.trans e2) S x
theorem P.mono {r : SRes} {D : Ends} {E : L2.St → XK} (e : Ext w w') (h : r.P W w D E) : r.P W w' D E := by
  cases r with
  | nx σ s => exact fun w2 σc e2 S x => h w2 σc (e.trans e2) S x
  | rt v s => exact fun w2 σc e2 S x => h w2 σc (e.trans e2) S x
  | bk σ s => exact fun w2 σc e2 S x => h w2 σc (e.trans e2) S x
  | ct σ s => exact fun w2 σc e2 S x => h w2 σc (e.trans e2) S x
  | err c ns vs σ s => exact fun w2 σc d e2 S x y => h w2 σc d (e.trans e2) S x y
  | stuck => exact h
theorem P.imp {r : SRes} {D D' : Ends} {E E' : L2.St → XK} (h : r.P W w D E) (n : ∀ σ H, D.nx σ H → D'.nx σ H) (t : ∀ v H, D.rt v H → D'.rt v H) (b : ∀ σ H, D.bk σ H → D'.bk σ H) (c : ∀ σ H, D.ct σ H → D'.ct σ H) (x : ∀ σ c d H, E σ c d H → E' σ c d H) : r.P W w D' E' := by
  cases r with
  | nx σ s => exact fun w2 σc e2 S x => n _ _ (h w2 σc e2 S x)
  | rt v s => exact fun w2 σc e2 S x => t _ _ (h w2 σc e2 S x)
  | bk σ s => exact fun w2 σc e2 S x => b _ _ (h w2 σc e2 S x)
  | ct σ s => exact fun w2 σc e2 S x => c _ _ (h w2 σc e2 S x)
  | err c ns vs σ s => exact fun w2 σc d e2 S z y => x _ _ _ _ (h w2 σc d e2 S z y)
  | stuck => exact h
theorem post_mono {r : Res AV} {Q : VK} {E : XK} (e : Ext w w') (h : r.Post (OkP W w Q) (ErrP W w E)) : r.Post (OkP W w' Q) (ErrP W w' E) := h.mono (fun _ _ z => z.mono e) fun _ _ _ _ z => z.mono e
end
end Ab
set_option Elab.async false
set_option linter.all false
set_option maxRecDepth 100000
set_option maxHeartbeats 1000000
namespace Ab
open PySem PySem.Spec PyProof.Rows L2
open Classical
def aVar (i : Nat) : AE := fun σ s => match σ[i]? with | some (some v) => .ok v s | _ => .stuck
def aC (v : AV) : AE := fun _ s => .ok v s
def aOp (g : AV → AV → Sto → Res AV) (fa fb : AE) : AE := fun σ s => (fa σ s).bind fun x s1 => (fb σ s1).bind fun y s2 => g x y s2
def aUn (g : AV → Sto → Res AV) (fa : AE) : AE := fun σ s => (fa σ s).bind g
def aNil : AA := fun _ s => .ok [] s
def aCons (fa : AE) (fr : AA) : AA := fun σ s => (fa σ s).bind fun x s1 => (fr σ s1).bind fun xs s2 => .ok (x :: xs) s2
def aCB (g : List AV → Sto → Res AV) (fa : AA) : AE := fun σ s => (fa σ s).bind g
def aAndV (fa fb : AE) : AE := fun σ s => (fa σ s).bind fun x s1 => match x with | .bl true => fb σ s1 | .bl false => .ok (.bl false) s1 | _ => .stuck
def aOrV (fa fb : AE) : AE := fun σ s => (fa σ s).bind fun x s1 => match x with | .bl false => fb σ s1 | .bl true => .ok (.bl true) s1 | _ => .stuck
def aNotV (fa : AE) : AE := fun σ s => (fa σ s).bind fun x s1 => match x with | .bl b => .ok (.bl (!b)) s1 | _ => .stuck
def aTest (fa : AE) : AT := fun σ s => (fa σ s).bind fun x s1 => match x with | .bl b => .ok b s1 | _ => .stuck
def aAnd (t u : AT) : AT := fun σ s => (t σ s).bind fun b s1 => if b = true then u σ s1 else .ok false s1
def aOr (t u : AT) : AT := fun σ s => (t σ s).bind fun b s1 => if b = true then .ok true s1 else u σ s1
def aNot (t : AT) : AT := fun σ s => (t σ s).bind fun b s1 => .ok (!b) s1
def aIf (t : AT) (fa fb : AE) : AE := fun σ s => (t σ s).bind fun b s1 => if b = true then fa σ s1 else fb σ s1
def aChain (r r' : AV → AV → Sto → Res AV) (fa fb fc : AE) : AE := fun σ s => (fa σ s).bind fun x s1 => (fb σ s1).bind fun y s2 => (r x y s2).bind fun z s3 => match z with | .bl true => (fc σ s3).bind fun w s4 => r' y w s4 | .bl false => .ok (.bl false) s3 | _ => .stuck
def aTup (fa : AA) : AE := fun σ s => (fa σ s).bind fun xs s1 => if xs.length ≤ sizeLine then .ok (.tup xs) s1 else .stuck
def newL (xs : List AV) (s : Sto) : Res AV := .ok (.obj s.n) (s.new (.lst xs))
def aLst (fa : AA) : AE := fun σ s => (fa σ s).bind fun xs s1 => if xs.length ≤ sizeLine then newL xs s1 else .stuck
def aCall (n : Nat) (F : List AV → Sto → Res AV) (dvs : List AV) (fa : AA) : AE := fun σ s => (fa σ s).bind fun xs s1 => if (xs ++ dvs).length = n then F (xs ++ dvs) s1 else .stuck
def aNext : AS := fun σ s => .nx σ s
/-- an expression's end, then a statement's work -/
def Res.st {α : Type} : Res α → ASt → (α → Sto → SRes) → SRes
  | .ok a s, _, k => k a s
  | .err c ns vs s, σ, _ => .err c ns vs σ s
  | .stuck, _, _ => .stuck
@[simp] theorem Res.st_ok {α : Type} {a : α} {s : Sto} {σ : ASt} {k : α → Sto → SRes} : (Res.ok a s).st σ k = k a s := rfl
@[simp] theorem Res.st_err {α : Type} {c : String} {ns : List Str} {vs : List AV} {s : Sto} {σ : ASt} {k : α → Sto → SRes} : (Res.err c ns vs s).st σ k = .err c ns vs σ s := rfl
@[simp] theorem Res.st_stuck {α : Type} {σ : ASt} {k : α → Sto → SRes} : (Res.stuck : Res α).st σ k = .stuck := rfl
def SRes.thn : SRes → AS → SRes
  | .nx σ s, f => f σ s
  | .rt v s, _ => .rt v s
  | .bk σ s, _ => .bk σ s
  | .ct σ s, _ => .ct σ s
  | .err c ns vs σ s, _ => .err c ns vs σ s
  | .stuck, _ => .stuck
@[simp] theorem SRes.thn_nx {σ : ASt} {s : Sto} {f : AS} : (SRes.nx σ s).thn f = f σ s := rfl
@[simp] theorem SRes.thn_rt {v : AV} {s : Sto} {f : AS} : (SRes.rt v s).thn f = .rt v s := rfl
@[simp] theorem SRes.thn_bk {σ : ASt} {s : Sto} {f : AS} : (SRes.bk σ s).thn f = .bk σ s := rfl
@[simp] theorem SRes.thn_ct {σ : ASt} {s : Sto} {f : AS} : (SRes.ct σ s).thn f = .ct σ s := rfl
@[simp] theorem SRes.thn_err {c : String} {ns : List Str} {vs : List AV} {σ : ASt} {s : Sto} {f : AS} : (SRes.err c ns vs σ s).thn f = .err c ns vs σ s := rfl
@[simp] theorem SRes.thn_stuck {f : AS} : SRes.stuck.thn f = .stuck := rfl
def aSeq (f g : AS) : AS := fun σ s => (f σ s).thn g
def aBreak : AS := fun σ s => .bk σ s
def aCont : AS := fun σ s => .ct σ s
def aDrop (fa : AE) : AS := fun σ s => (fa σ s).st σ fun _ s1 => .nx σ s1
def aRet (fa : AE) : AS := fun σ s => (fa σ s).st σ fun v s1 => .rt v s1
def aRetN : AS := fun _ s => .rt .non s
def aIfS (t : AT) (f g : AS) : AS := fun σ s => (t σ s).st σ fun b s1 => if b = true then f σ s1 else g σ s1
def aAsg (fa : AE) (g : AV → AS) : AS := fun σ s => (fa σ s).st σ fun v s1 => g v σ s1
def agName (i : Nat) : AV → AS := fun v σ s => .nx (σ.set i (some v)) s
def parK (i j : Nat) (σ : ASt) : List AV → Sto → SRes
  | [v, u], s1 => .nx ((σ.set i (some v)).set j (some u)) s1
  | _, _ => .stuck
def aPar (i j : Nat) (fa : AA) : AS := fun σ s => (fa σ s).st σ (parK i j σ)
def parK3 (i j l : Nat) (σ : ASt) : List AV → Sto → SRes
  | [v, u, w], s1 => .nx (((σ.set i (some v)).set j (some u)).set l (some w)) s1
  | _, _ => .stuck
def aPar3 (i j l : Nat) (fa : AA) : AS := fun σ s => (fa σ s).st σ (parK3 i j l σ)
def agNil : List AV → AS := fun xs σ s => match xs with | [] => .nx σ s | _ => .stuck
def agCons (g : AV → AS) (h : List AV → AS) : List AV → AS := fun xs => match xs with | x :: r => aSeq (g x) (h r) | [] => fun _ _ => .stuck
def agTup (n : Nat) (g : List AV → AS) : AV → AS := fun v σ s => match v with | .tup xs => if xs.length = n then g xs σ s else .stuck | _ => .stuck
def aNever : AS := fun _ _ => .stuck
/-- a def's body -/
def SRes.fn : SRes → Res AV
  | .rt v s1 => .ok v s1
  | .nx _ s1 => .ok .non s1
  | .err c ns vs _ s1 => .err c ns vs s1
  | _ => .stuck
@[simp] theorem SRes.fn_rt {v : AV} {s : Sto} : (SRes.rt v s).fn = .ok v s := rfl
@[simp] theorem SRes.fn_nx {σ : ASt} {s : Sto} : (SRes.nx σ s).fn = .ok .non s := rfl
@[simp] theorem SRes.fn_err {c : String} {ns : List Str} {vs : List AV} {σ : ASt} {s : Sto} : (SRes.err c ns vs σ s).fn = .err c ns vs s := rfl
def aDef (k : Nat) (f : AS) : List AV → Sto → Res AV := fun args s => (f (args.map some ++ List.replicate k none) s).fn
section
variable {W : Wl} {E : L2.St → XK} {ta tb tc : TE} {fa fb fc : AE} {t u : TT} {ft fu : AT} {tr : TA} {fr : AA}
theorem DE.var {i : Nat} : DE W E (tVar i) (aVar i) := fun w s σ σc Q S R h => by
  unfold aVar at h
  split at h
  · rename_i v e
    obtain ⟨vc, h1, h2⟩ := R.get i v e
    exact ⟨vc, h1, h w vc (.refl w) S h2⟩
  · exact h.elim
theorem DE.c {v : AV} {vc : V} (r : ∀ w, Rel W w v vc) : DE W E (tC vc) (aC v) := fun w s σ σc Q S R h => h w vc (.refl w) S (r w)
theorem post_bind_ok {α β : Type} {r : Res α} {k : α → Sto → Res β} {P : β → Sto → Prop} {Er : String → List Str → List AV → Sto → Prop} (h : (r.bind k).Post P Er) : r.Post (fun a s => (k a s).Post P Er) Er := Res.post_bind.mp h
theorem postB_mono {w w' : Wd} {r : Res Bool} {Q : Bool → Hp → Prop} {E : XK} (e : Ext w w') (h : r.Post (OkB W w Q) (ErrP W w E)) : r.Post (OkB W w' Q) (ErrP W w' E) := h.mono (fun _ _ z => z.mono e) fun _ _ _ _ z => z.mono e
theorem DE.op {r : R2} {g : AV → AV → Sto → Res AV} (hr : DR W r g) (ha : DE W E ta fa) (hb : DE W E tb fb) (hg : ∀ x y s c ns vs s', g x y s ≠ .err c ns vs s') : DE W E (tOp r ta tb) (aOp g fa fb) := fun w s σ σc Q S R h => by
  refine ha w s σ σc _ S R ((post_bind_ok h).mono (fun x s1 h1 w1 v e1 S1 r1 => ?_) fun _ _ _ _ z => z)
  refine hb w1 s1 σ σc _ S1 (R.mono e1) ((post_bind_ok h1).mono (fun y s2 h2 w2 u e2 S2 r2 => ?_) fun _ _ _ _ z => z.mono e1)
  refine hr w2 s2 x y v u Q S2 (r1.mono e2) r2 ?_
  cases hh : g x y s2 with
  | ok a s3 =>
    rw [hh] at h2
    exact OkP.mono (e1.trans e2) h2
  | err c ns vs s3 => exact absurd hh (hg _ _ _ _ _ _ _)
  | stuck => rw [hh] at h2; exact h2
theorem DE.un {r : V → Hp → VK → Prop} {g : AV → Sto → Res AV} (hr : DU W r g) (ha : DE W E ta fa) (hg : ∀ x s c ns vs s', g x s ≠ .err c ns vs s') : DE W E (tUn r ta) (aUn g fa) := fun w s σ σc Q S R h => by
  refine ha w s σ σc _ S R ((post_bind_ok h).mono (fun x s1 h1 w1 v e1 S1 r1 => ?_) fun _ _ _ _ z => z)
  refine hr w1 s1 x v Q S1 r1 ?_
  cases hh : g x s1 with
  | ok a s3 =>
    rw [hh] at h1
    exact OkP.mono e1 h1
  | err c ns vs s3 => exact absurd hh (hg _ _ _ _ _ _)
  | stuck => rw [hh] at h1; exact h1
theorem DA.nil : DA W E tNil aNil := fun w s σ σc Q S R h => h w [] (.refl w) S .nil
theorem DA.cons (ha : DE W E ta fa) (hr : DA W E tr fr) : DA W E (tCons ta tr) (aCons fa fr) := fun w s σ σc Q S R h => by
  refine ha w s σ σc _ S R ((post_bind_ok h).mono (fun x s1 h1 w1 v e1 S1 r1 => ?_) fun _ _ _ _ z => z)
  refine hr w1 s1 σ σc _ S1 (R.mono e1) ((post_bind_ok h1).mono (fun y s2 h2 w2 u e2 S2 r2 => ?_) fun _ _ _ _ z => z.mono e1)
  exact h2 w2 _ (e1.trans e2) S2 (.cons (r1.mono e2) r2)
theorem DE.cb {r : List V → Hp → VK → Prop} {g : List AV → Sto → Res AV} (hr : DB W r g) (ha : DA W E tr fr) (hg : ∀ x s c ns vs s', g x s ≠ .err c ns vs s') : DE W E (tCB r tr) (aCB g fr) := fun w s σ σc Q S R h => by
  refine ha w s σ σc _ S R ((post_bind_ok h).mono (fun x s1 h1 w1 v e1 S1 r1 => ?_) fun _ _ _ _ z => z)
  refine hr w1 s1 x v Q S1 r1 ?_
  cases hh : g x s1 with
  | ok a s3 =>
    rw [hh] at h1
    exact OkP.mono e1 h1
  | err c ns vs s3 => exact absurd hh (hg _ _ _ _ _ _)
  | stuck => rw [hh] at h1; exact h1
theorem DE.andV (ha : DE W E ta fa) (hb : DE W E tb fb) : DE W E (tAndV ta tb) (aAndV fa fb) := fun w s σ σc Q S R h => by
  refine ha w s σ σc _ S R ((post_bind_ok h).mono (fun x s1 h1 w1 v e1 S1 r1 => ?_) fun _ _ _ _ z => z)
  cases r1 with
  | bl b =>
    refine ⟨b, rfl, ?_⟩
    cases b with
    | true => exact iteT (hb w1 s1 σ σc _ S1 (R.mono e1) (post_mono e1 h1))
    | false => exact iteF (h1 w1 _ e1 S1 (.bl false))
  | _ => exact (show False from h1).elim
theorem DE.orV (ha : DE W E ta fa) (hb : DE W E tb fb) : DE W E (tOrV ta tb) (aOrV fa fb) := fun w s σ σc Q S R h => by
  refine ha w s σ σc _ S R ((post_bind_ok h).mono (fun x s1 h1 w1 v e1 S1 r1 => ?_) fun _ _ _ _ z => z)
  cases r1 with
  | bl b =>
    refine ⟨b, rfl, ?_⟩
    cases b with
    | true => exact iteT (h1 w1 _ e1 S1 (.bl true))
    | false => exact iteF (hb w1 s1 σ σc _ S1 (R.mono e1) (post_mono e1 h1))
  | _ => exact (show False from h1).elim
theorem DE.notV (ha : DE W E ta fa) : DE W E (tNotV ta) (aNotV fa) := fun w s σ σc Q S R h => by
  refine ha w s σ σc _ S R ((post_bind_ok h).mono (fun x s1 h1 w1 v e1 S1 r1 => ?_) fun _ _ _ _ z => z)
  cases r1 with
  | bl b => exact ⟨b, rfl, h1 w1 _ e1 S1 (.bl _)⟩
  | _ => exact (show False from h1).elim
theorem DT.test (ha : DE W E ta fa) : DT W E (tTest ta) (aTest fa) := fun w s σ σc Q S R h => by
  refine ha w s σ σc _ S R ((post_bind_ok h).mono (fun x s1 h1 w1 v e1 S1 r1 => ?_) fun _ _ _ _ z => z)
  cases r1 with
  | bl b => exact ⟨b, rfl, h1 w1 e1 S1⟩
  | _ => exact (show False from h1).elim
theorem DT.b (ha : DE W E ta fa) : DT W E (tB ta) (aTest fa) := fun w s σ σc Q S R h => DT.test ha w s σ σc Q S R h
theorem DT.and (ha : DT W E t ft) (hb : DT W E u fu) : DT W E (tAnd t u) (aAnd ft fu) := fun w s σ σc Q S R h => by
  refine ha w s σ σc _ S R ((post_bind_ok h).mono (fun b s1 h1 w1 e1 S1 => ?_) fun _ _ _ _ z => z)
  cases b with
  | true => exact iteT (hb w1 s1 σ σc _ S1 (R.mono e1) (postB_mono e1 (by simpa using h1)))
  | false => exact iteF ((show OkB W w Q false s1 from by rw [if_neg (by decide)] at h1; exact h1) w1 e1 S1)
theorem DT.or (ha : DT W E t ft) (hb : DT W E u fu) : DT W E (tOr t u) (aOr ft fu) := fun w s σ σc Q S R h => by
  refine ha w s σ σc _ S R ((post_bind_ok h).mono (fun b s1 h1 w1 e1 S1 => ?_) fun _ _ _ _ z => z)
  cases b with
  | true => exact iteT ((show OkB W w Q true s1 from by rw [if_pos rfl] at h1; exact h1) w1 e1 S1)
  | false => exact iteF (hb w1 s1 σ σc _ S1 (R.mono e1) (postB_mono e1 (by simpa using h1)))
theorem DT.not (ha : DT W E t ft) : DT W E (tNot t) (aNot ft) := fun w s σ σc Q S R h =>
  ha w s σ σc _ S R ((post_bind_ok h).mono (fun b s1 h1 w1 e1 S1 => h1 w1 e1 S1) fun _ _ _ _ z => z)
theorem DE.chain {r r' : R2} {g g' : AV → AV → Sto → Res AV} (hr : DR W r g) (hr' : DR W r' g') (ha : DE W E ta fa) (hb : DE W E tb fb) (hc : DE W E tc fc) (hg : ∀ x y s c ns vs s', g x y s ≠ .err c ns vs s') (hg' : ∀ x y s c ns vs s', g' x y s ≠ .err c ns vs s') :
    DE W E (tChain r r' ta tb tc) (aChain g g' fa fb fc) := fun w s σ σc Q S R h => by
  refine ha w s σ σc _ S R ((post_bind_ok h).mono (fun x s1 h1 w1 v e1 S1 r1 => ?_) fun _ _ _ _ z => z)
  refine hb w1 s1 σ σc _ S1 (R.mono e1) ((post_bind_ok h1).mono (fun y s2 h2 w2 u e2 S2 r2 => ?_) fun _ _ _ _ z => z.mono e1)
  have h2 := post_bind_ok h2
  refine hr w2 s2 x y v u _ S2 (r1.mono e2) r2 ?_
  cases hh : g x y s2 with
  | err c ns vs s3 => exact absurd hh (hg _ _ _ _ _ _ _)
  | stuck => rw [hh] at h2; exact h2
  | ok z s3 =>
    rw [hh] at h2
    intro w3 zc e3 S3 r3
    have e13 := (e1.trans e2).trans e3
    cases r3 with
    | bl b =>
      refine ⟨b, rfl, ?_⟩
      cases b with
      | false => exact iteF ((show OkP W w Q (.bl false) s3 from h2) w3 _ e13 S3 (.bl false))
      | true =>
        refine iteT (hc w3 s3 σ σc _ S3 (R.mono e13) ((post_bind_ok h2).mono (fun w' s4 h4 w4 uc e4 S4 r4 => ?_) fun _ _ _ _ z => z.mono e13))
        refine hr' w4 s4 y w' u uc Q S4 ((r2.mono e3).mono e4) r4 ?_
        cases hh : g' y w' s4 with
        | err c ns vs s3 => exact absurd hh (hg' _ _ _ _ _ _ _)
        | stuck => rw [hh] at h4; exact h4
        | ok a s5 =>
          rw [hh] at h4
          exact OkP.mono (e13.trans e4) h4
    | _ => exact (show False from h2).elim
theorem DE.tup (ha : DA W E tr fr) : DE W E (tTup tr) (aTup fr) := fun w s σ σc Q S R h => by
  refine ha w s σ σc _ S R ((post_bind_ok h).mono (fun xs s1 h1 w1 vs e1 S1 r1 => ?_) fun _ _ _ _ z => z)
  split at h1
  · rename_i hl
    refine ⟨by rw [← r1.length]; exact hl, fun p hp => ?_⟩
    have g := grow_upd (o := .tup vs) hp
    exact h1 _ _ (e1.trans (.grow g)) (S1.grow g) (.tup (.inl (.inl upd_same)) (r1.mono (.grow g)))
  · exact (show False from h1).elim
theorem newL_ok {w : Wd} {s : Sto} {xs : List AV} {vs : List V} {Q : VK} (S : Sim W w s) (r : RelL W w xs vs) (h : OkP W w Q (.obj s.n) (s.new (.lst xs))) : ∀ p, w.H p = none → Q (.ref p) (upd w.H p (.lst vs)) := fun p hp => by
  have g := grow_upd (o := .lst vs) hp
  exact h (w.new p _) _ (.new g) (S.new hp g upd_same (.lst (r.mono (.new g)))) (Rel.new p _ S.n)
theorem DE.lst (ha : DA W E tr fr) : DE W E (tLst tr) (aLst fr) := fun w s σ σc Q S R h => by
  refine ha w s σ σc _ S R ((post_bind_ok h).mono (fun xs s1 h1 w1 vs e1 S1 r1 => ?_) fun _ _ _ _ z => z)
  split at h1
  · rename_i hl
    exact ⟨by rw [← r1.length]; exact hl, newL_ok S1 r1 (OkP.mono e1 h1)⟩
  · exact (show False from h1).elim
theorem DE.call {n : Nat} {F : List AV → Sto → Res AV} {Ek : XK} {dvs : List AV} {dcs : List V} (hd : ∀ w, RelL W w dvs dcs) (ha : DA W (fun _ => Ek) tr fr) : DE W (fun _ => Ek) (tCall (spF W n F) dcs Ek tr) (aCall n F dvs fr) := fun w s σ σc Q S R h => by
  refine ha w s σ σc _ S R ((post_bind_ok h).mono (fun xs s1 h1 w1 vs e1 S1 r1 => ?_) fun _ _ _ _ z => z)
  split at h1
  · rename_i hl
    exact ⟨w1, s1, _, rfl, S1, r1.append (hd w1), hl, post_mono e1 h1⟩
  · exact (show False from h1).elim
end
section
variable {W : Wl} {E : L2.St → XK} {ta : TE} {fa : AE} {t : TT} {ft : AT} {tr : TA} {fr : AA} {t1 t2 : TS} {f1 f2 : AS} {tg : TG} {g : AV → AS} {tgs : TGs} {gs : List AV → AS}
theorem DS.next : DS W E tNext aNext := fun w s σ σc D S R h => h w σc (.refl w) S R
theorem DS.brk : DS W E tBreak aBreak := fun w s σ σc D S R h => h w σc (.refl w) S R
theorem DS.seq (h1 : DS W E t1 f1) (h2 : DS W E t2 f2) : DS W E (tSeq t1 t2) (aSeq f1 f2) := fun w s σ σc D S R h => by
  refine h1 w s σ σc { D with nx := t2 D } S R ?_
  unfold aSeq at h
  cases e : f1 σ s with
  | nx σ' s' =>
    rw [e] at h
    exact fun w' σc' e' S' R' => h2 w' s' σ' σc' D S' R' (P.mono e' h)
  | rt v s' => rw [e] at h; exact h
  | bk σ' s' => rw [e] at h; exact h
  | ct σ' s' => rw [e] at h; exact h
  | err c ns vs σ' s' => rw [e] at h; exact h
  | stuck => rw [e] at h; exact h
/-- from an expression's end to a statement's -/
theorem exp_post {α : Type} {r : Res α} {w : Wd} {σ : ASt} {σc : L2.St} {D : Ends} {k : α → Sto → SRes} (R : RSt W w σ σc) (h : (r.st σ k).P W w D E) : r.Post (fun v s1 => (k v s1).P W w D E) (ErrP W w (E σc)) := by
  cases r with
  | ok v s1 => exact h
  | err c ns vs s1 => exact fun w' d e' S' x => h w' σc d e' S' (R.mono e') x
  | stuck => exact h
theorem DS.drop (ha : DE W E ta fa) : DS W E (tDrop ta) (aDrop fa) := fun w s σ σc D S R h => by
  refine ha w s σ σc _ S R ((exp_post R h).mono (fun v s1 h1 w1 vc e1 S1 r1 => h1 w1 σc e1 S1 (R.mono e1)) fun _ _ _ _ z => z)
theorem DS.ret (ha : DE W E ta fa) : DS W E (tRet ta) (aRet fa) := fun w s σ σc D S R h => by
  refine ha w s σ σc _ S R ((exp_post R h).mono (fun v s1 h1 w1 vc e1 S1 r1 => h1 w1 vc e1 S1 r1) fun _ _ _ _ z => z)
theorem DS.ifs (ht : DT W E t ft) (h1 : DS W E t1 f1) (h2 : DS W E t2 f2) : DS W E (tIfS t t1 t2) (aIfS ft f1 f2) := fun w s σ σc D S R h => by
  refine ht w s σ σc _ S R ((exp_post R h).mono (fun b s1 hb w1 e1 S1 => ?_) fun _ _ _ _ z => z)
  cases b with
  | true => exact iteT (h1 w1 s1 σ σc D S1 (R.mono e1) (P.mono e1 (by simpa using hb)))
  | false => exact iteF (h2 w1 s1 σ σc D S1 (R.mono e1) (P.mono e1 (by simpa using hb)))
/-- a target ends by going on -/
def Goes (g : AV → AS) : Prop := ∀ x σ s, (∃ σ' s', g x σ s = .nx σ' s') ∨ g x σ s = .stuck
def GoesL (g : List AV → AS) : Prop := ∀ x σ s, (∃ σ' s', g x σ s = .nx σ' s') ∨ g x σ s = .stuck
theorem goes_P {r : SRes} {w : Wd} {D : Ends} (g : (∃ σ' s', r = .nx σ' s') ∨ r = .stuck) (h : r.P W w D E) : r.P W w ⟨D.nx, fun _ _ => False, fun _ _ => False, fun _ _ => False⟩ (fun _ _ _ _ => False) := by
  rcases g with ⟨σ', s', rfl⟩ | rfl
  · exact h
  · exact h
theorem DS.asg (ha : DE W E ta fa) (hg : DG W tg g) (hn : Goes g) : DS W E (tAsg ta tg) (aAsg fa g) := fun w s σ σc D S R h => by
  refine ha w s σ σc _ S R ((exp_post R h).mono (fun v s1 h1 w1 vc e1 S1 r1 => ?_) fun _ _ _ _ z => z)
  exact hg w1 s1 σ σc v vc _ S1 (R.mono e1) r1 (goes_P (hn _ _ _) (P.mono e1 h1))
theorem DG.name {i : Nat} : DG W (gName i) (agName i) := fun w s σ σc x v Q S R r h => h w _ (.refl w) S (R.set (x := some x) (v := some v) r i)
theorem Goes.name {i : Nat} : Goes (agName i) := fun x σ s => .inl ⟨_, _, rfl⟩
theorem DGs.nil : DGs W gNil agNil := fun w s σ σc x v Q S R r h => by
  cases r with
  | nil => exact ⟨rfl, h w σc (.refl w) S R⟩
  | cons => exact (show False from h).elim
theorem GoesL.nil : GoesL agNil := fun x σ s => by
  cases x with
  | nil => exact .inl ⟨_, _, rfl⟩
  | cons => exact .inr rfl
theorem DGs.cons (hg : DG W tg g) (hs : DGs W tgs gs) : DGs W (gCons tg tgs) (agCons g gs) := fun w s σ σc x v Q S R r h => by
  cases r with
  | nil => exact (show False from h).elim
  | @cons x v xs vs h1 h2 =>
    refine ⟨v, vs, rfl, hg w s σ σc x v _ S R h1 ?_⟩
    have h : (aSeq (g x) (gs xs) σ s).P W w _ _ := h
    unfold aSeq at h
    cases e : g x σ s with
    | nx σ' s' =>
      rw [e] at h
      exact fun w' σc' e' S' R' => hs w' s' σ' σc' xs vs Q S' R' (h2.mono e') (P.mono e' h)
    | rt v s' => rw [e] at h; exact h
    | bk σ' s' => rw [e] at h; exact h
    | ct σ' s' => rw [e] at h; exact h
    | err c ns vs σ' s' => rw [e] at h; exact h
    | stuck => rw [e] at h; exact h
theorem GoesL.cons (h1 : Goes g) (h2 : GoesL gs) : GoesL (agCons g gs) := fun x σ s => by
  cases x with
  | nil => exact .inr rfl
  | cons x xs =>
    show (∃ σ' s', (g x σ s).thn (gs xs) = .nx σ' s') ∨ (g x σ s).thn (gs xs) = .stuck
    rcases h1 x σ s with ⟨σ', s', e⟩ | e
    · rw [e]; exact h2 xs σ' s'
    · rw [e]; exact .inr rfl
theorem DG.tup {n : Nat} (hs : DGs W tgs gs) : DG W (gTup W.K n tgs) (agTup n gs) := fun w s σ σc x v Q S R r h => by
  cases r with
  | @tup a xs vs h1 h2 =>
    have h : (if xs.length = n then gs xs σ s else .stuck : SRes).P W w _ _ := h
    split at h
    · rename_i hl
      exact ⟨a, vs, rfl, h1, by rw [← h2.length]; exact hl, hs w s σ σc xs vs Q S R h2 h⟩
    · exact h.elim
  | _ => exact (show False from h).elim
theorem Goes.tup {n : Nat} (h : GoesL gs) : Goes (agTup n gs) := fun x σ s => by
  cases x with
  | tup xs =>
    show (∃ σ' s', (if xs.length = n then gs xs σ s else .stuck : SRes) = .nx σ' s') ∨ _
    by_cases e : xs.length = n
    · rw [if_pos e]
      rcases h xs σ s with h | h
      · exact .inl h
      · exact .inr (by show (if xs.length = n then gs xs σ s else .stuck : SRes) = _; rw [if_pos e]; exact h)
    · exact .inr (if_neg e)
  | _ => exact .inr rfl
theorem DS.par {i j : Nat} (ha : DA W E tr fr) : DS W E (tPar i j tr) (aPar i j fr) := fun w s σ σc D S R h => by
  refine ha w s σ σc _ S R ((exp_post R h).mono (fun xs s1 h1 w1 vs e1 S1 r1 => ?_) fun _ _ _ _ z => z)
  match xs, vs, r1, h1 with
  | [x, y], [v, u], .cons a (.cons b .nil), h => exact ⟨_, _, rfl, h w1 _ e1 S1 (((R.mono e1).set (x := some x) (v := some v) a i).set (x := some y) (v := some u) b j)⟩
theorem DS.par3 {i j l : Nat} (ha : DA W E tr fr) : DS W E (tPar3 i j l tr) (aPar3 i j l fr) := fun w s σ σc D S R h => by
  refine ha w s σ σc _ S R ((exp_post R h).mono (fun xs s1 h1 w1 vs e1 S1 r1 => ?_) fun _ _ _ _ z => z)
  match xs, vs, r1, h1 with
  | [x, y, z], [v, u, q], .cons a (.cons b (.cons c .nil)), h => exact ⟨_, _, _, rfl, h w1 _ e1 S1 ((((R.mono e1).set (x := some x) (v := some v) a i).set (x := some y) (v := some u) b j).set (x := some z) (v := some q) c l)⟩
theorem DS.never {f : AS} (h : ∀ σ s, f σ s = .stuck) : DS W E tNever f := fun w s σ σc D S R z => by rw [h] at z; exact z.elim
/-- a def's body keeps the def's promise -/
theorem RSt.start {w : Wd} : ∀ {xs : List AV} {vs : List V} {k : Nat}, RelL W w xs vs → RSt W w (xs.map some ++ List.replicate k none) (vs.map some ++ List.replicate k none)
  | _, _, 0, .nil => .nil
  | _, _, k + 1, .nil => .cons trivial (RSt.start (k := k) .nil)
  | _, _, _, .cons h r => .cons h (RSt.start r)
theorem DS.dfn {k n : Nat} {N : List Str} {f : AS} {ts : TS} {H : Hp} {vs : List V} {Q : VK} {Ek : XK} (h : spF W n (aDef k f) vs H Q Ek) (hk : n + k = N.length) (hs : DS W (fun _ => Ek) ts f) : ts { nx := fun _ H' => Q .non H', rt := Q } (L2.start N vs) H := by
  obtain ⟨w, s, args, rfl, S, R, hn, p⟩ := h
  have hv := R.length
  have e : L2.start N vs = vs.map some ++ List.replicate k none := by
    unfold L2.start
    rw [show N.length - vs.length = k from by omega]
  rw [e]
  refine hs w s _ _ _ S (RSt.start R) ?_
  have p : (f (args.map some ++ List.replicate k none) s).fn.Post _ _ := p
  cases e : f (args.map some ++ List.replicate k none) s with
  | nx σ' s' =>
    rw [e] at p
    exact fun w' σc' e' S' R' => p w' _ e' S' .non
  | rt v s' => rw [e] at p; exact p
  | bk σ' s' => rw [e] at p; exact p.elim
  | ct σ' s' => rw [e] at p; exact p.elim
  | err c ns vs σ' s' =>
    rw [e] at p
    exact fun w' σc' d e' S' R' x => p w' d e' S' x
  | stuck => rw [e] at p; exact p
theorem spF.len {n : Nat} {F : List AV → Sto → Res AV} {vs : List V} {H : Hp} {Q : VK} {Ek : XK} (h : spF W n F vs H Q Ek) : vs.length = n := by
  obtain ⟨w, s, args, rfl, S, R, hn, p⟩ := h
  rw [← R.length]; exact hn
end
end Ab
set_option Elab.async false
set_option linter.all false
set_option maxRecDepth 100000
set_option maxHeartbeats 1000000
namespace Ab
open PySem PySem.Spec PyProof.Rows L2
open Classical
noncomputable section
/-- no error comes of it -/
def NE2 (g : AV → AV → Sto → Res AV) : Prop := ∀ x y s c ns vs s', g x y s ≠ .err c ns vs s'
def NE1 (g : AV → Sto → Res AV) : Prop := ∀ x s c ns vs s', g x s ≠ .err c ns vs s'
def NEL (g : List AV → Sto → Res AV) : Prop := ∀ x s c ns vs s', g x s ≠ .err c ns vs s'
section
variable {W : Wl} {w : Wd} {s : Sto}
theorem obj_at {i : Nat} {v : V} (r : Rel W w (.obj i) v) : i < w.n ∧ v = .ref (w.m i) := by
  cases r with
  | obj h => exact ⟨h, rfl⟩
theorem cell_at {i : Nat} {v : V} {x : Cell} (S : Sim W w s) (r : Rel W w (.obj i) v) (e : s.c i = x) : ∃ o, i < s.n ∧ v = .ref (w.m i) ∧ w.H (w.m i) = some o ∧ CRel W w x o := by
  obtain ⟨h, rfl⟩ := obj_at r
  have h : i < s.n := S.n ▸ h
  obtain ⟨o, h1, h2⟩ := S.cell i h
  rw [e] at h2
  exact ⟨o, h, rfl, h1, h2⟩
/-- the items of a list -/
def lstOf (s : Sto) : AV → Option (List AV)
  | .scr xs => some xs
  | .obj i => match s.c i with | .lst xs => some xs | _ => none
  | _ => none
theorem lst_at {x : AV} {v : V} {xs : List AV} (S : Sim W w s) (r : Rel W w x v) (h : lstOf s x = some xs) : ∃ a vs, v = .ref a ∧ SqL W.K w.H a vs ∧ RelL W w xs vs := by
  cases r with
  | scr h1 h2 =>
    cases h
    exact ⟨_, _, rfl, h1.sql, h2⟩
  | @obj i hi =>
    unfold lstOf at h
    simp only at h
    split at h
    · rename_i xs' e
      cases h
      obtain ⟨o, h1, h2, h3, h4⟩ := cell_at S (.obj hi) e
      cases h4 with
      | lst r => exact ⟨_, _, rfl, .inl (.inl h3), r⟩
    · cases h
  | _ => cases h
theorem lstO_at {i : Nat} {v : V} {xs : List AV} (S : Sim W w s) (r : Rel W w (.obj i) v) (h : s.c i = .lst xs) : ∃ vs, i < s.n ∧ v = .ref (w.m i) ∧ w.H (w.m i) = some (.lst vs) ∧ RelL W w xs vs := by
  obtain ⟨o, h1, h2, h3, h4⟩ := cell_at S r h
  cases h4 with
  | lst r => exact ⟨_, h1, h2, h3, r⟩
theorem newT {xs : List AV} {vs : List V} {Q : VK} (S : Sim W w s) (r : RelL W w xs vs) (h : OkP W w Q (.tup xs) s) : ∀ p, w.H p = none → Q (.ref p) (upd w.H p (.tup vs)) := fun p hp => by
  have g := grow_upd (o := .tup vs) hp
  exact h _ _ (.grow g) (S.grow g) (.tup (.inl (.inl upd_same)) (r.mono (.grow g)))
theorem wr_ok {i : Nat} {x : Cell} {o : HO} {G : Hp → Prop} (S : Sim W w s) (hi : i < s.n) (r : CRel W w x o) (h : ∀ w', Ext w w' → Sim W w' (s.set i x) → G w'.H) : G (upd w.H (w.m i) o) := h _ (.wr S hi) (S.wr hi r)
end
theorem OpR.or {X : Cx} {f : Value → Value → Sem Value} {r1 r2 : R2} (h1 : OpR X f r1) (h2 : OpR X f r2) : OpR X f (fun x y H Q => r1 x y H Q ∨ r2 x y H Q) := fun pins s σ H x y v u Q I rx ry h => h.elim (h1 pins s σ H x y v u Q I rx ry) (h2 pins s σ H x y v u Q I rx ry)
theorem CallR.or {X : Cx} {f : Value} {r1 r2 : List V → Hp → VK → Prop} (h1 : CallR X f r1) (h2 : CallR X f r2) : CallR X f (fun xs H Q => r1 xs H Q ∨ r2 xs H Q) := fun pins s σ H xs us Q I r h => h.elim (h1 pins s σ H xs us Q I r) (h2 pins s σ H xs us Q I r)
theorem IxR.or {X : Cx} {r1 r2 : R2} (h1 : IxR X r1) (h2 : IxR X r2) : IxR X (fun x y H Q => r1 x y H Q ∨ r2 x y H Q) := fun va sl pins s σ H x y v u Q I rx ry h z => Or.elim h (fun h => h1 va sl pins s σ H x y v u Q I rx ry h z) (fun h => h2 va sl pins s σ H x y v u Q I rx ry h z)
theorem SlR.or {X : Cx} {r1 r2 : V → Option Int → Option Int → Hp → VK → Prop} (h1 : SlR X r1) (h2 : SlR X r2) : SlR X (fun x l u H Q => r1 x l u H Q ∨ r2 x l u H Q) := fun pins s σ H x v vl vu lo hi sl Q I rx hs pl pu h => h.elim (h1 pins s σ H x v vl vu lo hi sl Q I rx hs pl pu) (h2 pins s σ H x v vl vu lo hi sl Q I rx hs pl pu)
theorem PE.or {X : Cx} {e : Expr} {t1 t2 : TE} (h1 : PE X e t1) (h2 : PE X e t2) : PE X e (fun σ H Q => t1 σ H Q ∨ t2 σ H Q) := ⟨fun pins s σ H Q I h => h.elim (h1.run pins s σ H Q I) (h2.run pins s σ H Q I)⟩
/-- one of two roads, as a test of the state says -/
def aSel (p : ASt → Sto → Prop) (f1 f2 : AE) : AE := fun σ s => if p σ s then f1 σ s else f2 σ s
theorem DE.sel {W : Wl} {E : L2.St → XK} {t1 t2 : TE} {f1 f2 : AE} (p : ASt → Sto → Prop) (h1 : DE W E t1 f1) (h2 : DE W E t2 f2) : DE W E (fun σ H Q => t1 σ H Q ∨ t2 σ H Q) (aSel p f1 f2) := fun w s σ σc Q S R h => by
  unfold aSel at h
  split at h
  · exact .inl (h1 w s σ σc Q S R h)
  · exact .inr (h2 w s σ σc Q S R h)
def gI (C : Int → Int → Prop) (g : Int → Int → AV) : AV → AV → Sto → Res AV := fun x y s => match x, y with | .int i, .int j => if C i j then .ok (g i j) s else .stuck | _, _ => .stuck
def gI0 (g : Int → Int → AV) : AV → AV → Sto → Res AV := fun x y s => match x, y with | .int i, .int j => .ok (g i j) s | _, _ => .stuck
@[simp] theorem gI0_int {g : Int → Int → AV} {i j : Int} {s : Sto} : gI0 g (.int i) (.int j) s = .ok (g i j) s := rfl
theorem NE2.i {C : Int → Int → Prop} {g : Int → Int → AV} : NE2 (gI C g) := fun x y s c ns vs s' h => by 
  unfold gI at h
  repeat' split at h
  all_goals first | cases h | (unfold newL at h; cases h)
theorem NE2.i0 {g : Int → Int → AV} : NE2 (gI0 g) := fun x y s c ns vs s' h => by 
  unfold gI0 at h
  repeat' split at h
  all_goals first | cases h | (unfold newL at h; cases h)
theorem DR.i {W : Wl} {C : Int → Int → Prop} {g : Int → Int → AV} {gc : Int → Int → V} (r : ∀ w i j, Rel W w (g i j) (gc i j)) : DR W (rI C gc) (gI C g) := fun w s x y v u Q S rx ry h => by
  cases rx with
  | int i =>
    cases ry with
    | int j =>
      have h : (if C i j then .ok (g i j) s else .stuck : Res AV).Post _ _ := h
      split at h
      · rename_i hc
        exact ⟨i, j, rfl, rfl, hc, h w _ (.refl w) S (r w i j)⟩
      · exact h.elim
    | _ => exact h.elim
  | _ => exact h.elim
theorem DR.i0 {W : Wl} {g : Int → Int → AV} {gc : Int → Int → V} (r : ∀ w i j, Rel W w (g i j) (gc i j)) : DR W (rI0 gc) (gI0 g) := fun w s x y v u Q S rx ry h => by
  cases rx with
  | int i =>
    cases ry with
    | int j => exact ⟨i, j, rfl, rfl, h w _ (.refl w) S (r w i j)⟩
    | _ => exact h.elim
  | _ => exact h.elim
def gMinus := gI0 fun i j => .int (i - j)
def gMod := gI (fun _ j => 0 < j) fun i j => .int (i % j)
def gFdiv := gI CDivW fun i j => .int (i / j)
def gPow := gI CPow fun i j => .int (i ^ j.toNat)
def gXor := gI0 fun i j => .int (Builtin.bitXor i j)
def gOr := gI0 fun i j => .int (Builtin.bitOr i j)
def gAnd := gI0 fun i j => .int (Builtin.bitAnd i j)
def gShl := gI CShl fun i j => .int (i * 2 ^ j.toNat)
def gShr := gI (fun _ j => 0 ≤ j) fun i j => .int (i / 2 ^ j.toNat)
def gLt := gI0 fun i j => .bl (decide (i < j))
def gLe := gI0 fun i j => .bl (decide (i ≤ j))
def gGt := gI0 fun i j => .bl (decide (j < i))
def gGe := gI0 fun i j => .bl (decide (j ≤ i))
section
variable {i j : Int} {s : Sto}
@[simp] theorem gMinus_int : gMinus (.int i) (.int j) s = .ok (.int (i - j)) s := rfl
theorem gMod_int (h : 0 < j) : gMod (.int i) (.int j) s = .ok (.int (i % j)) s := if_pos h
theorem gFdiv_int (h : CDivW i j) : gFdiv (.int i) (.int j) s = .ok (.int (i / j)) s := if_pos h
theorem gPow_int (h : CPow i j) : gPow (.int i) (.int j) s = .ok (.int (i ^ j.toNat)) s := if_pos h
@[simp] theorem gXor_int : gXor (.int i) (.int j) s = .ok (.int (Builtin.bitXor i j)) s := rfl
@[simp] theorem gOr_int : gOr (.int i) (.int j) s = .ok (.int (Builtin.bitOr i j)) s := rfl
@[simp] theorem gAnd_int : gAnd (.int i) (.int j) s = .ok (.int (Builtin.bitAnd i j)) s := rfl
theorem gShl_int (h : CShl i j) : gShl (.int i) (.int j) s = .ok (.int (i * 2 ^ j.toNat)) s := if_pos h
theorem gShr_int (h : 0 ≤ j) : gShr (.int i) (.int j) s = .ok (.int (i / 2 ^ j.toNat)) s := if_pos h
@[simp] theorem gLt_int : gLt (.int i) (.int j) s = .ok (.bl (decide (i < j))) s := rfl
@[simp] theorem gLe_int : gLe (.int i) (.int j) s = .ok (.bl (decide (i ≤ j))) s := rfl
@[simp] theorem gGt_int : gGt (.int i) (.int j) s = .ok (.bl (decide (j < i))) s := rfl
@[simp] theorem gGe_int : gGe (.int i) (.int j) s = .ok (.bl (decide (j ≤ i))) s := rfl
end
def gNeg : AV → Sto → Res AV := fun x s => match x with | .int i => .ok (.int (-i)) s | _ => .stuck
@[simp] theorem gNeg_int {i : Int} {s : Sto} : gNeg (.int i) s = .ok (.int (-i)) s := rfl
theorem NE1.neg : NE1 gNeg := fun x s c ns vs s' h => by 
  unfold gNeg at h
  repeat' split at h
  all_goals first | cases h | (unfold newL at h; cases h)
theorem DU.neg {W : Wl} : DU W (rU fun i => V.int (-i)) gNeg := fun w s x v Q S r h => by
  cases r with
  | int i => exact ⟨i, rfl, h w _ (.refl w) S (.int _)⟩
  | _ => exact h.elim
def rAddU (K : PySem.W.Frag) : R2 := fun x y H Q => rI0 (fun i j => V.int (i + j)) x y H Q ∨ (∃ i j, x = .str i ∧ y = .str j ∧ i.length + j.length ≤ sizeLine ∧ Q (.str (i ++ j)) H) ∨ rCatA K x y H Q ∨ rCat x y H Q
theorem op_addU {X : Cx} : OpR X (binaryOp .Add) (rAddU X.K) := OpR.or op_add (OpR.or op_add_str (OpR.or op_catA op_cat))
def gAdd : AV → AV → Sto → Res AV := fun x y s => match x, y with
  | .int i, .int j => .ok (.int (i + j)) s
  | .str a, .str b => if a.length + b.length ≤ sizeLine then .ok (.str (a ++ b)) s else .stuck
  | .tup a, .tup b => if a.length + b.length ≤ sizeLine then .ok (.tup (a ++ b)) s else .stuck
  | .obj i, .obj j => match s.c i, s.c j with | .lst a, .lst b => if a.length + b.length ≤ sizeLine then newL (a ++ b) s else .stuck | _, _ => .stuck
  | _, _ => .stuck
@[simp] theorem gAdd_int {i j : Int} {s : Sto} : gAdd (.int i) (.int j) s = .ok (.int (i + j)) s := rfl
theorem gAdd_lst {i j : Nat} {a b : List AV} {s : Sto} (e1 : s.c i = .lst a) (e2 : s.c j = .lst b) (h : a.length + b.length ≤ sizeLine) : gAdd (.obj i) (.obj j) s = newL (a ++ b) s := by
  unfold gAdd; simp only [e1, e2]; exact if_pos h
theorem NE2.add : NE2 gAdd := fun x y s c ns vs s' h => by 
  unfold gAdd at h
  repeat' split at h
  all_goals first | cases h | (unfold newL at h; cases h)
theorem DR.add {W : Wl} : DR W (rAddU W.K) gAdd := fun w s x y v u Q S rx ry h => by
  unfold gAdd at h
  split at h
  · cases rx; cases ry
    exact .inl ⟨_, _, rfl, rfl, h w _ (.refl w) S (.int _)⟩
  · split at h
    · rename_i hl
      cases rx; cases ry
      exact .inr (.inl ⟨_, _, rfl, rfl, hl, h w _ (.refl w) S (.str _)⟩)
    · exact h.elim
  · split at h
    · rename_i hl
      cases rx with
      | @tup a xs vs h1 r1 =>
        cases ry with
        | @tup b ys us h2 r2 =>
          have e1 := r1.length
          have e2 := r2.length
          refine .inr (.inr (.inl ⟨a, b, vs, us, rfl, rfl, h1, h2, by rw [← e1, ← e2]; exact hl, fun z => ?_, fun _ z => ?_, fun _ _ => newT S (r1.append r2) h⟩))
          · subst z
            cases r1
            exact h w _ (.refl w) S (.tup h2 r2)
          · subst z
            cases r2
            refine h w _ (.refl w) S ?_
            rw [List.append_nil]
            exact .tup h1 r1
    · exact h.elim
  · split at h
    · rename_i i j a b e1 e2
      split at h
      · rename_i hl
        obtain ⟨vs, i1, i2, i3, i4⟩ := lstO_at S rx e1
        obtain ⟨us, j1, j2, j3, j4⟩ := lstO_at S ry e2
        exact .inr (.inr (.inr ⟨_, _, vs, us, i2, j2, i3, j3, by rw [← i4.length, ← j4.length]; exact hl, newL_ok S (i4.append j4) h⟩))
      · exact h.elim
    · exact h.elim
  · exact h.elim
def rMulU : R2 := fun x y H Q => rI CMulX (fun i j => V.int (i * j)) x y H Q ∨ rRep x y H Q ∨ Gx.rMulS x y H Q
theorem op_mulU {X : Cx} : OpR X (binaryOp .Mult) rMulU := OpR.or op_mulX (OpR.or op_rep Gx.op_mulS)
def gMul : AV → AV → Sto → Res AV := fun x y s => match x, y with
  | .int i, .int j => if CMulX i j then .ok (.int (i * j)) s else .stuck
  | .str a, .int k => if PySem.MulOk a k then .ok (.str (Txt.mul a k)) s else .stuck
  | .obj i, .int k => match s.c i with | .lst a => if -(2 ^ 63) ≤ k ∧ k < 2 ^ 63 ∧ a.length * k.toNat ≤ sizeLine then newL (List.replicate k.toNat a).flatten s else .stuck | _ => .stuck
  | _, _ => .stuck
theorem gMul_int {i j : Int} {s : Sto} (h : CMulX i j) : gMul (.int i) (.int j) s = .ok (.int (i * j)) s := if_pos h
theorem gMul_lst {i : Nat} {a : List AV} {k : Int} {s : Sto} (e : s.c i = .lst a) (h : -(2 ^ 63) ≤ k ∧ k < 2 ^ 63 ∧ a.length * k.toNat ≤ sizeLine) : gMul (.obj i) (.int k) s = newL (List.replicate k.toNat a).flatten s := by
  unfold gMul; simp only [e]; exact if_pos h
theorem NE2.mul : NE2 gMul := fun x y s c ns vs s' h => by 
  unfold gMul at h
  repeat' split at h
  all_goals first | cases h | (unfold newL at h; cases h)
theorem RelL.rep {W : Wl} {w : Wd} {xs : List AV} {vs : List V} (r : RelL W w xs vs) : ∀ k : Nat, RelL W w (List.replicate k xs).flatten (List.replicate k vs).flatten
  | 0 => .nil
  | k + 1 => by
    rw [List.replicate_succ, List.replicate_succ, List.flatten_cons, List.flatten_cons]
    exact r.append (RelL.rep r k)
theorem DR.mul {W : Wl} : DR W rMulU gMul := fun w s x y v u Q S rx ry h => by
  unfold gMul at h
  split at h
  · split at h
    · rename_i hl
      cases rx; cases ry
      exact .inl ⟨_, _, rfl, rfl, hl, h w _ (.refl w) S (.int _)⟩
    · exact h.elim
  · split at h
    · rename_i hl
      cases rx; cases ry
      exact .inr (.inr ⟨_, _, rfl, rfl, hl, h w _ (.refl w) S (.str _)⟩)
    · exact h.elim
  · split at h
    · rename_i i k a e
      split at h
      · rename_i hl
        obtain ⟨vs, i1, i2, i3, i4⟩ := lstO_at S rx e
        cases ry
        exact .inr (.inl ⟨_, _, vs, i2, rfl, i3, hl.1, hl.2.1, by rw [← i4.length]; exact hl.2.2, newL_ok S (i4.rep _) h⟩)
      · exact h.elim
    · exact h.elim
  · exact h.elim
def isNon : AV → Bool
  | .non => true
  | _ => false
theorem isNon_rel {W : Wl} {w : Wd} {x : AV} {v : V} (r : Rel W w x v) : isNon x = decide (v = .non) := by
  cases r <;> simp [isNon]
def gIsN : AV → AV → Sto → Res AV := fun x y s => match y with | .non => .ok (.bl (isNon x)) s | _ => .stuck
def gNotN : AV → AV → Sto → Res AV := fun x y s => match y with | .non => .ok (.bl (!isNon x)) s | _ => .stuck
@[simp] theorem gIsN_non {x : AV} {s : Sto} : gIsN x .non s = .ok (.bl (isNon x)) s := rfl
@[simp] theorem gNotN_non {x : AV} {s : Sto} : gNotN x .non s = .ok (.bl (!isNon x)) s := rfl
theorem NE2.isN : NE2 gIsN := fun x y s c ns vs s' h => by 
  unfold gIsN at h
  repeat' split at h
  all_goals first | cases h | (unfold newL at h; cases h)
theorem DR.isN {W : Wl} : DR W (fun x y H Q => y = .non ∧ Q (.bl (decide (x = .non))) H) gIsN := fun w s x y v u Q S rx ry h => by
  cases ry with
  | non => exact ⟨rfl, h w _ (.refl w) S (by rw [isNon_rel rx]; exact .bl _)⟩
  | _ => exact h.elim
def gIsB : AV → AV → Sto → Res AV := fun x y s => match x, y with | .bl a, .bl b => .ok (.bl (a == b)) s | _, _ => .stuck
def gNotB : AV → AV → Sto → Res AV := fun x y s => match x, y with | .bl a, .bl b => .ok (.bl (!(a == b))) s | _, _ => .stuck
@[simp] theorem gIsB_bl {a b : Bool} {s : Sto} : gIsB (.bl a) (.bl b) s = .ok (.bl (a == b)) s := rfl
@[simp] theorem gNotB_bl {a b : Bool} {s : Sto} : gNotB (.bl a) (.bl b) s = .ok (.bl (!(a == b))) s := rfl
theorem beq_dec (a b : Bool) : (a == b) = decide (a = b) := by cases a <;> cases b <;> rfl
def optL (f : AV → Option PyData) : List AV → Option (List PyData)
  | [] => some []
  | x :: xs => match f x, optL f xs with | some d, some ds => some (d :: ds) | _, _ => none
def dat : Nat → Sto → AV → Option PyData
  | 0, _, _ => none
  | n + 1, s, x => match x with
    | .non => some .none
    | .bl b => some (.bool b)
    | .int i => some (.int i)
    | .str z => some (.str z)
    | .tup xs => (optL (dat n s) xs).map .tuple
    | .scr xs => (optL (dat n s) xs).map .list
    | .obj i => match s.c i with | .lst xs => (optL (dat n s) xs).map .list | _ => none
    | _ => none
section
variable {W : Wl} {w : Wd} {s : Sto}
theorem optL_dp {n : Nat} (ih : ∀ (x : AV) (v : V) (d : PyData), Rel W w x v → dat n s x = some d → Dp W.K w.H v d) : ∀ {xs : List AV} {vs : List V} {ds : List PyData}, RelL W w xs vs → optL (dat n s) xs = some ds → DpAll W.K w.H vs ds
  | _, _, _, .nil, e => by
    cases e
    exact .nil
  | _, _, _, .cons h r, e => by
    unfold optL at e
    split at e
    · rename_i d ds e1 e2
      cases e
      exact .cons (ih _ _ _ h e1) (optL_dp ih r e2)
    · cases e
theorem dat_dp (S : Sim W w s) : ∀ (n : Nat) (x : AV) (v : V) (d : PyData), Rel W w x v → dat n s x = some d → Dp W.K w.H v d
  | 0, _, _, _, _, e => by cases e
  | n + 1, x, v, d, r, e => by
    unfold dat at e
    cases r with
    | non => cases e; exact .non
    | bl b => cases e; exact .bl b
    | int i => cases e; exact .int i
    | str z => cases e; exact .str z
    | ty n => cases e
    | cls c => cases e
    | raw a => cases e
    | @obj i hi =>
      simp only at e
      split at e
      · rename_i xs e1
        obtain ⟨ds, e2, rfl⟩ := Option.map_eq_some_iff.mp e
        obtain ⟨vs, _, h2, h3, h4⟩ := lstO_at S (.obj hi) e1
        exact .lst (.inl (.inl h3)) (optL_dp (dat_dp S n) h4 e2)
      · cases e
    | tup h r =>
      obtain ⟨ds, e2, rfl⟩ := Option.map_eq_some_iff.mp e
      exact .tup h (optL_dp (dat_dp S n) r e2)
    | scr h r =>
      obtain ⟨ds, e2, rfl⟩ := Option.map_eq_some_iff.mp e
      exact .lst h.sql (optL_dp (dat_dp S n) r e2)
    | exn => cases e
end
def scalA : AV → AV → Bool
  | .non, .non => true | .non, .int _ => true | .int _, .non => true | .non, .bl _ => true | .bl _, .non => true | .non, .str _ => true | .str _, .non => true
  | .int _, .int _ => true | .bl _, .bl _ => true | .str _, .str _ => true
  | .int _, .str _ => true | .str _, .int _ => true | .bl _, .str _ => true | .str _, .bl _ => true
  | _, _ => false
def eqA : AV → AV → Bool
  | .non, .non => true
  | .bl a, .bl b => a == b
  | .bl a, .int b => (if a then 1 else 0) == b
  | .int a, .bl b => a == (if b then 1 else 0)
  | .int a, .int b => a == b
  | .str a, .str b => a == b
  | _, _ => false
theorem scalA_rel {W : Wl} {w : Wd} {x y : AV} {v u : V} (rx : Rel W w x v) (ry : Rel W w y u) (h : scalA x y = true) : scal v u = true ∧ eqA x y = decide (v = u) := by
  cases rx <;> cases ry <;> first | (exact absurd h (by decide)) | (cases h; done) | (refine ⟨rfl, ?_⟩; simp [eqA, beq_dec]; try rfl)
def rEqU (K : PySem.W.Frag) : R2 := fun x y H Q => rEq x y H Q ∨ Sm.rEqS K x y H Q
def rNeU (K : PySem.W.Frag) : R2 := fun x y H Q => rNe x y H Q ∨ Sm.rNeS K x y H Q
theorem op_eqU {X : Cx} (hu : X.A.units + 64 < cLine) : OpR X (compareOp .Eq) (rEqU X.K) := OpR.or op_eq (Sm.op_eqS hu)
theorem op_neU {X : Cx} (hu : X.A.units + 64 < cLine) : OpR X (compareOp .NotEq) (rNeU X.K) := OpR.or op_ne (Sm.op_neS hu)
/-- things that are the very same -/
def smA : Nat → AV → Bool
  | _, .non => true
  | _, .bl _ => true
  | _, .int _ => true
  | _, .str _ => true
  | _, .obj _ => true
  | n + 1, .tup xs => xs.all (smA n)
  | _, _ => false
def isTup : AV → Bool
  | .tup _ => true
  | _ => false
section
variable {W : Wl} {w : Wd}
theorem sm_rel : ∀ (n : Nat) (x : AV) (v u : V), Rel W w x v → Rel W w x u → smA n x = true → Sm.Sm W.K w.H n v u := by
  intro n
  induction n with
  | zero =>
    intro x v u r1 r2 h
    cases r1 <;> cases r2 <;> first | exact .non | exact .bl _ | exact .int _ | exact .str _ | exact .ref _ | (cases h; done)
  | succ n ih =>
    intro x v u r1 r2 h
    cases r1 with
    | @tup a xs vs h1 q1 =>
      cases r2 with
      | @tup b _ us h2 q2 =>
        have h : xs.all (smA n) = true := h
        refine .tup h1 h2 (by rw [← q1.length, ← q2.length]) fun i x y hx hy => ?_
        obtain ⟨z, z1, z2⟩ := q1.getv i x hx
        obtain ⟨z', z3, z4⟩ := q2.getv i y hy
        rw [z1] at z3
        cases z3
        exact ih z x y z2 z4 (List.all_eq_true.mp h z (List.mem_of_getElem? z1))
    | _ => cases r2 <;> first | exact .non | exact .bl _ | exact .int _ | exact .str _ | exact .ref _ | (cases h; done)
theorem top_rel {x : AV} {v u : V} (r1 : Rel W w x v) (r2 : Rel W w x u) (h : smA 20 x = true) (ht : isTup x = true) : Sm.Top W.K w.H v u := by
  cases r1 with
  | @tup a xs vs h1 q1 =>
    cases r2 with
    | @tup b _ us h2 q2 =>
      have h : xs.all (smA 19) = true := h
      refine .tup h1 h2 (by rw [← q1.length, ← q2.length]) fun i x y hx hy => ?_
      obtain ⟨z, z1, z2⟩ := q1.getv i x hx
      obtain ⟨z', z3, z4⟩ := q2.getv i y hy
      rw [z1] at z3
      cases z3
      exact Sm.Sm.up (sm_rel 19 z x y z2 z4 (List.all_eq_true.mp h z (List.mem_of_getElem? z1)))
  | _ => cases ht
end
def eqB (x y : AV) (s : Sto) : Option Bool := if scalA x y = true then some (eqA x y) else match dat 12 s x, dat 12 s y with | some d, some e => if SeqAt.shaped d = true ∧ SeqAt.shaped e = true then some (PyData.eqv d e) else none | _, _ => if x = y ∧ smA 20 x = true ∧ isTup x = true then some true else none
def gEq : AV → AV → Sto → Res AV := fun x y s => match eqB x y s with | some b => .ok (.bl b) s | none => .stuck
def gNe : AV → AV → Sto → Res AV := fun x y s => match eqB x y s with | some b => .ok (.bl (!b)) s | none => .stuck
theorem gEq_b {x y : AV} {s : Sto} {b : Bool} (h : eqB x y s = some b) : gEq x y s = .ok (.bl b) s := by unfold gEq; simp only [h]
theorem gNe_b {x y : AV} {s : Sto} {b : Bool} (h : eqB x y s = some b) : gNe x y s = .ok (.bl (!b)) s := by unfold gNe; simp only [h]
theorem eqB_dat {x y : AV} {s : Sto} {d e : PyData} (h0 : scalA x y = false) (h1 : dat 12 s x = some d) (h2 : dat 12 s y = some e) (c1 : SeqAt.shaped d = true) (c2 : SeqAt.shaped e = true) : eqB x y s = some (PyData.eqv d e) := by
  unfold eqB; simp only [h0, h1, h2, c1, c2]; rfl
@[simp] theorem eqB_int {i j : Int} {s : Sto} : eqB (.int i) (.int j) s = some (decide (i = j)) := rfl
@[simp] theorem eqB_str {i j : Str} {s : Sto} : eqB (.str i) (.str j) s = some (decide (i = j)) := rfl
@[simp] theorem eqB_bl {i j : Bool} {s : Sto} : eqB (.bl i) (.bl j) s = some (decide (i = j)) := by
  rw [← beq_dec]; rfl
@[simp] theorem gEq_int {i j : Int} {s : Sto} : gEq (.int i) (.int j) s = .ok (.bl (decide (i = j))) s := gEq_b eqB_int
@[simp] theorem gNe_int {i j : Int} {s : Sto} : gNe (.int i) (.int j) s = .ok (.bl (!decide (i = j))) s := gNe_b eqB_int
@[simp] theorem gEq_str {i j : Str} {s : Sto} : gEq (.str i) (.str j) s = .ok (.bl (decide (i = j))) s := gEq_b eqB_str
@[simp] theorem gNe_str {i j : Str} {s : Sto} : gNe (.str i) (.str j) s = .ok (.bl (!decide (i = j))) s := gNe_b eqB_str
@[simp] theorem gEq_bl {i j : Bool} {s : Sto} : gEq (.bl i) (.bl j) s = .ok (.bl (decide (i = j))) s := gEq_b eqB_bl
@[simp] theorem gNe_bl {i j : Bool} {s : Sto} : gNe (.bl i) (.bl j) s = .ok (.bl (!decide (i = j))) s := gNe_b eqB_bl
theorem NE2.eq : NE2 gEq := fun x y s c ns vs s' h => by 
  unfold gEq at h
  repeat' split at h
  all_goals first | cases h | (unfold newL at h; cases h)
theorem NE2.ne : NE2 gNe := fun x y s c ns vs s' h => by 
  unfold gNe at h
  repeat' split at h
  all_goals first | cases h | (unfold newL at h; cases h)
theorem DR.eq {W : Wl} : DR W (rEqU W.K) gEq := fun w s x y v u Q S rx ry h => by
  unfold gEq at h
  split at h
  · rename_i b e
    unfold eqB at e
    split at e
    · rename_i hs
      obtain ⟨h1, h2⟩ := scalA_rel rx ry hs
      cases e
      refine .inl ⟨h1, ?_⟩
      rw [← h2]
      exact h w _ (.refl w) S (.bl _)
    · split at e
      · rename_i d e' h1 h2
        split at e
        · rename_i hc
          cases e
          exact .inr (.inl ⟨d, e', dat_dp S _ _ _ _ rx h1, dat_dp S _ _ _ _ ry h2, hc.1, hc.2, h w _ (.refl w) S (.bl _)⟩)
        · cases e
      · split at e
        · rename_i hc
          cases e
          obtain ⟨rfl, h1, h2⟩ := hc
          exact .inr (.inr ⟨top_rel rx ry h1 h2, h w _ (.refl w) S (.bl _)⟩)
        · cases e
  · exact h.elim
theorem DR.ne {W : Wl} : DR W (rNeU W.K) gNe := fun w s x y v u Q S rx ry h => by
  unfold gNe at h
  split at h
  · rename_i b e
    unfold eqB at e
    split at e
    · rename_i hs
      obtain ⟨h1, h2⟩ := scalA_rel rx ry hs
      cases e
      refine .inl ⟨h1, ?_⟩
      rw [← h2]
      exact h w _ (.refl w) S (.bl _)
    · split at e
      · rename_i d e' h1 h2
        split at e
        · rename_i hc
          cases e
          exact .inr (.inl ⟨d, e', dat_dp S _ _ _ _ rx h1, dat_dp S _ _ _ _ ry h2, hc.1, hc.2, h w _ (.refl w) S (.bl _)⟩)
        · cases e
      · split at e
        · rename_i hc
          cases e
          obtain ⟨rfl, h1, h2⟩ := hc
          exact .inr (.inr ⟨top_rel rx ry h1 h2, h w _ (.refl w) S (.bl _)⟩)
        · cases e
  · exact h.elim
def seqOf (s : Sto) (x : AV) : Option (List AV) := match x with | .tup xs => some xs | _ => lstOf s x
@[simp] theorem seqOf_tup {s : Sto} {xs : List AV} : seqOf s (.tup xs) = some xs := rfl
@[simp] theorem seqOf_scr {s : Sto} {xs : List AV} : seqOf s (.scr xs) = some xs := rfl
theorem seqOf_obj {s : Sto} {i : Nat} {xs : List AV} (e : s.c i = .lst xs) : seqOf s (.obj i) = some xs := by
  show lstOf s (.obj i) = _
  unfold lstOf; simp only [e]
theorem lstOf_obj {s : Sto} {i : Nat} {xs : List AV} (e : s.c i = .lst xs) : lstOf s (.obj i) = some xs := by
  unfold lstOf; simp only [e]
@[simp] theorem lstOf_scr {s : Sto} {xs : List AV} : lstOf s (.scr xs) = some xs := rfl
theorem seq_at {W : Wl} {w : Wd} {s : Sto} {x : AV} {v : V} {xs : List AV} (S : Sim W w s) (r : Rel W w x v) (h : seqOf s x = some xs) : ∃ a vs, v = .ref a ∧ (SqL W.K w.H a vs ∨ SqT W.K w.H a vs) ∧ RelL W w xs vs := by
  cases r with
  | @tup a xs' vs h1 r1 =>
    cases h
    exact ⟨a, vs, rfl, .inr h1, r1⟩
  | @obj i hi =>
    obtain ⟨a, vs, h1, h2, h3⟩ := lst_at (x := .obj i) S (.obj hi) h
    exact ⟨a, vs, h1, .inl h2, h3⟩
  | @scr a xs' vs h1 r1 =>
    cases h
    exact ⟨a, vs, rfl, .inl h1.sql, r1⟩
  | _ => cases h
def rIxU (K : PySem.W.Frag) : R2 := fun x y H Q => rIxL K x y H Q ∨ rIxT K x y H Q ∨ rIxS x y H Q
theorem ix_U {X : Cx} : IxR X (rIxU X.K) := IxR.or ix_list (IxR.or ix_tup ix_str)
def gIx : AV → AV → Sto → Res AV := fun x y s => match y with
  | .int i => match x with
    | .str z => if z.length ≤ sizeLine then (match atI z.cps.toList i with | some c => .ok (.str ⟨#[c]⟩) s | none => .stuck) else .stuck
    | _ => match seqOf s x with | some xs => (match atI xs i with | some v => .ok v s | none => .stuck) | none => .stuck
  | _ => .stuck
theorem gIx_seq {x : AV} {i : Int} {xs : List AV} {v : AV} {s : Sto} (e : seqOf s x = some xs) (h : atI xs i = some v) : gIx x (.int i) s = .ok v s := by
  unfold gIx
  cases x with
  | str => cases e
  | _ => simp only [e, h]
theorem NE2.ix : NE2 gIx := fun x y s c ns vs s' h => by 
  unfold gIx at h
  repeat' split at h
  all_goals first | cases h | (unfold newL at h; cases h)
theorem atI_rel {W : Wl} {w : Wd} {xs : List AV} {vs : List V} {i : Int} {x : AV} (r : RelL W w xs vs) (e : atI xs i = some x) : ∃ v, atI vs i = some v ∧ Rel W w x v := by
  unfold atI at e ⊢
  rw [← r.length]
  cases h : ixN xs.length i with
  | none => rw [h] at e; cases e
  | some j =>
    rw [h] at e
    exact r.get j x e
theorem DR.ix {W : Wl} : DR W (rIxU W.K) gIx := fun w s x y v u Q S rx ry h => by
  unfold gIx at h
  split at h
  · cases ry
    split at h
    · split at h
      · rename_i hl
        split at h
        · rename_i c e
          cases rx
          exact .inr (.inr ⟨_, _, c, rfl, rfl, hl, e, h w _ (.refl w) S (.str _)⟩)
        · exact h.elim
      · exact h.elim
    · split at h
      · rename_i xs e
        split at h
        · rename_i z e2
          obtain ⟨a, vs, h1, h2, h3⟩ := seq_at S rx e
          obtain ⟨zc, e3, rz⟩ := atI_rel h3 e2
          rcases h2 with h2 | h2
          · exact .inl ⟨a, vs, _, zc, h1, rfl, h2, e3, h w _ (.refl w) S rz⟩
          · exact .inr (.inl ⟨a, vs, _, zc, h1, rfl, h2, e3, h w _ (.refl w) S rz⟩)
        · exact h.elim
      · exact h.elim
  · exact h.elim
/-- a part of a slice -/
abbrev AO := ASt → Sto → Res (Option Int)
def aPart (fa : AE) : AO := fun σ s => (fa σ s).bind fun x s1 => match x with | .int i => .ok (some i) s1 | _ => .stuck
def aNoPart : AO := fun _ s => .ok none s
def OkO (w : Wd) (W : Wl) (Q : Option Int → Hp → Prop) (v : Option Int) (s : Sto) : Prop := ∀ w', Ext w w' → Sim W w' s → Q v w'.H
def DO (W : Wl) (E : L2.St → XK) (tl : TO) (f : AO) : Prop := ∀ (w : Wd) (s : Sto) (σ : ASt) (σc : L2.St) (Q : Option Int → Hp → Prop), Sim W w s → RSt W w σ σc → (f σ s).Post (OkO w W Q) (ErrP W w (E σc)) → tl σc w.H Q
section
variable {W : Wl} {E : L2.St → XK} {ta tb tc : TE} {fa fb fc : AE} {tl th : TO} {fl fh : AO}
theorem DO.no : DO W E tNoPart aNoPart := fun w s σ σc Q S R h => h w (.refl w) S
theorem DO.part (ha : DE W E ta fa) : DO W E (tPart ta) (aPart fa) := fun w s σ σc Q S R h => by
  refine ha w s σ σc _ S R ((post_bind_ok h).mono (fun x s1 h1 w1 v e1 S1 r1 => ?_) fun _ _ _ _ z => z)
  cases r1 with
  | int i => exact ⟨i, rfl, h1 w1 e1 S1⟩
  | _ => exact (show False from h1).elim
def rSlU (K : PySem.W.Frag) : V → Option Int → Option Int → Hp → VK → Prop := fun x l u H Q => rSlL K x l u H Q ∨ rSlA K x l u H Q
theorem sl_U {X : Cx} : SlR X (rSlU X.K) := SlR.or sl_list sl_tupA
def cutA (xs : List AV) (lo hi : Option Int) : List AV := (xs.drop (HT.sIx xs.length 0 lo)).take (HT.sIx xs.length xs.length hi - HT.sIx xs.length 0 lo)
def gSl (x : AV) (lo hi : Option Int) (s : Sto) : Res AV := match x with
  | .tup xs => .ok (.tup (cutA xs lo hi)) s
  | _ => match lstOf s x with | some xs => newL (cutA xs lo hi) s | none => .stuck
@[simp] theorem gSl_tup {xs : List AV} {lo hi : Option Int} {s : Sto} : gSl (.tup xs) lo hi s = .ok (.tup (cutA xs lo hi)) s := rfl
@[simp] theorem gSl_scr {xs : List AV} {lo hi : Option Int} {s : Sto} : gSl (.scr xs) lo hi s = newL (cutA xs lo hi) s := rfl
theorem gSl_lst {i : Nat} {xs : List AV} {lo hi : Option Int} {s : Sto} (e : s.c i = .lst xs) : gSl (.obj i) lo hi s = newL (cutA xs lo hi) s := by
  unfold gSl
  simp only [lstOf_obj e]
def aSl (fa : AE) (fl fh : AO) : AE := fun σ s => (fa σ s).bind fun x s1 => (fl σ s1).bind fun l s2 => (fh σ s2).bind fun u s3 => gSl x l u s3
theorem DE.sl (ha : DE W E ta fa) (hl : DO W E tl fl) (hh : DO W E th fh) : DE W E (L2.tSl (rSlU W.K) ta tl th) (aSl fa fl fh) := fun w s σ σc Q S R h => by
  refine ha w s σ σc _ S R ((post_bind_ok h).mono (fun x s1 h1 w1 v e1 S1 r1 => ?_) fun _ _ _ _ z => z)
  refine hl w1 s1 σ σc _ S1 (R.mono e1) ((post_bind_ok h1).mono (fun l s2 h2 w2 e2 S2 => ?_) fun _ _ _ _ z => z.mono e1)
  refine hh w2 s2 σ σc _ S2 (R.mono (e1.trans e2)) ((post_bind_ok h2).mono (fun u s3 h3 w3 e3 S3 => ?_) fun _ _ _ _ z => z.mono (e1.trans e2))
  have r3 := (r1.mono e2).mono e3
  have e03 := (e1.trans e2).trans e3
  unfold gSl at h3
  split at h3
  · rename_i xs
    cases r3 with
    | @tup a _ vs k1 k2 =>
      refine .inr ⟨a, vs, rfl, k1, fun z => ?_, fun _ => ?_⟩
      · have hr : RelL W w3 (cutA xs l u) vs := by
          unfold cutA
          have e := k2.length
          rw [e, z.1, z.2, List.drop_zero, Nat.sub_zero]
          have := k2.take vs.length
          rwa [List.take_length] at this
        exact h3 w3 _ e03 S3 (.tup k1 hr)
      · refine newT S3 ?_ (OkP.mono e03 h3)
        unfold cutA cutV
        rw [k2.length]
        exact (k2.drop _).take _
  · split at h3
    · rename_i xs e
      obtain ⟨a, vs, k1, k2, k3⟩ := lst_at S3 r3 e
      refine .inl ⟨a, vs, k1, k2, newL_ok S3 ?_ (OkP.mono e03 h3)⟩
      unfold cutA cutV
      rw [k3.length]
      exact (k3.drop _).take _
    · exact (show False from h3).elim
def aRev (fa : AE) : AE := fun σ s => (fa σ s).bind fun x s1 => match lstOf s1 x with | some xs => newL xs.reverse s1 | none => .stuck
end
def rLenU (K : PySem.W.Frag) : List V → Hp → VK → Prop := fun xs H Q => Rd.rLenQ K xs H Q ∨ Gx.rLenS xs H Q ∨ ∃ a kvs, xs = [V.ref a] ∧ H a = some (.dK kvs) ∧ Q (.int kvs.length) H
theorem call_lenU {X : Cx} : CallR X (.builtin "len") (rLenU X.K) := CallR.or Rd.call_lenQ (CallR.or Gx.call_lenS call_lenD)
def gLen : List AV → Sto → Res AV := fun xs s => match xs with
  | [.str z] => if z.length ≤ sizeLine then .ok (.int (z.length : Nat)) s else .stuck
  | [x] => match seqOf s x with | some ys => .ok (.int (ys.length : Nat)) s | none => (match x with | .obj i => (match s.c i with | .dic kvs => .ok (.int (kvs.length : Nat)) s | _ => .stuck) | _ => .stuck)
  | _ => .stuck
theorem gLen_seq {x : AV} {ys : List AV} {s : Sto} (e : seqOf s x = some ys) : gLen [x] s = .ok (.int (ys.length : Nat)) s := by
  unfold gLen
  cases x with
  | str => cases e
  | _ => simp only [e]
@[simp] theorem gLen_tup {ys : List AV} {s : Sto} : gLen [.tup ys] s = .ok (.int (ys.length : Nat)) s := rfl
@[simp] theorem gLen_scr {ys : List AV} {s : Sto} : gLen [.scr ys] s = .ok (.int (ys.length : Nat)) s := rfl
theorem NEL.len : NEL gLen := fun x s c ns vs s' h => by 
  unfold gLen at h
  repeat' split at h
  all_goals first | cases h | (unfold newL at h; cases h)
theorem DB.len {W : Wl} : DB W (rLenU W.K) gLen := fun w s x v Q S r h => by
  unfold gLen at h
  split at h
  · split at h
    · rename_i hl
      cases r with
      | cons r1 r2 =>
        cases r1; cases r2
        exact .inr (.inl ⟨_, rfl, hl, h w _ (.refl w) S (.int _)⟩)
    · exact h.elim
  · cases r with
    | cons r1 r2 =>
      cases r2
      split at h
      · rename_i ys e
        obtain ⟨a, vs, h1, h2, h3⟩ := seq_at S r1 e
        subst h1
        exact .inl ⟨a, vs, rfl, h2, by rw [← h3.length]; exact h w _ (.refl w) S (.int _)⟩
      · split at h
        · split at h
          · rename_i kvs e
            obtain ⟨o, h1, h2, h3, h4⟩ := cell_at S r1 e
            subst h2
            cases h4 with
            | dic r => exact .inr (.inr ⟨_, _, rfl, h3, by rw [← Paired.length r]; exact h w _ (.refl w) S (.int _)⟩)
          · exact h.elim
        · exact h.elim
  · exact h.elim
def gMax2 : List AV → Sto → Res AV := fun xs s => match xs with | [.int i, .int j] => .ok (.int (if j > i then j else i)) s | _ => .stuck
def gMin2 : List AV → Sto → Res AV := fun xs s => match xs with | [.int i, .int j] => .ok (.int (if j < i then j else i)) s | _ => .stuck
@[simp] theorem gMax2_int {i j : Int} {s : Sto} : gMax2 [.int i, .int j] s = .ok (.int (if j > i then j else i)) s := rfl
@[simp] theorem gMin2_int {i j : Int} {s : Sto} : gMin2 [.int i, .int j] s = .ok (.int (if j < i then j else i)) s := rfl
theorem NEL.max2 : NEL gMax2 := fun x s c ns vs s' h => by 
  unfold gMax2 at h
  repeat' split at h
  all_goals first | cases h | (unfold newL at h; cases h)
theorem NEL.min2 : NEL gMin2 := fun x s c ns vs s' h => by 
  unfold gMin2 at h
  repeat' split at h
  all_goals first | cases h | (unfold newL at h; cases h)
theorem DB.max2 {W : Wl} : DB W Rd.rMax2 gMax2 := fun w s x v Q S r h => by
  unfold gMax2 at h
  split at h
  · cases r with
    | cons r1 r2 => cases r2 with
      | cons r2 r3 =>
        cases r1; cases r2; cases r3
        exact ⟨_, _, rfl, h w _ (.refl w) S (.int _)⟩
  · exact h.elim
theorem DB.min2 {W : Wl} : DB W Rd.rMin2 gMin2 := fun w s x v Q S r h => by
  unfold gMin2 at h
  split at h
  · cases r with
    | cons r1 r2 => cases r2 with
      | cons r2 r3 =>
        cases r1; cases r2; cases r3
        exact ⟨_, _, rfl, h w _ (.refl w) S (.int _)⟩
  · exact h.elim
def intsOf : List AV → Option (List Int)
  | [] => some []
  | .int i :: r => (intsOf r).map (i :: ·)
  | _ :: _ => none
theorem ints_rel {W : Wl} {w : Wd} : ∀ {xs : List AV} {vs : List V} {ns : List Int}, RelL W w xs vs → intsOf xs = some ns → vs = ns.map V.int
  | _, _, _, .nil, e => by cases e; rfl
  | .int i :: _, _, _, .cons h r, e => by
    cases h
    unfold intsOf at e
    obtain ⟨ms, e1, rfl⟩ := Option.map_eq_some_iff.mp e
    rw [List.map_cons, ints_rel r e1]
theorem intsOf_map : ∀ ns : List Int, intsOf (ns.map AV.int) = some ns
  | [] => rfl
  | n :: ns => by rw [List.map_cons, intsOf, intsOf_map ns]; rfl
def boolsOf : List AV → Option (List Bool)
  | [] => some []
  | .bl i :: r => (boolsOf r).map (i :: ·)
  | _ :: _ => none
theorem bools_rel {W : Wl} {w : Wd} : ∀ {xs : List AV} {vs : List V} {ns : List Bool}, RelL W w xs vs → boolsOf xs = some ns → vs = ns.map V.bl
  | _, _, _, .nil, e => by cases e; rfl
  | .bl i :: _, _, _, .cons h r, e => by
    cases h
    unfold boolsOf at e
    obtain ⟨ms, e1, rfl⟩ := Option.map_eq_some_iff.mp e
    rw [List.map_cons, bools_rel r e1]
theorem boolsOf_map : ∀ ns : List Bool, boolsOf (ns.map AV.bl) = some ns
  | [] => rfl
  | n :: ns => by rw [List.map_cons, boolsOf, boolsOf_map ns]; rfl
def gSum : List AV → Sto → Res AV := fun xs s => match xs with | [x] => (match lstOf s x with | some ys => (match intsOf ys with | some ns => .ok (.int ns.sum) s | none => .stuck) | none => .stuck) | _ => .stuck
def gAll : List AV → Sto → Res AV := fun xs s => match xs with | [x] => (match lstOf s x with | some ys => (match boolsOf ys with | some ns => .ok (.bl (ns.all id)) s | none => .stuck) | none => .stuck) | _ => .stuck
theorem gSum_lst {x : AV} {ns : List Int} {s : Sto} (e : lstOf s x = some (ns.map .int)) : gSum [x] s = .ok (.int ns.sum) s := by
  unfold gSum; simp only [e, intsOf_map]
theorem gAll_lst {x : AV} {ns : List Bool} {s : Sto} (e : lstOf s x = some (ns.map .bl)) : gAll [x] s = .ok (.bl (ns.all id)) s := by
  unfold gAll; simp only [e, boolsOf_map]
theorem NEL.sum : NEL gSum := fun x s c ns vs s' h => by 
  unfold gSum at h
  repeat' split at h
  all_goals first | cases h | (unfold newL at h; cases h)
theorem NEL.all : NEL gAll := fun x s c ns vs s' h => by 
  unfold gAll at h
  repeat' split at h
  all_goals first | cases h | (unfold newL at h; cases h)
theorem DB.sum {W : Wl} : DB W (rSum W.K) gSum := fun w s x v Q S r h => by
  unfold gSum at h
  split at h
  · cases r with
    | cons r1 r2 =>
      cases r2
      split at h
      · rename_i ys e
        split at h
        · rename_i ns e2
          obtain ⟨a, vs, h1, h2, h3⟩ := lst_at S r1 e
          subst h1
          refine ⟨a, ns, rfl, ?_, h w _ (.refl w) S (.int _)⟩
          rw [← ints_rel h3 e2]; exact h2
        · exact h.elim
      · exact h.elim
  · exact h.elim
theorem DB.all {W : Wl} : DB W (rAll W.K) gAll := fun w s x v Q S r h => by
  unfold gAll at h
  split at h
  · cases r with
    | cons r1 r2 =>
      cases r2
      split at h
      · rename_i ys e
        split at h
        · rename_i ns e2
          obtain ⟨a, vs, h1, h2, h3⟩ := lst_at S r1 e
          subst h1
          refine ⟨a, ns, rfl, ?_, h w _ (.refl w) S (.bl _)⟩
          rw [← bools_rel h3 e2]; exact h2
        · exact h.elim
      · exact h.elim
  · exact h.elim
def gTuple : List AV → Sto → Res AV := fun xs s => match xs with | [x] => (match seqOf s x with | some ys => .ok (.tup ys) s | none => .stuck) | _ => .stuck
def gList : List AV → Sto → Res AV := fun xs s => match xs with | [x] => (match seqOf s x with | some ys => newL ys s | none => .stuck) | _ => .stuck
theorem gTuple_seq {x : AV} {ys : List AV} {s : Sto} (e : seqOf s x = some ys) : gTuple [x] s = .ok (.tup ys) s := by
  unfold gTuple; simp only [e]
theorem NEL.tuple : NEL gTuple := fun x s c ns vs s' h => by 
  unfold gTuple at h
  repeat' split at h
  all_goals first | cases h | (unfold newL at h; cases h)
theorem NEL.list : NEL gList := fun x s c ns vs s' h => by 
  unfold gList at h
  repeat' split at h
  all_goals first | cases h | (unfold newL at h; cases h)
theorem DB.tuple {W : Wl} : DB W (Gx.rTupOf W.K) gTuple := fun w s x v Q S r h => by
  unfold gTuple at h
  split at h
  · cases r with
    | cons r1 r2 =>
      cases r2
      split at h
      · rename_i ys e
        obtain ⟨a, vs, h1, h2, h3⟩ := seq_at S r1 e
        subst h1
        rcases h2 with h2 | h2
        · exact ⟨a, vs, rfl, .inl ⟨h2, newT S h3 h⟩⟩
        · exact ⟨a, vs, rfl, .inr ⟨h2, h w _ (.refl w) S (.tup h2 h3)⟩⟩
      · exact h.elim
  · exact h.elim
theorem DB.list {W : Wl} : DB W (Gx.rLstOf W.K) gList := fun w s x v Q S r h => by
  unfold gList at h
  split at h
  · cases r with
    | cons r1 r2 =>
      cases r2
      split at h
      · rename_i ys e
        obtain ⟨a, vs, h1, h2, h3⟩ := seq_at S r1 e
        subst h1
        exact ⟨a, vs, rfl, h2, newL_ok S h3 h⟩
      · exact h.elim
  · exact h.elim
end
end Ab
set_option Elab.async false
set_option linter.all false
set_option maxRecDepth 100000
set_option maxHeartbeats 1000000
namespace Gx
open PySem PySem.Spec PyProof.Rows L2
end Gx
set_option Elab.async false
set_option linter.all false
set_option maxRecDepth 100000
set_option maxHeartbeats 1000000
namespace Ab
open PySem PySem.Spec PyProof.Rows L2
open Classical
noncomputable section
/-- a fact of each of a list -/
inductive All {α : Type} (P : α → Prop) : List α → Prop
  | nil : All P []
  | cons {a : α} {l : List α} (h : P a) (r : All P l) : All P (a :: l)
theorem All.at {α : Type} {P : α → Prop} : ∀ {l : List α}, All P l → ∀ a ∈ l, P a
  | _, .nil, a, h => by cases h
  | _, .cons h r, a, m => by
    rcases List.mem_cons.mp m with rfl | m
    · exact h
    · exact All.at r a m
def lookA (f : Str) : List (Str × AV) → Option AV
  | [] => none
  | (g, v) :: r => if g = f then some v else lookA f r
def putA (f : Str) (v : AV) : List (Str × AV) → List (Str × AV)
  | [] => [(f, v)]
  | (g, x) :: r => if g = f then (g, v) :: r else (g, x) :: putA f v r
section
variable {W : Wl} {w : Wd} {s : Sto}
theorem look_rel {f : Str} : ∀ {fs : List (Str × AV)} {gs : List (Str × V)}, RelF W w fs gs → (∀ v, lookA f fs = some v → ∃ vc, gs.lookup f = some vc ∧ Rel W w v vc) ∧ (lookA f fs = none → gs.lookup f = none)
  | _, _, .nil => ⟨fun v h => (by cases h), fun _ => rfl⟩
  | (g, x) :: r, (g', y) :: r', .cons h t => by
    obtain ⟨e, hr⟩ := h
    cases (show g = g' from e)
    obtain ⟨t1, t2⟩ := look_rel (f := f) t
    by_cases hg : g = f
    · subst hg
      refine ⟨fun v h => ?_, fun h => ?_⟩
      · have h : (if g = g then some x else _) = some v := h
        rw [if_pos rfl] at h
        cases h
        exact ⟨y, by simp, hr⟩
      · have h : (if g = g then some x else _) = none := h
        rw [if_pos rfl] at h
        cases h
    · have hb : (f == g) = false := beq_eq_false_iff_ne.mpr (Ne.symm hg)
      refine ⟨fun v h => ?_, fun h => ?_⟩
      · have h : (if g = f then some x else lookA f r) = some v := h
        rw [if_neg hg] at h
        obtain ⟨vc, h1, h2⟩ := t1 v h
        exact ⟨vc, by rw [List.lookup_cons, hb]; exact h1, h2⟩
      · have h : (if g = f then some x else lookA f r) = none := h
        rw [if_neg hg] at h
        rw [List.lookup_cons, hb]; exact t2 h
theorem put_rel {f : Str} {x : AV} {v : V} (hx : Rel W w x v) : ∀ {fs : List (Str × AV)} {gs : List (Str × V)}, RelF W w fs gs → RelF W w (putA f x fs) (putF f v gs)
  | _, _, .nil => .cons ⟨rfl, hx⟩ .nil
  | (g, y) :: r, (g', u) :: r', .cons h t => by
    obtain ⟨e, hr⟩ := h
    cases (show g = g' from e)
    show RelF W w (if g = f then (g, x) :: r else (g, y) :: putA f x r) (if g = f then (g, v) :: r' else (g, u) :: putF f v r')
    by_cases hg : g = f
    · rw [if_pos hg, if_pos hg]
      exact .cons ⟨rfl, hx⟩ t
    · rw [if_neg hg, if_neg hg]
      exact .cons ⟨rfl, hr⟩ (put_rel hx t)
end
def insAt (s : Sto) : AV → Option (String × List (Str × AV))
  | .obj i => match s.c i with | .ins c fs => some (c, fs) | _ => none
  | _ => none
theorem insAt_obj {s : Sto} {i : Nat} {c : String} {fs : List (Str × AV)} (e : s.c i = .ins c fs) : insAt s (.obj i) = some (c, fs) := by
  unfold insAt; simp only [e]
theorem ins_at {W : Wl} {w : Wd} {s : Sto} {x : AV} {v : V} {c : String} {fs : List (Str × AV)} (S : Sim W w s) (r : Rel W w x v) (h : insAt s x = some (c, fs)) :
    ∃ i dx gs, x = .obj i ∧ i < s.n ∧ v = .ref (w.m i) ∧ w.H (w.m i) = some (.ins (W.κ c) dx gs) ∧ c ∈ W.live ∧ RelF W w fs gs := by
  cases r with
  | @obj i hi =>
    unfold insAt at h
    simp only at h
    split at h
    · rename_i c' fs' e
      cases h
      obtain ⟨o, h1, h2, h3, h4⟩ := cell_at S (.obj hi) e
      cases h4 with
      | ins hc r => exact ⟨i, _, _, rfl, h1, h2, h3, hc, r⟩
    · cases h
  | _ => cases h
def gFld (cs : List String) (f : Str) (x : AV) (s : Sto) : Res AV := match insAt s x with | some (c, fs) => if c ∈ cs then (match lookA f fs with | some v => .ok v s | none => .stuck) else .stuck | none => .stuck
def aFld (cs : List String) (f : Str) (fa : AE) : AE := aUn (gFld cs f) fa
theorem gFld_obj {cs : List String} {f : Str} {s : Sto} {i : Nat} {c : String} {fs : List (Str × AV)} {v : AV} (e : s.c i = .ins c fs) (h : c ∈ cs) (l : lookA f fs = some v) : gFld cs f (.obj i) s = .ok v s := by
  unfold gFld
  simp only [insAt_obj e, if_pos h, l]
section
variable {W : Wl} {E : L2.St → XK} {ta tb : TE} {fa fb : AE} {tr : TA} {fr : AA}
theorem DE.fld {cs : List String} {f : Str} (hc : All (fun c => Cls W.K (W.κ c) ∧ NoAttr W.K (W.κ c) f) cs) (ha : DE W E ta fa) : DE W E (tFld W.K ta f) (aFld cs f fa) := fun w s σ σc Q S R h => by
  refine ha w s σ σc _ S R ((post_bind_ok h).mono (fun x s1 h1 w1 v e1 S1 r1 => ?_) fun _ _ _ _ z => z)
  unfold gFld at h1
  split at h1
  · rename_i c fs e
    split at h1
    · rename_i hcs
      split at h1
      · rename_i u e2
        obtain ⟨i, dx, gs, rfl, h2, rfl, h3, h4, h5⟩ := ins_at S1 r1 e
        obtain ⟨uc, l, ru⟩ := (look_rel h5).1 u e2
        obtain ⟨k1, k2⟩ := hc.at c hcs
        exact ⟨_, _, dx, gs, uc, rfl, h3, k1, k2, l, h1 w1 _ e1 S1 ru⟩
      · exact (show False from h1).elim
    · exact (show False from h1).elim
  · exact (show False from h1).elim
/-- a class's constant, read of an instance -/
def gIVal (cs : List String) (f : Str) (v : AV) (x : AV) (s : Sto) : Res AV := match insAt s x with | some (c, fs) => if c ∈ cs then (match lookA f fs with | some _ => .stuck | none => .ok v s) else .stuck | none => .stuck
theorem DE.ival {cs : List String} {f : Str} {v : AV} {vc : V} (hv : ∀ w, Rel W w v vc) (hc : All (fun c => Cls W.K (W.κ c) ∧ Gx.IVal W.K (W.κ c) f vc) cs) (ha : DE W E ta fa) : DE W E (Gx.tIVal W.K ta f) (aUn (gIVal cs f v) fa) := fun w s σ σc Q S R h => by
  refine ha w s σ σc _ S R ((post_bind_ok h).mono (fun x s1 h1 w1 v e1 S1 r1 => ?_) fun _ _ _ _ z => z)
  unfold gIVal at h1
  split at h1
  · rename_i c fs e
    split at h1
    · rename_i hcs
      split at h1
      · exact (show False from h1).elim
      · rename_i e2
        obtain ⟨i, dx, gs, rfl, h2, rfl, h3, h4, h5⟩ := ins_at S1 r1 e
        obtain ⟨k1, k2⟩ := hc.at c hcs
        exact ⟨_, _, dx, gs, vc, rfl, h3, k1, k2, (look_rel h5).2 e2, h1 w1 _ e1 S1 (hv w1)⟩
    · exact (show False from h1).elim
  · exact (show False from h1).elim
/-- o.f = e -/
def setF (cs : List String) (f : Str) (x y : AV) (s : Sto) : Option Sto := match x with | .obj i => (match s.c i with | .ins c fs => if c ∈ cs ∧ fs.length < 1000 then some (s.set i (.ins c (putA f y fs))) else none | _ => none) | _ => none
theorem setF_obj {cs : List String} {f : Str} {s : Sto} {i : Nat} {c : String} {fs : List (Str × AV)} {y : AV} (e : s.c i = .ins c fs) (h : c ∈ cs) (l : fs.length < 1000) : setF cs f (.obj i) y s = some (s.set i (.ins c (putA f y fs))) := by
  unfold setF
  simp only [e]
  exact if_pos ⟨h, l⟩
def oNx (σ : ASt) : Option Sto → SRes
  | some s => .nx σ s
  | none => .stuck
@[simp] theorem oNx_some {σ : ASt} {s : Sto} : oNx σ (some s) = .nx σ s := rfl
def aSFld (cs : List String) (f : Str) (fo fe : AE) : AS := fun σ s => (fe σ s).st σ fun y s1 => (fo σ s1).st σ fun x s2 => oNx σ (setF cs f x y s2)
theorem setF_ok {w : Wd} {s s' : Sto} {cs : List String} {f : Str} {x y : AV} {v u : V} (hc : All (fun c => Cls W.K (W.κ c) ∧ NoAttr W.K (W.κ c) f) cs) (S : Sim W w s) (rx : Rel W w x v) (ry : Rel W w y u) (h : setF cs f x y s = some s') :
    ∃ a C dx gs, v = .ref a ∧ w.H a = some (.ins C dx gs) ∧ Cls W.K C ∧ NoAttr W.K C f ∧ gs.length < 1000 ∧ ∃ w', w'.H = upd w.H a (.ins C dx (putF f u gs)) ∧ Ext w w' ∧ Sim W w' s' := by
  unfold setF at h
  split at h
  · rename_i i
    split at h
    · rename_i c fs e
      split at h
      · rename_i hh
        cases h
        obtain ⟨o, h1, h2, h3, h4⟩ := cell_at S rx e
        cases h4 with
        | @ins _ dx _ gs hl r =>
          obtain ⟨k1, k2⟩ := hc.at c hh.1
          refine ⟨_, _, dx, gs, h2, h3, k1, k2, ?_, _, rfl, .wr S h1, S.wr h1 (.ins hl (put_rel ry r))⟩
          rw [← Paired.length r]; exact hh.2
      · cases h
    · cases h
  · cases h
theorem DS.sfld {cs : List String} {f : Str} {to te : TE} {fo fe : AE} (hc : All (fun c => Cls W.K (W.κ c) ∧ NoAttr W.K (W.κ c) f) cs) (ho : DE W E to fo) (he : DE W E te fe) : DS W E (L2.sFld W.K to te f) (aSFld cs f fo fe) := fun w s σ σc D S R h => by
  refine he w s σ σc _ S R ((exp_post R h).mono (fun y s1 h1 w1 u e1 S1 r1 => ?_) fun _ _ _ _ z => z)
  refine ho w1 s1 σ σc _ S1 (R.mono e1) ((exp_post (R.mono e1) (P.mono e1 h1)).mono (fun x s2 h2 w2 v e2 S2 r2 => ?_) fun _ _ _ _ z => z)
  cases e : setF cs f x y s2 with
  | none => rw [e] at h2; exact (show False from h2).elim
  | some s3 =>
    rw [e] at h2
    obtain ⟨a, C, dx, gs, k1, k2, k3, k4, k5, w3, k6, k7, k8⟩ := setF_ok hc S2 r2 (r1.mono e2) e
    refine ⟨a, C, dx, gs, k1, k2, k3, k4, k5, ?_⟩
    rw [← k6]
    exact h2 w3 σc (e2.trans k7) k8 (((R.mono e1).mono e2).mono k7)
def agFld (cs : List String) (f : Str) (fo : AE) : AV → AS := fun y σ s => match fo σ s with | .ok x s2 => oNx σ (setF cs f x y s2) | _ => .stuck
theorem DG.fld {cs : List String} {f : Str} {to : TE} {fo : AE} (hc : All (fun c => Cls W.K (W.κ c) ∧ NoAttr W.K (W.κ c) f) cs) (ho : DE W (fun _ _ _ _ => False) to fo) : DG W (Gx.gFld W.K to f) (agFld cs f fo) := fun w s σ σc y u Q S R r h => by
  have h : (match fo σ s with | .ok x s2 => oNx σ (setF cs f x y s2) | _ => .stuck : SRes).P W w _ _ := h
  cases e0 : fo σ s with
  | err => rw [e0] at h; exact (show False from h).elim
  | stuck => rw [e0] at h; exact (show False from h).elim
  | ok x s2 =>
    rw [e0] at h
    refine ho w s σ σc _ S R ?_
    rw [e0]
    intro w2 v e2 S2 r2
    have h : (oNx σ (setF cs f x y s2)).P W w _ _ := h
    cases e : setF cs f x y s2 with
    | none => rw [e] at h; exact (show False from h).elim
    | some s3 =>
      rw [e] at h
      obtain ⟨a, C, dx, gs, k1, k2, k3, k4, k5, w3, k6, k7, k8⟩ := setF_ok hc S2 r2 (r.mono e2) e
      refine ⟨a, C, dx, gs, k1, k2, k3, k4, k5, ?_⟩
      rw [← k6]
      exact h w3 σc (e2.trans k7) k8 ((R.mono e2).mono k7)
theorem Goes.fld {cs : List String} {f : Str} {fo : AE} : Goes (agFld cs f fo) := fun y σ s => by
  show (∃ σ' s', (match fo σ s with | .ok x s2 => oNx σ (setF cs f x y s2) | _ => .stuck : SRes) = .nx σ' s') ∨ (match fo σ s with | .ok x s2 => oNx σ (setF cs f x y s2) | _ => .stuck : SRes) = .stuck
  cases fo σ s with
  | ok x s2 =>
    cases e : setF cs f x y s2 with
    | none => exact .inr (by simp only [e]; rfl)
    | some s3 => exact .inl ⟨σ, s3, by simp only [e]; rfl⟩
  | err => exact .inr rfl
  | stuck => exact .inr rfl
def noErr {α : Type} : Res α → Res α
  | .ok a s => .ok a s
  | _ => .stuck
@[simp] theorem noErr_ok {α : Type} {a : α} {s : Sto} : noErr (Res.ok a s) = .ok a s := rfl
theorem noErr_post {α : Type} {r : Res α} {P : α → Sto → Prop} {R R' : String → List Str → List AV → Sto → Prop} (h : (noErr r).Post P R) : r.Post P R' := by
  cases r with
  | ok => exact h
  | err => exact (show False from h).elim
  | stuck => exact h
def clsIs (s : Sto) (x : AV) (c : String) (m : Str) : Bool := match insAt s x with | some (d, fs) => (decide (d = c)) && (lookA m fs).isNone | none => false
theorem clsIs_obj {s : Sto} {i : Nat} {c : String} {m : Str} {fs : List (Str × AV)} (e : s.c i = .ins c fs) (l : lookA m fs = none) : clsIs s (.obj i) c m = true := by
  unfold clsIs
  simp only [insAt_obj e, l]
  simp
theorem cls_is {w : Wd} {s : Sto} {x : AV} {v : V} {c : String} {m : Str} (S : Sim W w s) (r : Rel W w x v) (h : clsIs s x c m = true) : ∃ a dx gs, v = .ref a ∧ w.H a = some (.ins (W.κ c) dx gs) ∧ gs.lookup m = none := by
  unfold clsIs at h
  split at h
  · rename_i d fs e
    rw [Bool.and_eq_true, decide_eq_true_eq, Option.isNone_iff_eq_none] at h
    obtain ⟨rfl, h⟩ := h
    obtain ⟨i, dx, gs, rfl, h2, rfl, h3, h4, h5⟩ := ins_at S r e
    exact ⟨_, dx, gs, rfl, h3, (look_rel h5).2 h⟩
  · cases h
def aMeth (c : String) (m : Str) (n : Nat) (F : List AV → Sto → Res AV) (dvs : List AV) (fa : AE) (fr : AA) : AE := fun σ s => (fa σ s).bind fun x s1 => if clsIs s1 x c m = true then (fr σ s1).bind fun xs s2 => if (x :: (xs ++ dvs)).length = n then F (x :: (xs ++ dvs)) s2 else .stuck else .stuck
theorem DE.meth {c : String} {m : Str} {n : Nat} {F : List AV → Sto → Res AV} {Ek : XK} {dvs : List AV} {dcs : List V} (hd : ∀ w, RelL W w dvs dcs) (ha : DE W (fun _ => Ek) ta fa) (hr : DA W (fun _ => Ek) tr fr) :
    DE W (fun _ => Ek) (tMeth (W.κ c) m (spF W n F) dcs Ek ta tr) (aMeth c m n F dvs fa fr) := fun w s σ σc Q S R h => by
  refine ha w s σ σc _ S R ((post_bind_ok h).mono (fun x s1 h1 w1 v e1 S1 r1 => ?_) fun _ _ _ _ z => z)
  split at h1
  · rename_i hcl
    obtain ⟨a, dx, gs, rfl, k1, k2⟩ := cls_is S1 r1 hcl
    refine ⟨a, dx, gs, rfl, k1, k2, hr w1 s1 σ σc _ S1 (R.mono e1) ((post_bind_ok h1).mono (fun xs s2 h2 w2 vs e2 S2 r2 => ?_) fun _ _ _ _ z => z.mono e1)⟩
    split at h2
    · rename_i hl
      exact ⟨w2, s2, _, rfl, S2, .cons (r1.mono e2) (r2.append (hd w2)), hl, post_mono (e1.trans e2) h2⟩
    · exact (show False from h2).elim
  · exact (show False from h1).elim
def isI (s : Sto) (x : AV) (c : String) : Bool := match insAt s x with | some (d, _) => decide (d = c) | none => false
theorem isI_obj {s : Sto} {i : Nat} {c : String} {fs : List (Str × AV)} (e : s.c i = .ins c fs) : isI s (.obj i) c = true := by
  unfold isI
  simp only [insAt_obj e]
  simp
def aProp (c : String) (F : List AV → Sto → Res AV) (fa : AE) : AE := fun σ s => (fa σ s).bind fun x s1 => if isI s1 x c = true then noErr (F [x] s1) else .stuck
theorem DE.prop {c : String} {F : List AV → Sto → Res AV} (ha : DE W E ta fa) : DE W E (tProp (W.κ c) (spF W 1 F) [] C8.E0 ta) (aProp c F fa) := fun w s σ σc Q S R h => by
  refine ha w s σ σc _ S R ((post_bind_ok h).mono (fun x s1 h1 w1 v e1 S1 r1 => ?_) fun _ _ _ _ z => z)
  split at h1
  · rename_i hcl
    unfold isI at hcl
    split at hcl
    · rename_i d fs e
      cases of_decide_eq_true hcl
      obtain ⟨i, dx, gs, rfl, h2, rfl, h3, h4, h5⟩ := ins_at S1 r1 e
      exact ⟨_, dx, gs, rfl, h3, w1, s1, [.obj i], rfl, S1, .cons r1 .nil, rfl, (noErr_post h1).mono (fun _ _ z => z.mono e1) fun _ _ _ _ z => z⟩
    · cases hcl
  · exact (show False from h1).elim
/-- C(..) -/
def aMake (c : String) (n : Nat) (F : List AV → Sto → Res AV) (dvs : List AV) (fr : AA) : AE := fun σ s => (fr σ s).bind fun xs s1 => if (AV.obj s1.n :: (xs ++ dvs)).length = n then (F (.obj s1.n :: (xs ++ dvs)) (s1.new (.ins c []))).bind fun v s2 => if isNon v = true then .ok (.obj s1.n) s2 else .stuck else .stuck
theorem DE.make {c : String} {n : Nat} {F : List AV → Sto → Res AV} {Ek : XK} {dvs : List AV} {dcs : List V} (hd : ∀ w, RelL W w dvs dcs) (hl : c ∈ W.live) (hr : DA W (fun _ => Ek) tr fr) :
    DE W (fun _ => Ek) (tMake (W.κ c) (spF W n F) dcs Ek tr) (aMake c n F dvs fr) := fun w s σ σc Q S R h => by
  refine hr w s σ σc _ S R ((post_bind_ok h).mono (fun xs s1 h1 w1 vs e1 S1 r1 => ?_) fun _ _ _ _ z => z)
  split at h1
  · rename_i hn
    intro x dx hx hdx ne
    have g : ∀ a u, w1.H a = some u → upd (upd w1.H dx (.own x)) x (.ins (W.κ c) dx []) a = some u := fun a u z => by
      rw [upd_ne (ne_of_none z hx), upd_ne (ne_of_none z hdx)]; exact z
    have e2 : Ext w1 (w1.new x (upd (upd w1.H dx (.own x)) x (.ins (W.κ c) dx []))) := .new g
    have S2 : Sim W (w1.new x (upd (upd w1.H dx (.own x)) x (.ins (W.κ c) dx []))) (s1.new (.ins c [])) := S1.new hx g upd_same (.ins hl .nil)
    refine ⟨w1.new x (upd (upd w1.H dx (.own x)) x (.ins (W.κ c) dx [])), _, _, rfl, S2, .cons (Rel.new x _ S1.n) ((r1.mono e2).append (hd _)), hn, (post_bind_ok h1).mono (fun v s3 h3 w3 vc e3 S3 r3 => ?_) fun _ _ _ _ z => (z.mono e1).mono e2⟩
    split at h3
    · rename_i hv
      rw [isNon_rel r3, decide_eq_true_eq] at hv
      refine ⟨hv, h3 w3 _ (e1.trans (e2.trans e3)) S3 ?_⟩
      exact (Rel.new x _ S1.n).mono e3
    · exact (show False from h3).elim
  · exact (show False from h1).elim
/-- cls(..), the class in a slot -/
def aMakeV (i : Nat) (c : String) (n : Nat) (F : List AV → Sto → Res AV) (fr : AA) : AE := fun σ s => match σ[i]? with | some (some (.cls d)) => if d = c then aMake c n F [] fr σ s else .stuck | _ => .stuck
def isCls (c : String) : AV → Bool
  | .cls d => decide (d = c)
  | _ => false
/-- C.m(..), m static -/
def aSMeth (c : String) (n : Nat) (F : List AV → Sto → Res AV) (fa : AE) (fr : AA) : AE := fun σ s => (fa σ s).bind fun x s1 => if isCls c x = true then (fr σ s1).bind fun xs s2 => if (xs ++ []).length = n then F (xs ++ []) s2 else .stuck else .stuck
/-- C.m(..), m a class method -/
def aCMeth (c : String) (n : Nat) (F : List AV → Sto → Res AV) (fa : AE) (fr : AA) : AE := fun σ s => (fa σ s).bind fun x s1 => if isCls c x = true then (fr σ s1).bind fun xs s2 => if (AV.cls c :: (xs ++ [])).length = n then F (.cls c :: (xs ++ [])) s2 else .stuck else .stuck
def gAppend (x : AV) (ys : List AV) (s : Sto) : Res AV := match x, ys with
  | .obj i, [y] => (match s.c i with | .lst xs => if xs.length < sizeLine then .ok .non (s.set i (.lst (xs ++ [y]))) else .stuck | _ => .stuck)
  | _, _ => .stuck
theorem gAppend_obj {i : Nat} {y : AV} {xs : List AV} {s : Sto} (e : s.c i = .lst xs) (h : xs.length < sizeLine) : gAppend (.obj i) [y] s = .ok .non (s.set i (.lst (xs ++ [y]))) := by
  unfold gAppend; simp only [e]; exact if_pos h
def isSeqL (s : Sto) (x : AV) : Bool := (lstOf s x).isSome
theorem isSeqL_obj {i : Nat} {xs : List AV} {s : Sto} (e : s.c i = .lst xs) : isSeqL s (.obj i) = true := by unfold isSeqL; simp only [lstOf_obj e]; rfl
def aBM (g : AV → List AV → Sto → Res AV) (fa : AE) (fr : AA) : AE := fun σ s => (fa σ s).bind fun x s1 => if isSeqL s1 x = true then (fr σ s1).bind fun ys s2 => g x ys s2 else .stuck
def NEM (g : AV → List AV → Sto → Res AV) : Prop := ∀ x ys s c ns vs s', g x ys s ≠ .err c ns vs s'
def DM (W : Wl) (r : V → List V → Hp → VK → Prop) (g : AV → List AV → Sto → Res AV) : Prop := ∀ (w : Wd) (s : Sto) (x : AV) (ys : List AV) (v : V) (us : List V) (Q : VK), Sim W w s → Rel W w x v → RelL W w ys us → (g x ys s).Post (OkP W w Q) (fun _ _ _ _ => False) → r v us w.H Q
/-- a method of a list -/
theorem DE.bm {r : V → List V → Hp → VK → Prop} {g : AV → List AV → Sto → Res AV} (hr : DM W r g) (hn : NEM g) (ha : DE W E ta fa) (hb : DA W E tr fr) : DE W E (tBM W.K "list" r ta tr) (aBM g fa fr) := fun w s σ σc Q S R h => by
  refine ha w s σ σc _ S R ((post_bind_ok h).mono (fun x s1 h1 w1 v e1 S1 r1 => ?_) fun _ _ _ _ z => z)
  split at h1
  · rename_i hl
    refine ⟨?_, hb w1 s1 σ σc _ S1 (R.mono e1) ((post_bind_ok h1).mono (fun ys s2 h2 w2 us e2 S2 r2 => ?_) fun _ _ _ _ z => z.mono e1)⟩
    · unfold isSeqL at hl
      obtain ⟨xs, e⟩ := Option.isSome_iff_exists.mp hl
      obtain ⟨a, vs, rfl, k2, k3⟩ := lst_at S1 r1 e
      exact .inl ⟨rfl, vs, k2⟩
    · refine hr w2 s2 x ys v us Q S2 (r1.mono e2) r2 ?_
      cases hh : g x ys s2 with
      | ok a s3 => rw [hh] at h2; exact OkP.mono (e1.trans e2) h2
      | err c ns vs s3 => exact absurd hh (hn _ _ _ _ _ _ _)
      | stuck => rw [hh] at h2; exact h2
  · exact (show False from h1).elim
theorem NEM.append : NEM gAppend := fun x y s c ns vs s' h => by 
  unfold gAppend at h
  repeat' split at h
  all_goals first | cases h | (unfold newL at h; cases h)
theorem DM.append : DM W rAppend gAppend := fun w s x ys v us Q S rx ry h => by
  unfold gAppend at h
  split at h
  · split at h
    · rename_i i y _ xs e
      split at h
      · rename_i hl
        obtain ⟨vs, i1, i2, i3, i4⟩ := lstO_at S rx e
        cases ry with
        | @cons _ u _ _ r1 r2 =>
          cases r2
          refine ⟨_, vs, u, i2, rfl, i3, by rw [← i4.length]; exact hl, ?_⟩
          exact wr_ok S i1 (.lst (i4.append (.cons r1 .nil))) fun w' e' S' => h w' .non e' S' .non
      · exact h.elim
    · exact h.elim
  · exact h.elim
/-- x[i] = v, a list -/
def setL (x i y : AV) (s : Sto) : Option Sto := match x, i with | .obj k, .int j => (match s.c k with | .lst xs => (match ixN xs.length j with | some n => some (s.set k (.lst (xs.set n y))) | none => none) | _ => none) | _, _ => none
theorem setL_obj {k : Nat} {j : Int} {n : Nat} {y : AV} {xs : List AV} {s : Sto} (e : s.c k = .lst xs) (h : ixN xs.length j = some n) : setL (.obj k) (.int j) y s = some (s.set k (.lst (xs.set n y))) := by
  unfold setL; simp only [e, h]
def toKey : AV → Option Key
  | .int i => some (.inl i)
  | .str z => some (.inr z)
  | _ => none
theorem key_rel {w : Wd} {x : AV} {v : V} {k : Key} (r : Rel W w x v) (h : toKey x = some k) : v = kV k := by
  cases r <;> cases h <;> rfl
def valA (kvs : List (Key × AV)) (k : Key) : Option AV := match kvs with
  | [] => none
  | (j, v) :: r => if j = k then some v else valA r k
def putKA (kvs : List (Key × AV)) (k : Key) (v : AV) : List (Key × AV) :=
  if (kvs.any fun kv => decide (kv.1 = k)) = true then kvs.map (fun kv => if kv.1 = k then (kv.1, v) else kv) else kvs ++ [(k, v)]
theorem val_rel {w : Wd} {k : Key} : ∀ {fs : List (Key × AV)} {gs : List (Key × V)}, RelK W w fs gs → ∀ v, valA fs k = some v → ∃ vc, valV gs k = some vc ∧ Rel W w v vc
  | _, _, .nil, v, h => by cases h
  | (j, x) :: r, (j', y) :: r', .cons h t, v, e => by
    obtain ⟨ej, hr⟩ := h
    cases (show j = j' from ej)
    have e : (if j = k then some x else valA r k) = some v := e
    by_cases hj : j = k
    · rw [if_pos hj] at e
      cases e
      exact ⟨y, valV_pos hj, hr⟩
    · rw [if_neg hj] at e
      obtain ⟨vc, h1, h2⟩ := val_rel t v e
      exact ⟨vc, by rw [valV_neg hj]; exact h1, h2⟩
theorem any_rel {w : Wd} {k : Key} : ∀ {fs : List (Key × AV)} {gs : List (Key × V)}, RelK W w fs gs → (fs.any fun kv => decide (kv.1 = k)) = (gs.any fun kv => decide (kv.1 = k))
  | _, _, .nil => rfl
  | (j, x) :: r, (j', y) :: r', .cons h t => by
    cases (show j = j' from h.1)
    rw [List.any_cons, List.any_cons, any_rel t]
theorem mapK_rel {w : Wd} {k : Key} {x : AV} {v : V} (hx : Rel W w x v) : ∀ {fs : List (Key × AV)} {gs : List (Key × V)}, RelK W w fs gs → RelK W w (fs.map fun kv => if kv.1 = k then (kv.1, x) else kv) (gs.map fun kv => if kv.1 = k then (kv.1, v) else kv)
  | _, _, .nil => .nil
  | (j, y) :: r, (j', u) :: r', .cons h t => by
    cases (show j = j' from h.1)
    rw [List.map_cons, List.map_cons]
    refine .cons ?_ (mapK_rel hx t)
    by_cases hj : j = k
    · simp only [if_pos hj]
      exact ⟨trivial, hx⟩
    · simp only [if_neg hj]
      exact ⟨trivial, h.2⟩
theorem RelK.append {w : Wd} : ∀ {fs hs : List (Key × AV)} {gs ks : List (Key × V)}, RelK W w fs gs → RelK W w hs ks → RelK W w (fs ++ hs) (gs ++ ks)
  | _, _, _, _, .nil, h => h
  | _, _, _, _, .cons h r, k => .cons h (RelK.append r k)
theorem putK_rel {w : Wd} {k : Key} {x : AV} {v : V} (hx : Rel W w x v) {fs : List (Key × AV)} {gs : List (Key × V)} (r : RelK W w fs gs) : RelK W w (putKA fs k x) (putK gs k v) := by
  unfold putKA putK
  rw [any_rel r]
  split
  · exact mapK_rel hx r
  · exact r.append (.cons ⟨rfl, hx⟩ .nil)
def gDGet (x y : AV) (s : Sto) : Res AV := match x, toKey y with | .obj i, some k => (match s.c i with | .dic kvs => (match valA kvs k with | some v => .ok v s | none => .stuck) | _ => .stuck) | _, _ => .stuck
theorem gDGet_obj {i : Nat} {y v : AV} {k : Key} {kvs : List (Key × AV)} {s : Sto} (e : s.c i = .dic kvs) (hk : toKey y = some k) (h : valA kvs k = some v) : gDGet (.obj i) y s = .ok v s := by
  unfold gDGet; simp only [hk, e, h]
theorem DE.dget (ha : DE W E ta fa) (hb : DE W E tb fb) : DE W E (tDGet ta tb) (aOp gDGet fa fb) := fun w s σ σc Q S R h => by
  refine ha w s σ σc _ S R ((post_bind_ok h).mono (fun x s1 h1 w1 v e1 S1 r1 => ?_) fun _ _ _ _ z => z)
  refine hb w1 s1 σ σc _ S1 (R.mono e1) ((post_bind_ok h1).mono (fun y s2 h2 w2 u e2 S2 r2 => ?_) fun _ _ _ _ z => z.mono e1)
  unfold gDGet at h2
  split at h2
  · rename_i i k hk
    split at h2
    · rename_i kvs e
      split at h2
      · rename_i z ez
        obtain ⟨o, k1, k2, k3, k4⟩ := cell_at S2 (r1.mono e2) e
        cases k4 with
        | dic r =>
          obtain ⟨vc, l, rz⟩ := val_rel r z ez
          exact ⟨_, vc, k2, .inl ⟨_, k, .inl k3, key_rel r2 hk, l.symm⟩, h2 w2 _ (e1.trans e2) S2 rz⟩
      · exact (show False from h2).elim
    · exact (show False from h2).elim
  · exact (show False from h2).elim
/-- d[y] = v -/
def setD (x y z : AV) (s : Sto) : Option Sto := match x, toKey y with | .obj i, some k => (match s.c i with | .dic kvs => if kvs.length < sizeLine then some (s.set i (.dic (putKA kvs k z))) else none | _ => none) | _, _ => none
theorem setD_obj {i : Nat} {y z : AV} {k : Key} {kvs : List (Key × AV)} {s : Sto} (e : s.c i = .dic kvs) (hk : toKey y = some k) (h : kvs.length < sizeLine) : setD (.obj i) y z s = some (s.set i (.dic (putKA kvs k z))) := by
  unfold setD; simp only [hk, e, if_pos h]
theorem setD_ok {w : Wd} {s s' : Sto} {x y z : AV} {v u t : V} (S : Sim W w s) (rx : Rel W w x v) (ry : Rel W w y u) (rz : Rel W w z t) (h : setD x y z s = some s') : ∃ a w', v = .ref a ∧ DPut w.H a u t w'.H ∧ Ext w w' ∧ Sim W w' s' := by
  unfold setD at h
  split at h
  · rename_i i k hk
    split at h
    · rename_i kvs e
      split at h
      · rename_i hl
        cases h
        obtain ⟨o, k1, k2, k3, k4⟩ := cell_at S rx e
        cases k4 with
        | @dic _ gs r =>
          refine ⟨_, { w with H := upd w.H (w.m i) (.dK (putK gs k t)) }, k2, .inl ⟨gs, k, k3, key_rel ry hk, ?_, rfl⟩, .wr S k1, S.wr k1 (.dic (putK_rel rz r))⟩
          rw [← Paired.length r]; exact hl
      · cases h
    · cases h
  · cases h
theorem setL_ok {w : Wd} {s s' : Sto} {x y z : AV} {v u t : V} (S : Sim W w s) (rx : Rel W w x v) (ry : Rel W w y u) (rz : Rel W w z t) (h : setL x y z s = some s') : ∃ p xs k j w', v = .ref p ∧ u = .int k ∧ w.H p = some (.lst xs) ∧ ixN xs.length k = some j ∧ w'.H = upd w.H p (.lst (xs.set j t)) ∧ Ext w w' ∧ Sim W w' s' := by
  unfold setL at h
  split at h
  · rename_i i k
    cases ry
    split at h
    · rename_i xs e
      split at h
      · rename_i n hn
        cases h
        obtain ⟨vs, i1, i2, i3, i4⟩ := lstO_at S rx e
        exact ⟨_, vs, k, n, { w with H := upd w.H (w.m i) (.lst (vs.set n t)) }, i2, rfl, i3, by rw [← i4.length]; exact hn, rfl, .wr S i1, S.wr i1 (.lst (i4.set rz n))⟩
      · cases h
    · cases h
  · cases h
def aDPut (fd fy fv : AE) : AS := fun σ s => (fv σ s).st σ fun z s1 => (fd σ s1).st σ fun x s2 => (fy σ s2).st σ fun y s3 => oNx σ (setD x y z s3)
theorem DS.dput {td ty tv : TE} {fd fy fv : AE} (hd : DE W E td fd) (hy : DE W E ty fy) (hv : DE W E tv fv) : DS W E (sDPut td ty tv) (aDPut fd fy fv) := fun w s σ σc D S R h => by
  refine hv w s σ σc _ S R ((exp_post R h).mono (fun z s1 h1 w1 t e1 S1 r1 => ?_) fun _ _ _ _ z => z)
  refine hd w1 s1 σ σc _ S1 (R.mono e1) ((exp_post (R.mono e1) (P.mono e1 h1)).mono (fun x s2 h2 w2 v e2 S2 r2 => ?_) fun _ _ _ _ z => z)
  refine hy w2 s2 σ σc _ S2 ((R.mono e1).mono e2) ((exp_post ((R.mono e1).mono e2) (P.mono e2 h2)).mono (fun y s3 h3 w3 u e3 S3 r3 => ?_) fun _ _ _ _ z => z)
  cases e : setD x y z s3 with
  | none => rw [e] at h3; exact (show False from h3).elim
  | some s4 =>
    rw [e] at h3
    obtain ⟨a, w4, k1, k2, k3, k4⟩ := setD_ok S3 (r2.mono e3) r3 ((r1.mono e2).mono e3) e
    exact ⟨a, w4.H, k1, k2, h3 w4 σc (e3.trans k3) k4 ((((R.mono e1).mono e2).mono e3).mono k3)⟩
/-- a subscript among targets -/
def agSub (st : AV → AV → AV → Sto → Option Sto) (fo fi : AE) : AV → AS := fun z σ s => match (fo σ s).bind fun x s1 => (fi σ s1).bind fun y s2 => (match st x y z s2 with | some s3 => .ok .non s3 | none => .stuck : Res AV) with | .ok _ s3 => .nx σ s3 | _ => .stuck
theorem agSub_eq {st : AV → AV → AV → Sto → Option Sto} {fo fi : AE} {x y z : AV} {σ : ASt} {s s1 s2 s3 : Sto} (h1 : fo σ s = .ok x s1) (h2 : fi σ s1 = .ok y s2) (h3 : st x y z s2 = some s3) : agSub st fo fi z σ s = .nx σ s3 := by
  unfold agSub; simp only [h1, Res.bind_ok, h2, h3]
theorem Goes.sub {st : AV → AV → AV → Sto → Option Sto} {fo fi : AE} : Goes (agSub st fo fi) := fun z σ s => by
  unfold agSub
  split
  · exact .inl ⟨_, _, rfl⟩
  · exact .inr rfl
theorem DG.sub {tset : TSet} {st : AV → AV → AV → Sto → Option Sto} {to ti : TE} {fo fi : AE} (hs : ∀ (w : Wd) (s s' : Sto) (x y z : AV) (v u t : V) (G : Hp → Prop), Sim W w s → Rel W w x v → Rel W w y u → Rel W w z t → st x y z s = some s' → (∀ w', Ext w w' → Sim W w' s' → G w'.H) → tset v u t w.H G)
    (ho : DE W (fun _ _ _ _ => False) to fo) (hi : DE W (fun _ _ _ _ => False) ti fi) : DG W (gSub to ti tset) (agSub st fo fi) := fun w s σ σc z t Q S R r h => by
  have h : (match (fo σ s).bind fun x s1 => (fi σ s1).bind fun y s2 => (match st x y z s2 with | some s3 => .ok .non s3 | none => .stuck : Res AV) with | .ok _ s3 => .nx σ s3 | _ => .stuck : SRes).P W w _ _ := h
  cases e0 : fo σ s with
  | err => rw [e0] at h; exact (show False from h).elim
  | stuck => rw [e0] at h; exact (show False from h).elim
  | ok x s1 =>
    rw [e0] at h
    refine ho w s σ σc _ S R ?_
    rw [e0]
    intro w1 v e1 S1 r1
    simp only [Res.bind_ok] at h
    cases e2 : fi σ s1 with
    | err => rw [e2] at h; exact (show False from h).elim
    | stuck => rw [e2] at h; exact (show False from h).elim
    | ok y s2 =>
      rw [e2] at h
      refine hi w1 s1 σ σc _ S1 (R.mono e1) ?_
      rw [e2]
      intro w2 u e3 S2 r2
      simp only [Res.bind_ok] at h
      cases e4 : st x y z s2 with
      | none => rw [e4] at h; exact (show False from h).elim
      | some s3 =>
        rw [e4] at h
        exact hs w2 s2 s3 x y z v u t _ S2 (r1.mono e3) r2 ((r.mono e1).mono e3) e4 fun w' e' S' => h w' σc ((e1.trans e3).trans e') S' (((R.mono e1).mono e3).mono e')
theorem DG.subD {to ti : TE} {fo fi : AE} (ho : DE W (fun _ _ _ _ => False) to fo) (hi : DE W (fun _ _ _ _ => False) ti fi) : DG W (gSub to ti rSetD) (agSub setD fo fi) := DG.sub (fun w s s' x y z v u t G S rx ry rz e h => by
  obtain ⟨a, w', k1, k2, k3, k4⟩ := setD_ok S rx ry rz e
  exact ⟨a, w'.H, k1, k2, h w' k3 k4⟩) ho hi
theorem DG.subL {to ti : TE} {fo fi : AE} (ho : DE W (fun _ _ _ _ => False) to fo) (hi : DE W (fun _ _ _ _ => False) ti fi) : DG W (gSub to ti rSetL) (agSub setL fo fi) := DG.sub (fun w s s' x y z v u t G S rx ry rz e h => by
  obtain ⟨p, xs, k, j, w', k1, k2, k3, k4, k5, k6, k7⟩ := setL_ok S rx ry rz e
  refine ⟨p, xs, k, j, k1, k2, k3, k4, ?_⟩
  rw [← k5]; exact h w' k6 k7) ho hi
/-- {} and {k: v, ..} -/
def newD (kvs : List (Key × AV)) (s : Sto) : Res AV := .ok (.obj s.n) (s.new (.dic kvs))
def aDNew : AE := fun _ s => newD [] s
def aPairs : List (AE × AE) → ASt → Sto → Res (List (AV × AV))
  | [], _, s => .ok [] s
  | (fk, fv) :: r, σ, s => (fk σ s).bind fun x s1 => (fv σ s1).bind fun y s2 => (aPairs r σ s2).bind fun ps s3 => .ok ((x, y) :: ps) s3
def keysA : List (AV × AV) → Option (List (Key × AV))
  | [] => some []
  | (x, y) :: r => match toKey x, keysA r with | some k, some ks => some ((k, y) :: ks) | _, _ => none
def mergeA (kvs more : List (Key × AV)) : List (Key × AV) := more.foldl (fun acc kv => putKA acc kv.1 kv.2) kvs
def aDisp (fs : List (AE × AE)) : AE := fun σ s => (aPairs fs σ (s.new (.dic []))).bind fun ps s1 => match s1.c s.n, keysA ps with | .dic [], some kvs => if kvs.length ≤ 15 then .ok (.obj s.n) (s1.set s.n (.dic (mergeA [] kvs))) else .stuck | _, _ => .stuck
inductive DPs (W : Wl) (E : L2.St → XK) : List (TE × TE) → List (AE × AE) → Prop
  | nil : DPs W E [] []
  | cons {tk tv : TE} {fk fv : AE} {ts : List (TE × TE)} {fs : List (AE × AE)} (hk : DE W E tk fk) (hv : DE W E tv fv) (r : DPs W E ts fs) : DPs W E ((tk, tv) :: ts) ((fk, fv) :: fs)
theorem DPs.run {ts : List (TE × TE)} {fs : List (AE × AE)} (d : DPs W E ts fs) : ∀ (w : Wd) (s : Sto) (σ : ASt) (σc : L2.St) (Q : List (V × V) → Hp → Prop), Sim W w s → RSt W w σ σc →
    (aPairs fs σ s).Post (fun ps s' => ∀ w' qs, Ext w w' → Sim W w' s' → Paired (fun (p : AV × AV) (q : V × V) => Rel W w' p.1 q.1 ∧ Rel W w' p.2 q.2) ps qs → Q qs w'.H) (ErrP W w (E σc)) → tPairs ts σc w.H Q := by
  induction d with
  | nil => exact fun w s σ σc Q S R h => h w [] (.refl w) S .nil
  | @cons tk tv fk fv ts fs hk hv r ih =>
    intro w s σ σc Q S R h
    refine hk w s σ σc _ S R ((post_bind_ok h).mono (fun x s1 h1 w1 v e1 S1 r1 => ?_) fun _ _ _ _ z => z)
    refine hv w1 s1 σ σc _ S1 (R.mono e1) ((post_bind_ok h1).mono (fun y s2 h2 w2 u e2 S2 r2 => ?_) fun _ _ _ _ z => z.mono e1)
    refine ih w2 s2 σ σc _ S2 ((R.mono e1).mono e2) ((post_bind_ok h2).mono (fun ps s3 h3 w3 qs e3 S3 r3 => ?_) fun _ _ _ _ z => (z.mono e1).mono e2)
    exact h3 w3 _ ((e1.trans e2).trans e3) S3 (.cons ⟨(r1.mono e2).mono e3, r2.mono e3⟩ r3)
theorem keys_rel {w : Wd} : ∀ {ps : List (AV × AV)} {qs : List (V × V)} {kvs : List (Key × AV)}, Paired (fun (p : AV × AV) (q : V × V) => Rel W w p.1 q.1 ∧ Rel W w p.2 q.2) ps qs → keysA ps = some kvs → ∃ gs : List (Key × V), qs = gs.map (fun kv => (kV kv.1, kv.2)) ∧ RelK W w kvs gs
  | _, _, _, .nil, e => by cases e; exact ⟨[], rfl, .nil⟩
  | (x, y) :: r, (v, u) :: r', _, .cons h t, e => by
    unfold keysA at e
    split at e
    · rename_i k ks e1 e2
      cases e
      obtain ⟨gs, h1, h2⟩ := keys_rel t e2
      refine ⟨(k, u) :: gs, ?_, .cons ⟨rfl, h.2⟩ h2⟩
      rw [List.map_cons, ← h1]
      rw [show v = kV k from key_rel h.1 e1]
    · cases e
theorem merge_rel {w : Wd} : ∀ {more : List (Key × AV)} {moreC : List (Key × V)} {kvs : List (Key × AV)} {gs : List (Key × V)}, RelK W w more moreC → RelK W w kvs gs → RelK W w (mergeA kvs more) (mergeK gs moreC)
  | _, _, _, _, .nil, h => h
  | (k, x) :: r, (k', v) :: r', kvs, gs, .cons h t, h2 => by
    cases (show k = k' from h.1)
    show RelK W w (mergeA (putKA kvs k x) r) (mergeK (putK gs k v) r')
    exact merge_rel t (putK_rel h.2 h2)
theorem DE.disp {ts : List (TE × TE)} {fs : List (AE × AE)} (d : DPs W E ts fs) : DE W E (tDisp ts) (aDisp fs) := fun w s σ σc Q S R h p hp => by
  have g := grow_upd (o := .dK []) hp
  have e0 : Ext w (w.new p (upd w.H p (.dK []))) := .new g
  have S0 : Sim W (w.new p (upd w.H p (.dK []))) (s.new (.dic [])) := S.new hp g upd_same (.dic .nil)
  have r0 : Rel W (w.new p (upd w.H p (.dK []))) (.obj s.n) (.ref p) := Rel.new p _ S.n
  refine d.run (w.new p (upd w.H p (.dK []))) _ σ σc _ S0 (R.mono e0) ((post_bind_ok h).mono (fun ps s1 h1 w1 qs e1 S1 r1 => ?_) fun _ _ _ _ z => z.mono e0)
  split at h1
  · rename_i kvs ec ek
    split at h1
    · rename_i hl
      obtain ⟨gs, q1, q2⟩ := keys_rel r1 ek
      obtain ⟨o, k1, k2, k3, k4⟩ := cell_at S1 (r0.mono e1) ec
      have ep : p = w1.m s.n := by cases k2; rfl
      cases k4 with
      | dic r =>
        cases r
        refine ⟨by rw [ep]; exact k3, gs, q1, by rw [← Paired.length q2]; exact hl, ?_⟩
        have S2 := S1.wr (o := .dK (mergeK [] gs)) k1 (.dic (merge_rel q2 .nil))
        have e2 := Ext.wr (o := .dK (mergeK [] gs)) S1 k1
        have r2 := (r0.mono e1).mono e2
        rw [← ep] at S2 e2
        exact h1 _ _ ((e0.trans e1).trans e2) S2 (by rw [ep] at *; exact r2)
    · exact (show False from h1).elim
  · exact (show False from h1).elim
end
end
end Ab
set_option Elab.async false
set_option linter.all false
set_option maxRecDepth 100000
set_option maxHeartbeats 1000000
namespace Ab
open PySem PySem.Spec PyProof.Rows L2
open Classical
noncomputable section
def ItW (W : Wl) (w0 : Wd) (J : It) (items : List AV) (G : Sto → Prop) : Prop :=
  ∃ (n : Nat) (GC : Hp → Prop) (Y : Nat → Hp → V → Hp → Prop), Walk J n GC Y ∧ n = items.length ∧ (∀ w s, Ext w0 w → Sim W w s → G s → GC w.H) ∧
    ∀ w s i x H', Ext w0 w → Sim W w s → G s → i < n → Y i w.H x H' → ∃ y w', items[i]? = some y ∧ w'.H = H' ∧ Ext w w' ∧ Sim W w' s ∧ Rel W w' y x
abbrev AI := ASt → Sto → Res (List AV × (Sto → Prop))
def DI (W : Wl) (E : L2.St → XK) (wi : TI) (fi : AI) : Prop := ∀ (w : Wd) (s : Sto) (σ : ASt) (σc : L2.St) (R : It → Hp → Prop), Sim W w s → RSt W w σ σc →
  (fi σ s).Post (fun p s' => ∀ w' J, Ext w w' → Sim W w' s' → ItW W w' J p.1 p.2 → R J w'.H) (ErrP W w (E σc)) → wi σc w.H R
/-- x for x in a list, a tuple, a text -/
def signs (z : Str) : List AV := z.cps.toList.map fun c => .str ⟨#[c]⟩
def iterOf (x : AV) (s1 : Sto) : Res (List AV × (Sto → Prop)) := match x with
  | .tup xs => .ok (xs, fun _ => True) s1
  | .scr xs => .ok (xs, fun _ => True) s1
  | .str z => .ok (signs z, fun _ => True) s1
  | _ => match lstOf s1 x with | some xs => .ok (xs, fun s2 => lstOf s2 x = some xs) s1 | none => .stuck
@[simp] theorem iterOf_tup {xs : List AV} {s : Sto} : iterOf (.tup xs) s = .ok (xs, fun _ => True) s := rfl
@[simp] theorem iterOf_scr {xs : List AV} {s : Sto} : iterOf (.scr xs) s = .ok (xs, fun _ => True) s := rfl
@[simp] theorem iterOf_str {z : Str} {s : Sto} : iterOf (.str z) s = .ok (signs z, fun _ => True) s := rfl
def aIter (fa : AE) : AI := fun σ s => (fa σ s).bind iterOf
def iterU (K : PySem.W.Frag) (te : TE) : TI := fun σ H R => iList K te σ H R ∨ iTup K te σ H R ∨ iStr te σ H R
theorem PI.or {X : Cx} {tg e : Expr} {w1 w2 : TI} (h1 : PI X tg e w1) (h2 : PI X tg e w2) : PI X tg e (fun σ H R => w1 σ H R ∨ w2 σ H R) := ⟨fun pins s σ H R I h => h.elim (h1.run pins s σ H R I) (h2.run pins s σ H R I)⟩
theorem itw_list {W : Wl} {w0 : Wd} {s0 : Sto} {x : AV} {a : Addr} {xs : List AV} {vs : List V} (S : Sim W w0 s0) (r : Rel W w0 x (.ref a)) (G : Sto → Prop) (hG : ∀ s, G s → lstOf s x = some xs) : ItW W w0 (Itl W.K a) xs G := by
  refine ⟨xs.length, fun H => ∃ vs, SqL W.K H a vs ∧ vs.length = xs.length, fun i H x H' => H' = H ∧ ∀ ys, SqL W.K H a ys → ys[i]? = some x, ⟨fun i H hi ⟨vs, h1, h2⟩ => ⟨vs, vs[i], h1, by simp⟩, fun H ⟨vs, h1, h2⟩ => ⟨vs, h1, Nat.le_of_eq h2⟩, fun i H x H' hi h y => y⟩, rfl, fun w s e S' g => ?_, fun w s i y H' e S' g hi hy => ?_⟩
  · obtain ⟨a', vs', k1, k2, k3⟩ := lst_at S' (r.mono e) (hG s g)
    cases k1
    exact ⟨vs', k2, k3.length.symm⟩
  · obtain ⟨a', vs', k1, k2, k3⟩ := lst_at S' (r.mono e) (hG s g)
    cases k1
    obtain ⟨rfl, h2⟩ := hy
    obtain ⟨z, z1, z2⟩ := k3.getv i y (h2 vs' k2)
    exact ⟨z, w, z1, rfl, .refl w, S', z2⟩
theorem itw_tup {W : Wl} {w0 : Wd} {a : Addr} {xs : List AV} {vs : List V} (h : SqT W.K w0.H a vs) (r : RelL W w0 xs vs) (G : Sto → Prop) : ItW W w0 (Itt W.K a) xs G := by
  refine ⟨xs.length, fun H => SqT W.K H a vs, fun i H x H' => H' = H ∧ ∀ ys, SqT W.K H a ys → ys[i]? = some x, ⟨fun i H hi h1 => ⟨vs, vs[i]'(by rw [← r.length]; exact hi), h1, by simp⟩, fun H h1 => ⟨vs, h1, Nat.le_of_eq r.length.symm⟩, fun i H x H' hi h y => y⟩, rfl, fun w s e S' g => sqt_ext e h, fun w s i y H' e S' g hi hy => ?_⟩
  obtain ⟨rfl, h2⟩ := hy
  obtain ⟨z, z1, z2⟩ := (r.mono e).getv i y (h2 vs (sqt_ext e h))
  exact ⟨z, w, z1, rfl, .refl w, S', z2⟩
theorem itw_str {W : Wl} {w0 : Wd} {z : Str} (G : Sto → Prop) : ItW W w0 (Its z) (signs z) G := by
  refine ⟨z.cps.size, fun _ => True, _, walk_str, by simp [signs], fun _ _ _ _ _ => trivial, fun w s i y H' e S' g hi hy => ?_⟩
  obtain ⟨rfl, c, h2, rfl⟩ := hy
  refine ⟨.str ⟨#[c]⟩, w, ?_, rfl, .refl w, S', .str _⟩
  unfold signs
  rw [List.getElem?_map, Array.getElem?_toList, h2]
  rfl
section
variable {W : Wl} {E : L2.St → XK} {ta tb : TE} {fa fb : AE} {tr : TA} {fr : AA} {t : TT} {ft : AT} {ts : TS} {fs : AS} {tg : TG} {g : AV → AS} {wi : TI} {fi : AI}
theorem DI.iter (ha : DE W E ta fa) : DI W E (iterU W.K ta) (aIter fa) := fun w s σ σc R S Rs h => by
  cases e : fa σ s with
  | stuck =>
    have : aIter fa σ s = .stuck := by unfold aIter; rw [e]; rfl
    rw [this] at h; exact h.elim
  | err c ns vs s1 =>
    have : aIter fa σ s = .err c ns vs s1 := by unfold aIter; rw [e]; rfl
    rw [this] at h
    exact .inl (ha w s σ σc _ S Rs (by rw [e]; exact h))
  | ok x s1 =>
    have e1 : aIter fa σ s = iterOf x s1 := by unfold aIter; rw [e]; rfl
    rw [e1] at h
    unfold iterOf at h
    split at h
    · refine .inr (.inl (ha w s σ σc _ S Rs ?_))
      rw [e]
      intro w1 v x1 S1 r1
      cases r1 with
      | @tup a _ vs k1 k2 => exact ⟨a, rfl, ⟨vs, k1⟩, h w1 _ x1 S1 (itw_tup k1 k2 _)⟩
    · refine .inl (ha w s σ σc _ S Rs ?_)
      rw [e]
      intro w1 v x1 S1 r1
      cases r1 with
      | @scr a _ vs k1 k2 => exact ⟨a, rfl, ⟨vs, k1.sql⟩, h w1 _ x1 S1 (itw_list (vs := vs) S1 (.scr k1 k2) _ fun _ _ => rfl)⟩
    · refine .inr (.inr (ha w s σ σc _ S Rs ?_))
      rw [e]
      intro w1 v x1 S1 r1
      cases r1 with
      | str => exact ⟨_, rfl, h w1 _ x1 S1 (itw_str _)⟩
    · split at h
      · rename_i xs el
        refine .inl (ha w s σ σc _ S Rs ?_)
        rw [e]
        intro w1 v x1 S1 r1
        obtain ⟨a, vs, rfl, k2, k3⟩ := lst_at S1 r1 el
        exact ⟨a, rfl, ⟨vs, k2⟩, h w1 _ x1 S1 (itw_list (vs := vs) S1 r1 _ fun _ z => z)⟩
      · exact h.elim
/-- ranges -/
def rngA (lo : Int) (n : Nat) : List AV := (List.range n).map fun i => .int (lo + (i : Nat))
def aRng1 (fr : AA) : AI := fun σ s => (fr σ s).bind fun xs s1 => match xs with | [.int j] => if -(2 ^ 62) ≤ j ∧ j < 2 ^ 62 then .ok (rngA 0 j.toNat, fun _ => True) s1 else .stuck | _ => .stuck
def aRng2 (fr : AA) : AI := fun σ s => (fr σ s).bind fun xs s1 => match xs with | [.int i, .int j] => if -(2 ^ 62) ≤ i ∧ i < 2 ^ 62 ∧ -(2 ^ 62) ≤ j ∧ j < 2 ^ 62 then .ok (rngA i (j - i).toNat, fun _ => True) s1 else .stuck | _ => .stuck
theorem itw_rng {w0 : Wd} {lo : Int} {n : Nat} (G : Sto → Prop) : ItW W w0 (Itr lo n) (rngA lo n) G := by
  refine ⟨n, fun _ => True, _, walk_range, by simp [rngA], fun _ _ _ _ _ => trivial, fun w s i y H' e S' g hi hy => ?_⟩
  obtain ⟨rfl, rfl⟩ := hy
  refine ⟨.int (lo + i), w, ?_, rfl, .refl w, S', .int _⟩
  unfold rngA
  rw [List.getElem?_map, List.getElem?_range hi]
  rfl
theorem DI.rng1 (ha : DA W E tr fr) : DI W E (iRng1 tr) (aRng1 fr) := fun w s σ σc R S Rs h => by
  refine ha w s σ σc _ S Rs ((post_bind_ok h).mono (fun xs s1 h1 w1 vs e1 S1 r1 => ?_) fun _ _ _ _ z => z)
  split at h1
  · split at h1
    · rename_i hl
      cases r1 with
      | cons r1 r2 =>
        cases r1; cases r2
        exact ⟨_, rfl, hl.1, hl.2, h1 w1 _ e1 S1 (itw_rng _)⟩
    · exact (show False from h1).elim
  · exact (show False from h1).elim
/-- enumerate -/
def enumA (xs : List AV) : List AV := xs.mapIdx fun i x => .tup [.int (i : Nat), x]
def aEnum (fr : AA) : AI := fun σ s => (fr σ s).bind fun xs s1 => match xs with | [x] => (match lstOf s1 x with | some ys => .ok (enumA ys, fun s2 => lstOf s2 x = some ys) s1 | none => .stuck) | _ => .stuck
theorem DI.enum (ha : DA W E tr fr) : DI W E (iEnum W.K tr) (aEnum fr) := fun w s σ σc R S Rs h => by
  refine ha w s σ σc _ S Rs ((post_bind_ok h).mono (fun xs s1 h1 w1 vs e1 S1 r1 => ?_) fun _ _ _ _ z => z)
  split at h1
  · rename_i x
    split at h1
    · rename_i ys el
      cases r1 with
      | cons r1 r2 =>
        cases r2
        obtain ⟨a, us, rfl, k2, k3⟩ := lst_at S1 r1 el
        refine ⟨a, us, rfl, k2, h1 w1 _ e1 S1 ?_⟩
        refine ⟨ys.length, fun H => ∃ vs, SqL W.K H a vs ∧ vs.length = ys.length, fun i H v H' => ∃ T x, v = .ref T ∧ H T = none ∧ H' = upd H T (.tup [.int (i : Nat), x]) ∧ ∀ xs, SqL W.K H a xs → xs[i]? = some x, ⟨fun i H hi ⟨vs, h1, h2⟩ => ⟨vs, vs[i], h1, by simp⟩, fun H ⟨vs, h1, h2⟩ => ⟨vs, h1, Nat.le_of_eq h2⟩, fun i H x H' hi h y => y⟩, by simp [enumA], fun w s e S' g => ?_, fun w s i y H' e S' g hi hy => ?_⟩
        · obtain ⟨a', vs', z1, z2, z3⟩ := lst_at S' (r1.mono e) g
          cases z1
          exact ⟨vs', z2, z3.length.symm⟩
        · obtain ⟨a', vs', z1, z2, z3⟩ := lst_at S' (r1.mono e) g
          cases z1
          obtain ⟨T, u, rfl, hT, rfl, h2⟩ := hy
          obtain ⟨z, y1, y2⟩ := z3.getv i u (h2 vs' z2)
          have gr := grow_upd (o := .tup [.int (i : Nat), u]) hT
          refine ⟨.tup [.int (i : Nat), z], _, ?_, rfl, .grow gr, S'.grow gr, .tup (.inl (.inl upd_same)) (.cons (.int _) (.cons (y2.mono (.grow gr)) .nil))⟩
          unfold enumA
          rw [List.getElem?_mapIdx, y1]
          rfl
    · exact (show False from h1).elim
  · exact (show False from h1).elim
/-- zip of two lists, or of two tuples -/
def zipA (xs ys : List AV) : List AV := (xs.zip ys).map fun p => .tup [p.1, p.2]
def aZip (fr : AA) : AI := fun σ s => (fr σ s).bind fun xs s1 => match xs with
  | [.tup a, .tup b] => .ok (zipA a b, fun _ => True) s1
  | [x, y] => (match lstOf s1 x, lstOf s1 y with | some a, some b => .ok (zipA a b, fun s2 => lstOf s2 x = some a ∧ lstOf s2 y = some b) s1 | _, _ => .stuck)
  | _ => .stuck
theorem zip_get {xs ys : List AV} {i : Nat} {x y : AV} (h1 : xs[i]? = some x) (h2 : ys[i]? = some y) : (zipA xs ys)[i]? = some (.tup [x, y]) := by
  unfold zipA
  rw [List.getElem?_map, show (xs.zip ys)[i]? = some (x, y) from List.getElem?_zip_eq_some.mpr ⟨h1, h2⟩]
  rfl
theorem DI.zip (ha : DA W E tr fr) : DI W E (RZ.iZipA W.K tr) (aZip fr) := fun w s σ σc R S Rs h => by
  refine ha w s σ σc _ S Rs ((post_bind_ok h).mono (fun xs s1 h1 w1 vs e1 S1 r1 => ?_) fun _ _ _ _ z => z)
  split at h1
  · rename_i xa xb
    cases r1 with
    | cons r1 r2 =>
      cases r2 with
      | cons r2 r3 =>
        cases r3
        cases r1 with
        | @tup a _ vs a1 a2 =>
          cases r2 with
          | @tup b _ us b1 b2 =>
            refine ⟨a, b, vs, us, rfl, .inr ⟨a1, b1, h1 w1 _ e1 S1 ?_⟩⟩
            refine ⟨min vs.length us.length, fun H => SqT W.K H a vs ∧ SqT W.K H b us, YPair (fun i => vs[i]?) (fun i => us[i]?), ?_, ?_, fun w s e S' g => ⟨sqt_ext e a1, sqt_ext e b1⟩, fun w s i y H' e S' g hi hy => ?_⟩
            · refine ⟨fun i _ hi q => ?_, fun _ q => ⟨vs, us, q.1, q.2, by omega⟩, fun i H v H' _ q y => ?_⟩
              · have h1 : i < vs.length := by omega
                have h2 : i < us.length := by omega
                exact ⟨vs, us, vs[i], us[i], q.1, q.2, by simp [h1], by simp [h2]⟩
              · obtain ⟨T, x, z, h1, h2, h3, h4, h5⟩ := y
                exact ⟨T, x, z, h1, h2, h3, h4 vs q.1, h5 us q.2⟩
            · simp [zipA, a2.length, b2.length]
            · obtain ⟨T, x, z, rfl, hT, rfl, h4, h5⟩ := hy
              obtain ⟨x', x1, x2⟩ := (a2.mono e).getv i x h4
              obtain ⟨y', y1, y2⟩ := (b2.mono e).getv i z h5
              have gr := grow_upd (o := .tup [x, z]) hT
              exact ⟨.tup [x', y'], _, zip_get x1 y1, rfl, .grow gr, S'.grow gr, .tup (.inl (.inl upd_same)) (.cons (x2.mono (.grow gr)) (.cons (y2.mono (.grow gr)) .nil))⟩
  · rename_i x y _
    split at h1
    · rename_i xa xb ea eb
      cases r1 with
      | cons r1 r2 =>
        cases r2 with
        | cons r2 r3 =>
          cases r3
          obtain ⟨a, vs, rfl, a2, a3⟩ := lst_at S1 r1 ea
          obtain ⟨b, us, rfl, b2, b3⟩ := lst_at S1 r2 eb
          refine ⟨a, b, vs, us, rfl, .inl ⟨a2, b2, h1 w1 _ e1 S1 ?_⟩⟩
          refine ⟨min xa.length xb.length, fun H => (∃ vs, SqL W.K H a vs ∧ vs.length = xa.length) ∧ ∃ us, SqL W.K H b us ∧ us.length = xb.length, fun i H v H' => ∃ T x y, v = .ref T ∧ H T = none ∧ H' = upd H T (.tup [x, y]) ∧ (∀ xs, SqL W.K H a xs → xs[i]? = some x) ∧ ∀ ys, SqL W.K H b ys → ys[i]? = some y, ?_, ?_, fun w s e S' g => ?_, fun w s i y H' e S' g hi hy => ?_⟩
          · refine ⟨fun i _ hi ⟨⟨vs, q1, q2⟩, us, q3, q4⟩ => ?_, fun _ ⟨⟨vs, q1, q2⟩, us, q3, q4⟩ => ⟨vs, us, q1, q3, by omega⟩, fun i H v H' _ q y => y⟩
            have h1 : i < vs.length := by omega
            have h2 : i < us.length := by omega
            exact ⟨vs, us, vs[i], us[i], q1, q3, by simp [h1], by simp [h2]⟩
          · simp [zipA]
          · obtain ⟨a', vs', z1, z2, z3⟩ := lst_at S' (r1.mono e) g.1
            obtain ⟨b', us', y1, y2, y3⟩ := lst_at S' (r2.mono e) g.2
            cases z1; cases y1
            exact ⟨⟨vs', z2, z3.length.symm⟩, us', y2, y3.length.symm⟩
          · obtain ⟨a', vs', z1, z2, z3⟩ := lst_at S' (r1.mono e) g.1
            obtain ⟨b', us', y1, y2, y3⟩ := lst_at S' (r2.mono e) g.2
            cases z1; cases y1
            obtain ⟨T, x, z, rfl, hT, rfl, h4, h5⟩ := hy
            obtain ⟨x', x1, x2⟩ := z3.getv i x (h4 vs' z2)
            obtain ⟨y', q1, q2⟩ := y3.getv i z (h5 us' y2)
            have gr := grow_upd (o := .tup [x, z]) hT
            exact ⟨.tup [x', y'], _, zip_get x1 q1, rfl, .grow gr, S'.grow gr, .tup (.inl (.inl upd_same)) (.cons (x2.mono (.grow gr)) (.cons (q2.mono (.grow gr)) .nil))⟩
    · exact (show False from h1).elim
  · exact (show False from h1).elim
def SRes.loop : SRes → AS → SRes
  | .nx σ s, k => k σ s
  | .ct σ s, k => k σ s
  | .bk σ s, _ => .nx σ s
  | .rt v s, _ => .rt v s
  | .err c ns vs σ s, _ => .err c ns vs σ s
  | .stuck, _ => .stuck
@[simp] theorem SRes.loop_nx {σ : ASt} {s : Sto} {f : AS} : (SRes.nx σ s).loop f = f σ s := rfl
@[simp] theorem SRes.loop_ct {σ : ASt} {s : Sto} {f : AS} : (SRes.ct σ s).loop f = f σ s := rfl
@[simp] theorem SRes.loop_bk {σ : ASt} {s : Sto} {f : AS} : (SRes.bk σ s).loop f = .nx σ s := rfl
@[simp] theorem SRes.loop_rt {v : AV} {s : Sto} {f : AS} : (SRes.rt v s).loop f = .rt v s := rfl
@[simp] theorem SRes.loop_err {c : String} {ns : List Str} {vs : List AV} {σ : ASt} {s : Sto} {f : AS} : (SRes.err c ns vs σ s).loop f = .err c ns vs σ s := rfl
@[simp] theorem SRes.loop_stuck {f : AS} : SRes.stuck.loop f = .stuck := rfl
theorem P_loop {r : SRes} {k : AS} {w : Wd} {D : Ends} (h : (r.loop k).P W w D E) (N : L2.St → Hp → Prop) (hN : ∀ w' σ σc s, Ext w w' → Sim W w' s → RSt W w' σ σc → (k σ s).P W w D E → N σc w'.H) : r.P W w { D with nx := N, ct := N, bk := D.nx } E := by
  cases r with
  | nx σ s => exact fun w' σc e S R => hN w' σ σc s e S R h
  | ct σ s => exact fun w' σc e S R => hN w' σ σc s e S R h
  | bk σ s => exact h
  | rt v s => exact h
  | err c ns vs σ s => exact h
  | stuck => exact h
def forI (G : Sto → Prop) (g : AV → AS) (b : AS) : List AV → AS
  | [] => fun σ s => if G s then .nx σ s else .stuck
  | x :: r => fun σ s => if G s then (aSeq (g x) b σ s).loop (forI G g b r) else .stuck
theorem forI_nil {G : Sto → Prop} {g : AV → AS} {b : AS} {σ : ASt} {s : Sto} (h : G s) : forI G g b [] σ s = .nx σ s := if_pos h
theorem forI_cons {G : Sto → Prop} {g : AV → AS} {b : AS} {x : AV} {r : List AV} {σ : ASt} {s : Sto} (h : G s) : forI G g b (x :: r) σ s = (aSeq (g x) b σ s).loop (forI G g b r) := if_pos h
def aFor (fi : AI) (g : AV → AS) (b : AS) : AS := fun σ s => (fi σ s).st σ fun p s1 => forI p.2 g b p.1 σ s1
theorem goes_nx {r : SRes} {w : Wd} {D : Ends} {k : AS} (h : (r.thn k).P W w D E) (g : (∃ σ' s', r = .nx σ' s') ∨ r = .stuck) (Q : L2.St → Hp → Prop) (hQ : ∀ w' σ σc s, Ext w w' → Sim W w' s → RSt W w' σ σc → (k σ s).P W w' D E → Q σc w'.H) : r.P W w ⟨Q, fun _ _ => False, fun _ _ => False, fun _ _ => False⟩ (fun _ _ _ _ => False) := by
  rcases g with ⟨σ', s', rfl⟩ | rfl
  · exact fun w' σc e S R => hQ w' σ' σc s' e S R (P.mono e h)
  · exact h
theorem DS.forS (hi : DI W E wi fi) (hg : DG W tg g) (hn : Goes g) (hb : DS W E ts fs) : DS W E (tFor wi tg ts) (aFor fi g fs) := fun w s σ σc D S R h => by
  refine hi w s σ σc _ S R ((exp_post R h).mono (fun p s1 h1 w1 J e1 S1 it => ?_) fun _ _ _ _ z => z)
  obtain ⟨items, G⟩ := p
  obtain ⟨n, GC, Y, wk, hn', hG, hY⟩ := it
  simp only at hn' hG hY h1
  refine for_it wk (fun i σc H => ∃ w' s' σ', H = w'.H ∧ Ext w1 w' ∧ Sim W w' s' ∧ RSt W w' σ' σc ∧ (forI G g fs (items.drop i) σ' s').P W w' D E) ⟨w1, s1, σ, rfl, .refl w1, S1, R.mono e1, by rw [List.drop_zero]; exact P.mono e1 h1⟩ ?_ ?_ ?_
  · rintro i σc' H hi ⟨w', s', σ', rfl, e', S', R', h'⟩
    refine hG w' s' e' S' ?_
    refine Classical.byContradiction fun ng => ?_
    cases hd : items.drop i with
    | nil => rw [hd] at h'; exact (show False from by unfold forI at h'; rw [if_neg ng] at h'; exact h')
    | cons x r => rw [hd] at h'; exact (show False from by unfold forI at h'; rw [if_neg ng] at h'; exact h')
  · rintro i x σc' H H' hi ⟨w', s', σ', rfl, e', S', R', h'⟩ hy
    have hg' : G s' := Classical.byContradiction fun ng => by
      cases hd : items.drop i with
      | nil => rw [hd] at h'; exact (show False from by unfold forI at h'; rw [if_neg ng] at h'; exact h')
      | cons x r => rw [hd] at h'; exact (show False from by unfold forI at h'; rw [if_neg ng] at h'; exact h')
    obtain ⟨y, w2, q1, rfl, e2, S2, r2⟩ := hY w' s' i x H' e' S' hg' hi hy
    have hd : items.drop i = y :: items.drop (i + 1) := by
      obtain ⟨hlt, q⟩ := List.getElem?_eq_some_iff.mp q1
      rw [List.drop_eq_getElem_cons hlt, q]
    rw [hd, forI_cons hg'] at h'
    have R2 := R'.mono e2
    refine hg w2 s' σ' σc' y x _ S2 R2 r2 ?_
    have h2 := P.mono e2 h'
    have h3 := P_loop h2 (fun σc H => ∃ w3 s3 σ3, H = w3.H ∧ Ext w1 w3 ∧ Sim W w3 s3 ∧ RSt W w3 σ3 σc ∧ (forI G g fs (items.drop (i + 1)) σ3 s3).P W w3 D E) (fun w3 σ3 σc3 s3 e3 S3 R3 k3 => ⟨w3, s3, σ3, rfl, (e'.trans e2).trans e3, S3, R3, P.mono e3 k3⟩)
    exact goes_nx h3 (hn y σ' s') _ fun w3 σ3 σc3 s3 e3 S3 R3 k3 => hb w3 s3 σ3 σc3 _ S3 R3 k3
  · rintro σc' H ⟨w', s', σ', rfl, e', S', R', h'⟩
    rw [hn', List.drop_length] at h'
    unfold forI at h'
    split at h'
    · exact h' w' σc' (.refl w') S' R'
    · exact (show False from h').elim
def whileN (c : AT) (b : AS) : Nat → AS
  | 0 => fun _ _ => .stuck
  | k + 1 => fun σ s => (c σ s).st σ fun r s1 => if r = true then (b σ s1).loop (whileN c b k) else .nx σ s1
def aWhile (c : AT) (b : AS) : AS := fun σ s => if h : ∃ k, whileN c b k σ s ≠ .stuck then whileN c b (Classical.choose h) σ s else .stuck
theorem loop_mono {r : SRes} {k1 k2 : AS} (h : ∀ σ s, k1 σ s ≠ .stuck → k2 σ s = k1 σ s) (n : r.loop k1 ≠ .stuck) : r.loop k2 = r.loop k1 := by
  cases r with
  | nx σ s => exact h σ s n
  | ct σ s => exact h σ s n
  | _ => rfl
theorem whileN_succ {c : AT} {b : AS} : ∀ (k : Nat) (σ : ASt) (s : Sto), whileN c b k σ s ≠ .stuck → whileN c b (k + 1) σ s = whileN c b k σ s
  | 0, σ, s, h => absurd rfl h
  | k + 1, σ, s, h => by
    have h' : (c σ s).st σ (fun r s1 => if r = true then (b σ s1).loop (whileN c b k) else .nx σ s1) ≠ .stuck := h
    show (c σ s).st σ (fun r s1 => if r = true then (b σ s1).loop (whileN c b (k + 1)) else .nx σ s1) = (c σ s).st σ (fun r s1 => if r = true then (b σ s1).loop (whileN c b k) else .nx σ s1)
    cases e : c σ s with
    | ok r s1 =>
      rw [e] at h'
      simp only [Res.st_ok] at h' ⊢
      cases r with
      | true =>
        simp only [if_pos] at h' ⊢
        exact loop_mono (whileN_succ k) h'
      | false => rfl
    | err => rfl
    | stuck => rfl
theorem DS.whileS (hc : DT W E t ft) (hb : DS W E ts fs) : DS W E (tWhile t ts) (aWhile ft fs) := fun w s σ σc D S R h => by
  unfold aWhile at h
  split at h
  · rename_i hex
    refine ⟨fun m σc H => ∃ w' s' σ', H = w'.H ∧ Ext w w' ∧ Sim W w' s' ∧ RSt W w' σ' σc ∧ (whileN ft fs m σ' s').P W w' D E, ⟨_, w, s, σ, rfl, .refl w, S, R, h⟩, ?_⟩
    rintro m σc' H ⟨w', s', σ', rfl, e', S', R', h'⟩
    cases m with
    | zero => exact (show False from h').elim
    | succ m =>
      have h' : ((ft σ' s').st σ' fun r s1 => if r = true then (fs σ' s1).loop (whileN ft fs m) else .nx σ' s1).P W w' D E := h'
      refine hc w' s' σ' σc' _ S' R' ((exp_post R' h').mono (fun b s1 hb1 w1 e1 S1 => ?_) fun _ _ _ _ z => z)
      cases b with
      | false => exact iteF ((show (SRes.nx σ' s1).P W w' D E from by simpa using hb1) w1 σc' e1 S1 (R'.mono e1))
      | true =>
        refine iteT ⟨fun σc H => ∃ w3 s3 σ3, H = w3.H ∧ Ext w w3 ∧ Sim W w3 s3 ∧ RSt W w3 σ3 σc ∧ (whileN ft fs m σ3 s3).P W w3 D E, fun σ2 H2 z => ⟨m, Nat.lt_succ_self m, z⟩, ?_⟩
        have h2 : ((fs σ' s1).loop (whileN ft fs m)).P W w1 D E := P.mono e1 (by simpa using hb1)
        exact hb w1 s1 σ' σc' _ S1 (R'.mono e1) (P_loop h2 _ fun w3 σ3 σc3 s3 e3 S3 R3 k3 => ⟨w3, s3, σ3, rfl, (e'.trans e1).trans e3, S3, R3, P.mono e3 k3⟩)
  · exact h.elim
end
end
end Ab
set_option Elab.async false
set_option linter.all false
set_option maxRecDepth 100000
set_option maxHeartbeats 1000000
namespace Ab
open PySem PySem.Spec PyProof.Rows L2
open Classical
noncomputable section
theorem wipe_get (σ : L2.St) (j : Nat) : ∀ vs : List Nat, (wipe σ vs)[j]? = if j ∈ vs ∧ j < σ.length then some none else σ[j]?
  | [] => by simp [wipe]
  | v :: vs => by
    have ih := wipe_get σ j vs
    have hl := wipe_length σ vs
    show ((wipe σ vs).set v none)[j]? = _
    rw [List.getElem?_set, hl, ih]
    by_cases hv : v = j
    · subst hv
      by_cases hj : v < σ.length
      · simp [hj]
      · simp [hj]
    · have : (j ∈ v :: vs) = (j ∈ vs) := by
        simp only [List.mem_cons, eq_iff_iff]
        exact ⟨fun z => z.elim (fun z => absurd z.symm hv) id, .inr⟩
      simp only [if_neg hv, this]
theorem wipe_set {σ : L2.St} {i : Nat} {x : Option V} {vs : List Nat} (h : i ∈ vs) : wipe (σ.set i x) vs = wipe σ vs := by
  refine List.ext_getElem? fun j => ?_
  rw [wipe_get, wipe_get, List.length_set, List.getElem?_set]
  by_cases hij : i = j
  · subst hij
    by_cases hl : i < σ.length
    · simp [h, hl]
    · simp [hl]
  · simp [hij]
theorem wipe_wipe {σ : L2.St} {vs : List Nat} : wipe (wipe σ vs) vs = wipe σ vs := by
  refine List.ext_getElem? fun j => ?_
  rw [wipe_get, wipe_length]
  by_cases h : j ∈ vs ∧ j < σ.length
  · rw [if_pos h, wipe_get, if_pos h]
  · rw [if_neg h]
/-- a target that stores in these slots alone -/
def WT (tg : TG) (vs : List Nat) : Prop := ∀ v σ H (Q Q' : L2.St → Hp → Prop), (∀ σ2 H2, wipe σ2 vs = wipe σ vs → Q σ2 H2 → Q' σ2 H2) → tg v σ H Q → tg v σ H Q'
def WTs (tg : TGs) (vs : List Nat) : Prop := ∀ v σ H (Q Q' : L2.St → Hp → Prop), (∀ σ2 H2, wipe σ2 vs = wipe σ vs → Q σ2 H2 → Q' σ2 H2) → tg v σ H Q → tg v σ H Q'
theorem WT.name {i : Nat} {vs : List Nat} (h : i ∈ vs) : WT (gName i) vs := fun v σ H Q Q' f q => f _ _ (wipe_set h) q
theorem WTs.nil {vs : List Nat} : WTs gNil vs := fun v σ H Q Q' f q => ⟨q.1, f _ _ rfl q.2⟩
theorem WTs.cons {t : TG} {u : TGs} {vs : List Nat} (h1 : WT t vs) (h2 : WTs u vs) : WTs (gCons t u) vs := fun v σ H Q Q' f q => by
  obtain ⟨x, r, e, q⟩ := q
  exact ⟨x, r, e, h1 x σ H _ _ (fun σ2 H2 e2 q2 => h2 r σ2 H2 Q Q' (fun σ3 H3 e3 q3 => f σ3 H3 (e3.trans e2) q3) q2) q⟩
theorem WT.tup {K : PySem.W.Frag} {n : Nat} {u : TGs} {vs : List Nat} (h : WTs u vs) : WT (gTup K n u) vs := fun v σ H Q Q' f q => by
  obtain ⟨a, xs, e, h1, h2, q⟩ := q
  exact ⟨a, xs, e, h1, h2, h xs σ H Q Q' f q⟩
def aYes : AT := fun _ s => .ok true s
theorem DT.yes {W : Wl} {E : L2.St → XK} : DT W E tYes aYes := fun w s σ σc Q S R h => h w (.refl w) S
def lcI (k : Nat) (G : Sto → Prop) (g : AV → AS) (ft : AT) (fe : AE) (σ0 : ASt) : List AV → Sto → Option Sto
  | [] => fun s => if G s then some s else none
  | x :: r => fun s => if G s then (match g x σ0 s with
    | .nx σ2 s2 => (match ft σ2 s2 with
      | .ok true s3 => (match fe σ2 s3 with
        | .ok y s4 => (match s4.c k with | .lst acc => if acc.length < sizeLine then lcI k G g ft fe σ0 r (s4.set k (.lst (acc ++ [y]))) else none | _ => none)
        | _ => none)
      | .ok false s3 => lcI k G g ft fe σ0 r s3
      | _ => none)
    | _ => none) else none
def oObj (k : Nat) : Option Sto → Res AV
  | some s => .ok (.obj k) s
  | none => .stuck
@[simp] theorem oObj_some {k : Nat} {s : Sto} : oObj k (some s) = .ok (.obj k) s := rfl
def aLc (fi : AI) (g : AV → AS) (ft : AT) (fe : AE) (vs : List Nat) : AE := fun σ s => (fi σ s).bind fun p s1 => oObj s1.n (lcI s1.n p.2 g ft fe (wipeA σ vs) p.1 (s1.new (.lst [])))
section
variable {W : Wl} {E : L2.St → XK} {ta tb te : TE} {fa fb fe : AE} {tr : TA} {fr : AA} {t : TT} {ft : AT} {ts : TS} {fs : AS} {tg : TG} {g : AV → AS} {wi : TI} {fi : AI}
theorem lcI_G {k : Nat} {G : Sto → Prop} {σ0 : ASt} {l : List AV} {s s' : Sto} (h : lcI k G g ft fe σ0 l s = some s') : G s := Classical.byContradiction fun ng => by
  cases l with
  | nil => rw [show lcI k G g ft fe σ0 [] s = none from if_neg ng] at h; cases h
  | cons x r =>
    unfold lcI at h
    rw [if_neg ng] at h
    cases h
theorem DE.lc {vs : List Nat} (hi : DI W E wi fi) (hg : DG W tg g) (hn : Goes g) (hw : WT tg vs) (ht : DT W (fun _ _ _ _ => False) t ft) (he : DE W (fun _ _ _ _ => False) te fe) : DE W E (tLc wi tg t te vs) (aLc fi g ft fe vs) := fun w s σ σc Q S R h => by
  refine hi w s σ σc _ S R ((post_bind_ok h).mono (fun p s1 h1 w1 J e1 S1 it => ?_) fun _ _ _ _ z => z)
  obtain ⟨items, G⟩ := p
  obtain ⟨n, GC, Y, wk, hn', hG, hY⟩ := it
  simp only at hn' hG hY h1
  cases el : lcI s1.n G g ft fe (wipeA σ vs) items (s1.new (.lst [])) with
  | none => rw [el] at h1; exact (show False from h1).elim
  | some sf =>
    rw [el] at h1
    have h1 : OkP W w Q (.obj s1.n) sf := h1
    intro D hD
    have gr := grow_upd (o := .lst []) hD
    have e2 : Ext w1 (w1.new D (upd w1.H D (.lst []))) := .new gr
    have S2 : Sim W (w1.new D (upd w1.H D (.lst []))) (s1.new (.lst [])) := S1.new hD gr upd_same (.lst .nil)
    have rD : Rel W (w1.new D (upd w1.H D (.lst []))) (.obj s1.n) (.ref D) := Rel.new D _ S1.n
    refine lc_it wk (fun i H => ∃ w' s', H = w'.H ∧ Ext (w1.new D (upd w1.H D (.lst []))) w' ∧ Sim W w' s' ∧ lcI s1.n G g ft fe (wipeA σ vs) (items.drop i) s' = some sf) ⟨_, _, rfl, .refl _, S2, by rw [List.drop_zero]; exact el⟩ ?_ ?_ ?_
    · rintro i H hi ⟨w', s', rfl, e', S', h'⟩
      exact hG w' s' (e2.trans e') S' (lcI_G h')
    · rintro i x H H' hi ⟨w', s', rfl, e', S', h'⟩ hy
      have hg' := lcI_G h'
      obtain ⟨y, w2, q1, rfl, e3, S3, r3⟩ := hY w' s' i x H' (e2.trans e') S' hg' hi hy
      have hd : items.drop i = y :: items.drop (i + 1) := by
        obtain ⟨hlt, q⟩ := List.getElem?_eq_some_iff.mp q1
        rw [List.drop_eq_getElem_cons hlt, q]
      rw [hd] at h'
      unfold lcI at h'
      rw [if_pos hg'] at h'
      have R3 : RSt W w2 (wipeA σ vs) (wipe σc vs) := ((((R.mono e1).mono e2).mono e').mono e3).wipe vs
      refine hw x (wipe σc vs) w2.H _ _ (fun σ2 H2 ew q => ⟨by rw [ew, wipe_wipe], q⟩) (hg w2 s' (wipeA σ vs) (wipe σc vs) y x _ S3 R3 r3 ?_)
      split at h'
      · rename_i σ2 s2 eg
        rw [eg]
        intro w3 σ3c x3 S4 R4
        refine ht w3 s2 σ2 σ3c _ S4 R4 ?_
        split at h'
        · rename_i s3 et
          rw [et]
          intro w4 x4 S5
          refine iteT (he w4 s3 σ2 σ3c _ S5 (R4.mono x4) ?_)
          split at h'
          · rename_i z s4 ee
            rw [ee]
            intro w5 zc x5 S6 r6
            split at h'
            · rename_i acc ec
              split at h'
              · rename_i hl
                have xx := (((e'.trans e3).trans x3).trans x4).trans x5
                obtain ⟨accc, k1, k2, k3, k4⟩ := lstO_at S6 (rD.mono xx) ec
                have ed : D = w5.m s1.n := by cases k2; rfl
                refine ⟨accc, by rw [ed]; exact k3, by rw [← k4.length]; exact hl, ?_⟩
                exact ⟨{ w5 with H := upd w5.H (w5.m s1.n) (.lst (accc ++ [zc])) }, _, by rw [← ed], xx.trans (.wr S6 k1), S6.wr k1 (.lst (k4.append (.cons r6 .nil))), h'⟩
              · cases h'
            · cases h'
          · cases h'
        · rename_i s3 et
          rw [et]
          intro w4 x4 S5
          exact iteF ⟨w4, s3, rfl, ((e'.trans e3).trans x3).trans x4, S5, h'⟩
        · cases h'
      · cases h'
    · rintro H ⟨w', s', rfl, e', S', h'⟩
      rw [hn', List.drop_length] at h'
      have hg' := lcI_G h'
      have : lcI s1.n G g ft fe (wipeA σ vs) [] s' = some s' := if_pos hg'
      rw [this] at h'
      cases h'
      exact h1 w' _ ((e1.trans e2).trans e') S' (rD.mono e')
def bnames : List String := ["NoneType", "bool", "int", "str", "tuple", "list", "dict"]
def cvl (W : Wl) (n : String) : Value := if n ∈ bnames then .type n else .ref (W.κ n)
structure KitOk (W : Wl) (kit : String → String → Option Bool) : Prop where
  kit : ∀ a b r, (a ∈ bnames ∨ a ∈ W.live ∨ a ∈ W.xlive) → kit a b = some r → PySem.W.kitOne W.K (cvl W a) (cvl W b) = some r
  ins : ∀ c ∈ W.live, c ∉ bnames ∧ C8.InsC W.K (W.κ c)
  exc : ∀ c ∈ W.xlive, c ∉ bnames ∧ ExcC W.K (W.κ c)
def tyN (s : Sto) : AV → Option String
  | .non => some "NoneType"
  | .bl _ => some "bool"
  | .int _ => some "int"
  | .str _ => some "str"
  | .tup _ => some "tuple"
  | .obj i => (match s.c i with | .lst _ => some "list" | .dic _ => some "dict" | .ins c _ => some c)
  | .exn c _ _ => some c
  | _ => none
def clsN : AV → Option String
  | .ty n => some n
  | .cls c => some c
  | _ => none
def clsOk : AV → Bool
  | .ty n => decide (n ∈ bnames)
  | .cls n => decide (n ∉ bnames)
  | _ => false
def gIsi (kit : String → String → Option Bool) : List AV → Sto → Res AV := fun xs s => match xs with
  | [x, c] => (match tyN s x, clsN c with | some a, some b => (match kit a b with | some r => if clsOk c = true then .ok (.bl r) s else .stuck | none => .stuck) | _, _ => .stuck)
  | _ => .stuck
theorem NEL.isi {kit : String → String → Option Bool} : NEL (gIsi kit) := fun x s c ns vs s' h => by 
  unfold gIsi at h
  repeat' split at h
  all_goals first | cases h | (unfold newL at h; cases h)
theorem gIsi_ty {kit : String → String → Option Bool} {x : AV} {a n : String} {r : Bool} {s : Sto} (h1 : tyN s x = some a) (h2 : kit a n = some r) (h3 : n ∈ bnames) : gIsi kit [x, .ty n] s = .ok (.bl r) s := by
  unfold gIsi
  simp only [h1, clsN, h2]
  exact if_pos (decide_eq_true h3)
theorem gIsi_cls {kit : String → String → Option Bool} {x : AV} {a n : String} {r : Bool} {s : Sto} (h1 : tyN s x = some a) (h2 : kit a n = some r) (h3 : n ∉ bnames) : gIsi kit [x, .cls n] s = .ok (.bl r) s := by
  unfold gIsi
  simp only [h1, clsN, h2]
  exact if_pos (decide_eq_true h3)
def rIsiU (K : PySem.W.Frag) : List V → Hp → VK → Prop := fun xs H Q => rIsi K xs H Q ∨ Gx.rIsK K xs H Q
theorem call_isiU {X : Cx} : CallR X (.builtin "isinstance") (rIsiU X.K) := CallR.or call_isi Gx.call_isK
theorem sqt_ty {K : PySem.W.Frag} {H : Hp} {a : Addr} {vs : List V} (h : SqT K H a vs) : TyX K H (.ref a) (.type "tuple") := by
  rcases h with (h | ⟨o, h⟩) | ⟨o, its, n, h1, h2, h3, h4⟩
  · exact .base (.tup h)
  · exact .fTuple h
  · exact .kTuple h1 h2
theorem DB.isi {kit : String → String → Option Bool} (ko : KitOk W kit) : DB W (rIsiU W.K) (gIsi kit) := fun w s xs v Q S r h => by
  unfold gIsi at h
  split at h
  · rename_i x c
    cases r with
    | @cons _ vx _ _ r1 r2 => cases r2 with
      | @cons _ vcl _ _ r2 r3 =>
        cases r3
        split at h
        · rename_i a b ea eb
          split at h
          · rename_i rr ek
            split at h
            · rename_i hc
              have hq := h w (.bl rr) (.refl w) S (.bl _)
              have hcl : ∃ u, ClsV vcl u ∧ u = cvl W b := by
                cases r2 with
                | ty =>
                  cases eb
                  exact ⟨_, .ty _, (if_pos (of_decide_eq_true hc)).symm⟩
                | cls =>
                  cases eb
                  exact ⟨_, .own _, (if_neg (of_decide_eq_true hc)).symm⟩
                | _ => cases hc
              obtain ⟨u, u1, rfl⟩ := hcl
              have base : ∀ {T : Value}, TyX W.K w.H vx T → T = cvl W a → (a ∈ bnames ∨ a ∈ W.live ∨ a ∈ W.xlive) → rIsiU W.K [vx, vcl] w.H Q := fun {T} hT e hm => by
                subst e
                exact .inl ⟨vx, vcl, _, _, rr, rfl, u1, hT, ko.kit a b rr hm ek, hq⟩
              cases r1 with
              | non => cases ea; exact base (.base .non) (if_pos (by decide)).symm (.inl (by decide))
              | bl => cases ea; exact base (.base (.bl _)) (if_pos (by decide)).symm (.inl (by decide))
              | int => cases ea; exact base (.base (.int _)) (if_pos (by decide)).symm (.inl (by decide))
              | str => cases ea; exact base (.base (.str _)) (if_pos (by decide)).symm (.inl (by decide))
              | ty => cases ea
              | cls => cases ea
              | raw => cases ea
              | scr => cases ea
              | tup h1 h2 => cases ea; exact base (sqt_ty h1) (if_pos (by decide)).symm (.inl (by decide))
              | @obj i hi =>
                have ea : (match s.c i with | .lst _ => some "list" | .dic _ => some "dict" | .ins c _ => some c : Option String) = some a := ea
                cases ec : s.c i with
                | lst xs =>
                  rw [ec] at ea
                  cases ea
                  obtain ⟨vs, k1, k2, k3, k4⟩ := lstO_at S (.obj hi) ec
                  exact base (.base (.lst k3)) (if_pos (by decide)).symm (.inl (by decide))
                | dic kvs =>
                  rw [ec] at ea
                  cases ea
                  obtain ⟨o, k1, k2, k3, k4⟩ := cell_at S (.obj hi) ec
                  cases k4
                  exact base (.base (.dK k3)) (if_pos (by decide)).symm (.inl (by decide))
                | ins c fs =>
                  rw [ec] at ea
                  cases ea
                  obtain ⟨o, k1, k2, k3, k4⟩ := cell_at S (.obj hi) ec
                  cases k4 with
                  | ins hl rf =>
                    obtain ⟨n1, ic⟩ := ko.ins _ hl
                    exact base (.base (.ins k3 ic.cl ic.ha ic.hn ic.htk ic.hm)) (if_neg n1).symm (.inr (.inl hl))
              | @exn _ ax d ns xs vs hl hx hd hln rv =>
                cases ea
                obtain ⟨n1, ec⟩ := ko.exc _ hl
                refine .inr ⟨ax, _, d, _, vcl, _, rr, rfl, ec, hx, hd, fun u hu => u1.eq hu, ?_, hq⟩
                have := ko.kit _ b rr (.inr (.inr hl)) ek
                rw [show cvl W _ = .ref (W.κ _) from if_neg n1] at this
                exact this
            · exact h.elim
          · exact h.elim
        · exact h.elim
  · exact h.elim
def gBits (x : AV) (s : Sto) : Res AV := match x with | .int i => .ok (.int (Builtin.Int.intBits i : Nat)) s | _ => .stuck
@[simp] theorem gBits_int {i : Int} {s : Sto} : gBits (.int i) s = .ok (.int (Builtin.Int.intBits i : Nat)) s := rfl
/-- raise C(v) -/
def raiseK (c : String) (fl : Str) (σ : ASt) : List AV → Sto → SRes
  | [v], s => .err c [fl] [v] σ s
  | _, _ => .stuck
def aRaise (c : String) (fl : Str) (fr : AA) : AS := fun σ s => (fr σ s).st σ (raiseK c fl σ)
theorem DS.raise {c : String} {fl : Str} {Wx : WX} (hc : c ∈ W.xlive) (ha : DA W (fun σ cls d H => Wx cls d σ H) tr fr) : DS W (fun σ cls d H => Wx cls d σ H) (fun _ σ H => tMkO (W.κ c) (Gx.spExc (W.κ c) fl) [] tr σ H fun cls d H' => Wx cls d σ H') (aRaise c fl fr) := fun w s σ σc D S R h => by
  refine ha w s σ σc _ S R ((exp_post R h).mono (fun xs s1 h1 w1 vs e1 S1 r1 => ?_) fun _ _ _ _ z => z)
  match xs, vs, r1, h1 with
  | [x], [v], .cons rx .nil, h1 =>
    refine Gx.mkO (C := W.κ c) (fl := fl) (v := v) (H := w1.H) (Q := fun cls d H' => Wx cls d σc H') fun d H' hd ex k => ?_
    exact h1 { w1 with H := H' } σc d (e1.trans (.grow ex)) (S1.grow ex) ((R.mono e1).mono (.grow ex)) ⟨hc, [v], k, rfl, .cons (rx.mono (.grow ex)) .nil⟩
/-- what is caught -/
abbrev HdA := (String → Option Bool) × Option Nat × AS
def SRes.clr (i : Nat) : SRes → SRes
  | .nx σ s => .nx (σ.set i none) s
  | .bk σ s => .bk (σ.set i none) s
  | .ct σ s => .ct (σ.set i none) s
  | .rt v s => .rt v s
  | _ => .stuck
@[simp] theorem SRes.clr_nx {i : Nat} {σ : ASt} {s : Sto} : (SRes.nx σ s).clr i = .nx (σ.set i none) s := rfl
@[simp] theorem SRes.clr_rt {i : Nat} {v : AV} {s : Sto} : (SRes.rt v s).clr i = .rt v s := rfl
def SRes.noX : SRes → SRes
  | .err _ _ _ _ _ => .stuck
  | r => r
@[simp] theorem SRes.noX_nx {σ : ASt} {s : Sto} : (SRes.nx σ s).noX = .nx σ s := rfl
@[simp] theorem SRes.noX_rt {v : AV} {s : Sto} : (SRes.rt v s).noX = .rt v s := rfl
def aHand (c : String) (ns : List Str) (vs : List AV) (σ : ASt) (s : Sto) : List HdA → SRes
  | [] => .err c ns vs σ s
  | (m, none, f) :: r => (match m c with | some true => (f σ s).noX | some false => aHand c ns vs σ s r | none => .stuck)
  | (m, some i, f) :: r => (match m c with | some true => (f (σ.set i (some (.exn c ns vs))) s).clr i | some false => aHand c ns vs σ s r | none => .stuck)
def aTry (f : AS) (hs : List HdA) : AS := fun σ s => match f σ s with | .err c ns vs σ' s' => aHand c ns vs σ' s' hs | r => r
/-- an error forgets the slots -/
def SRes.forget (n : Nat) : SRes → SRes
  | .err c ns vs _ s => .err c ns vs (List.replicate n none) s
  | r => r
@[simp] theorem SRes.forget_nx {n : Nat} {σ : ASt} {s : Sto} : (SRes.nx σ s).forget n = .nx σ s := rfl
@[simp] theorem SRes.forget_rt {n : Nat} {v : AV} {s : Sto} : (SRes.rt v s).forget n = .rt v s := rfl
@[simp] theorem SRes.forget_err {n : Nat} {c : String} {ns : List Str} {vs : List AV} {σ : ASt} {s : Sto} : (SRes.err c ns vs σ s).forget n = .err c ns vs (List.replicate n none) s := rfl
def aForget (n : Nat) (f : AS) : AS := fun σ s => (f σ s).forget n
theorem rst_none {w : Wd} : ∀ (σc : L2.St), RSt W w (List.replicate σc.length none) σc
  | [] => .nil
  | _ :: σc => .cons trivial (rst_none σc)
theorem DS.forget {n : Nat} {Wx : WX} (h : DS W (fun _ cls d H => ∀ σ : L2.St, σ.length = n → Wx cls d σ H) ts fs) : DS W (fun σ cls d H => Wx cls d σ H) ts (aForget n fs) := fun w s σ σc D S R z => by
  refine h w s σ σc D S R ?_
  have z : ((fs σ s).forget n).P W w D _ := z
  cases e : fs σ s with
  | err c ns vs σ' s' =>
    rw [e] at z
    exact fun w' σc' d e' S' R' x σ2 hl => z w' σ2 d e' S' (by rw [← hl]; exact rst_none σ2) x
  | nx σ' s' => rw [e] at z; exact z
  | rt v s' => rw [e] at z; exact z
  | bk σ' s' => rw [e] at z; exact z
  | ct σ' s' => rw [e] at z; exact z
  | stuck => rw [e] at z; exact z
end
/-- a world that has grown out of one -/
abbrev Wl.at (W : Wl) (w0 : Wd) : Wl := { toWc := W.toWc, inv := fun w => Ext w0 w, cl := fun _ _ e h => h.trans e }
theorem Sim.at {W : Wl} {w : Wd} {s : Sto} (S : Sim W w s) : Sim (W.at w) w s := ⟨S.n, S.inj, S.cell, S.tab, .refl w⟩
theorem KitOk.at {W : Wl} {w0 : Wd} {kit : String → String → Option Bool} (k : KitOk W kit) : KitOk (W.at w0) kit := ⟨k.kit, k.ins, k.exc⟩
theorem relL_ints {W : Wc} {w : Wd} : ∀ ns : List Int, RelL W w (ns.map .int) (ns.map V.int)
  | [] => .nil
  | n :: ns => .cons (.int n) (relL_ints ns)
/-- the law is run -/
def s0 : Sto := ⟨0, fun _ => .lst []⟩
theorem law_run {W : Wl} {N : List Str} {k : Nat} {f : AS} {ts : TS} {H : Hp} {a : Addr} {ns : List Int} {Q : VK} (hinv : ∀ w, W.inv w) (hS : SqF W.K H a (ns.map V.int)) (hT : LamX.Tabs W.T H) (hlaw : ∃ s', aDef k f [.scr (ns.map .int)] s0 = .ok (.bl true) s') (hk : 1 + k = N.length)
    (hs : DS W (fun _ _ _ _ => False) ts f) (hQ : ∀ H', Q (.bl true) H') : ts { nx := fun _ H' => Q .non H', rt := Q } (L2.start N [.ref a]) H := by
  obtain ⟨s', e⟩ := hlaw
  refine DS.dfn (k := k) (n := 1) (Ek := fun _ _ _ => False) ⟨⟨fun _ => 0, 0, H⟩, s0, [.scr (ns.map .int)], rfl, ⟨rfl, fun i j hi => absurd hi (Nat.not_lt_zero i), fun i hi => absurd hi (Nat.not_lt_zero i), hT, hinv _⟩, .cons (.scr hS ?_) .nil, rfl, ?_⟩ hk hs
  · exact relL_ints ns
  · rw [e]
    intro w' vc e' S' r
    cases r
    exact hQ _
end
end Ab
set_option Elab.async false
set_option linter.all false
set_option maxRecDepth 100000
set_option maxHeartbeats 1000000
namespace Ab
open PySem PySem.Spec PyProof.Rows L2
open Classical
noncomputable section
/-- a class's bases, itself first -/
def anc : String → List String
  | "Counter" => ["Counter", "Source"]
  | "Draws" => ["Draws"]
  | "PooledDraws" => ["PooledDraws", "Draws"]
  | "DrawError" => ["DrawError", "ValueError", "Exception"]
  | "BadWord" => ["BadWord", "DrawError", "ValueError", "Exception"]
  | "BadState" => ["BadState", "DrawError", "ValueError", "Exception"]
  | "BadSteps" => ["BadSteps", "DrawError", "ValueError", "Exception"]
  | "BadSeed" => ["BadSeed", "DrawError", "ValueError", "Exception"]
  | "BadNumber" => ["BadNumber", "DrawError", "ValueError", "Exception"]
  | "BadThings" => ["BadThings", "DrawError", "ValueError", "Exception"]
  | "BadSource" => ["BadSource", "DrawError", "ValueError", "Exception"]
  | "BadPolynomial" => ["BadPolynomial", "DrawError", "ValueError", "Exception"]
  | "BadDegree" => ["BadDegree", "DrawError", "ValueError", "Exception"]
  | "BadBits" => ["BadBits", "DrawError", "ValueError", "Exception"]
  | "BadRank" => ["BadRank", "DrawError", "ValueError", "Exception"]
  | "BadStep" => ["BadStep", "DrawError", "ValueError", "Exception"]
  | "BadSplit" => ["BadSplit", "DrawError", "ValueError", "Exception"]
  | "BadTape" => ["BadTape", "DrawError", "ValueError", "Exception"]
  | "BadRange" => ["BadRange", "DrawError", "ValueError", "Exception"]
  | "BadRow" => ["BadRow", "DrawError", "ValueError", "Exception"]
  | "BadWeights" => ["BadWeights", "DrawError", "ValueError", "Exception"]
  | "BadOrder" => ["BadOrder", "DrawError", "ValueError", "Exception"]
  | "BadText" => ["BadText", "DrawError", "ValueError", "Exception"]
  | "Shortage" => ["Shortage", "LookupError"]
  | "Exhausted" => ["Exhausted", "Shortage", "LookupError"]
  | "NoRow" => ["NoRow", "Shortage", "LookupError"]
  | "NoStream" => ["NoStream", "Shortage", "LookupError"]
  | "NothingToUndo" => ["NothingToUndo", "Shortage", "LookupError"]
  | "RunError" => ["RunError", "RuntimeError"]
  | "TooLong" => ["TooLong", "RunError", "RuntimeError"]
  | "Unsteady" => ["Unsteady", "RunError", "RuntimeError"]
  | "Aside" => ["Aside"]
  | "Leaping" => ["Leaping", "Source"]
  | "Linear" => ["Linear", "Source"]
  | "Order" => ["Order"]
  | "Reservoir" => ["Reservoir"]
  | "Session" => ["Session"]
  | "Source" => ["Source"]
  | "Scripted" => ["Scripted", "Source"]
  | "Streams" => ["Streams"]
  | "Recording" => ["Recording", "Source"]
  | "Twisted" => ["Twisted", "Source"]
  | "Table" => ["Table"]
  | "Urn" => ["Urn"]
  | "bool" => ["bool", "int"]
  | c => [c]
def xnames : List String := ["ValueError", "LookupError", "RuntimeError", "Exception", "BaseException", "KeyError", "IndexError", "TypeError"]
def kitP (a b : String) : Option Bool := if a ∈ bnames ∧ b ∈ xnames then none else some (decide (b ∈ anc a))
def kitB (b : String) : String → String → Option Bool := fun a b' => if b' = b then kitP a b' else none
theorem kitB_self {a b : String} : kitB b a b = kitP a b := if_pos rfl
theorem kitE {a b : String} {t : Bool} {va vb : Value} {W : Wl} (h : kitP a b = some t) (ha : cvl W a = va) (hb : cvl W b = vb) (f : PySem.W.kitOne W.K va vb = some t) : ∀ r, kitP a b = some r → PySem.W.kitOne W.K (cvl W a) (cvl W b) = some r := fun r e => by
  rw [h] at e
  cases e
  rw [ha, hb]
  exact f
theorem kitOk_of {W : Wl} {b : String} (h1 : All (fun a => ∀ r, kitP a b = some r → PySem.W.kitOne W.K (cvl W a) (cvl W b) = some r) bnames) (h2 : All (fun a => ∀ r, kitP a b = some r → PySem.W.kitOne W.K (cvl W a) (cvl W b) = some r) W.live) (h3 : All (fun a => ∀ r, kitP a b = some r → PySem.W.kitOne W.K (cvl W a) (cvl W b) = some r) W.xlive)
    (hi : All (fun c => c ∉ bnames ∧ C8.InsC W.K (W.κ c)) W.live) (hx : All (fun c => c ∉ bnames ∧ ExcC W.K (W.κ c)) W.xlive) : KitOk W (kitB b) where
  kit := fun a b' r hm e => by
    unfold kitB at e
    split at e
    · rename_i hb
      subst hb
      rcases hm with hm | hm | hm
      · exact h1.at a hm r e
      · exact h2.at a hm r e
      · exact h3.at a hm r e
    · cases e
  ins := fun c hc => hi.at c hc
  exc := fun c hc => hx.at c hc
def okIs (c : String) : Res AV → Prop
  | .ok x s => isI s x c = true
  | _ => False
def tyB (s : Sto) : AV → Option String
  | .non => some "NoneType"
  | .bl _ => some "bool"
  | .int _ => some "int"
  | .str _ => some "str"
  | .tup _ => some "tuple"
  | .obj i => (match s.c i with | .lst _ => some "list" | .dic _ => some "dict" | .ins _ _ => none)
  | _ => none
def isObj : AV → Bool
  | .obj _ => true
  | _ => false
def ownK : AV → Sto → Res AV := fun v s => if isObj v = true then .ok v s else .stuck
@[simp] theorem ownK_obj {i : Nat} {s : Sto} : ownK (.obj i) s = .ok (.obj i) s := rfl
def gOwn (c : String) (ts : List String) (F : List AV → Sto → Res AV) (x y : AV) (s : Sto) : Res AV := if isI s x c = true then (match tyB s y with | some t => if t ∈ ts then (F [x, y] s).bind ownK else .stuck | none => .stuck) else .stuck
def aOwn (c : String) (ts : List String) (n : Nat) (F : List AV → Sto → Res AV) (fa fb : AE) : AE := fun σ s => (fa σ s).bind fun x s1 => (fb σ s1).bind fun y s2 => gOwn c ts F x y s2
theorem tyB_rel {W : Wl} {w : Wd} {s : Sto} {x : AV} {v : V} {t : String} (S : Sim W w s) (r : Rel W w x v) (h : tyB s x = some t) : TyX W.K w.H v (.type t) := by
  cases r with
  | non => cases h; exact .base .non
  | bl => cases h; exact .base (.bl _)
  | int => cases h; exact .base (.int _)
  | str => cases h; exact .base (.str _)
  | ty => cases h
  | cls => cases h
  | raw => cases h
  | scr => cases h
  | exn => cases h
  | tup h1 h2 => cases h; exact sqt_ty h1
  | @obj i hi =>
    have h : (match s.c i with | .lst _ => some "list" | .dic _ => some "dict" | .ins _ _ => none : Option String) = some t := h
    cases ec : s.c i with
    | lst xs =>
      rw [ec] at h
      cases h
      obtain ⟨vs, k1, k2, k3, k4⟩ := lstO_at S (.obj hi) ec
      exact .base (.lst k3)
    | dic kvs =>
      rw [ec] at h
      cases h
      obtain ⟨o, k1, k2, k3, k4⟩ := cell_at S (.obj hi) ec
      cases k4
      exact .base (.dK k3)
    | ins c fs => rw [ec] at h; cases h
theorem DE.own {W : Wl} {Ek : XK} {ta tb : TE} {fa fb : AE} {c : String} {nm : String} {ts : List String} {F : List AV → Sto → Res AV} {k : Nat} (ht : All (fun t => Gx.OwnT W.K (W.κ c) nm t) ts) (ha : DE W (fun _ => Ek) ta fa) (hb : DE W (fun _ => Ek) tb fb) :
    DE W (fun _ => Ek) (tOp (Gx.rOwnX W.K (W.κ c) nm (spF W 2 F) Ek) ta tb) (aOwn c ts k F fa fb) := fun w s σ σc Q S R h => by
  refine ha w s σ σc _ S R ((post_bind_ok h).mono (fun x s1 h1 w1 v e1 S1 r1 => ?_) fun _ _ _ _ z => z)
  refine hb w1 s1 σ σc _ S1 (R.mono e1) ((post_bind_ok h1).mono (fun y s2 h2 w2 u e2 S2 r2 => ?_) fun _ _ _ _ z => z.mono e1)
  unfold gOwn at h2
  split at h2
  · rename_i hi
    split at h2
    · rename_i t et
      split at h2
      · rename_i htm
        have hx : ∃ fs, insAt s2 x = some (c, fs) := by
          unfold isI at hi
          split at hi
          · rename_i d fs e
            cases of_decide_eq_true hi
            exact ⟨fs, e⟩
          · cases hi
        obtain ⟨fs, hx⟩ := hx
        obtain ⟨i, dx, gs, rfl, k2, rfl, k3, k4, k5⟩ := ins_at S2 (r1.mono e2) hx
        refine ⟨_, dx, gs, t, rfl, tyB_rel S2 r2 et, ht.at t htm, k3, w2, s2, [.obj i, y], rfl, S2, (.cons (r1.mono e2) (.cons r2 .nil)), rfl, ?_⟩
        refine (post_bind_ok h2).mono (fun v' s3 h3 w3 vc e3 S3 r3 => ?_) fun _ _ _ _ z => (z.mono e1).mono e2
        unfold ownK at h3
        split at h3
        · rename_i ho
          cases r3 with
          | obj hj => exact ⟨⟨_, rfl⟩, h3 w3 _ ((e1.trans e2).trans e3) S3 (.obj hj)⟩
          | _ => cases ho
        · exact (show False from h3).elim
      · exact (show False from h2).elim
    · exact (show False from h2).elim
  · exact (show False from h2).elim
/-- a property's promise: no error -/
theorem spF_noErr {W : Wl} {n : Nat} {F : List AV → Sto → Res AV} {vs : List V} {H : Hp} {Q : VK} {E E' : XK} (h : spF W n (fun xs s => noErr (F xs s)) vs H Q E) : spF W n F vs H Q E' := by
  obtain ⟨w, s, args, e, S, R, hn, p⟩ := h
  exact ⟨w, s, args, e, S, R, hn, noErr_post p⟩
end
end Ab
set_option Elab.async false
set_option linter.all false
set_option maxRecDepth 100000
set_option maxHeartbeats 1000000
namespace Ab
open PySem PySem.Spec PyProof.Rows L2
open Classical
mutual
def Cl (n : Nat) : AV → Prop
  | .obj i => i < n
  | .tup xs => ClL n xs
  | .scr xs => ClL n xs
  | .exn _ _ xs => ClL n xs
  | _ => True
def ClL (n : Nat) : List AV → Prop
  | [] => True
  | x :: xs => Cl n x ∧ ClL n xs
end
@[simp] theorem Cl_non {n : Nat} : Cl n .non = True := by simp only [Cl]
@[simp] theorem Cl_bl {n : Nat} {b : Bool} : Cl n (.bl b) = True := by simp only [Cl]
@[simp] theorem Cl_int {n : Nat} {b : Int} : Cl n (.int b) = True := by simp only [Cl]
@[simp] theorem Cl_str {n : Nat} {b : Str} : Cl n (.str b) = True := by simp only [Cl]
@[simp] theorem Cl_cls {n : Nat} {b : String} : Cl n (.cls b) = True := by simp only [Cl]
@[simp] theorem Cl_obj {n i : Nat} : Cl n (.obj i) = (i < n) := by simp only [Cl]
@[simp] theorem Cl_tup {n : Nat} {xs : List AV} : Cl n (.tup xs) = ClL n xs := by simp only [Cl]
@[simp] theorem ClL_nil {n : Nat} : ClL n [] = True := by simp only [ClL]
@[simp] theorem ClL_cons {n : Nat} {x : AV} {xs : List AV} : ClL n (x :: xs) = (Cl n x ∧ ClL n xs) := by simp only [ClL]
theorem ClL_all {n : Nat} : ∀ {xs : List AV}, ClL n xs ↔ ∀ x ∈ xs, Cl n x
  | [] => by simp
  | x :: xs => by simp [ClL_all (xs := xs)]
def ClC (n : Nat) : Cell → Prop
  | .lst xs => ClL n xs
  | .ins _ fs => ∀ p ∈ fs, Cl n p.2
  | .dic kvs => ∀ p ∈ kvs, Cl n p.2
section
variable {W : Wc} {w : Wd}
mutual
theorem Rel.cl {W : Wc} {w : Wd} : ∀ {x : AV} {v : V}, Rel W w x v → Cl w.n x
  | _, _, .non => by simp
  | _, _, .bl b => by simp
  | _, _, .int i => by simp
  | _, _, .str s => by simp
  | _, _, .ty n => by simp only [Cl]
  | _, _, .cls c => by simp
  | _, _, .raw a => by simp only [Cl]
  | _, _, .obj h => by simp only [Cl]; exact h
  | _, _, .tup h r => by simp only [Cl]; exact RelL.cl r
  | _, _, .scr h r => by simp only [Cl]; exact RelL.cl r
  | _, _, .exn hc h hd hl r => by simp only [Cl]; exact RelL.cl r
theorem RelL.cl {W : Wc} {w : Wd} : ∀ {x : List AV} {v : List V}, RelL W w x v → ClL w.n x
  | _, _, .nil => by simp
  | _, _, .cons h r => by simp only [ClL]; exact ⟨Rel.cl h, RelL.cl r⟩
end
mutual
theorem Rel.cut {W : Wc} {w : Wd} {n : Nat} : ∀ {x : AV} {v : V}, Rel W w x v → Cl n x → Rel W { w with n := n } x v
  | _, _, .non, _ => .non
  | _, _, .bl b, _ => .bl b
  | _, _, .int i, _ => .int i
  | _, _, .str s, _ => .str s
  | _, _, .ty n, _ => .ty n
  | _, _, .cls c, _ => .cls c
  | _, _, .raw a, _ => .raw a
  | _, _, .obj h, c => .obj (w := { w with n := n }) (by simp only [Cl] at c; exact c)
  | _, _, .tup h r, c => .tup h (RelL.cut r (by simp only [Cl] at c; exact c))
  | _, _, .scr h r, c => .scr h (RelL.cut r (by simp only [Cl] at c; exact c))
  | _, _, .exn hc h hd hl r, c => .exn hc h hd hl (RelL.cut r (by simp only [Cl] at c; exact c))
theorem RelL.cut {W : Wc} {w : Wd} {n : Nat} : ∀ {x : List AV} {v : List V}, RelL W w x v → ClL n x → RelL W { w with n := n } x v
  | _, _, .nil, _ => .nil
  | _, _, .cons h r, c => .cons (Rel.cut h (by simp only [ClL] at c; exact c.1)) (RelL.cut r (by simp only [ClL] at c; exact c.2))
end
theorem RelF.cl : ∀ {fs : List (Str × AV)} {gs : List (Str × V)}, RelF W w fs gs → ∀ p ∈ fs, Cl w.n p.2
  | _, _, .nil, p, h => by cases h
  | _, _, .cons h r, p, hp => by
    rcases List.mem_cons.mp hp with rfl | hp
    · exact h.2.cl
    · exact RelF.cl r p hp
theorem RelK.cl : ∀ {fs : List (Key × AV)} {gs : List (Key × V)}, RelK W w fs gs → ∀ p ∈ fs, Cl w.n p.2
  | _, _, .nil, p, h => by cases h
  | _, _, .cons h r, p, hp => by
    rcases List.mem_cons.mp hp with rfl | hp
    · exact h.2.cl
    · exact RelK.cl r p hp
theorem RelF.cut {n : Nat} : ∀ {fs : List (Str × AV)} {gs : List (Str × V)}, RelF W w fs gs → (∀ p ∈ fs, Cl n p.2) → RelF W { w with n := n } fs gs
  | _, _, .nil, _ => .nil
  | _, _, .cons h r, c => .cons ⟨h.1, h.2.cut (c _ List.mem_cons_self)⟩ (RelF.cut r fun p hp => c p (List.mem_cons_of_mem _ hp))
theorem RelK.cut {n : Nat} : ∀ {fs : List (Key × AV)} {gs : List (Key × V)}, RelK W w fs gs → (∀ p ∈ fs, Cl n p.2) → RelK W { w with n := n } fs gs
  | _, _, .nil, _ => .nil
  | _, _, .cons h r, c => .cons ⟨h.1, h.2.cut (c _ List.mem_cons_self)⟩ (RelK.cut r fun p hp => c p (List.mem_cons_of_mem _ hp))
theorem CRel.cl {c : Cell} {o : HO} (h : CRel W w c o) : ClC w.n c := by
  cases h with
  | lst r => exact r.cl
  | ins hc r => exact RelF.cl r
  | dic r => exact RelK.cl r
theorem CRel.cut {c : Cell} {o : HO} {n : Nat} (h : CRel W w c o) (k : ClC n c) : CRel W { w with n := n } c o := by
  cases h with
  | lst r => exact .lst (r.cut k)
  | ins hc r => exact .ins hc (RelF.cut r k)
  | dic r => exact .dic (RelK.cut r k)
end
/-- what stood is as it was, or names what stood alone -/
def Clean (s s' : Sto) : Prop := s.n ≤ s'.n ∧ ∀ i, i < s.n → s'.c i = s.c i ∨ ClC s.n (s'.c i)
def Sto.cut (s' s : Sto) : Sto := ⟨s.n, fun i => if i < s.n then s'.c i else s.c i⟩
theorem Clean.refl (s : Sto) : Clean s s := ⟨Nat.le_refl _, fun _ _ => .inl rfl⟩
theorem Clean.new {s t : Sto} {x : Cell} (h : Clean s t) : Clean s (t.new x) := ⟨Nat.le_succ_of_le h.1, fun i hi => by
  show (if i = t.n then x else t.c i) = s.c i ∨ ClC s.n (if i = t.n then x else t.c i)
  rw [if_neg (by have := h.1; omega)]
  exact h.2 i hi⟩
theorem Clean.set {s t : Sto} {i : Nat} {x : Cell} (h : Clean s t) (c : s.n ≤ i ∨ ClC s.n x) : Clean s (t.set i x) := ⟨h.1, fun j hj => by
  show (if j = i then x else t.c j) = s.c j ∨ ClC s.n (if j = i then x else t.c j)
  by_cases e : j = i
  · rw [if_pos e]
    rcases c with c | c
    · omega
    · exact .inr c
  · rw [if_neg e]
    exact h.2 j hj⟩
theorem cut_self (s : Sto) : s.cut s = s := by
  unfold Sto.cut
  simp
theorem cut_set_old {s t : Sto} {i : Nat} {x : Cell} (h : i < s.n) : (t.set i x).cut s = (t.cut s).set i x := by
  unfold Sto.cut Sto.set
  simp only [Sto.mk.injEq, true_and]
  funext j
  by_cases e : j = i
  · subst e
    simp [h]
  · simp only [if_neg e]
theorem cut_eq {s t : Sto} (h : ∀ i, i < s.n → t.c i = s.c i) : t.cut s = s := by
  unfold Sto.cut
  cases s with
  | mk n c =>
    simp only [Sto.mk.injEq, true_and]
    funext i
    by_cases hi : i < n
    · simp only [if_pos hi]; exact h i hi
    · simp only [if_neg hi]
noncomputable section
def gcR {α : Type} (cl : Nat → α → Prop) (s : Sto) : Res α → Res α
  | .ok v s' => if cl s.n v ∧ Clean s s' then .ok v (s'.cut s) else .ok v s'
  | .err c ns vs s' => if ClL s.n vs ∧ Clean s s' then .err c ns vs (s'.cut s) else .err c ns vs s'
  | .stuck => .stuck
def gcF (F : List AV → Sto → Res AV) : List AV → Sto → Res AV := fun args s => gcR Cl s (F args s)
def gcB (s : Sto) : Res Bool → Res Bool
  | .ok v s' => if Clean s s' then .ok v (s'.cut s) else .ok v s'
  | .err c ns vs s' => .err c ns vs s'
  | .stuck => .stuck
def gcT (f : AT) : AT := fun σ s => gcB s (f σ s)
theorem gcF_eq {F : List AV → Sto → Res AV} {args : List AV} {s s' : Sto} {v : AV} (h : F args s = .ok v s') (hv : Cl s.n v) (hc : Clean s s') : gcF F args s = .ok v (s'.cut s) := by
  unfold gcF gcR
  rw [h]
  exact if_pos ⟨hv, hc⟩
theorem gcF_raw {F : List AV → Sto → Res AV} {args : List AV} {s s' : Sto} {v : AV} (h : F args s = .ok v s') (hv : ¬ Cl s.n v) : gcF F args s = .ok v s' := by
  unfold gcF gcR
  rw [h]
  exact if_neg fun z => hv z.1
theorem gcT_eq {f : AT} {σ : ASt} {s s' : Sto} {b : Bool} (h : f σ s = .ok b s') (hc : Clean s s') : gcT f σ s = .ok b (s'.cut s) := by
  unfold gcT gcB
  rw [h]
  exact if_pos hc
section
variable {W : Wl}
theorem sim_cut {w w' : Wd} {s s' : Sto} (S : Sim W w s) (e : Ext w w') (S' : Sim W w' s') (hc : Clean s s') : Ext w { w' with n := s.n } ∧ Sim W { w' with n := s.n } (s'.cut s) := by
  have en : Ext w { w' with n := s.n } := ⟨Nat.le_of_eq S.n, e.m, e.im⟩
  refine ⟨en, rfl, fun i j hi hj q => S'.inj i j (Nat.lt_of_lt_of_le hi hc.1) (Nat.lt_of_lt_of_le hj hc.1) q, fun i hi => ?_, S'.tab, W.cl _ _ en S.inv⟩
  have hi : i < s.n := hi
  obtain ⟨o, h1, h2⟩ := S'.cell i (Nat.lt_of_lt_of_le hi hc.1)
  have ec : (s'.cut s).c i = s'.c i := if_pos hi
  refine ⟨o, h1, ?_⟩
  rw [ec]
  refine h2.cut ?_
  rcases hc.2 i hi with h | h
  · rw [h]
    obtain ⟨o', k1, k2⟩ := S.cell i hi
    rw [← S.n]
    exact k2.cl
  · exact h
theorem gc_post {w : Wd} {s : Sto} {r : Res AV} {Q : VK} {E : XK} (S : Sim W w s) (h : (gcR Cl s r).Post (OkP W w Q) (ErrP W w E)) : r.Post (OkP W w Q) (ErrP W w E) := by
  cases r with
  | ok v s' =>
    have h : (if Cl s.n v ∧ Clean s s' then .ok v (s'.cut s) else .ok v s' : Res AV).Post (OkP W w Q) (ErrP W w E) := h
    split at h
    · rename_i hc
      intro w' vc e' S' r'
      obtain ⟨k1, k2⟩ := sim_cut S e' S' hc.2
      exact (show OkP W w Q v (s'.cut s) from h) { w' with n := s.n } vc k1 k2 (r'.cut hc.1)
    · exact h
  | err c ns vs s' =>
    have h : (if ClL s.n vs ∧ Clean s s' then .err c ns vs (s'.cut s) else .err c ns vs s' : Res AV).Post (OkP W w Q) (ErrP W w E) := h
    split at h
    · rename_i hc
      intro w' d e' S' x
      obtain ⟨k1, k2⟩ := sim_cut S e' S' hc.2
      obtain ⟨x1, us, x2, x3, x4⟩ := x
      exact (show ErrP W w E c ns vs (s'.cut s) from h) { w' with n := s.n } d k1 k2 ⟨x1, us, x2, x3, x4.cut hc.1⟩
    · exact h
  | stuck => exact h
theorem spF_gc {n : Nat} {F : List AV → Sto → Res AV} {vs : List V} {H : Hp} {Q : VK} {E : XK} (h : spF W n (gcF F) vs H Q E) : spF W n F vs H Q E := by
  obtain ⟨w, s, args, e, S, R, hn, p⟩ := h
  exact ⟨w, s, args, e, S, R, hn, gc_post S p⟩
theorem DT.gc {E : L2.St → XK} {tt : TT} {f : AT} (h : DT W E tt f) : DT W E tt (gcT f) := fun w s σ σc Q S R p => by
  refine h w s σ σc Q S R ?_
  have p : (gcB s (f σ s)).Post (OkB W w Q) (ErrP W w (E σc)) := p
  cases e : f σ s with
  | ok v s' =>
    rw [e] at p
    have p : (if Clean s s' then .ok v (s'.cut s) else .ok v s' : Res Bool).Post (OkB W w Q) (ErrP W w (E σc)) := p
    split at p
    · rename_i hc
      intro w' e' S'
      obtain ⟨k1, k2⟩ := sim_cut S e' S' hc
      exact (show OkB W w Q v (s'.cut s) from p) { w' with n := s.n } k1 k2
    · exact p
  | err c ns vs s' => rw [e] at p; exact p
  | stuck => rw [e] at p; exact p
end
end
end Ab
set_option Elab.async false
set_option linter.all false
set_option maxRecDepth 100000
set_option maxHeartbeats 1000000
namespace Gx
open PySem PySem.Spec PyProof.Rows L2
/-- isinstance(e, (A, B)), e a kept exception -/
def rIsKT (K : PySem.W.Frag) : List V → Hp → VK → Prop := fun xs H Q => ∃ (a D dd tp : Addr) (fs : List (Str × V)) (cs : List V) (us : List Value) (b : Bool), xs = [.ref a, .ref tp] ∧ ExcC K D ∧ H a = some (xob a (.ref D) (some dd)) ∧ H dd = some (.xd fs) ∧ H tp = some (.tup cs) ∧ Paired ClsV cs us ∧ PySem.W.kitAny K (.ref D) us = some b ∧ Q (.bl b) H
theorem call_isKT {X : Cx} : CallR X (.builtin "isinstance") (rIsKT X.K) := by
  intro pins s σ H xs us Q I r h
  obtain ⟨a, D, dd, tp, fs, cs, ws, b, rfl, G, ha, hd, hT, k, e, q⟩ := h
  obtain ⟨u1, u2, rfl, rx, rt⟩ := vals2 r
  cases (show u1 = Value.ref a from rx)
  cases (show u2 = Value.ref tp from rt)
  obtain ⟨oe, vs, e1, e2, e3, e4⟩ := xob_at I.hok ha
  obtain ⟨mA, ns, _⟩ := (show ObjOk X.prog X.w H s.heap dd (.xd fs) from I.hok dd _ hd)
  obtain ⟨od, ho, _⟩ := lookIn_ns ns
  have J : PySem.W.InstAt s.heap a oe D (some od) := ⟨e1, e2, by unfold PySem.W.notCls; rw [e4] <;> rfl, by rw [e3]; exact ho⟩
  obtain ⟨_, its, rv, o, h1, h2, n, h3⟩ := (show ObjOk X.prog X.w H s.heap tp (.tup cs) from I.hok tp _ hT)
  have e5 := ClsV.all k rv
  subst e5
  obtain ⟨oc, odd, dt, sl⟩ := o
  simp only at h2 h3
  subst h2 h3
  exact PySem.W.kia_tup (kit_exc G) I.kIn J h1 e (fun z => nomatch z) fun tk => ⟨.bl b, H, I.kept (t' := tk) fun _ _ z => z, rfl, q⟩
end Gx
namespace Ab
open PySem PySem.Spec PyProof.Rows L2
open Classical
noncomputable section
def rIsiTU (K : PySem.W.Frag) : List V → Hp → VK → Prop := fun xs H Q => rIsiT K xs H Q ∨ Gx.rIsKT K xs H Q
theorem call_isiTU {X : Cx} : CallR X (.builtin "isinstance") (rIsiTU X.K) := CallR.or call_isiT Gx.call_isKT
inductive CL : List AV → List String → Prop
  | nil : CL [] []
  | ty {n : String} {xs : List AV} {bs : List String} (h : n ∈ bnames) (r : CL xs bs) : CL (.ty n :: xs) (n :: bs)
  | cls {n : String} {xs : List AV} {bs : List String} (h : n ∉ bnames) (r : CL xs bs) : CL (.cls n :: xs) (n :: bs)
def kitAnyP (a : String) : List String → Option Bool
  | [] => some false
  | b :: r => match kitP a b with | some true => some true | some false => kitAnyP a r | none => none
def gIsiT (bs : List String) (x : AV) (s : Sto) : Res AV := match tyN s x with | some a => (match kitAnyP a bs with | some r => .ok (.bl r) s | none => .stuck) | none => .stuck
theorem gIsiT_ok {bs : List String} {x : AV} {s : Sto} {a : String} {r : Bool} (h1 : tyN s x = some a) (h2 : kitAnyP a bs = some r) : gIsiT bs x s = .ok (.bl r) s := by
  unfold gIsiT
  simp only [h1, h2]
theorem kitAny_ok {W : Wl} {a : String} (ha : a ∈ bnames ∨ a ∈ W.live ∨ a ∈ W.xlive) : ∀ {bs : List String} {r : Bool}, All (fun b => KitOk W (kitB b)) bs → kitAnyP a bs = some r → PySem.W.kitAny W.K (cvl W a) (bs.map (cvl W)) = some r
  | [], r, _, e => e
  | b :: bs, r, .cons h t, e => by
    unfold kitAnyP at e
    show (match PySem.W.kitOne W.K (cvl W a) (cvl W b) with | some true => some true | some false => PySem.W.kitAny W.K (cvl W a) (bs.map (cvl W)) | none => none) = some r
    cases k : kitP a b with
    | none => rw [k] at e; cases e
    | some v =>
      rw [k] at e
      rw [h.kit a b v ha (by rw [kitB_self]; exact k)]
      cases v with
      | true => exact e
      | false => exact kitAny_ok ha t e
theorem CL.rel {W : Wl} {w : Wd} : ∀ {xs : List AV} {bs : List String} {vs : List V}, CL xs bs → RelL W w xs vs → Paired ClsV vs (bs.map (cvl W))
  | _, _, _, .nil, .nil => .nil
  | _, _, _, .ty h c, .cons r t => by
    cases r
    refine .cons ?_ (CL.rel c t)
    rw [show cvl W _ = .type _ from if_pos h]
    exact .ty _
  | _, _, _, .cls h c, .cons r t => by
    cases r
    refine .cons ?_ (CL.rel c t)
    rw [show cvl W _ = .ref _ from if_neg h]
    exact .own _
theorem DE.isiT {W : Wl} {E : L2.St → XK} {ta : TE} {fa : AE} {tr : TA} {fr : AA} {xs : List AV} {bs : List String} (c : CL xs bs) (ko : All (fun b => KitOk W (kitB b)) bs) (ks : ∃ b, KitOk W (kitB b)) (ha : DE W E ta fa) (hr : DA W E tr fr) (hx : ∀ σ s, fr σ s = .ok xs s) (hn : xs.length ≤ sizeLine) :
    DE W E (tCB (rIsiTU W.K) (tCons ta (tCons (tTup tr) tNil))) (aUn (gIsiT bs) fa) := fun w s σ σc Q S R h => by
  refine ha w s σ σc _ S R ((post_bind_ok h).mono (fun x s1 h1 w1 v e1 S1 r1 => ?_) fun _ _ _ _ z => z)
  refine hr w1 s1 σ σc _ S1 (R.mono e1) ?_
  rw [hx]
  intro w2 vs e2 S2 r2
  refine ⟨by rw [← r2.length]; exact hn, fun p hp => ?_⟩
  have g := grow_upd (o := .tup vs) hp
  have S3 := S2.grow g
  have r3 := (r1.mono e2).mono (Ext.grow g)
  have c3 := c.rel (r2.mono (Ext.grow g))
  have e3 := (e1.trans e2).trans (Ext.grow g)
  generalize hw : ({ w2 with H := upd w2.H p (.tup vs) } : Wd) = w3 at S3 r3 c3 e3
  have hH : upd w2.H p (.tup vs) = w3.H := by rw [← hw]
  have hT : w3.H p = some (.tup vs) := by rw [← hH]; exact upd_same
  show rIsiTU W.K [v, .ref p] (upd w2.H p (.tup vs)) Q
  rw [hH]
  clear hw hH g hp
  unfold gIsiT at h1
  obtain ⟨b0, ko0⟩ := ks
  split at h1
  · rename_i a ea
    split at h1
    · rename_i rr ek
      have hq := (show OkP W w Q (.bl rr) s1 from h1) w3 (.bl rr) e3 S3 (.bl _)
      have base : ∀ {T : Value}, TyX W.K w3.H v T → T = cvl W a → (a ∈ bnames ∨ a ∈ W.live ∨ a ∈ W.xlive) → rIsiTU W.K [v, .ref p] w3.H Q := fun {T} hT' e hm => by
        subst e
        exact .inl ⟨v, p, vs, _, _, rr, rfl, hT, c3, hT', kitAny_ok hm ko ek, hq⟩
      cases r3 with
      | non => cases ea; exact base (.base .non) (if_pos (by decide)).symm (.inl (by decide))
      | bl => cases ea; exact base (.base (.bl _)) (if_pos (by decide)).symm (.inl (by decide))
      | int => cases ea; exact base (.base (.int _)) (if_pos (by decide)).symm (.inl (by decide))
      | str => cases ea; exact base (.base (.str _)) (if_pos (by decide)).symm (.inl (by decide))
      | ty => cases ea
      | cls => cases ea
      | raw => cases ea
      | scr => cases ea
      | tup h1 h2 => cases ea; exact base (sqt_ty h1) (if_pos (by decide)).symm (.inl (by decide))
      | @obj i hi =>
        have ea : (match s1.c i with | .lst _ => some "list" | .dic _ => some "dict" | .ins c _ => some c : Option String) = some a := ea
        cases ec : s1.c i with
        | lst xs =>
          rw [ec] at ea
          cases ea
          obtain ⟨vs, k1, k2, k3, k4⟩ := lstO_at S3 (.obj hi) ec
          exact base (.base (.lst k3)) (if_pos (by decide)).symm (.inl (by decide))
        | dic kvs =>
          rw [ec] at ea
          cases ea
          obtain ⟨o, k1, k2, k3, k4⟩ := cell_at S3 (.obj hi) ec
          cases k4
          exact base (.base (.dK k3)) (if_pos (by decide)).symm (.inl (by decide))
        | ins c fs =>
          rw [ec] at ea
          cases ea
          obtain ⟨o, k1, k2, k3, k4⟩ := cell_at S3 (.obj hi) ec
          cases k4 with
          | ins hl rf =>
            obtain ⟨n1, ic⟩ := ko0.ins _ hl
            exact base (.base (.ins k3 ic.cl ic.ha ic.hn ic.htk ic.hm)) (if_neg n1).symm (.inr (.inl hl))
      | @exn _ ax d ns xs vs' hl hx' hd hln rv =>
        cases ea
        obtain ⟨n1, ec⟩ := ko0.exc _ hl
        refine .inr ⟨ax, _, d, p, _, vs, _, rr, rfl, ec, hx', hd, hT, c3, ?_, hq⟩
        have := kitAny_ok (.inr (.inr hl)) ko ek
        rw [show cvl W _ = .ref (W.κ _) from if_neg n1] at this
        exact this
    · exact (show False from h1).elim
  · exact (show False from h1).elim
end
end Ab
set_option Elab.async false
set_option linter.all false
set_option maxRecDepth 100000
set_option maxHeartbeats 4000000
namespace Gx
open PySem PySem.Spec PyProof.Rows L2
section
variable {P : Program} {w : World} {K : PySem.W.Frag} {mg mb : Str → Option Value} {k : Nat} {fa a : Addr} {cs : List (Addr × Addr)} {fd : FuncData} {x : Str} {sp : Sp} {t : Shared} {vs : List Value} {ns : List Int}
/-- the abstract heap at the law's call: the script and the tables -/
structure Hp0F (P : Program) (w : World) (K : PySem.W.Frag) (cs : List (Addr × Addr)) (a : Addr) (ns : List Int) (h : Heap) (H : Hp) : Prop where
  tab : ∀ p ∈ cs, H p.2 = some (.tbl #[])
  only : ∀ b, H b = none ∨ b ∈ cs.map (·.2) ∨ ∃ o xs, H b = some (.frz o (.lst xs))
  seq : Ab.SqF K H a (ns.map V.int)
  ok : HOk P w H h
  dom : ∀ b, H b ≠ none → b = a ∨ b ∈ cs.map (·.2)
  scr : H a ≠ none → K.lookup a = none
theorem hp0F (KX : K.In t.heap) (hT : ∀ p ∈ cs, t.heap.get? p.2 = some { cls := .none, data := .fields #[] }) (ha : t.heap.get? a = some { cls := .type "list", data := .seq vs.toArray }) (hi : IntsAre vs ns) (hl : ns.length ≤ sizeLine) :
    ∃ H, Hp0F P w K cs a ns t.heap H := by
  have rv := vals_ints hi
  have isT : ∀ b ∈ cs.map (·.2), t.heap.get? b = some { cls := .none, data := .fields #[] } := fun b hb => by
    obtain ⟨p, hp, rfl⟩ := List.mem_map.mp hb
    exact hT p hp
  have aT : a ∉ cs.map (·.2) := fun z => by
    have q := isT a z
    rw [ha] at q
    cases congrArg Obj.data (Option.some.inj q)
  have mem : ∀ p ∈ cs, p.2 ∈ cs.map (·.2) := fun p hp => List.mem_map.mpr ⟨p, hp, rfl⟩
  cases hk : K.lookup a with
  | some o =>
    have e := KX a o hk
    rw [ha] at e
    cases e
    refine ⟨fun b => if b ∈ cs.map (·.2) then some (.tbl #[]) else none, fun p hp => if_pos (mem p hp), fun b => ?_,
      .inr ⟨_, vs.toArray, _, hk, rfl, rfl, rfl, by rw [List.size_toArray, hi.length]; exact hl, by simpa using rv⟩, fun b u z => ?_, fun b z => ?_, fun z => absurd (if_neg aT) z⟩
    · by_cases hb : b ∈ cs.map (·.2)
      · exact .inr (.inl hb)
      · exact .inl (if_neg hb)
    · by_cases hb : b ∈ cs.map (·.2)
      · cases (if_pos hb).symm.trans z
        exact isT b hb
      · cases (if_neg hb).symm.trans z
    · by_cases hb : b ∈ cs.map (·.2)
      · exact .inr hb
      · exact absurd (if_neg hb) z
  | none =>
    refine ⟨fun b => if b = a then some (.frz { cls := .type "list", data := .seq vs.toArray } (.lst (ns.map V.int))) else if b ∈ cs.map (·.2) then some (.tbl #[]) else none,
      fun p hp => ?_, fun b => ?_, .inl ⟨{ cls := .type "list", data := .seq vs.toArray }, if_pos rfl⟩, fun b u z => ?_, fun b z => ?_, fun _ => hk⟩
    · have np : ¬ p.2 = a := fun z => aT (z ▸ mem p hp)
      exact (if_neg np).trans (if_pos (mem p hp))
    · by_cases hb : b = a
      · exact .inr (.inr ⟨_, _, if_pos hb⟩)
      · by_cases hc : b ∈ cs.map (·.2)
        · exact .inr (.inl hc)
        · exact .inl ((if_neg hb).trans (if_neg hc))
    · by_cases hb : b = a
      · cases (if_pos hb).symm.trans z
        subst hb
        exact ⟨ha, by rw [List.length_map]; exact hl, vs, _, rv, ha⟩
      · have z1 := (if_neg hb).symm.trans z
        by_cases hc : b ∈ cs.map (·.2)
        · cases (if_pos hc).symm.trans z1
          exact isT b hc
        · cases (if_neg hc).symm.trans z1
    · by_cases hb : b = a
      · exact .inl hb
      · by_cases hc : b ∈ cs.map (·.2)
        · exact .inr hc
        · exact absurd ((if_neg hb).trans (if_neg hc)) z
theorem callF (KX : K.In t.heap) (hns : t.heap.Ns mainGlobals mg) (hb : t.heap.Ns builtinsNs mb) (hbb : ∀ x : Str, x ≠ "__name__" → mb x = bootBuiltins x) (hlim : t.heap.NoLimit) (hg : t.gens = #[])
    (hT : ∀ p ∈ cs, t.heap.get? p.2 = some { cls := .none, data := .fields #[] }) (nT : ∀ p ∈ cs, K.lookup p.2 = none) (C : ∀ p ∈ cs, PySem.W.CodeHd t.heap p.1 p.2)
    (hbm : ∃ (bm : Addr) (ob : Obj), mg "__builtins__" = some (.ref bm) ∧ bm ≠ builtinsNs ∧ t.heap.get? bm = some ob ∧ ob.cls = .type "module" ∧ ob.dict = some builtinsNs ∧ ob.data = .plain)
    (ha : t.heap.get? a = some { cls := .type "list", data := .seq vs.toArray }) (hi : IntsAre vs ns) (hl : ns.length ≤ sizeLine) (hr : Room k callerA)
    (F : ∀ base : Heap, K.In base → base.Ns mainGlobals mg → (∀ p ∈ cs, LamX.TabB base mg p.1 p.2) → FnG P w K mg base k fa fd [x] sp) (hbind : ∀ (s : Shared) (u : Value), BindsTo s fd ⟨[u], []⟩ [(x, u)])
    (hsp : ∀ H : Hp, (∀ p ∈ cs, H p.2 = some (.tbl #[])) → Ab.SqF K H a (ns.map V.int) → sp [.ref a] H (fun v _ => v = .bl true) C8.E0) :
    codeAny (model P w) callerA (.call (.ref fa) ⟨[.ref a], []⟩) (fun r s' => r = .ok (.ret (.bool true)) ∧ OldK t.heap s'.heap ∧ s'.os = t.os ∧ AllBare s'.gens) t := by
  obtain ⟨H, Z⟩ := hp0F (P := P) (w := w) KX hT ha hi hl
  have see : ∀ {b : Addr} {o : Obj}, t.heap.get? b = some o → H b = none → (hidT t.heap H).get? b = some o := fun e n => hidT_get e n
  -- what is neither a list nor a table is not tracked
  have off : ∀ {b : Addr} {o : Obj}, t.heap.get? b = some o → (∀ ws n, o.data ≠ .seq ws n) → o.data ≠ .fields #[] → H b = none := fun {b o} e h1 h2 => by
    cases q : H b with
    | none => rfl
    | some u =>
      rcases Z.dom b (by rw [q]; simp) with e1 | e1
      · rw [e1, ha] at e
        cases e
        exact (h1 _ _ rfl).elim
      · obtain ⟨p, hp, rfl⟩ := List.mem_map.mp e1
        rw [hT p hp] at e
        cases e
        exact (h2 rfl).elim
  have offD : ∀ {b : Addr} {o : Obj} {es : Array DictEntry} {ep : Nat}, t.heap.get? b = some o → o.data = .dict es ep → H b = none := fun {b o es ep} e d =>
    off e (fun ws n z => by rw [d] at z; cases z) (fun z => by rw [d] at z; cases z)
  have nsOk : ∀ {b : Addr} {m : Str → Option Value}, t.heap.Ns b m → (hidT t.heap H).Ns b m := fun {b m} hh => by
    obtain ⟨o, es, ep, e, d, r⟩ := hh
    exact ⟨o, es, ep, see e (offD e d), d, r⟩
  have kOk : K.In (hidT t.heap H) := fun b o e => by
    refine see (KX b o e) ?_
    cases q : H b with
    | none => rfl
    | some u =>
      rcases Z.dom b (by rw [q]; simp) with e1 | e1
      · subst e1
        rw [Z.scr (by rw [q]; simp)] at e
        cases e
      · obtain ⟨p, hp, rfl⟩ := List.mem_map.mp e1
        rw [nT p hp] at e
        cases e
  have lim : (hidT t.heap H).NoLimit := by
    obtain ⟨mc, h1, h2⟩ := hlim
    exact ⟨mc, nsOk h1, h2⟩
  have hM : L2.Mod K mg (hidT t.heap H) := ⟨kOk, nsOk hns, ⟨mb, nsOk hb, hbb⟩, lim⟩
  have TB : ∀ p ∈ cs, LamX.TabB (hidT t.heap H) mg p.1 p.2 := fun p hp => by
    have hp2 := hT p hp
    refine ⟨?_, ?_, fun z => ?_⟩
    · obtain ⟨o, us, file, tf, flags, tg, inF, text, tt, e1, r1, r2, r3, r4, r5, r6, r7, r8, hne⟩ := C p hp
      refine ⟨o, us, file, tf, flags, tg, inF, text, tt, see e1 (off e1 (fun ws n z => ?_) fun z => ?_), r1, r2, r3, r4, r5, r6, r7, r8, hne⟩
      · rw [r2] at z; cases z
      · rw [r2] at z; cases z; simp at r3
    · obtain ⟨bm, ob, b1, b2, b3, b4, b5, b6⟩ := hbm
      refine ⟨bm, ob, b1, b2, fun q => ?_, fun q => ?_, see b3 (off b3 (fun ws n z => ?_) fun z => ?_), b4, b5, b6⟩
      · obtain ⟨o, es, ep, e, hd, _⟩ := hns
        rw [q, e] at b3; cases b3; rw [hd] at b6; cases b6
      · rw [q, hp2] at b3; cases b3; cases b6
      · rw [b6] at z; cases z
      · rw [b6] at z; cases z
    · obtain ⟨o, es, ep, e, hd, _⟩ := hns
      rw [z, hp2] at e; cases e; cases hd
  have nil : ∀ b : Addr, b ∉ ([] : List Addr) := fun b z => by simp at z
  have e0 : Env0 P w K mg (hidT t.heap H) callerA [] t H := ⟨rfl, hM, fun b o e => of_hidT e, Nat.le_of_eq (hidT_size _ _), trivial, fun b z => absurd z (nil b), Z.ok, .of_eq hg⟩
  have go := (F _ kOk (nsOk hns) TB).run callerA [] t H ⟨[.ref a], []⟩ [.ref a] [.ref a] _ rfl hr e0 (hbind t (.ref a)) (.cons rfl .nil) (hsp H Z.tab Z.seq)
  refine codeAny_mono go fun res s2 hres => ?_
  match res, hres with
  | .ok .next, h => exact h.elim
  | .ok .brk, h => exact h.elim
  | .ok .cont, h => exact h.elim
  | .error e, h => exact (show False from h).elim
  | .ok (.ret u), h =>
    obtain ⟨v, H', os, bare, un, ok2, r', q⟩ := h
    obtain rfl : v = .bl true := q
    obtain rfl : u = Value.bool true := r'
    have same : ∀ b o, b ∉ cs.map (·.2) → t.heap.get? b = some o → s2.heap.get? b = some o := fun b o nb e => by
      rcases Z.only b with z | z | ⟨ob, xs, z⟩
      · exact un.keep b o e z (nil b) (nil b)
      · exact absurd z nb
      · obtain ⟨e1, _⟩ := Z.ok b _ z
        obtain ⟨e2, _⟩ := ok2 b _ (un.frzs b ob _ z)
        rw [e] at e1
        cases e1
        exact e2
    have grown : ∀ p ∈ cs, ∃ more : Array Value, s2.heap.get? p.2 = some { cls := .none, data := .fields more } := fun p hp => by
      obtain ⟨more, z⟩ := un.tbls p.2 #[] (Z.tab p hp)
      exact ⟨_, ok2 p.2 _ z⟩
    refine ⟨rfl, ⟨fun b o e => ?_, fun b o e => ?_⟩, os, bare⟩
    · by_cases hb : b ∈ cs.map (·.2)
      · obtain ⟨p, hp, rfl⟩ := List.mem_map.mp hb
        obtain ⟨more, hm⟩ := grown p hp
        rw [hT p hp] at e
        cases e
        exact .inr (.inl ⟨((C p hp).tab (hT p hp)).isCodeTable, rfl, #[], more, rfl, by rw [Array.empty_append]; exact hm⟩)
      · exact .inl (same b o hb e)
    · by_cases hb : b ∈ cs.map (·.2)
      · obtain ⟨p, hp, rfl⟩ := List.mem_map.mp hb
        obtain ⟨more, hm⟩ := grown p hp
        exact ⟨_, hm⟩
      · exact ⟨o, same b o hb e⟩
end
/-- what is known of the law's promise -/
def LawF (l : PySem.W.OpenLaw) (w : World) (K : PySem.W.Frag) (k : Nat) (x : Str) (mg : Str → Option Value) (fa : Addr) (h : Heap) : Prop :=
  ∃ (fd : FuncData) (cs : List (Addr × Addr)) (sp : Sp), (∀ p ∈ cs, h.get? p.2 = some { cls := .none, data := .fields #[] }) ∧ (∀ p ∈ cs, K.lookup p.2 = none) ∧ (∀ p ∈ cs, PySem.W.CodeHd h p.1 p.2) ∧
    (∀ (s : Shared) (u : Value), BindsTo s fd ⟨[u], []⟩ [(x, u)]) ∧
    (∀ (H : Hp) (a : Addr) (ns : List Int), ns.length ≤ 63 → (∀ z ∈ ns, Builtin.Int.intBits z ≤ 1048576) → (∀ p ∈ cs, H p.2 = some (.tbl #[])) → Ab.SqF K H a (ns.map V.int) → sp [.ref a] H (fun v _ => v = .bl true) C8.E0) ∧
    ∀ base : Heap, K.In base → base.Ns mainGlobals mg → (∀ p ∈ cs, LamX.TabB base mg p.1 p.2) → FnG l.prog w K mg base k fa fd [x] sp
theorem walkF {l : PySem.W.OpenLaw} {k : Nat} {q : Program} {loose : List Str} {XP : (Str → Option Value) → Heap → Prop} {YP : World → Heap → Prop} {d : DefRec} {K : Params → PySem.W.Frag} {x : Str}
    (hn : l.most = some 63) (hdf : d.params.defaults = []) (hr : Room k callerA) (hY : ∀ (w : World) (h : Heap), YP w h → (K w.params).In h)
    (F : ∀ (w : World) (mg : Str → Option Value) (fa : Addr) (h : Heap), YP w h → (K w.params).In h → h.Ns mainGlobals mg → mg d.name = some (.ref fa) → LawF l w (K w.params) k x mg fa h) :
    PySem.W.WalkO q loose XP YP l.row.toRowW d [] (fun f vs => PySem.call f vs) := by
  refine Att.attach_callB hn hdf ?_
  intro w s0 t mg mb fa o pm cd doc a vs ns G Y ho hd hcd hmg hobj hints hlen hbits hg
  have KX := hY w _ Y
  obtain ⟨fd, cs, sp, hT, nT, C, hb, hsp, hF⟩ := F w mg fa _ Y KX G.T.g hmg
  exact callF KX G.T.g G.T.b G.T.builtins G.T.nolimit hg hT nT C G.T.bmain hobj hints (Nat.le_trans hlen (by decide)) hr hF hb fun H hH hS => hsp H a ns hlen hbits hH hS
end Gx
set_option Elab.async false
set_option linter.all false
set_option maxRecDepth 100000
set_option maxHeartbeats 1000000
namespace Ab
open PySem PySem.Spec PyProof.Rows L2
theorem gc0 {F : List AV → Sto → Res AV} {args : List AV} {s : Sto} {v : AV} (h : F args s = .ok v s) (hv : Cl s.n v) : gcF F args s = .ok v s := by
  rw [gcF_eq h hv (.refl s), cut_self]
theorem gcT0 {f : AT} {σ : ASt} {s s' : Sto} {b : Bool} (h : f σ s = .ok b s') (hc : Clean s s') (e : s'.cut s = s) : gcT f σ s = .ok b s := by
  rw [gcT_eq h hc, e]
@[simp] theorem Sto.new_n {s : Sto} {x : Cell} : (s.new x).n = s.n + 1 := rfl
@[simp] theorem Sto.set_n {s : Sto} {i : Nat} {x : Cell} : (s.set i x).n = s.n := rfl
@[simp] theorem Sto.new_at {s : Sto} {x : Cell} : (s.new x).c s.n = x := if_pos rfl
@[simp] theorem Sto.set_at {s : Sto} {x : Cell} {i : Nat} : (s.set i x).c i = x := if_pos rfl
theorem Sto.set_ne {s : Sto} {x : Cell} {i j : Nat} (h : j ≠ i) : (s.set i x).c j = s.c j := if_neg h
end Ab
namespace Ab
open PySem PySem.Spec PyProof.Rows L2
/-- a small number of things -/
theorem sizeLine_ge {n : Nat} : ((n ≤ sizeLine) = (n ≤ sizeLine)) := rfl
theorem kz : True = True := rfl
@[simp] theorem lookA_hd {f : Str} {v : AV} {r : List (Str × AV)} : lookA f ((f, v) :: r) = some v := if_pos rfl
theorem lookA_tl {f g : Str} {v : AV} {r : List (Str × AV)} (h : g ≠ f) : lookA f ((g, v) :: r) = lookA f r := if_neg h
end Ab
set_option Elab.async false
set_option linter.all false
set_option maxRecDepth 100000
set_option maxHeartbeats 1000000
namespace Ab
open PySem PySem.Spec PyProof.Rows L2
open Classical
structure Dn where
  nx : ASt → Sto → Prop
  rt : AV → Sto → Prop
  bk : ASt → Sto → Prop
  ct : ASt → Sto → Prop
  er : String → List Str → List AV → ASt → Sto → Prop
def SRes.A : SRes → Dn → Prop
  | .nx σ s, D => D.nx σ s
  | .rt v s, D => D.rt v s
  | .bk σ s, D => D.bk σ s
  | .ct σ s, D => D.ct σ s
  | .err c ns vs σ s, D => D.er c ns vs σ s
  | .stuck, _ => False
section
variable {α β : Type} {r r' : Res α} {P : α → Sto → Prop} {R : String → List Str → List AV → Sto → Prop} {q q' : SRes} {D : Dn}
theorem post_ok {a : α} {s : Sto} : (Res.ok a s).Post P R ↔ P a s := Iff.rfl
theorem post_err {c : String} {ns : List Str} {vs : List AV} {s : Sto} : (Res.err c ns vs s : Res α).Post P R ↔ R c ns vs s := Iff.rfl
theorem A_nx {σ : ASt} {s : Sto} : (SRes.nx σ s).A D ↔ D.nx σ s := Iff.rfl
theorem A_rt {v : AV} {s : Sto} : (SRes.rt v s).A D ↔ D.rt v s := Iff.rfl
theorem A_bk {σ : ASt} {s : Sto} : (SRes.bk σ s).A D ↔ D.bk σ s := Iff.rfl
theorem A_ct {σ : ASt} {s : Sto} : (SRes.ct σ s).A D ↔ D.ct σ s := Iff.rfl
theorem A_err {c : String} {ns : List Str} {vs : List AV} {σ : ASt} {s : Sto} : (SRes.err c ns vs σ s).A D ↔ D.er c ns vs σ s := Iff.rfl
theorem A_thn {f : AS} : (q.thn f).A D ↔ q.A ⟨fun σ s => (f σ s).A D, D.rt, D.bk, D.ct, D.er⟩ := by cases q <;> exact Iff.rfl
theorem A_st {σ : ASt} {k : α → Sto → SRes} : (r.st σ k).A D ↔ r.Post (fun a s => (k a s).A D) (fun c ns vs s => D.er c ns vs σ s) := by cases r <;> exact Iff.rfl
theorem A_loop {f : AS} : (q.loop f).A D ↔ q.A ⟨fun σ s => (f σ s).A D, D.rt, D.nx, fun σ s => (f σ s).A D, D.er⟩ := by cases q <;> exact Iff.rfl
theorem post_fn {q : SRes} {P : AV → Sto → Prop} : q.fn.Post P R ↔ q.A ⟨fun _ s => P .non s, P, fun _ _ => False, fun _ _ => False, fun c ns vs _ s => R c ns vs s⟩ := by cases q <;> exact Iff.rfl
theorem A_forget {n : Nat} : (q.forget n).A D ↔ q.A ⟨D.nx, D.rt, D.bk, D.ct, fun c ns vs _ s => D.er c ns vs (List.replicate n none) s⟩ := by cases q <;> exact Iff.rfl
theorem A_clr {i : Nat} : (q.clr i).A D ↔ q.A ⟨fun σ s => D.nx (σ.set i none) s, D.rt, fun σ s => D.bk (σ.set i none) s, fun σ s => D.ct (σ.set i none) s, fun _ _ _ _ _ => False⟩ := by cases q <;> exact Iff.rfl
theorem A_noX : q.noX.A D ↔ q.A ⟨D.nx, D.rt, D.bk, D.ct, fun _ _ _ _ _ => False⟩ := by cases q <;> exact Iff.rfl
theorem A_try {f : AS} {hs : List HdA} {σ : ASt} {s : Sto} : (aTry f hs σ s).A D ↔ (f σ s).A ⟨D.nx, D.rt, D.bk, D.ct, fun c ns vs σ' s' => (aHand c ns vs σ' s' hs).A D⟩ := by
  unfold aTry
  cases f σ s <;> exact Iff.rfl
theorem post_noErr : (noErr r).Post P R ↔ r.Post P (fun _ _ _ _ => False) := by cases r <;> exact Iff.rfl
theorem post_ite {c : Prop} [Decidable c] {a b : Res α} : (if c then a else b).Post P R ↔ (c → a.Post P R) ∧ (¬ c → b.Post P R) := by
  by_cases h : c
  · simp [h]
  · simp [h]
theorem A_ite {c : Prop} [Decidable c] {a b : SRes} : (if c then a else b).A D ↔ (c → a.A D) ∧ (¬ c → b.A D) := by
  by_cases h : c
  · simp [h]
  · simp [h]
end
@[simp] theorem Clean_refl (s : Sto) : Clean s s = True := eq_true (.refl s)
/-- a cell of a store that grew -/
theorem at_new {s : Sto} {x : Cell} {i : Nat} (h : i < s.n) : (s.new x).c i = s.c i := if_neg (Nat.ne_of_lt h)
section
variable {P : AV → Sto → Prop} {R : String → List Str → List AV → Sto → Prop}
theorem post_gcF {F : List AV → Sto → Res AV} {args : List AV} {s : Sto} : (gcF F args s).Post P R ↔ (F args s).Post (fun v s' => if Cl s.n v ∧ Clean s s' then P v (s'.cut s) else P v s') (fun c ns vs s' => if ClL s.n vs ∧ Clean s s' then R c ns vs (s'.cut s) else R c ns vs s') := by
  unfold gcF gcR
  cases F args s with
  | ok v s' =>
    show (if Cl s.n v ∧ Clean s s' then (Res.ok v (s'.cut s) : Res AV) else .ok v s').Post P R ↔ if Cl s.n v ∧ Clean s s' then P v (s'.cut s) else P v s'
    split <;> exact Iff.rfl
  | err c ns vs s' =>
    show (if ClL s.n vs ∧ Clean s s' then (Res.err c ns vs (s'.cut s) : Res AV) else .err c ns vs s').Post P R ↔ if ClL s.n vs ∧ Clean s s' then R c ns vs (s'.cut s) else R c ns vs s'
    split <;> exact Iff.rfl
  | stuck => exact Iff.rfl
theorem post_gcT {f : AT} {P : Bool → Sto → Prop} {σ : ASt} {s : Sto} : (gcT f σ s).Post P R ↔ (f σ s).Post (fun v s' => if Clean s s' then P v (s'.cut s) else P v s') R := by
  unfold gcT gcB
  cases f σ s with
  | ok v s' =>
    show (if Clean s s' then (Res.ok v (s'.cut s) : Res Bool) else .ok v s').Post P R ↔ if Clean s s' then P v (s'.cut s) else P v s'
    split <;> exact Iff.rfl
  | err c ns vs s' => exact Iff.rfl
  | stuck => exact Iff.rfl
/-- what a def returns, as an equation -/
theorem res_ok {r : Res AV} {v : AV} {s : Sto} (h : r.Post (fun v' s' => v' = v ∧ s' = s) (fun _ _ _ _ => False)) : r = .ok v s := by
  cases r with
  | ok v' s' => obtain ⟨rfl, rfl⟩ := h; rfl
  | err => exact h.elim
  | stuck => exact h.elim
end
theorem forI_A {G : Sto → Prop} {g : AV → AS} {b : AS} {D : Dn} (I : Nat → ASt → Sto → Prop) : ∀ (xs : List AV) (k : Nat) {σ : ASt} {s : Sto}, I k σ s →
    (∀ i x σ s, xs[i]? = some x → I (k + i) σ s → G s ∧ (aSeq (g x) b σ s).A ⟨I (k + i + 1), D.rt, D.nx, I (k + i + 1), D.er⟩) → (∀ σ s, I (k + xs.length) σ s → G s ∧ D.nx σ s) → (forI G g b xs σ s).A D
  | [], k, σ, s, h, st, fin => by
    obtain ⟨g, h⟩ := fin σ s h
    rw [forI_nil g]
    exact h
  | x :: xs, k, σ, s, h, st, fin => by
    obtain ⟨g0, h0⟩ := st 0 x σ s rfl h
    rw [forI_cons g0, A_loop]
    have nxt : ∀ σ s, I (k + 1) σ s → (forI G g b xs σ s).A D := fun σ s h => forI_A I xs (k + 1) h (fun i y σ s e hI => by
      have := st (i + 1) y σ s (by simpa using e) (by rw [show k + (i + 1) = k + 1 + i by omega]; exact hI)
      rw [show k + (i + 1) = k + 1 + i by omega] at this
      exact this) (fun σ s hI => fin σ s (by rw [List.length_cons, show k + (xs.length + 1) = k + 1 + xs.length by omega]; exact hI))
    cases e : aSeq (g x) b σ s with
    | nx σ' s' => rw [e] at h0; exact nxt _ _ h0
    | ct σ' s' => rw [e] at h0; exact nxt _ _ h0
    | bk σ' s' => rw [e] at h0; exact h0
    | rt v s' => rw [e] at h0; exact h0
    | err c ns vs σ' s' => rw [e] at h0; exact h0
    | stuck => rw [e] at h0; exact h0
/-- a loop, its turns counted -/
theorem for_A {G : Sto → Prop} {g : AV → AS} {b : AS} {D : Dn} {xs : List AV} {σ : ASt} {s : Sto} (I : Nat → ASt → Sto → Prop) (h : I 0 σ s)
    (st : ∀ i x σ s, xs[i]? = some x → I i σ s → G s ∧ (aSeq (g x) b σ s).A ⟨I (i + 1), D.rt, D.nx, I (i + 1), D.er⟩) (fin : ∀ σ s, I xs.length σ s → G s ∧ D.nx σ s) : (forI G g b xs σ s).A D :=
  forI_A I xs 0 h (fun i x σ s e hI => by rw [Nat.zero_add] at hI ⊢; exact st i x σ s e hI) (fun σ s hI => fin σ s (by rw [Nat.zero_add] at hI; exact hI))
theorem rngA_get {lo : Int} {n i : Nat} {x : AV} (h : (rngA lo n)[i]? = some x) : i < n ∧ x = .int (lo + i) := by
  unfold rngA at h
  rw [List.getElem?_map] at h
  by_cases hi : i < n
  · rw [List.getElem?_range hi] at h
    exact ⟨hi, (Option.some.inj h).symm⟩
  · rw [List.getElem?_eq_none (by rw [List.length_range]; omega)] at h
    cases h
theorem rngA_len {lo : Int} {n : Nat} : (rngA lo n).length = n := by
  unfold rngA
  rw [List.length_map, List.length_range]
theorem enumA_get {xs : List AV} {i : Nat} {x : AV} (h : (enumA xs)[i]? = some x) : ∃ y, xs[i]? = some y ∧ x = .tup [.int i, y] := by
  unfold enumA at h
  rw [List.getElem?_mapIdx] at h
  cases e : xs[i]? with
  | none => rw [e] at h; cases h
  | some y => rw [e] at h; exact ⟨y, rfl, (Option.some.inj h).symm⟩
/-- for x in range(n) -/
theorem for_rng {G : Sto → Prop} {g : AV → AS} {b : AS} {D : Dn} {n : Nat} {lo : Int} {σ : ASt} {s : Sto} (I : Nat → ASt → Sto → Prop) (h : I 0 σ s)
    (st : ∀ (i : Nat) σ s, i < n → I i σ s → G s ∧ (aSeq (g (.int (lo + i))) b σ s).A ⟨I (i + 1), D.rt, D.nx, I (i + 1), D.er⟩) (fin : ∀ σ s, I n σ s → G s ∧ D.nx σ s) : (forI G g b (rngA lo n) σ s).A D :=
  for_A I h (fun i x σ s e hI => by
    obtain ⟨hi, rfl⟩ := rngA_get e
    exact st i σ s hi hI) (fun σ s hI => fin σ s (by rw [rngA_len] at hI; exact hI))
/-- [.. for x in ..]: the rows are told one by one -/
theorem lcI_P {k : Nat} {G : Sto → Prop} {g : AV → AS} {ft : AT} {fe : AE} {σ0 : ASt} {P : AV → Sto → Prop} {R : String → List Str → List AV → Sto → Prop} (I : Nat → List AV → Sto → Prop) : ∀ (xs : List AV) (j : Nat) (acc : List AV) {s : Sto}, I j acc s → s.c k = .lst acc → acc.length + xs.length ≤ sizeLine →
    (∀ i x acc s, xs[i]? = some x → I (j + i) acc s → s.c k = .lst acc → G s ∧ (g x σ0 s).A ⟨fun σ2 s2 => (ft σ2 s2).Post (fun b s3 => (b = true → (fe σ2 s3).Post (fun y s4 => s4.c k = .lst acc ∧ I (j + i + 1) (acc ++ [y]) (s4.set k (.lst (acc ++ [y])))) (fun _ _ _ _ => False)) ∧ (b = false → s3.c k = .lst acc ∧ I (j + i + 1) acc s3)) (fun _ _ _ _ => False), fun _ _ => False, fun _ _ => False, fun _ _ => False, fun _ _ _ _ _ => False⟩) →
    (∀ acc s, I (j + xs.length) acc s → s.c k = .lst acc → G s ∧ P (.obj k) s) → (oObj k (lcI k G g ft fe σ0 xs s)).Post P R
  | [], j, acc, s, h, hk, hl, st, fin => by
    obtain ⟨g0, h0⟩ := fin acc s h hk
    rw [show lcI k G g ft fe σ0 [] s = some s from if_pos g0]
    exact h0
  | x :: xs, j, acc, s, h, hk, hl, st, fin => by
    obtain ⟨g0, h0⟩ := st 0 x acc s rfl h hk
    have hl' : acc.length + xs.length + 1 ≤ sizeLine := by simpa [Nat.add_assoc] using hl
    have nxt : ∀ acc' s', acc'.length ≤ acc.length + 1 → I (j + 1) acc' s' → s'.c k = .lst acc' → (oObj k (lcI k G g ft fe σ0 xs s')).Post P R := fun acc' s' hl2 h hk =>
      lcI_P I xs (j + 1) acc' h hk (by omega) (fun i y acc s e hI hk => by
        have := st (i + 1) y acc s (by simpa using e) (by rw [show j + (i + 1) = j + 1 + i by omega]; exact hI) hk
        rw [show j + (i + 1) = j + 1 + i by omega] at this
        exact this) (fun acc s hI hk => fin acc s (by rw [List.length_cons, show j + (xs.length + 1) = j + 1 + xs.length by omega]; exact hI) hk)
    rw [show lcI k G g ft fe σ0 (x :: xs) s = (match g x σ0 s with
      | .nx σ2 s2 => (match ft σ2 s2 with
        | .ok true s3 => (match fe σ2 s3 with
          | .ok y s4 => (match s4.c k with | .lst acc => if acc.length < sizeLine then lcI k G g ft fe σ0 xs (s4.set k (.lst (acc ++ [y]))) else none | _ => none)
          | _ => none)
        | .ok false s3 => lcI k G g ft fe σ0 xs s3
        | _ => none)
      | _ => none) from if_pos g0]
    cases e : g x σ0 s with
    | nx σ2 s2 =>
      rw [e] at h0
      have h0 : (ft σ2 s2).Post _ _ := h0
      cases e2 : ft σ2 s2 with
      | ok b s3 =>
        rw [e2] at h0
        cases b with
        | true =>
          have h1 := h0.1 rfl
          cases e3 : fe σ2 s3 with
          | ok y s4 =>
            rw [e3] at h1
            obtain ⟨k1, k2⟩ := h1
            simp only [e2, e3, k1]
            rw [if_pos (by omega)]
            exact nxt _ _ (by simp) k2 Sto.set_at
          | err => rw [e3] at h1; exact h1.elim
          | stuck => rw [e3] at h1; exact h1.elim
        | false =>
          obtain ⟨k1, k2⟩ := h0.2 rfl
          simp only [e2]
          exact nxt _ _ (Nat.le_succ _) k2 k1
      | err => rw [e2] at h0; exact h0.elim
      | stuck => rw [e2] at h0; exact h0.elim
    | rt => rw [e] at h0; exact h0.elim
    | bk => rw [e] at h0; exact h0.elim
    | ct => rw [e] at h0; exact h0.elim
    | err => rw [e] at h0; exact h0.elim
    | stuck => rw [e] at h0; exact h0.elim
/-- while: the turns that are left -/
theorem whileN_A {c : AT} {b : AS} {D : Dn} (I : Nat → ASt → Sto → Prop) (st : ∀ n σ s, I n σ s → (c σ s).Post (fun r s1 => (r = true → (b σ s1).A ⟨fun σ s => ∃ m, m < n ∧ I m σ s, D.rt, D.nx, fun σ s => ∃ m, m < n ∧ I m σ s, D.er⟩) ∧ (r = false → D.nx σ s1)) (fun c ns vs s => D.er c ns vs σ s)) :
    ∀ (n : Nat) (σ : ASt) (s : Sto), I n σ s → ∃ k, (whileN c b k σ s).A D := fun n => by
  induction n using Nat.strongRecOn with
  | _ n ih =>
    intro σ s h
    have h0 := st n σ s h
    cases e : c σ s with
    | ok r s1 =>
      rw [e] at h0
      cases r with
      | false =>
        refine ⟨1, ?_⟩
        show ((c σ s).st σ fun r s1 => if r = true then (b σ s1).loop (whileN c b 0) else .nx σ s1).A D
        rw [e]
        exact h0.2 rfl
      | true =>
        have h1 := h0.1 rfl
        have big : ∀ (k : Nat), ((b σ s1).loop (whileN c b k)).A D → ∃ k, (whileN c b k σ s).A D := fun k hk => ⟨k + 1, by
          show ((c σ s).st σ fun r s1 => if r = true then (b σ s1).loop (whileN c b k) else .nx σ s1).A D
          rw [e]
          exact hk⟩
        cases e1 : b σ s1 with
        | nx σ' s' =>
          rw [e1] at h1
          obtain ⟨m, hm, hI⟩ := h1
          obtain ⟨k, hk⟩ := ih m hm σ' s' hI
          exact big k (by rw [e1]; exact hk)
        | ct σ' s' =>
          rw [e1] at h1
          obtain ⟨m, hm, hI⟩ := h1
          obtain ⟨k, hk⟩ := ih m hm σ' s' hI
          exact big k (by rw [e1]; exact hk)
        | bk σ' s' => rw [e1] at h1; exact big 0 (by rw [e1]; exact h1)
        | rt v s' => rw [e1] at h1; exact big 0 (by rw [e1]; exact h1)
        | err c ns vs σ' s' => rw [e1] at h1; exact big 0 (by rw [e1]; exact h1)
        | stuck => rw [e1] at h1; exact h1.elim
    | err c' ns vs s1 =>
      rw [e] at h0
      refine ⟨1, ?_⟩
      show ((c σ s).st σ fun r s1 => if r = true then (b σ s1).loop (whileN c b 0) else .nx σ s1).A D
      rw [e]
      exact h0
    | stuck => rw [e] at h0; exact h0.elim
theorem A_ne {q : SRes} {D : Dn} (h : q.A D) : q ≠ .stuck := fun e => by rw [e] at h; exact h
theorem whileN_le {c : AT} {b : AS} {k : Nat} {σ : ASt} {s : Sto} (h : whileN c b k σ s ≠ .stuck) : ∀ m, whileN c b (k + m) σ s = whileN c b k σ s
  | 0 => rfl
  | m + 1 => by
    have ih := whileN_le h m
    rw [← ih, show k + (m + 1) = k + m + 1 from rfl]
    exact whileN_succ _ _ _ (by rw [ih]; exact h)
theorem while_A {c : AT} {b : AS} {D : Dn} {σ : ASt} {s : Sto} (I : Nat → ASt → Sto → Prop) (n : Nat) (h : I n σ s) (st : ∀ n σ s, I n σ s → (c σ s).Post (fun r s1 => (r = true → (b σ s1).A ⟨fun σ s => ∃ m, m < n ∧ I m σ s, D.rt, D.nx, fun σ s => ∃ m, m < n ∧ I m σ s, D.er⟩) ∧ (r = false → D.nx σ s1)) (fun c ns vs s => D.er c ns vs σ s)) :
    (aWhile c b σ s).A D := by
  obtain ⟨k, hk⟩ := whileN_A I st n σ s h
  have hx : ∃ k, whileN c b k σ s ≠ .stuck := ⟨k, A_ne hk⟩
  unfold aWhile
  rw [dif_pos hx]
  have hc := Classical.choose_spec hx
  rcases Nat.le_total (Classical.choose hx) k with hle | hle
  · have := whileN_le hc (k - Classical.choose hx)
    rw [Nat.add_sub_cancel' hle] at this
    rw [← this]
    exact hk
  · have := whileN_le (A_ne hk) (Classical.choose hx - k)
    rw [Nat.add_sub_cancel' hle] at this
    rw [this]
    exact hk
/-- an index in bounds, of a row whose values are alike -/
theorem atI_all {xs : List AV} {i : Int} (h0 : 0 ≤ i) (h1 : i < xs.length) : ∃ x, x ∈ xs ∧ atI xs i = some x := by
  obtain ⟨j, rfl⟩ := Int.eq_ofNat_of_zero_le h0
  have hi : j < xs.length := by omega
  exact ⟨xs[j], List.getElem_mem hi, atI_nat (List.getElem?_eq_getElem hi)⟩
/-- nothing that stood has changed -/
structure Gb (s s' : Sto) : Prop where
  n : s.n ≤ s'.n
  c : ∀ i, i < s.n → s'.c i = s.c i
theorem Gb.refl (s : Sto) : Gb s s := ⟨Nat.le_refl _, fun _ _ => rfl⟩
theorem Gb.trans {s t u : Sto} (a : Gb s t) (b : Gb t u) : Gb s u := ⟨Nat.le_trans a.n b.n, fun i h => (b.c i (Nat.lt_of_lt_of_le h a.n)).trans (a.c i h)⟩
theorem Gb.new {s t : Sto} {x : Cell} (a : Gb s t) : Gb s (t.new x) := a.trans ⟨Nat.le_succ _, fun i h => at_new h⟩
theorem Gb.set {s t : Sto} {i : Nat} {x : Cell} (a : Gb s t) (h : s.n ≤ i) : Gb s (t.set i x) := ⟨a.n, fun j hj => (Sto.set_ne (by omega)).trans (a.c j hj)⟩
theorem Gb.clean {s t : Sto} (a : Gb s t) : Clean s t := ⟨a.n, fun i h => .inl (a.c i h)⟩
theorem Gb.cut {s t : Sto} (a : Gb s t) : t.cut s = s := cut_eq a.c
section
variable {P : AV → Sto → Prop} {R : String → List Str → List AV → Sto → Prop}
theorem gcF_g {F : List AV → Sto → Res AV} {args : List AV} {s : Sto} (h : (F args s).Post (fun v s' => Cl s.n v ∧ Gb s s' ∧ P v s) (fun c ns vs s' => ClL s.n vs ∧ Gb s s' ∧ R c ns vs s)) : (gcF F args s).Post P R :=
  post_gcF.mpr (h.mono (fun v s' z => by rw [if_pos ⟨z.1, z.2.1.clean⟩, z.2.1.cut]; exact z.2.2) fun c ns vs s' z => by rw [if_pos ⟨z.1, z.2.1.clean⟩, z.2.1.cut]; exact z.2.2)
theorem gcT_g {f : AT} {P : Bool → Sto → Prop} {σ : ASt} {s : Sto} (h : (f σ s).Post (fun v s' => Gb s s' ∧ P v s) R) : (gcT f σ s).Post P R :=
  post_gcT.mpr (h.mono (fun v s' z => by rw [if_pos z.1.clean, z.1.cut]; exact z.2) fun _ _ _ _ z => z)
end
/-- nothing that stood has changed, but what is at d -/
structure Gd (d : Nat) (s s' : Sto) : Prop where
  n : s.n ≤ s'.n
  c : ∀ i, i < s.n → i ≠ d → s'.c i = s.c i
theorem Gd.refl (d : Nat) (s : Sto) : Gd d s s := ⟨Nat.le_refl _, fun _ _ _ => rfl⟩
theorem Gd.trans {d : Nat} {s t u : Sto} (a : Gd d s t) (b : Gd d t u) : Gd d s u := ⟨Nat.le_trans a.n b.n, fun i h e => (b.c i (Nat.lt_of_lt_of_le h a.n) e).trans (a.c i h e)⟩
theorem Gd.set {d : Nat} {s t : Sto} {x : Cell} (a : Gd d s t) : Gd d s (t.set d x) := ⟨a.n, fun i h e => (Sto.set_ne e).trans (a.c i h e)⟩
theorem Gd.new {d : Nat} {s t : Sto} {x : Cell} (a : Gd d s t) : Gd d s (t.new x) := ⟨Nat.le_succ_of_le a.n, fun i h e => (at_new (Nat.lt_of_lt_of_le h a.n)).trans (a.c i h e)⟩
theorem Gd.cut {d : Nat} {s t : Sto} (a : Gd d s t) (h : d < s.n) : t.cut s = s.set d (t.c d) := by
  unfold Sto.cut Sto.set
  simp only [Sto.mk.injEq, true_and]
  funext i
  by_cases e : i = d
  · subst e; simp [h]
  · by_cases hi : i < s.n
    · simp [hi, e, a.c i hi e]
    · simp [hi, e]
theorem Gd.clean {d : Nat} {s t : Sto} (a : Gd d s t) (h : ClC s.n (t.c d)) : Clean s t := ⟨a.n, fun i hi => by
  by_cases e : i = d
  · subst e; exact .inr h
  · exact .inl (a.c i hi e)⟩
theorem ok_of_post {r : Res AV} {v : AV} (h : r.Post (fun v' _ => v' = v) (fun _ _ _ _ => False)) : ∃ s', r = .ok v s' := by
  cases r with
  | ok v' s' => cases (show v' = v from h); exact ⟨s', rfl⟩
  | err => exact h.elim
  | stuck => exact h.elim
section
variable {P : AV → Sto → Prop} {R : String → List Str → List AV → Sto → Prop}
theorem post_ix {x : AV} {xs : List AV} {i : Int} {s : Sto} (h : seqOf s x = some xs) (h0 : 0 ≤ i) (h1 : i < xs.length) (q : ∀ v, v ∈ xs → P v s) : (gIx x (.int i) s).Post P R := by
  obtain ⟨v, h2, h3⟩ := atI_all h0 h1
  rw [gIx_seq h h3]
  exact q v h2
end
theorem at_old {s : Sto} {x : Cell} {i : Nat} {c : Cell} (h : i < s.n) (e : s.c i = c) : (s.new x).c i = c := (at_new h).trans e
/-- a comprehension, its rows counted -/
theorem lc_P {k : Nat} {G : Sto → Prop} {g : AV → AS} {ft : AT} {fe : AE} {σ0 : ASt} {P : AV → Sto → Prop} {R : String → List Str → List AV → Sto → Prop} {xs : List AV} {s : Sto} (I : Nat → List AV → Sto → Prop) (h : I 0 [] s) (hk : s.c k = .lst []) (hl : xs.length ≤ 1000)
    (st : ∀ i x acc s, xs[i]? = some x → I i acc s → s.c k = .lst acc → G s ∧ (g x σ0 s).A ⟨fun σ2 s2 => (ft σ2 s2).Post (fun b s3 => (b = true → (fe σ2 s3).Post (fun y s4 => s4.c k = .lst acc ∧ I (i + 1) (acc ++ [y]) (s4.set k (.lst (acc ++ [y])))) (fun _ _ _ _ => False)) ∧ (b = false → s3.c k = .lst acc ∧ I (i + 1) acc s3)) (fun _ _ _ _ => False), fun _ _ => False, fun _ _ => False, fun _ _ => False, fun _ _ _ _ _ => False⟩)
    (fin : ∀ acc s, I xs.length acc s → s.c k = .lst acc → G s ∧ P (.obj k) s) : (oObj k (lcI k G g ft fe σ0 xs s)).Post P R :=
  lcI_P I xs 0 [] h hk (Nat.le_trans (show _ ≤ 1000 by simpa using hl) (by decide)) (fun i x acc s e hI hc => by
    rw [Nat.zero_add] at hI ⊢
    exact st i x acc s e hI hc) (fun acc s hI hc => by
    rw [Nat.zero_add] at hI
    exact fin acc s hI hc)
end Ab
set_option Elab.async false
set_option linter.all false
set_option maxRecDepth 100000
set_option maxHeartbeats 1000000
namespace Ab
open PySem PySem.Spec PyProof.Rows L2
open Classical
noncomputable section
def Kb {α β : Type} (k : α → Sto → Res β) (P : β → Sto → Prop) (R : String → List Str → List AV → Sto → Prop) : α → Sto → Prop := fun a s => (k a s).Post P R
def Kst {α : Type} (k : α → Sto → SRes) (D : Dn) : α → Sto → Prop := fun a s => (k a s).A D
def Rst (σ : ASt) (D : Dn) : String → List Str → List AV → Sto → Prop := fun c ns vs s => D.er c ns vs σ s
def Dn.thn (f : AS) (D : Dn) : Dn := ⟨fun σ s => (f σ s).A D, D.rt, D.bk, D.ct, D.er⟩
def Dn.lp (f : AS) (D : Dn) : Dn := ⟨fun σ s => (f σ s).A D, D.rt, D.nx, fun σ s => (f σ s).A D, D.er⟩
def Dn.fn (P : AV → Sto → Prop) (R : String → List Str → List AV → Sto → Prop) : Dn := ⟨fun _ s => P .non s, P, fun _ _ => False, fun _ _ => False, fun c ns vs _ s => R c ns vs s⟩
def Dn.fg (n : Nat) (D : Dn) : Dn := ⟨D.nx, D.rt, D.bk, D.ct, fun c ns vs _ s => D.er c ns vs (List.replicate n none) s⟩
def Dn.cl (i : Nat) (D : Dn) : Dn := ⟨fun σ s => D.nx (σ.set i none) s, D.rt, fun σ s => D.bk (σ.set i none) s, fun σ s => D.ct (σ.set i none) s, fun _ _ _ _ _ => False⟩
def Dn.nX (D : Dn) : Dn := ⟨D.nx, D.rt, D.bk, D.ct, fun _ _ _ _ _ => False⟩
def Dn.tr (hs : List HdA) (D : Dn) : Dn := ⟨D.nx, D.rt, D.bk, D.ct, fun c ns vs σ' s' => (aHand c ns vs σ' s' hs).A D⟩
section
variable {α β : Type} {r r' : Res α} {q q' : SRes} {D : Dn}
theorem k_bind {k : α → Sto → Res β} {P : β → Sto → Prop} {R : String → List Str → List AV → Sto → Prop} : (r.bind k).Post P R ↔ r.Post (Kb k P R) R := Res.post_bind
theorem k_Kb {k : α → Sto → Res β} {P : β → Sto → Prop} {R : String → List Str → List AV → Sto → Prop} {a : α} {s : Sto} : Kb k P R a s ↔ (k a s).Post P R := Iff.rfl
theorem k_st {σ : ASt} {k : α → Sto → SRes} : (r.st σ k).A D ↔ r.Post (Kst k D) (Rst σ D) := A_st
theorem k_Kst {k : α → Sto → SRes} {a : α} {s : Sto} : Kst k D a s ↔ (k a s).A D := Iff.rfl
theorem k_Rst {σ : ASt} {c : String} {ns : List Str} {vs : List AV} {s : Sto} : Rst σ D c ns vs s ↔ D.er c ns vs σ s := Iff.rfl
theorem k_thn {f : AS} : (q.thn f).A D ↔ q.A (D.thn f) := A_thn
theorem k_loop {f : AS} : (q.loop f).A D ↔ q.A (D.lp f) := A_loop
theorem k_fn {P : AV → Sto → Prop} {R : String → List Str → List AV → Sto → Prop} : q.fn.Post P R ↔ q.A (Dn.fn P R) := post_fn
theorem k_forget {n : Nat} : (q.forget n).A D ↔ q.A (D.fg n) := A_forget
theorem k_clr {i : Nat} : (q.clr i).A D ↔ q.A (D.cl i) := A_clr
theorem k_noX : q.noX.A D ↔ q.A D.nX := A_noX
theorem k_try {f : AS} {hs : List HdA} {σ : ASt} {s : Sto} : (aTry f hs σ s).A D ↔ (f σ s).A (D.tr hs) := A_try
theorem k_stuck {P : α → Sto → Prop} {R : String → List Str → List AV → Sto → Prop} : (Res.stuck : Res α).Post P R ↔ False := Iff.rfl
theorem k_Astuck : SRes.stuck.A D ↔ False := Iff.rfl
theorem k_iteS {c : Prop} [Decidable c] {a : Res α} {P : α → Sto → Prop} {R : String → List Str → List AV → Sto → Prop} : (if c then a else Res.stuck).Post P R ↔ c ∧ a.Post P R := by
  by_cases h : c
  · simp [h]
  · simp [h, k_stuck]
theorem k_AiteS {c : Prop} [Decidable c] {a : SRes} : (if c then a else SRes.stuck).A D ↔ c ∧ a.A D := by
  by_cases h : c
  · simp [h]
  · simp [h, k_Astuck]
end
def grd {α : Type} (c : Prop) [Decidable c] (r : Res α) : Res α := if c then r else .stuck
def grdS (c : Prop) [Decidable c] (r : SRes) : SRes := if c then r else .stuck
theorem grd_pos {α : Type} {c : Prop} [Decidable c] {a : Res α} (h : c) : grd c a = a := if_pos h
theorem grdS_pos {c : Prop} [Decidable c] {a : SRes} (h : c) : grdS c a = a := if_pos h
theorem k_grd {α : Type} {c : Prop} [Decidable c] {a : Res α} {P : α → Sto → Prop} {R : String → List Str → List AV → Sto → Prop} : (grd c a).Post P R ↔ c ∧ a.Post P R := k_iteS
theorem k_grdS {c : Prop} [Decidable c] {a : SRes} {D : Dn} : (grdS c a).A D ↔ c ∧ a.A D := k_AiteS
theorem k_ite {α : Type} {c : Prop} [Decidable c] {x y : Res α} {P : α → Sto → Prop} {R : String → List Str → List AV → Sto → Prop} : (if c then x else y).Post P R ↔ (c → x.Post P R) ∧ (¬ c → y.Post P R) := post_ite
theorem k_Aite {c : Prop} [Decidable c] {x y : SRes} {D : Dn} : (if c then x else y).A D ↔ (c → x.A D) ∧ (¬ c → y.A D) := A_ite
theorem d_thn_nx {D : Dn} {f : AS} {σ : ASt} {s : Sto} : (D.thn f).nx σ s ↔ (f σ s).A D := Iff.rfl
theorem d_thn_bk {D : Dn} {f : AS} {σ : ASt} {s : Sto} : (D.thn f).bk σ s ↔ D.bk σ s := Iff.rfl
theorem d_thn_ct {D : Dn} {f : AS} {σ : ASt} {s : Sto} : (D.thn f).ct σ s ↔ D.ct σ s := Iff.rfl
theorem d_thn_rt {D : Dn} {f : AS} {v : AV} {s : Sto} : (D.thn f).rt v s ↔ D.rt v s := Iff.rfl
theorem d_thn_er {D : Dn} {f : AS} {σ : ASt} {s : Sto} {c : String} {ns : List Str} {vs : List AV} : (D.thn f).er c ns vs σ s ↔ D.er c ns vs σ s := Iff.rfl
theorem d_lp_nx {D : Dn} {f : AS} {σ : ASt} {s : Sto} : (D.lp f).nx σ s ↔ (f σ s).A D := Iff.rfl
theorem d_lp_bk {D : Dn} {f : AS} {σ : ASt} {s : Sto} : (D.lp f).bk σ s ↔ D.nx σ s := Iff.rfl
theorem d_lp_ct {D : Dn} {f : AS} {σ : ASt} {s : Sto} : (D.lp f).ct σ s ↔ (f σ s).A D := Iff.rfl
theorem d_lp_rt {D : Dn} {f : AS} {v : AV} {s : Sto} : (D.lp f).rt v s ↔ D.rt v s := Iff.rfl
theorem d_lp_er {D : Dn} {f : AS} {σ : ASt} {s : Sto} {c : String} {ns : List Str} {vs : List AV} : (D.lp f).er c ns vs σ s ↔ D.er c ns vs σ s := Iff.rfl
theorem d_fg_nx {D : Dn} {f : Nat} {σ : ASt} {s : Sto} : (D.fg f).nx σ s ↔ D.nx σ s := Iff.rfl
theorem d_fg_bk {D : Dn} {f : Nat} {σ : ASt} {s : Sto} : (D.fg f).bk σ s ↔ D.bk σ s := Iff.rfl
theorem d_fg_ct {D : Dn} {f : Nat} {σ : ASt} {s : Sto} : (D.fg f).ct σ s ↔ D.ct σ s := Iff.rfl
theorem d_fg_rt {D : Dn} {f : Nat} {v : AV} {s : Sto} : (D.fg f).rt v s ↔ D.rt v s := Iff.rfl
theorem d_fg_er {D : Dn} {f : Nat} {σ : ASt} {s : Sto} {c : String} {ns : List Str} {vs : List AV} : (D.fg f).er c ns vs σ s ↔ D.er c ns vs (List.replicate f none) s := Iff.rfl
theorem d_cl_nx {D : Dn} {f : Nat} {σ : ASt} {s : Sto} : (D.cl f).nx σ s ↔ D.nx (σ.set f none) s := Iff.rfl
theorem d_cl_bk {D : Dn} {f : Nat} {σ : ASt} {s : Sto} : (D.cl f).bk σ s ↔ D.bk (σ.set f none) s := Iff.rfl
theorem d_cl_ct {D : Dn} {f : Nat} {σ : ASt} {s : Sto} : (D.cl f).ct σ s ↔ D.ct (σ.set f none) s := Iff.rfl
theorem d_cl_rt {D : Dn} {f : Nat} {v : AV} {s : Sto} : (D.cl f).rt v s ↔ D.rt v s := Iff.rfl
theorem d_cl_er {D : Dn} {f : Nat} {σ : ASt} {s : Sto} {c : String} {ns : List Str} {vs : List AV} : (D.cl f).er c ns vs σ s ↔ False := Iff.rfl
theorem d_tr_nx {D : Dn} {f : List HdA} {σ : ASt} {s : Sto} : (D.tr f).nx σ s ↔ D.nx σ s := Iff.rfl
theorem d_tr_bk {D : Dn} {f : List HdA} {σ : ASt} {s : Sto} : (D.tr f).bk σ s ↔ D.bk σ s := Iff.rfl
theorem d_tr_ct {D : Dn} {f : List HdA} {σ : ASt} {s : Sto} : (D.tr f).ct σ s ↔ D.ct σ s := Iff.rfl
theorem d_tr_rt {D : Dn} {f : List HdA} {v : AV} {s : Sto} : (D.tr f).rt v s ↔ D.rt v s := Iff.rfl
theorem d_tr_er {D : Dn} {f : List HdA} {σ : ASt} {s : Sto} {c : String} {ns : List Str} {vs : List AV} : (D.tr f).er c ns vs σ s ↔ (aHand c ns vs σ s f).A D := Iff.rfl
theorem d_nX_nx {D : Dn} {σ : ASt} {s : Sto} : D.nX.nx σ s ↔ D.nx σ s := Iff.rfl
theorem d_nX_bk {D : Dn} {σ : ASt} {s : Sto} : D.nX.bk σ s ↔ D.bk σ s := Iff.rfl
theorem d_nX_ct {D : Dn} {σ : ASt} {s : Sto} : D.nX.ct σ s ↔ D.ct σ s := Iff.rfl
theorem d_nX_rt {D : Dn} {v : AV} {s : Sto} : D.nX.rt v s ↔ D.rt v s := Iff.rfl
theorem d_nX_er {D : Dn} {σ : ASt} {s : Sto} {c : String} {ns : List Str} {vs : List AV} : D.nX.er c ns vs σ s ↔ False := Iff.rfl
theorem d_fn_nx {P : AV → Sto → Prop} {R : String → List Str → List AV → Sto → Prop} {σ : ASt} {s : Sto} : (Dn.fn P R).nx σ s ↔ P .non s := Iff.rfl
theorem d_fn_bk {P : AV → Sto → Prop} {R : String → List Str → List AV → Sto → Prop} {σ : ASt} {s : Sto} : (Dn.fn P R).bk σ s ↔ False := Iff.rfl
theorem d_fn_ct {P : AV → Sto → Prop} {R : String → List Str → List AV → Sto → Prop} {σ : ASt} {s : Sto} : (Dn.fn P R).ct σ s ↔ False := Iff.rfl
theorem d_fn_rt {P : AV → Sto → Prop} {R : String → List Str → List AV → Sto → Prop} {v : AV} {s : Sto} : (Dn.fn P R).rt v s ↔ P v s := Iff.rfl
theorem d_fn_er {P : AV → Sto → Prop} {R : String → List Str → List AV → Sto → Prop} {σ : ASt} {s : Sto} {c : String} {ns : List Str} {vs : List AV} : (Dn.fn P R).er c ns vs σ s ↔ R c ns vs s := Iff.rfl
def opK1 (g : AV → AV → Sto → Res AV) (fb : AE) (σ : ASt) : AV → Sto → Res AV := fun x s1 => (fb σ s1).bind (g x)
theorem e_op {fa fb : AE} {σ : ASt} {s : Sto} {g : AV → AV → Sto → Res AV} : aOp g fa fb σ s = (fa σ s).bind (opK1 g fb σ) := rfl
theorem e_opK {fb : AE} {σ : ASt} {s : Sto} {g : AV → AV → Sto → Res AV} {x : AV} : opK1 g fb σ x s = (fb σ s).bind (g x) := rfl
theorem e_un {fa : AE} {σ : ASt} {s : Sto} {g : AV → Sto → Res AV} : aUn g fa σ s = (fa σ s).bind g := rfl
theorem e_cb {fr : AA} {σ : ASt} {s : Sto} {g : List AV → Sto → Res AV} : aCB g fr σ s = (fr σ s).bind g := rfl
theorem e_nil {σ : ASt} {s : Sto} : aNil σ s = .ok [] s := rfl
theorem e_c {v : AV} {σ : ASt} {s : Sto} : aC v σ s = .ok v s := rfl
def consK2 (x : AV) : List AV → Sto → Res (List AV) := fun xs s => .ok (x :: xs) s
def consK1 (fr : AA) (σ : ASt) : AV → Sto → Res (List AV) := fun x s1 => (fr σ s1).bind (consK2 x)
theorem e_cons {fa : AE} {fr : AA} {σ : ASt} {s : Sto} : aCons fa fr σ s = (fa σ s).bind (consK1 fr σ) := rfl
theorem e_consK {fr : AA} {σ : ASt} {s : Sto} {x : AV} : consK1 fr σ x s = (fr σ s).bind (consK2 x) := rfl
theorem e_consK2 {x : AV} {xs : List AV} {s : Sto} : consK2 x xs s = .ok (x :: xs) s := rfl
def andK (fb : AE) (σ : ASt) : AV → Sto → Res AV := fun x s1 => match x with | .bl true => fb σ s1 | .bl false => .ok (.bl false) s1 | _ => .stuck
def orK (fb : AE) (σ : ASt) : AV → Sto → Res AV := fun x s1 => match x with | .bl false => fb σ s1 | .bl true => .ok (.bl true) s1 | _ => .stuck
theorem e_and {fa fb : AE} {σ : ASt} {s : Sto} : aAndV fa fb σ s = (fa σ s).bind (andK fb σ) := rfl
theorem e_or {fa fb : AE} {σ : ASt} {s : Sto} : aOrV fa fb σ s = (fa σ s).bind (orK fb σ) := rfl
theorem e_andK {fb : AE} {σ : ASt} {s : Sto} {b : Bool} : andK fb σ (.bl b) s = if b = true then fb σ s else .ok (.bl false) s := by cases b <;> rfl
theorem e_orK {fb : AE} {σ : ASt} {s : Sto} {b : Bool} : orK fb σ (.bl b) s = if b = true then .ok (.bl true) s else fb σ s := by cases b <;> rfl
def notK  : AV → Sto → Res AV := fun x s1 => match x with | .bl b => .ok (.bl (!b)) s1 | _ => .stuck
theorem e_not {fa : AE} {σ : ASt} {s : Sto} : aNotV fa σ s = (fa σ s).bind notK := rfl
theorem e_notK {b : Bool} {s : Sto} : notK (.bl b) s = .ok (.bl (!b)) s := rfl
def testK  : AV → Sto → Res Bool := fun x s1 => match x with | .bl b => .ok b s1 | _ => .stuck
theorem e_test {fa : AE} {σ : ASt} {s : Sto} : aTest fa σ s = (fa σ s).bind testK := rfl
theorem e_testK {b : Bool} {s : Sto} : testK (.bl b) s = .ok b s := rfl
def tandK (u : AT) (σ : ASt) : Bool → Sto → Res Bool := fun b s1 => if b = true then u σ s1 else .ok false s1
def torK (u : AT) (σ : ASt) : Bool → Sto → Res Bool := fun b s1 => if b = true then .ok true s1 else u σ s1
def tnotK  : Bool → Sto → Res Bool := fun b s1 => .ok (!b) s1
theorem e_tand {t u : AT} {σ : ASt} {s : Sto} : aAnd t u σ s = (t σ s).bind (tandK u σ) := rfl
theorem e_tandK {u : AT} {σ : ASt} {s : Sto} {b : Bool} : tandK u σ b s = if b = true then u σ s else .ok false s := rfl
theorem e_tor {t u : AT} {σ : ASt} {s : Sto} : aOr t u σ s = (t σ s).bind (torK u σ) := rfl
theorem e_torK {u : AT} {σ : ASt} {s : Sto} {b : Bool} : torK u σ b s = if b = true then .ok true s else u σ s := rfl
theorem e_tnot {t : AT} {σ : ASt} {s : Sto} : aNot t σ s = (t σ s).bind tnotK := rfl
theorem e_tnotK {b : Bool} {s : Sto} : tnotK b s = .ok (!b) s := rfl
theorem e_yes {σ : ASt} {s : Sto} : aYes σ s = .ok true s := rfl
def ifK (fa fb : AE) (σ : ASt) : Bool → Sto → Res AV := fun b s1 => if b = true then fa σ s1 else fb σ s1
theorem e_if {fa fb : AE} {t : AT} {σ : ASt} {s : Sto} : aIf t fa fb σ s = (t σ s).bind (ifK fa fb σ) := rfl
theorem e_ifK {fa fb : AE} {σ : ASt} {s : Sto} {b : Bool} : ifK fa fb σ b s = if b = true then fa σ s else fb σ s := rfl
def chK3 (r' : AV → AV → Sto → Res AV) (fc : AE) (σ : ASt) (y : AV) : AV → Sto → Res AV := fun z s3 => match z with | .bl true => (fc σ s3).bind (r' y) | .bl false => .ok (.bl false) s3 | _ => .stuck
def chK2 (r r' : AV → AV → Sto → Res AV) (fc : AE) (σ : ASt) (x : AV) : AV → Sto → Res AV := fun y s2 => (r x y s2).bind (chK3 r' fc σ y)
def chK1 (r r' : AV → AV → Sto → Res AV) (fb fc : AE) (σ : ASt) : AV → Sto → Res AV := fun x s1 => (fb σ s1).bind (chK2 r r' fc σ x)
theorem e_ch {fa fb fc : AE} {σ : ASt} {s : Sto} {r r' : AV → AV → Sto → Res AV} : aChain r r' fa fb fc σ s = (fa σ s).bind (chK1 r r' fb fc σ) := rfl
theorem e_chK1 {fb fc : AE} {σ : ASt} {s : Sto} {r r' : AV → AV → Sto → Res AV} {x : AV} : chK1 r r' fb fc σ x s = (fb σ s).bind (chK2 r r' fc σ x) := rfl
theorem e_chK2 {fc : AE} {σ : ASt} {s : Sto} {r r' : AV → AV → Sto → Res AV} {x y : AV} : chK2 r r' fc σ x y s = (r x y s).bind (chK3 r' fc σ y) := rfl
theorem e_chK3 {fc : AE} {σ : ASt} {s : Sto} {r' : AV → AV → Sto → Res AV} {y : AV} {b : Bool} : chK3 r' fc σ y (.bl b) s = if b = true then (fc σ s).bind (r' y) else .ok (.bl false) s := by cases b <;> rfl
def tupK  : List AV → Sto → Res AV := fun xs s1 => if xs.length ≤ sizeLine then .ok (.tup xs) s1 else .stuck
def lstK  : List AV → Sto → Res AV := fun xs s1 => if xs.length ≤ sizeLine then newL xs s1 else .stuck
theorem e_tup {fr : AA} {σ : ASt} {s : Sto} : aTup fr σ s = (fr σ s).bind tupK := rfl
theorem e_tupK {xs : List AV} {s : Sto} : tupK xs s = grd (xs.length ≤ sizeLine) (.ok (.tup xs) s) := rfl
theorem e_lst {fr : AA} {σ : ASt} {s : Sto} : aLst fr σ s = (fr σ s).bind lstK := rfl
theorem e_lstK {xs : List AV} {s : Sto} : lstK xs s = grd (xs.length ≤ sizeLine) (newL xs s) := rfl
theorem e_newL {xs : List AV} {s : Sto} : newL xs s = .ok (.obj s.n) (s.new (.lst xs)) := rfl
def callK (n : Nat) (F : List AV → Sto → Res AV) (dvs : List AV) : List AV → Sto → Res AV := fun xs s1 => if (xs ++ dvs).length = n then F (xs ++ dvs) s1 else .stuck
theorem e_call {fr : AA} {σ : ASt} {s : Sto} {n : Nat} {F : List AV → Sto → Res AV} {dvs : List AV} : aCall n F dvs fr σ s = (fr σ s).bind (callK n F dvs) := rfl
theorem e_callK {n : Nat} {F : List AV → Sto → Res AV} {dvs : List AV} {xs : List AV} {s : Sto} : callK n F dvs xs s = grd ((xs ++ dvs).length = n) (F (xs ++ dvs) s) := rfl
def methK2 (n : Nat) (F : List AV → Sto → Res AV) (dvs : List AV) (x : AV) : List AV → Sto → Res AV := fun xs s2 => if (x :: (xs ++ dvs)).length = n then F (x :: (xs ++ dvs)) s2 else .stuck
def methK (c : String) (m : Str) (n : Nat) (F : List AV → Sto → Res AV) (dvs : List AV) (fr : AA) (σ : ASt) : AV → Sto → Res AV := fun x s1 => if clsIs s1 x c m = true then (fr σ s1).bind (methK2 n F dvs x) else .stuck
theorem e_meth {fa : AE} {fr : AA} {σ : ASt} {s : Sto} {n : Nat} {F : List AV → Sto → Res AV} {dvs : List AV} {c : String} {m : Str} : aMeth c m n F dvs fa fr σ s = (fa σ s).bind (methK c m n F dvs fr σ) := rfl
theorem e_methK {fr : AA} {σ : ASt} {s : Sto} {n : Nat} {F : List AV → Sto → Res AV} {dvs : List AV} {c : String} {m : Str} {x : AV} : methK c m n F dvs fr σ x s = grd (clsIs s x c m = true) ((fr σ s).bind (methK2 n F dvs x)) := rfl
theorem e_methK2 {n : Nat} {F : List AV → Sto → Res AV} {dvs : List AV} {x : AV} {xs : List AV} {s : Sto} : methK2 n F dvs x xs s = grd ((x :: (xs ++ dvs)).length = n) (F (x :: (xs ++ dvs)) s) := rfl
def propK (c : String) (F : List AV → Sto → Res AV) : AV → Sto → Res AV := fun x s1 => if isI s1 x c = true then noErr (F [x] s1) else .stuck
theorem e_prop {fa : AE} {σ : ASt} {s : Sto} {F : List AV → Sto → Res AV} {c : String} : aProp c F fa σ s = (fa σ s).bind (propK c F) := rfl
theorem e_propK {F : List AV → Sto → Res AV} {c : String} {x : AV} {s : Sto} : propK c F x s = grd (isI s x c = true) (noErr (F [x] s)) := rfl
def makeK2 (o : Nat) : AV → Sto → Res AV := fun v s2 => if isNon v = true then .ok (.obj o) s2 else .stuck
def makeK (c : String) (n : Nat) (F : List AV → Sto → Res AV) (dvs : List AV) : List AV → Sto → Res AV := fun xs s1 => if (AV.obj s1.n :: (xs ++ dvs)).length = n then (F (.obj s1.n :: (xs ++ dvs)) (s1.new (.ins c []))).bind (makeK2 s1.n) else .stuck
theorem e_make {fr : AA} {σ : ASt} {s : Sto} {n : Nat} {F : List AV → Sto → Res AV} {dvs : List AV} {c : String} : aMake c n F dvs fr σ s = (fr σ s).bind (makeK c n F dvs) := rfl
theorem e_makeK {n : Nat} {F : List AV → Sto → Res AV} {dvs : List AV} {c : String} {xs : List AV} {s : Sto} : makeK c n F dvs xs s = grd ((AV.obj s.n :: (xs ++ dvs)).length = n) ((F (.obj s.n :: (xs ++ dvs)) (s.new (.ins c []))).bind (makeK2 s.n)) := rfl
theorem e_makeK2 {o : Nat} {s : Sto} : makeK2 o .non s = .ok (.obj o) s := rfl
theorem e_makeV {fr : AA} {σ : ASt} {s : Sto} {n : Nat} {F : List AV → Sto → Res AV} {c : String} {i : Nat} {d : String} : aMakeV i c n F fr σ s = match σ[i]? with | some (some (.cls d)) => if d = c then aMake c n F [] fr σ s else .stuck | _ => .stuck := rfl
def smK2 (n : Nat) (F : List AV → Sto → Res AV) : List AV → Sto → Res AV := fun xs s2 => if (xs ++ []).length = n then F (xs ++ []) s2 else .stuck
def smK (c : String) (n : Nat) (F : List AV → Sto → Res AV) (fr : AA) (σ : ASt) : AV → Sto → Res AV := fun x s1 => if isCls c x = true then (fr σ s1).bind (smK2 n F) else .stuck
theorem e_sm {fa : AE} {fr : AA} {σ : ASt} {s : Sto} {n : Nat} {F : List AV → Sto → Res AV} {c : String} : aSMeth c n F fa fr σ s = (fa σ s).bind (smK c n F fr σ) := rfl
theorem e_smK {fr : AA} {σ : ASt} {s : Sto} {n : Nat} {F : List AV → Sto → Res AV} {c : String} {x : AV} : smK c n F fr σ x s = grd (isCls c x = true) ((fr σ s).bind (smK2 n F)) := rfl
theorem e_smK2 {n : Nat} {F : List AV → Sto → Res AV} {xs : List AV} {s : Sto} : smK2 n F xs s = grd ((xs ++ []).length = n) (F (xs ++ []) s) := rfl
def cmK2 (c : String) (n : Nat) (F : List AV → Sto → Res AV) : List AV → Sto → Res AV := fun xs s2 => if (AV.cls c :: (xs ++ [])).length = n then F (.cls c :: (xs ++ [])) s2 else .stuck
def cmK (c : String) (n : Nat) (F : List AV → Sto → Res AV) (fr : AA) (σ : ASt) : AV → Sto → Res AV := fun x s1 => if isCls c x = true then (fr σ s1).bind (cmK2 c n F) else .stuck
theorem e_cm {fa : AE} {fr : AA} {σ : ASt} {s : Sto} {n : Nat} {F : List AV → Sto → Res AV} {c : String} : aCMeth c n F fa fr σ s = (fa σ s).bind (cmK c n F fr σ) := rfl
theorem e_cmK {fr : AA} {σ : ASt} {s : Sto} {n : Nat} {F : List AV → Sto → Res AV} {c : String} {x : AV} : cmK c n F fr σ x s = grd (isCls c x = true) ((fr σ s).bind (cmK2 c n F)) := rfl
theorem e_cmK2 {n : Nat} {F : List AV → Sto → Res AV} {c : String} {xs : List AV} {s : Sto} : cmK2 c n F xs s = grd ((AV.cls c :: (xs ++ [])).length = n) (F (.cls c :: (xs ++ [])) s) := rfl
def slK3 (x : AV) (l : Option Int) : Option Int → Sto → Res AV := fun u s3 => gSl x l u s3
def slK2 (fh : AO) (σ : ASt) (x : AV) : Option Int → Sto → Res AV := fun l s2 => (fh σ s2).bind (slK3 x l)
def slK1 (fl fh : AO) (σ : ASt) : AV → Sto → Res AV := fun x s1 => (fl σ s1).bind (slK2 fh σ x)
theorem e_sl {fa : AE} {σ : ASt} {s : Sto} {fl fh : AO} : aSl fa fl fh σ s = (fa σ s).bind (slK1 fl fh σ) := rfl
theorem e_slK1 {σ : ASt} {s : Sto} {fl fh : AO} {x : AV} : slK1 fl fh σ x s = (fl σ s).bind (slK2 fh σ x) := rfl
theorem e_slK2 {σ : ASt} {s : Sto} {fh : AO} {x : AV} {l : Option Int} : slK2 fh σ x l s = (fh σ s).bind (slK3 x l) := rfl
theorem e_slK3 {s : Sto} {x : AV} {l h : Option Int} : slK3 x l h s = gSl x l h s := rfl
def partK  : AV → Sto → Res (Option Int) := fun x s1 => match x with | .int i => .ok (some i) s1 | _ => .stuck
theorem e_part {fa : AE} {σ : ASt} {s : Sto} : aPart fa σ s = (fa σ s).bind partK := rfl
theorem e_partK {i : Int} {s : Sto} : partK (.int i) s = .ok (some i) s := rfl
theorem e_nopart {σ : ASt} {s : Sto} : aNoPart σ s = .ok none s := rfl
def revK  : AV → Sto → Res AV := fun x s1 => match lstOf s1 x with | some xs => newL xs.reverse s1 | none => .stuck
theorem e_rev {fa : AE} {σ : ASt} {s : Sto} : aRev fa σ s = (fa σ s).bind revK := rfl
def bmK (g : AV → List AV → Sto → Res AV) (fr : AA) (σ : ASt) : AV → Sto → Res AV := fun x s1 => if isSeqL s1 x = true then (fr σ s1).bind (g x) else .stuck
theorem e_bm {fa : AE} {fr : AA} {σ : ASt} {s : Sto} {g : AV → List AV → Sto → Res AV} : aBM g fa fr σ s = (fa σ s).bind (bmK g fr σ) := rfl
theorem e_bmK {fr : AA} {σ : ASt} {s : Sto} {g : AV → List AV → Sto → Res AV} {x : AV} : bmK g fr σ x s = grd (isSeqL s x = true) ((fr σ s).bind (g x)) := rfl
def prK3 (x y : AV) : List (AV × AV) → Sto → Res (List (AV × AV)) := fun ps s3 => .ok ((x, y) :: ps) s3
def prK2 (r : List (AE × AE)) (σ : ASt) (x : AV) : AV → Sto → Res (List (AV × AV)) := fun y s2 => (aPairs r σ s2).bind (prK3 x y)
def prK1 (fv : AE) (r : List (AE × AE)) (σ : ASt) : AV → Sto → Res (List (AV × AV)) := fun x s1 => (fv σ s1).bind (prK2 r σ x)
def dispK (n : Nat) : List (AV × AV) → Sto → Res AV := fun ps s1 => match s1.c n, keysA ps with | .dic [], some kvs => if kvs.length ≤ 15 then .ok (.obj n) (s1.set n (.dic (mergeA [] kvs))) else .stuck | _, _ => .stuck
theorem e_pr {fa fb : AE} {σ : ASt} {s : Sto} {r : List (AE × AE)} : aPairs ((fa, fb) :: r) σ s = (fa σ s).bind (prK1 fb r σ) := rfl
theorem e_pr0 {σ : ASt} {s : Sto} : aPairs [] σ s = .ok [] s := rfl
theorem e_prK1 {fb : AE} {σ : ASt} {s : Sto} {r : List (AE × AE)} {x : AV} : prK1 fb r σ x s = (fb σ s).bind (prK2 r σ x) := rfl
theorem e_prK2 {σ : ASt} {s : Sto} {r : List (AE × AE)} {x y : AV} : prK2 r σ x y s = (aPairs r σ s).bind (prK3 x y) := rfl
theorem e_prK3 {s : Sto} {x y : AV} {ps : List (AV × AV)} : prK3 x y ps s = .ok ((x, y) :: ps) s := rfl
theorem e_disp {σ : ASt} {s : Sto} {fs : List (AE × AE)} : aDisp fs σ s = (aPairs fs σ (s.new (.dic []))).bind (dispK s.n) := rfl
theorem e_dispK {s1 : Sto} {n : Nat} {ps : List (AV × AV)} {kvs : List (Key × AV)} (h : s1.c n = .dic []) (k : keysA ps = some kvs) (l : kvs.length ≤ 15) : dispK n ps s1 = .ok (.obj n) (s1.set n (.dic (mergeA [] kvs))) := by unfold dispK; simp only [h, k, if_pos l]
theorem e_dnew {σ : ASt} {s : Sto} : aDNew σ s = .ok (.obj s.n) (s.new (.dic [])) := rfl
def ownK1 (c : String) (ts : List String) (F : List AV → Sto → Res AV) (fb : AE) (σ : ASt) : AV → Sto → Res AV := fun x s1 => (fb σ s1).bind (gOwn c ts F x)
theorem e_own {fa fb : AE} {σ : ASt} {s : Sto} {n : Nat} {F : List AV → Sto → Res AV} {c : String} {ts : List String} : aOwn c ts n F fa fb σ s = (fa σ s).bind (ownK1 c ts F fb σ) := rfl
theorem e_ownK {fb : AE} {σ : ASt} {s : Sto} {F : List AV → Sto → Res AV} {c : String} {ts : List String} {x : AV} : ownK1 c ts F fb σ x s = (fb σ s).bind (gOwn c ts F x) := rfl
def lcK (g : AV → AS) (ft : AT) (fe : AE) (vs : List Nat) (σ : ASt) : List AV × (Sto → Prop) → Sto → Res AV := fun p s1 => oObj s1.n (lcI s1.n p.2 g ft fe (wipeA σ vs) p.1 (s1.new (.lst [])))
theorem e_lc {fa : AE} {t : AT} {σ : ASt} {s : Sto} {fi : AI} {g : AV → AS} {vs : List Nat} : aLc fi g t fa vs σ s = (fi σ s).bind (lcK g t fa vs σ) := rfl
theorem e_lcK {fa : AE} {t : AT} {σ : ASt} {s : Sto} {g : AV → AS} {vs : List Nat} {xs : List AV} {G : Sto → Prop} : lcK g t fa vs σ (xs, G) s = oObj s.n (lcI s.n G g t fa (wipeA σ vs) xs (s.new (.lst []))) := rfl
theorem e_iter {fa : AE} {σ : ASt} {s : Sto} : aIter fa σ s = (fa σ s).bind iterOf := rfl
def rng1K  : List AV → Sto → Res (List AV × (Sto → Prop)) := fun xs s1 => match xs with | [.int j] => if -(2 ^ 62) ≤ j ∧ j < 2 ^ 62 then .ok (rngA 0 j.toNat, fun _ => True) s1 else .stuck | _ => .stuck
def rng2K  : List AV → Sto → Res (List AV × (Sto → Prop)) := fun xs s1 => match xs with | [.int i, .int j] => if -(2 ^ 62) ≤ i ∧ i < 2 ^ 62 ∧ -(2 ^ 62) ≤ j ∧ j < 2 ^ 62 then .ok (rngA i (j - i).toNat, fun _ => True) s1 else .stuck | _ => .stuck
theorem e_rng1 {fr : AA} {σ : ASt} {s : Sto} : aRng1 fr σ s = (fr σ s).bind rng1K := rfl
theorem e_rng1K {j : Int} {s : Sto} : rng1K [.int j] s = grd (-(2 ^ 62) ≤ j ∧ j < 2 ^ 62) (.ok (rngA 0 j.toNat, fun _ => True) s) := rfl
theorem e_rng2 {fr : AA} {σ : ASt} {s : Sto} : aRng2 fr σ s = (fr σ s).bind rng2K := rfl
theorem e_rng2K {i j : Int} {s : Sto} : rng2K [.int i, .int j] s = grd (-(2 ^ 62) ≤ i ∧ i < 2 ^ 62 ∧ -(2 ^ 62) ≤ j ∧ j < 2 ^ 62) (.ok (rngA i (j - i).toNat, fun _ => True) s) := rfl
def enumK  : List AV → Sto → Res (List AV × (Sto → Prop)) := fun xs s1 => match xs with | [x] => (match lstOf s1 x with | some ys => .ok (enumA ys, fun s2 => lstOf s2 x = some ys) s1 | none => .stuck) | _ => .stuck
theorem e_enum {fr : AA} {σ : ASt} {s : Sto} : aEnum fr σ s = (fr σ s).bind enumK := rfl
theorem e_enumK {x : AV} {ys : List AV} {s : Sto} (h : lstOf s x = some ys) : enumK [x] s = .ok (enumA ys, fun s2 => lstOf s2 x = some ys) s := by unfold enumK; simp only [h]
theorem post_enum {x : AV} {ys : List AV} {s : Sto} {P : List AV × (Sto → Prop) → Sto → Prop} {R : String → List Str → List AV → Sto → Prop} (h : lstOf s x = some ys) (q : P (enumA ys, fun s2 => lstOf s2 x = some ys) s) : (enumK [x] s).Post P R := by rw [e_enumK h]; exact q
def dropK (σ : ASt) : AV → Sto → SRes := fun _ s1 => .nx σ s1
theorem s_drop {fa : AE} {σ : ASt} {s : Sto} : aDrop fa σ s = (fa σ s).st σ (dropK σ) := rfl
theorem s_dropK {σ : ASt} {s : Sto} {v : AV} : dropK σ v s = .nx σ s := rfl
def retK  : AV → Sto → SRes := fun v s1 => .rt v s1
theorem s_ret {fa : AE} {σ : ASt} {s : Sto} : aRet fa σ s = (fa σ s).st σ retK := rfl
theorem s_retK {v : AV} {s : Sto} : retK v s = .rt v s := rfl
theorem s_retN {σ : ASt} {s : Sto} : aRetN σ s = .rt .non s := rfl
theorem s_next {σ : ASt} {s : Sto} : aNext σ s = .nx σ s := rfl
theorem s_break {σ : ASt} {s : Sto} : aBreak σ s = .bk σ s := rfl
theorem s_cont {σ : ASt} {s : Sto} : aCont σ s = .ct σ s := rfl
theorem s_seq {f1 f2 : AS} {σ : ASt} {s : Sto} : aSeq f1 f2 σ s = (f1 σ s).thn f2 := rfl
def ifSK (f g : AS) (σ : ASt) : Bool → Sto → SRes := fun b s1 => if b = true then f σ s1 else g σ s1
theorem s_if {t : AT} {f1 f2 : AS} {σ : ASt} {s : Sto} : aIfS t f1 f2 σ s = (t σ s).st σ (ifSK f1 f2 σ) := rfl
theorem s_ifK {f1 f2 : AS} {σ : ASt} {s : Sto} {b : Bool} : ifSK f1 f2 σ b s = if b = true then f1 σ s else f2 σ s := rfl
def asgK (g : AV → AS) (σ : ASt) : AV → Sto → SRes := fun v s1 => g v σ s1
theorem s_asg {fa : AE} {σ : ASt} {s : Sto} {g : AV → AS} : aAsg fa g σ s = (fa σ s).st σ (asgK g σ) := rfl
theorem s_asgK {σ : ASt} {s : Sto} {g : AV → AS} {v : AV} : asgK g σ v s = g v σ s := rfl
theorem s_name {σ : ASt} {s : Sto} {i : Nat} {v : AV} : agName i v σ s = .nx (σ.set i (some v)) s := rfl
theorem s_par {fr : AA} {σ : ASt} {s : Sto} {i j : Nat} : aPar i j fr σ s = (fr σ s).st σ (parK i j σ) := rfl
theorem s_parK {σ : ASt} {s : Sto} {i j : Nat} {v u : AV} : parK i j σ [v, u] s = .nx ((σ.set i (some v)).set j (some u)) s := rfl
theorem s_par3 {fr : AA} {σ : ASt} {s : Sto} {i j l : Nat} : aPar3 i j l fr σ s = (fr σ s).st σ (parK3 i j l σ) := rfl
theorem s_parK3 {σ : ASt} {s : Sto} {i j l : Nat} {v u w : AV} : parK3 i j l σ [v, u, w] s = .nx (((σ.set i (some v)).set j (some u)).set l (some w)) s := rfl
theorem s_gnil {σ : ASt} {s : Sto} : agNil [] σ s = .nx σ s := rfl
theorem s_gcons {σ : ASt} {s : Sto} {g : AV → AS} {h : List AV → AS} {x : AV} {r : List AV} : agCons g h (x :: r) σ s = (g x σ s).thn (h r) := rfl
theorem s_gtup {σ : ASt} {s : Sto} {n : Nat} {g : List AV → AS} {xs : List AV} : agTup n g (.tup xs) σ s = grdS (xs.length = n) (g xs σ s) := rfl
def forK (g : AV → AS) (b : AS) (σ : ASt) : List AV × (Sto → Prop) → Sto → SRes := fun p s1 => forI p.2 g b p.1 σ s1
theorem s_for {f1 : AS} {σ : ASt} {s : Sto} {fi : AI} {g : AV → AS} : aFor fi g f1 σ s = (fi σ s).st σ (forK g f1 σ) := rfl
theorem s_forK {f1 : AS} {σ : ASt} {s : Sto} {g : AV → AS} {xs : List AV} {G : Sto → Prop} : forK g f1 σ (xs, G) s = forI G g f1 xs σ s := rfl
theorem s_raise {fr : AA} {σ : ASt} {s : Sto} {c : String} {fl : Str} : aRaise c fl fr σ s = (fr σ s).st σ (raiseK c fl σ) := rfl
theorem s_raiseK {σ : ASt} {s : Sto} {c : String} {fl : Str} {v : AV} : raiseK c fl σ [v] s = .err c [fl] [v] σ s := rfl
def sfK2 (cs : List String) (f : Str) (σ : ASt) (y : AV) : AV → Sto → SRes := fun x s2 => oNx σ (setF cs f x y s2)
def sfK1 (cs : List String) (f : Str) (fo : AE) (σ : ASt) : AV → Sto → SRes := fun y s1 => (fo σ s1).st σ (sfK2 cs f σ y)
theorem s_sf {fa fb : AE} {σ : ASt} {s : Sto} {cs : List String} {f : Str} : aSFld cs f fa fb σ s = (fb σ s).st σ (sfK1 cs f fa σ) := rfl
theorem s_sfK1 {fa : AE} {σ : ASt} {s : Sto} {cs : List String} {f : Str} {y : AV} : sfK1 cs f fa σ y s = (fa σ s).st σ (sfK2 cs f σ y) := rfl
theorem s_sfK2 {σ : ASt} {s : Sto} {cs : List String} {f : Str} {x y : AV} : sfK2 cs f σ y x s = oNx σ (setF cs f x y s) := rfl
def dpK3 (σ : ASt) (z x : AV) : AV → Sto → SRes := fun y s3 => oNx σ (setD x y z s3)
def dpK2 (fy : AE) (σ : ASt) (z : AV) : AV → Sto → SRes := fun x s2 => (fy σ s2).st σ (dpK3 σ z x)
def dpK1 (fd fy : AE) (σ : ASt) : AV → Sto → SRes := fun z s1 => (fd σ s1).st σ (dpK2 fy σ z)
theorem s_dp {fa fb fc : AE} {σ : ASt} {s : Sto} : aDPut fa fb fc σ s = (fc σ s).st σ (dpK1 fa fb σ) := rfl
theorem s_dpK1 {fa fb : AE} {σ : ASt} {s : Sto} {z : AV} : dpK1 fa fb σ z s = (fa σ s).st σ (dpK2 fb σ z) := rfl
theorem s_dpK2 {fb : AE} {σ : ASt} {s : Sto} {x z : AV} : dpK2 fb σ z x s = (fb σ s).st σ (dpK3 σ z x) := rfl
theorem s_dpK3 {σ : ASt} {s : Sto} {x y z : AV} : dpK3 σ z x y s = oNx σ (setD x y z s) := rfl
theorem s_forget {f1 : AS} {σ : ASt} {s : Sto} {n : Nat} : aForget n f1 σ s = (f1 σ s).forget n := rfl
theorem s_def {k : Nat} {f : AS} {args : List AV} {s : Sto} : aDef k f args s = (f (args.map some ++ List.replicate k none) s).fn := rfl
theorem s_fld {fa : AE} {σ : ASt} {s : Sto} {cs : List String} {f : Str} : aFld cs f fa σ s = (fa σ s).bind (gFld cs f) := rfl
end
end Ab
set_option Elab.async false
set_option linter.all false
set_option maxRecDepth 100000
set_option maxHeartbeats 1000000
namespace Ab
open PySem PySem.Spec PyProof.Rows L2
open Classical
theorem u65 {k : Nat} {A : Around} (r : Room k A) : A.units + 65 < cLine := by have := r.un; omega
noncomputable section
section
variable {W : Wl} {E : L2.St → XK} {ta tb to tv te : TE} {fa fb fo fv : AE} {tr : TA} {fr : AA}
theorem setF_okC {w : Wd} {s s' : Sto} {c : String} {f : Str} {x y : AV} {v u : V} (S : Sim W w s) (rx : Rel W w x v) (ry : Rel W w y u) (h : setF [c] f x y s = some s') :
    ∃ a dx gs, v = .ref a ∧ w.H a = some (.ins (W.κ c) dx gs) ∧ gs.length < 1000 ∧ ∃ w', w'.H = upd w.H a (.ins (W.κ c) dx (putF f u gs)) ∧ Ext w w' ∧ Sim W w' s' := by
  unfold setF at h
  split at h
  · rename_i i
    split at h
    · rename_i c' fs e
      split at h
      · rename_i hh
        cases h
        obtain ⟨o, h1, h2, h3, h4⟩ := cell_at S rx e
        cases List.mem_singleton.mp hh.1
        cases h4 with
        | @ins _ dx _ gs hl r =>
          refine ⟨_, dx, gs, h2, h3, ?_, _, rfl, .wr S h1, S.wr h1 (.ins hl (put_rel ry r))⟩
          rw [← Paired.length r]; exact hh.2
      · cases h
    · cases h
  · cases h
def faug3 (c : String) (f : Str) (σ : ASt) (x : AV) : AV → Sto → SRes := fun z s3 => oNx σ (setF [c] f x z s3)
def faug2 (c : String) (f : Str) (g : AV → AV → Sto → Res AV) (σ : ASt) (x v : AV) : AV → Sto → SRes := fun y s2 => (g v y s2).st σ (faug3 c f σ x)
def faug1 (cs : List String) (f : Str) (g : AV → AV → Sto → Res AV) (fv : AE) (σ : ASt) : AV → Sto → SRes := fun x s1 => match insAt s1 x with | some (c, fs) => if c ∈ cs then (match lookA f fs with | some v => (fv σ s1).st σ (faug2 c f g σ x v) | none => .stuck) else .stuck | none => .stuck
def aFAug (cs : List String) (f : Str) (g : AV → AV → Sto → Res AV) (fo fv : AE) : AS := fun σ s => (fo σ s).st σ (faug1 cs f g fv σ)
theorem faug1_obj {cs : List String} {f : Str} {g : AV → AV → Sto → Res AV} {fv : AE} {σ : ASt} {s : Sto} {i : Nat} {c : String} {fs : List (Str × AV)} {v : AV} (e : s.c i = .ins c fs) (h : c ∈ cs) (l : lookA f fs = some v) : faug1 cs f g fv σ (.obj i) s = (fv σ s).st σ (faug2 c f g σ (.obj i) v) := by
  unfold faug1
  simp only [insAt_obj e, if_pos h, l]
theorem DS.faug {cs : List String} {f : Str} {r : R2} {g : AV → AV → Sto → Res AV} (hc : All (fun c => Cls W.K (W.κ c) ∧ NoAttr W.K (W.κ c) f) cs) (hr : DR W r g) (hg : NE2 g) (ho : DE W E to fo) (hv : DE W E tv fv) : DS W E (sFldAug W.K to tv r f) (aFAug cs f g fo fv) := fun w s σ σc D S R h => by
  refine ho w s σ σc _ S R ((exp_post R h).mono (fun x s1 h1 w1 xc e1 S1 r1 => ?_) fun _ _ _ _ z => z)
  unfold faug1 at h1
  split at h1
  · rename_i c fs e
    split at h1
    · rename_i hcs
      split at h1
      · rename_i v e2
        obtain ⟨i, dx, gs, rfl, h2, rfl, h3, h4, h5⟩ := ins_at S1 r1 e
        obtain ⟨uc, l, ru⟩ := (look_rel h5).1 v e2
        obtain ⟨k1, k2⟩ := hc.at c hcs
        refine ⟨_, _, dx, gs, uc, rfl, h3, k1, k2, l, hv w1 s1 σ σc _ S1 (R.mono e1) ((exp_post (R.mono e1) (P.mono e1 h1)).mono (fun y s2 q2 w2 yc x2 S2 r2 => ?_) fun _ _ _ _ z => z)⟩
        have q2 : ((g v y s2).st σ (faug3 c f σ (.obj i))).P W w1 D E := q2
        refine hr w2 s2 v y uc yc _ S2 (ru.mono x2) r2 ?_
        cases hh : g v y s2 with
        | err c ns vs s3 => exact absurd hh (hg _ _ _ _ _ _ _)
        | stuck => rw [hh] at q2; exact q2.elim
        | ok z s3 =>
          rw [hh] at q2
          have q2 : (oNx σ (setF [c] f (.obj i) z s3)).P W w1 D E := q2
          intro w3 zc x3 S3 r3
          cases es : setF [c] f (.obj i) z s3 with
          | none => rw [es] at q2; exact (show False from q2).elim
          | some s4 =>
            rw [es] at q2
            have e13 := x2.trans x3
            obtain ⟨a, dx', gs', m1, m2, m5, w4, m6, m7, m8⟩ := setF_okC S3 (r1.mono e13) r3 es
            cases m1
            refine ⟨dx', gs', m2, m5, ?_⟩
            rw [← m6]
            exact q2 w4 σc (e13.trans m7) m8 (((R.mono e1).mono e13).mono m7)
      · exact h1.elim
    · exact h1.elim
  · exact h1.elim
def kgetN (kvs : List (Key × AV)) (x : AV) (s : Sto) : Res AV := match toKey x with | some k => .ok ((valA kvs k).getD .non) s | none => .stuck
end
def gMulT : AV → AV → Sto → Res AV := fun x y s => match x, y with
  | .tup a, .int k => if a ≠ [] ∧ 2 ≤ k ∧ k ≤ 1000 ∧ a.length ≤ 1000 then .ok (.tup (List.replicate k.toNat a).flatten) s else .stuck
  | x, y => gMul x y s
@[simp] theorem gMulT_int {i j : Int} {s : Sto} : gMulT (.int i) (.int j) s = gMul (.int i) (.int j) s := rfl
@[simp] theorem gMulT_str {i : Str} {j : Int} {s : Sto} : gMulT (.str i) (.int j) s = gMul (.str i) (.int j) s := rfl
@[simp] theorem gMulT_obj {i : Nat} {j : Int} {s : Sto} : gMulT (.obj i) (.int j) s = gMul (.obj i) (.int j) s := rfl
end
end Ab
namespace Ab
open PySem PySem.Spec PyProof.Rows L2
open Classical
noncomputable section
section
variable {W : Wl} {E : L2.St → XK} {ta : TE} {fa : AE}
theorem kgetN_ok {kvs : List (Key × AV)} {x : AV} {k : Key} {s : Sto} (h : toKey x = some k) : kgetN kvs x s = .ok ((valA kvs k).getD .non) s := by
  unfold kgetN; simp only [h]
theorem valN_rel {w : Wd} {k : Key} : ∀ {fs : List (Key × AV)} {gs : List (Key × V)}, RelK W.toWc w fs gs → valA fs k = none → valV gs k = none
  | _, _, .nil, _ => rfl
  | (j, x) :: r, (j', y) :: r', .cons h t, e => by
    obtain ⟨ej, hr⟩ := h
    cases (show j = j' from ej)
    have e : (if j = k then some x else valA r k) = none := e
    by_cases hj : j = k
    · rw [if_pos hj] at e; cases e
    · rw [if_neg hj] at e
      rw [valV_neg hj]; exact valN_rel t e
theorem DE.dgetN {kvs : List (Key × AV)} {gs : List (Key × V)} (r : ∀ w, RelK W.toWc w kvs gs) (ha : DE W E ta fa) : DE W E (Cd.tDGetC gs ta) (aUn (kgetN kvs) fa) := fun w s σ σc Q S R h => by
  refine ha w s σ σc _ S R ((post_bind_ok h).mono (fun x s1 h1 w1 v e1 S1 r1 => ?_) fun _ _ _ _ z => z)
  unfold kgetN at h1
  split at h1
  · rename_i k hk
    refine ⟨k, key_rel r1 hk, ?_⟩
    cases ez : valA kvs k with
    | some z =>
      rw [ez] at h1
      obtain ⟨vc, l, rz⟩ := val_rel (r w1) z ez
      rw [l]
      exact h1 w1 _ e1 S1 rz
    | none =>
      rw [ez] at h1
      rw [valN_rel (r w1) ez]
      exact h1 w1 _ e1 S1 .non
  · exact (show False from h1).elim
end
end
end Ab
namespace Gx
open PySem PySem.Spec PyProof.Rows L2
end Gx
namespace Ab
open PySem PySem.Spec PyProof.Rows L2
open Classical
end Ab
namespace Ab
open PySem PySem.Spec PyProof.Rows L2
open Classical
noncomputable section
abbrev VTab := List (String × (List AV → Sto → Res AV))
def aStuck : AE := fun _ _ => .stuck
def aVirt (m : Str) (n : Nat) : VTab → AE → AA → AE
  | [], _, _ => aStuck
  | [(c, F)], fo, fr => aMeth c m n F [] fo fr
  | (c, F) :: t :: r, fo, fr => aSel (fun σ s => okIs c (fo σ s)) (aMeth c m n F [] fo fr) (aVirt m n (t :: r) fo fr)
def aVirtP : VTab → AE → AE
  | [], _ => aStuck
  | [(c, F)], fo => aProp c (fun xs s => noErr (F xs s)) fo
  | (c, F) :: t :: r, fo => aSel (fun σ s => okIs c (fo σ s)) (aProp c (fun xs s => noErr (F xs s)) fo) (aVirtP (t :: r) fo)
def tabAt : VTab → String → Option (List AV → Sto → Res AV)
  | [], _ => none
  | (c, F) :: r, d => if c = d then some F else tabAt r d
theorem isI_ins {s : Sto} {x : AV} {c d : String} {fs : List (Str × AV)} (h : insAt s x = some (d, fs)) : isI s x c = decide (d = c) := by
  unfold isI; simp only [h]
theorem okIs_no {c d : String} {x : AV} {s : Sto} {fs : List (Str × AV)} (h : insAt s x = some (d, fs)) (n : ¬ c = d) : ¬ okIs c (.ok x s) := fun z => by
  have z : isI s x c = true := z
  rw [isI_ins h] at z
  exact n (of_decide_eq_true z).symm
theorem okIs_yes {c : String} {x : AV} {s : Sto} {fs : List (Str × AV)} (h : insAt s x = some (c, fs)) : okIs c (.ok x s) := by
  show isI s x c = true
  rw [isI_ins h]
  exact decide_eq_true rfl
theorem e_virt {m : Str} {n : Nat} {fo : AE} {fr : AA} {σ : ASt} {s s1 : Sto} {x : AV} {d : String} {fs : List (Str × AV)} {F : List AV → Sto → Res AV} (e : fo σ s = .ok x s1) (h : insAt s1 x = some (d, fs)) : ∀ {tbl : VTab}, tabAt tbl d = some F → aVirt m n tbl fo fr σ s = aMeth d m n F [] fo fr σ s
  | [(c, G)], k => by
    have k : (if c = d then some G else none) = some F := k
    split at k
    · rename_i hc
      cases k
      subst hc
      rfl
    · cases k
  | (c, G) :: t :: r, k => by
    have k : (if c = d then some G else tabAt (t :: r) d) = some F := k
    show (if okIs c (fo σ s) then _ else _) = _
    rw [e]
    split at k
    · rename_i hc
      cases k
      subst hc
      rw [if_pos (okIs_yes h)]
    · rename_i hc
      rw [if_neg (okIs_no h hc)]
      exact e_virt e h k
theorem e_virtP {fo : AE} {σ : ASt} {s s1 : Sto} {x : AV} {d : String} {fs : List (Str × AV)} {F : List AV → Sto → Res AV} (e : fo σ s = .ok x s1) (h : insAt s1 x = some (d, fs)) : ∀ {tbl : VTab}, tabAt tbl d = some F → aVirtP tbl fo σ s = noErr (F [x] s1)
  | [(c, G)], k => by
    have k : (if c = d then some G else none) = some F := k
    split at k
    · rename_i hc
      cases k
      subst hc
      show ((fo σ s).bind fun x s1 => if isI s1 x c = true then noErr (noErr (F [x] s1)) else .stuck) = _
      rw [e, Res.bind_ok, if_pos (by rw [isI_ins h]; exact decide_eq_true rfl)]
      cases F [x] s1 <;> rfl
    · cases k
  | (c, G) :: t :: r, k => by
    have k : (if c = d then some G else tabAt (t :: r) d) = some F := k
    show (if okIs c (fo σ s) then _ else _) = _
    rw [e]
    split at k
    · rename_i hc
      cases k
      subst hc
      rw [if_pos (okIs_yes h)]
      show ((fo σ s).bind fun x s1 => if isI s1 x c = true then noErr (noErr (F [x] s1)) else .stuck) = _
      rw [e, Res.bind_ok, if_pos (by rw [isI_ins h]; exact decide_eq_true rfl)]
      cases F [x] s1 <;> rfl
    · rename_i hc
      rw [if_neg (okIs_no h hc)]
      exact e_virtP e h k
theorem gIVal_at {cs : List String} {f : Str} {v x : AV} {s : Sto} {d : String} {fs : List (Str × AV)} (h : insAt s x = some (d, fs)) (hd : d ∈ cs) (l : lookA f fs = none) : gIVal cs f v x s = .ok v s := by
  unfold gIVal
  simp only [h, if_pos hd, l]
end
section
variable {W : Wl} {tgs : TGs} {gs : List AV → AS}
def agTupL (n : Nat) (g : List AV → AS) : AV → AS := fun v σ s => match lstOf s v with | some xs => if xs.length = n then g xs σ s else .stuck | none => .stuck
theorem s_gtupL {n : Nat} {g : List AV → AS} {σ : ASt} {s : Sto} {x : AV} {xs : List AV} (h : lstOf s x = some xs) : agTupL n g x σ s = grdS (xs.length = n) (g xs σ s) := by
  unfold agTupL
  rw [h]
  rfl
theorem DG.tupL {n : Nat} (hs : DGs W tgs gs) : DG W (Un.gTupL W.K n tgs) (agTupL n gs) := fun w s σ σc x v Q S R r h => by
  unfold agTupL at h
  split at h
  · rename_i xs e
    split at h
    · rename_i hl
      obtain ⟨a, vs, rfl, h1, h2⟩ := lst_at S r e
      exact ⟨a, vs, rfl, h1, by rw [← h2.length]; exact hl, hs w s σ σc xs vs Q S R h2 h⟩
    · exact h.elim
  · exact h.elim
theorem Goes.tupL {n : Nat} (h : GoesL gs) : Goes (agTupL n gs) := fun x σ s => by
  unfold agTupL
  split
  · rename_i xs e
    split
    · rcases h xs σ s with h | h
      · exact .inl h
      · exact .inr h
    · exact .inr rfl
  · exact .inr rfl
end
end Ab
set_option Elab.async false
set_option linter.all false
set_option maxRecDepth 100000
set_option maxHeartbeats 1000000
namespace Gx
open PySem PySem.Spec PyProof.Rows L2 GenW
end Gx
namespace Ab
open PySem PySem.Spec PyProof.Rows L2
open Classical
noncomputable section
def SRes.hd (y : Option AV) : SRes → SRes
  | .nx σ s => .nx (y :: σ) s
  | .bk σ s => .bk (y :: σ) s
  | .ct σ s => .ct (y :: σ) s
  | .err c ns vs σ s => .err c ns vs (y :: σ) s
  | .rt _ _ => .stuck
  | .stuck => .stuck
def aPl (f : AS) : AS := fun σ s => match σ with
  | some (.tup ys) :: σ' => (f σ' s).hd (some (.tup ys))
  | _ => .stuck
@[simp] theorem aPl_at {f : AS} {ys : List AV} {σ : ASt} {s : Sto} : aPl f (some (.tup ys) :: σ) s = (f σ s).hd (some (.tup ys)) := rfl
def SRes.PG (W : Wl) (r : SRes) (w : Wd) (D : GEnds) (E : XK) : Prop := match r with
  | .nx σ s => ∃ ys σ0, σ = some (.tup ys) :: σ0 ∧ ∀ w' σc ysc, Ext w w' → Sim W w' s → RSt W.toWc w' σ0 σc → RelL W.toWc w' ys ysc → D.nx ysc σc w'.H
  | .bk σ s => ∃ ys σ0, σ = some (.tup ys) :: σ0 ∧ ∀ w' σc ysc, Ext w w' → Sim W w' s → RSt W.toWc w' σ0 σc → RelL W.toWc w' ys ysc → D.bk ysc σc w'.H
  | .ct σ s => ∃ ys σ0, σ = some (.tup ys) :: σ0 ∧ ∀ w' σc ysc, Ext w w' → Sim W w' s → RSt W.toWc w' σ0 σc → RelL W.toWc w' ys ysc → D.ct ysc σc w'.H
  | .err c ns vs σ s => ErrP W w E c ns vs s
  | .rt _ _ => False
  | .stuck => False
theorem SRes.PG.mono {W : Wl} {r : SRes} {w w2 : Wd} {D : GEnds} {E : XK} (e : Ext w w2) (h : r.PG W w D E) : r.PG W w2 D E := by
  cases r with
  | nx σ s => obtain ⟨ys, σ0, rfl, k⟩ := h; exact ⟨ys, σ0, rfl, fun w' σc ysc e' => k w' σc ysc (e.trans e')⟩
  | bk σ s => obtain ⟨ys, σ0, rfl, k⟩ := h; exact ⟨ys, σ0, rfl, fun w' σc ysc e' => k w' σc ysc (e.trans e')⟩
  | ct σ s => obtain ⟨ys, σ0, rfl, k⟩ := h; exact ⟨ys, σ0, rfl, fun w' σc ysc e' => k w' σc ysc (e.trans e')⟩
  | err c ns vs σ s => exact fun w' d e' => h w' d (e.trans e')
  | rt v s => exact h
  | stuck => exact h
def Frm (f : AS) : Prop := ∀ σ s, f σ s = .stuck ∨ ∃ ys σ0, σ = some (AV.tup ys) :: σ0
theorem frm_match {k : List AV → ASt → SRes} {σ : ASt} : (match σ with | some (.tup ys) :: σ' => k ys σ' | _ => .stuck : SRes) = .stuck ∨ ∃ ys σ0, σ = some (AV.tup ys) :: σ0 := by
  match σ with
  | some (.tup ys) :: σ' => exact .inr ⟨_, _, rfl⟩
  | [] => exact .inl rfl
  | none :: _ => exact .inl rfl
  | some (.non) :: _ => exact .inl rfl
  | some (.bl _) :: _ => exact .inl rfl
  | some (.int _) :: _ => exact .inl rfl
  | some (.str _) :: _ => exact .inl rfl
  | some (.ty _) :: _ => exact .inl rfl
  | some (.cls _) :: _ => exact .inl rfl
  | some (.obj _) :: _ => exact .inl rfl
  | some (.raw _) :: _ => exact .inl rfl
  | some (.scr _) :: _ => exact .inl rfl
  | some (.exn _ _ _) :: _ => exact .inl rfl
theorem Frm.pl {f : AS} : Frm (aPl f) := fun σ s => frm_match
theorem Frm.seq {f g : AS} (h : Frm f) : Frm (aSeq f g) := fun σ s => by
  rcases h σ s with e | e
  · left; unfold aSeq; rw [e]; rfl
  · exact .inr e
structure DGn (W : Wl) (E : XK) (tg : TGn) (f : AS) : Prop where
  frm : Frm f
  run : ∀ (w : Wd) (s : Sto) (σ : ASt) (σc : L2.St) (ys : List AV) (ysc : List V) (D : GEnds), Sim W w s → RSt W.toWc w σ σc → RelL W.toWc w ys ysc → (f (some (.tup ys) :: σ) s).PG W w D E → tg D ysc σc w.H
section
variable {W : Wl} {E : XK} {ts : TS} {f g : AS} {te : TE} {fe : AE} {tg ug : TGn}
theorem DGn.pl (hs : DS W (fun _ => E) ts f) : DGn W E (tPlain ts) (aPl f) := ⟨Frm.pl, fun w s σ σc ys ysc D S R Y h => by
  refine hs w s σ σc (D.at ysc) S R ?_
  have h : ((f σ s).hd (some (.tup ys))).PG W w D E := h
  cases e : f σ s with
  | nx σ' s' =>
    rw [e] at h
    obtain ⟨ys', σ0, e2, k⟩ := h
    cases e2
    exact fun w' σc' e' S' R' => k w' σc' ysc e' S' R' (Y.mono e')
  | bk σ' s' =>
    rw [e] at h
    obtain ⟨ys', σ0, e2, k⟩ := h
    cases e2
    exact fun w' σc' e' S' R' => k w' σc' ysc e' S' R' (Y.mono e')
  | ct σ' s' =>
    rw [e] at h
    obtain ⟨ys', σ0, e2, k⟩ := h
    cases e2
    exact fun w' σc' e' S' R' => k w' σc' ysc e' S' R' (Y.mono e')
  | rt v s' => rw [e] at h; exact (show False from h).elim
  | err c ns vs σ' s' => rw [e] at h; exact fun w' σc' d e' S' R' x => h w' d e' S' x
  | stuck => rw [e] at h; exact (show False from h).elim⟩
theorem DGn.nil : DGn W E (tPlain fun D σ H => D.nx σ H) (aPl aNext) := DGn.pl DS.next
theorem DGn.seq (hf : DGn W E tg f) (hg : DGn W E ug g) : DGn W E (tGThen tg ug) (aSeq f g) := ⟨hf.frm.seq, fun w s σ σc ys ysc D S R Y h => by
  refine hf.run w s σ σc ys ysc _ S R Y ?_
  have h : ((f (some (.tup ys) :: σ) s).thn g).PG W w D E := h
  cases e : f (some (.tup ys) :: σ) s with
  | nx σ' s' =>
    rw [e] at h
    have h : (g σ' s').PG W w D E := h
    rcases hg.frm σ' s' with e2 | ⟨ys', σ0, rfl⟩
    · rw [e2] at h; exact (show False from h).elim
    · exact ⟨ys', σ0, rfl, fun w' σc' ysc' e' S' R' Y' => hg.run w' s' σ0 σc' ys' ysc' D S' R' Y' (h.mono e')⟩
  | bk σ' s' => rw [e] at h; exact h
  | ct σ' s' => rw [e] at h; exact h
  | rt v s' => rw [e] at h; exact h
  | err c ns vs σ' s' => rw [e] at h; exact h
  | stuck => rw [e] at h; exact h⟩
/-- a generator's promise -/
def spGF (W : Wl) (n : Nat) (F : List AV → Sto → Res AV) : SpG := fun vs H cont E => ∃ (w : Wd) (s : Sto) (args : List AV), H = w.H ∧ Sim W w s ∧ RelL W.toWc w args vs ∧ args.length = n ∧
  (F args s).Post (fun v s' => ∃ ys, v = .tup ys ∧ ∀ w' ysc, Ext w w' → Sim W w' s' → RelL W.toWc w' ys ysc → cont ysc w'.H) (ErrP W w E)
theorem spGF.len {n : Nat} {F : List AV → Sto → Res AV} {vs : List V} {H : Hp} {Q : List V → Hp → Prop} {E : XK} (h : spGF W n F vs H Q E) : vs.length = n := by
  obtain ⟨w, s, args, rfl, S, R, hn, p⟩ := h
  rw [← R.length]; exact hn
def toL (r : Res AV) : Res AV := r.bind fun v s => match v with | .tup ys => newL ys s | _ => .stuck
@[simp] theorem toL_ok {ys : List AV} {s : Sto} : toL (.ok (.tup ys) s) = newL ys s := rfl
@[simp] theorem toL_err {c : String} {ns : List Str} {vs : List AV} {s : Sto} : toL (.err c ns vs s) = .err c ns vs s := rfl
variable {ta : TE} {tr : TA} {fa : AE} {fr : AA}
end
end
end Ab
namespace Ab
open PySem PySem.Spec PyProof.Rows L2
open Classical
end Ab
namespace Ab
open PySem PySem.Spec PyProof.Rows L2
open Classical
end Ab
namespace Gx
open PySem PySem.Spec PyProof.Rows L2
end Gx
namespace Ab
open PySem PySem.Spec PyProof.Rows L2
open Classical
noncomputable section
def Rows (xs : List AV) : Prop := ∃ rows : List (List Int), xs = rows.map (fun r => AV.tup (r.map AV.int)) ∧ rows.Nodup ∧ rows.length < 64
end
end Ab
namespace Ab
open PySem PySem.Spec PyProof.Rows L2 GenW
/-- int of a whole number or of True, False -/
def gIntOf : List AV → Sto → Res AV := fun xs s => match xs with | [.int i] => .ok (.int i) s | [.bl b] => .ok (.int (if b then 1 else 0)) s | _ => .stuck
@[simp] theorem gIntOf_int {i : Int} {s : Sto} : gIntOf [.int i] s = .ok (.int i) s := rfl
@[simp] theorem gIntOf_bl {b : Bool} {s : Sto} : gIntOf [.bl b] s = .ok (.int (if b then 1 else 0)) s := rfl
end Ab
set_option Elab.async false
set_option linter.all false
set_option maxRecDepth 100000
set_option maxHeartbeats 1000000
set_option Elab.async false
set_option linter.all false
set_option maxRecDepth 100000
set_option maxHeartbeats 1000000
namespace Ab
open PySem PySem.Spec PyProof.Rows L2
open Classical
noncomputable section
section
variable {W : Wl} {E : L2.St → XK} {ta te : TE} {fa fe : AE} {t1 t2 : TA} {f1 f2 : AA}
theorem RelL.at {w : Wd} {xs : List AV} {vs : List V} (h : RelL W w xs vs) : ∀ i : Nat, (xs[i]? = none ∧ vs[i]? = none) ∨ ∃ x v, xs[i]? = some x ∧ vs[i]? = some v ∧ Rel W w x v := by
  induction xs generalizing vs with
  | nil => cases h; exact fun i => .inl ⟨rfl, rfl⟩
  | cons x xs ih =>
    cases h with
    | cons h t =>
      intro i
      cases i with
      | zero => exact .inr ⟨_, _, rfl, rfl, h⟩
      | succ i => exact ih t i
end
end
end Ab
set_option Elab.async false
set_option linter.all false
set_option maxRecDepth 100000
set_option maxHeartbeats 1000000
namespace Gx
open PySem PySem.Spec PyProof.Rows L2 GenW
end Gx
namespace Ab
open PySem PySem.Spec PyProof.Rows L2 GenW
open Classical
end Ab
set_option Elab.async false
set_option linter.all false
set_option maxRecDepth 100000
set_option maxHeartbeats 1000000
namespace PySem
theorem newE_any {v : Value} {o : Obj} {HH : Heap → Prop} (B : Begins v o HH) :
    Meets (Builtin.«enumerate.__new__» ⟨[.type "enumerate", v], []⟩) (fun _ R s => HH s.heap ∧
      R (.ok (.ret (.ref (s.heap.push o).objs.size))) { s with heap := (s.heap.push o).push { cls := .type "enumerate", data := .fields #[.none, .bool false, .ref s.heap.objs.size, rawInt 0, .none, .none] } }) :=
  .of_wp fun P w A R st => fun ⟨g1, g2⟩ => by
    obtain ⟨hp, a1, a2, a3, a4⟩ := st
    have hsub := sub_enumerate
    have go : ∀ {A' : Around} {E Q : Value → Shared → Prop}, Q (.ref hp.objs.size) ⟨hp.push o, a1, a2, a3, a4⟩ → wpAny (model P w) A' (pyIter v) Q E ⟨hp, a1, a2, a3, a4⟩ := fun q => B.iter P w _ _ ⟨hp, a1, a2, a3, a4⟩ _ g1 q
    wp_walk using go
    refine wpAny_stack_any fun _ => wpAny_pure ?_
    split
    · rename_i c _ _ _ _ _
      cases (c == Value.type "enumerate")
      all_goals wp_walk using go
      all_goals exact ⟨_, rfl, g2⟩
    · wp_walk using go
      exact ⟨_, rfl, g2⟩
end PySem
namespace Gx
open PySem PySem.Spec PyProof.Rows L2
/-- the tuple at a, its items in new pairs -/
def ItE (K : PySem.W.Frag) (a : Addr) : It :=
  ⟨fun i H => ∃ (xs : List V) (x : V), SqT K H a xs ∧ xs[i]? = some x, fun i H v H' => ∃ T x, v = .ref T ∧ H T = none ∧ H' = upd H T (.tup [.int (i : Nat), x]) ∧ ∀ xs, SqT K H a xs → xs[i]? = some x, fun i H => ∃ xs : List V, SqT K H a xs ∧ xs.length ≤ i⟩
theorem turnE {P : Program} {w : World} {K : PySem.W.Frag} {es : List Expr} {n : Nat} {ps : Pos} (a e it : Addr) :
    Turn P w K (.Tuple es n ps) (ItE K a) [e, it] e (fun i h => (∃ old, IsEnum h e it ((i : Nat) : Int) old) ∧ h.IsTupleIter it a i ∧ e ≠ it ∧ e ≠ a ∧ a ≠ it) where
  mem := List.mem_cons_self
  obj := fun i h st b hb => by
    obtain ⟨⟨old, k1⟩, ⟨o, k2, _, k3⟩, _⟩ := st
    simp only [List.mem_cons, List.not_mem_nil, or_false] at hb
    rcases hb with rfl | rfl
    · exact ⟨_, k1, fun v q => nomatch q⟩
    · exact ⟨o, k2, fun v q => by rw [k3] at q; cases q⟩
  keep := fun i h h' ⟨⟨old, k1⟩, k2, k3⟩ k => ⟨⟨old, k e List.mem_cons_self _ k1⟩, k2.at fun o q => k it (.tail _ List.mem_cons_self) o q, k3⟩
  item := by
    rintro X rfl rfl rfl hc i pins s σ H E I hf ⟨⟨old, k1⟩, k2, n1, n2, n3⟩ ⟨xs, x, hq, hx⟩
    obtain ⟨its, rv, p, hz⟩ := I.tuple hq
    have p : s.heap.IsTuple a its.toArray := p
    obtain ⟨u, hu, ru⟩ := rv.get hx
    have le : e < s.heap.objs.size := Heap.lt_size k1
    have li : it < s.heap.objs.size := by obtain ⟨_, q, _⟩ := k2; exact Heap.lt_size q
    have il : i < its.toArray.size := by
      have := (List.getElem?_eq_some_iff.mp hu).1
      simpa using this
    refine wpAny_pyNext_enum_itemD (Draws.tuple (prog := X.prog) (w := X.w) (A := X.A.in1) (show X.A.in1.handled = none from I.ok.hd hc) it a n3 its.toArray) k1 ⟨k2, p⟩ il n1 (by simp [n1, n2]) fun y h' tk hy ho ⟨hit', _⟩ hT hsz hk => ?_
    have hy : u = y := by
      have hy : its.toArray[i]? = some y := hy
      rw [List.getElem?_toArray, hu] at hy
      exact Option.some.inj hy
    subst hy
    refine ⟨_, rfl, wpAny_letOwnedTupleGo_enum (s := { s with heap := h', toks := tk + 1 }) ho fun h'' he' sb => ?_⟩
    have hT2 : h''.get? s.heap.objs.size = some { cls := .type "tuple", data := .seq #[.int i tk, u] } := (sb.2 _ (Nat.ne_of_gt le)).trans hT
    have new : ObjOk X.prog X.w (upd H s.heap.objs.size (.tup [.int (i : Nat), x])) h'' s.heap.objs.size (.tup [.int (i : Nat), x]) :=
      ⟨show 2 ≤ sizeLine by decide, [.int i tk, u], .cons ⟨_, rfl⟩ (.cons ru .nil), ⟨_, hT2, rfl, _, rfl⟩⟩
    have I1 : Inv X pins σ (upd H s.heap.objs.size (.tup [.int (i : Nat), x])) { s with heap := h'', toks := tk + 1 } :=
      I.turnedNew (t' := tk + 1) (ch := [e, it]) (fun b ob hb q => (sb.2 b fun z => hb (by simp [z])).trans (hk b ob (fun z => hb (by simp [z])) (fun z => hb (by simp [z])) q)) hf (Nat.le_refl _) new
    refine ⟨.ref s.heap.objs.size, _, I1, rfl, ⟨_, x, rfl, I.hok.fresh (Nat.le_refl _), rfl, fun ys hy => by rw [I.tuple_inj hy hq]; exact hx⟩, ⟨⟨u, ?_⟩, hit'.at fun o q => (sb.2 it (Ne.symm n1)).trans q, n1, n2, n3⟩, fun b hb => ?_⟩
    · rw [show ((i + 1 : Nat) : Int) = (i : Int) + 1 by omega]
      exact he'
    · have hb' : b < s.heap.objs.size := by
        simp only [List.mem_cons, List.not_mem_nil, or_false] at hb
        rcases hb with rfl | rfl
        · exact le
        · exact li
      rw [upd_ne (Nat.ne_of_lt hb')]
      exact (hf b hb).1
  done := by
    rintro X rfl rfl rfl hc i pins s σ H E I hf ⟨⟨old, k1⟩, k2, n1, n2, n3⟩ ⟨xs, hq, hx⟩
    obtain ⟨its, rv, p, hz⟩ := I.tuple hq
    have p : s.heap.IsTuple a its.toArray := p
    obtain ⟨f0, f1, f2, f3, f4, f5⟩ := hf it (.tail _ List.mem_cons_self)
    have hl := rv.length
    have hne : its.toArray[i]? = none := by simp; omega
    exact endE (I.ok.hd hc) k1 k2 p hne fun h' eb => ⟨rfl, I.turned (t' := s.toks) (fun b o hb q => eb b o hb q) f0 f1 f3 f4 f5⟩
  self := fun A i s Q E ⟨⟨_, k1⟩, _⟩ h => wpAny_pyIter_enum k1 h
where
  endE {P : Program} {w : World} {A : Around} {E : Value → Shared → Prop} {s : Shared} {e it l : Addr} {i : Nat} {items : Array Value} {old : Value} {Q : Option Value → Shared → Prop} (hh : A.handled = none)
    (he : IsEnum s.heap e it i old) (hit : s.heap.IsTupleIter it l i) (hl : s.heap.IsTuple l items) (hx : items[i]? = none) (hQ : ∀ h', Heap.ExtBut it s.heap h' → Q none { s with heap := h' }) :
    wpAny (model P w) A (pyNext (.ref e)) Q E s := by
    unfold pyNext
    refine wpAny_bind (wpAny_attempt (wpAny_callSpecial?_slot (name := Str.ofString "__next__") ⟨_, he, rfl⟩ F.slot_enumerate_next (wpAny_call_entry F.slot_enumerate_next ⟨_, he, rfl⟩ F.entry_enumerate_next ?_ (F.args_enumerate_next_1 _))))
    show wpAny _ _ (field (.ref e) 2 >>= _) _ _ _
    refine wpAny_bind (wpAny_field he rfl (x := .ref it) rfl ?_)
    refine wpAny_bind (wpAny_nextOf_tuple_end hh hit hl hx fun h' x k1 ⟨o, k2, k3⟩ => ?_)
    exact wpAny_bind (wpAny_isInstance (T := "StopIteration") (b := true) ⟨o, k2, k3⟩ isSubtype_stop (wpAny_pure (hQ _ k1)))
def iEnT (K : PySem.W.Frag) (ta : TA) : TI := fun σ H R => ta σ H fun vs H1 => ∃ a xs, vs = [.ref a] ∧ SqT K H1 a xs ∧ R (ItE K a) H1
theorem pi_enT {X : Cx} {e : Expr} {ta : TA} {p pos tp : Pos} {es : List Expr} {n : Nat} (hg : Gl X "enumerate") (hm : X.mg "enumerate" = none) (ha : PA X [e] ta) (hs : starEach [e] X.env = [(false, eval e X.env)] := by rfl) :
    PI X (.Tuple es n tp) (.Call (.Name "enumerate" p) [e] [] pos) (iEnT X.K ta) := ⟨fun pins s σ H R I h => by
  refine Call_ (ld_blt I hg hm boot_enumerate (PyProof.Rows.callWith_type1 (thn (ha.run pos pins s σ H _ I h) fun us s1 ⟨vs, H1, I1, r1, a, xs, ex, hq, q⟩ => ?_) hs rfl))
  subst ex
  cases r1 with
  | cons r rr =>
    cases rr
    cases r
    obtain ⟨its, rv, p', hz⟩ := I1.tuple hq
    have p' : s1.heap.IsTuple a its.toArray := p'
    have la : a < s1.heap.objs.size := by obtain ⟨o, q, _⟩ := id p'; exact Heap.lt_size q
    refine callType_new F.called_enumerate (by decide) (F.typeCall_enumerate_1 _) (F.newCall_enumerate_1 _) (fun obj => F.args_object_init_2 obj _) F.entry_enumerate_new (newE_any (begins_tuple a its.toArray)) ⟨p', ?_⟩
    obtain ⟨o, ho⟩ : ∃ o : Obj, o = { cls := .type "tuple_iterator", data := .fields #[.ref a, .int 0 0] } := ⟨_, rfl⟩
    rw [← ho]
    have of : o.isFreed = false := by rw [ho]; rfl
    have sz : (s1.heap.push o).objs.size = s1.heap.objs.size + 1 := Heap.size_push ..
    show _ ∧ _
    rw [sz]
    have he : IsEnum ((s1.heap.push o).push { cls := .type "enumerate", data := .fields #[.none, .bool false, .ref s1.heap.objs.size, rawInt 0, .none, .none] }) (s1.heap.objs.size + 1) s1.heap.objs.size 0 .none := by
      have := Heap.get?_push_size (s1.heap.push o) (o := { cls := .type "enumerate", data := .fields #[.none, .bool false, .ref s1.heap.objs.size, rawInt 0, .none, .none] }) rfl
      rw [sz] at this; exact this
    refine ⟨⟨_, he, rfl⟩, wpAny_pyIter_enum he ?_⟩
    have kk : ∀ b ob, s1.heap.get? b = some ob → ((s1.heap.push o).push { cls := .type "enumerate", data := .fields #[.none, .bool false, .ref s1.heap.objs.size, rawInt 0, .none, .none] }).get? b = some ob := fun b ob q => Heap.get?_push_of_some _ (Heap.get?_push_of_some _ q)
    have hti : ((s1.heap.push o).push { cls := .type "enumerate", data := .fields #[.none, .bool false, .ref s1.heap.objs.size, rawInt 0, .none, .none] }).IsTupleIter s1.heap.objs.size a 0 := ⟨o, Heap.get?_push_of_some _ (Heap.get?_push_size _ of), by rw [ho]; first | done | rfl, by rw [ho]; first | done | rfl⟩
    refine ⟨s1.heap.objs.size + 1, [s1.heap.objs.size + 1, s1.heap.objs.size], _, _, H1, rfl, I1.kept (t' := s1.toks) kk, turnE a (s1.heap.objs.size + 1) s1.heap.objs.size, ⟨⟨.none, he⟩, hti, Nat.succ_ne_self _, Nat.ne_of_gt (Nat.lt_succ_of_lt la), Nat.ne_of_lt la⟩, fun b hb => ?_, q⟩
    have hle : s1.heap.objs.size ≤ b := by
      simp only [List.mem_cons, List.not_mem_nil, or_false] at hb
      rcases hb with rfl | rfl
      · exact Nat.le_succ _
      · exact Nat.le_refl _
    exact I1.fpOk hle (I1.hok.fresh hle)⟩
end Gx
set_option Elab.async false
set_option linter.all false
set_option maxRecDepth 100000
set_option maxHeartbeats 4000000
namespace Gx
open PySem PySem.Spec PyProof.Rows L2
end Gx
set_option Elab.async false
set_option linter.all false
set_option maxRecDepth 100000
set_option maxHeartbeats 4000000
set_option exponentiation.threshold 2000
namespace Gx
open PySem PySem.Spec PyProof.Rows L2
end Gx
set_option Elab.async false
set_option linter.all false
set_option maxRecDepth 100000
set_option maxHeartbeats 4000000
set_option exponentiation.threshold 2000
namespace Gx
open PySem PySem.Spec PyProof.Rows L2
mutual
def SmE : PyData → Prop
  | .none => True
  | .bool _ => True
  | .int i => i.natAbs < 2 ^ 600
  | .str z => (PyData.str z).showable = true ∧ (PyData.str z).shown.length + 2 ≤ 612
  | .list xs => SmEAll xs
  | .tuple xs => SmEAll xs
  | .dict xs => xs = []
def SmEAll : List PyData → Prop
  | [] => True
  | x :: xs => SmE x ∧ SmEAll xs
end
mutual
theorem smE_show : ∀ d : PyData, SmE d → d.showable = true
  | .none, _ => by simp only [PyData.showable]
  | .bool _, _ => by simp only [PyData.showable]
  | .int i, h => by
    simp only [PyData.showable, decide_eq_true_eq]
    exact Nat.lt_trans (log_lt (by decide) (show i.natAbs < 2 ^ 600 from by simpa only [SmE] using h)) (by decide)
  | .str z, h => (show (PyData.str z).showable = true ∧ _ from by simpa only [SmE] using h).1
  | .list xs, h => by
    simp only [PyData.showable]
    exact smE_showAll xs (by simpa only [SmE] using h)
  | .tuple xs, h => by
    simp only [PyData.showable]
    exact smE_showAll xs (by simpa only [SmE] using h)
  | .dict xs, h => by
    have h : xs = [] := by simpa only [SmE] using h
    subst h
    simp only [PyData.showable, PyData.showableKv]
theorem smE_showAll : ∀ xs : List PyData, SmEAll xs → PyData.showableAll xs = true
  | [], _ => by simp only [PyData.showableAll]
  | x :: xs, h => by
    simp only [SmEAll] at h
    simp only [PyData.showableAll, Bool.and_eq_true]
    exact ⟨smE_show x h.1, smE_showAll xs h.2⟩
end
mutual
theorem smE_len : ∀ d : PyData, SmE d → d.shown.length + 2 ≤ 612 * nodes d
  | .none, _ => by simp only [nodes, PyData.shown]; decide
  | .bool b, _ => by cases b <;> simp only [nodes, PyData.shown] <;> decide
  | .int i, h => by
    have z : (toString i).length ≤ 601 := int_text_length_le (by decide) (log_lt (by decide) (show i.natAbs < 2 ^ 600 from by simpa only [SmE] using h))
    have e : (PyData.shown (.int i)).length = (toString i).length := by simp only [PyData.shown]; exact PySem.ofString_length _
    rw [e]
    simp only [nodes]
    omega
  | .str z, h => by
    have h2 : (PyData.str z).shown.length + 2 ≤ 612 := (show _ ∧ _ from by simpa only [SmE] using h).2
    simp only [nodes]
    omega
  | .list xs, h => by
    simp only [PyData.shown, nodes]
    have a := listText_len_le (PyData.shownAll xs)
    have b := smE_lenAll xs (by simpa only [SmE] using h)
    omega
  | .tuple xs, h => by
    simp only [PyData.shown, nodes]
    have a := tupleText_len_le (PyData.shownAll xs)
    have b := smE_lenAll xs (by simpa only [SmE] using h)
    omega
  | .dict xs, h => by
    have h : xs = [] := by simpa only [SmE] using h
    subst h
    simp only [PyData.shown, PyData.shownKv, nodes]
    exact Nat.le_of_ble_eq_true (by decide +kernel)
theorem smE_lenAll : ∀ xs : List PyData, SmEAll xs → ((PyData.shownAll xs).map (·.length)).sum + 2 * (PyData.shownAll xs).length ≤ 612 * nodesAll xs
  | [], _ => by simp [PyData.shownAll, nodesAll]
  | x :: xs, h => by
    simp only [SmEAll] at h
    have a := smE_len x h.1
    have b := smE_lenAll xs h.2
    simp only [PyData.shownAll, nodesAll, List.map_cons, List.sum_cons, List.length_cons]
    omega
end
theorem okdE {d : PyData} (h : SmE d) (hd : d.depth ≤ 60) (hn : nodes d ≤ 20000) : Okd d := ⟨smE_show d h, hd, by
  have := smE_len d h
  have e : sizeLine = 16777216 := sizeLine_eq
  omega⟩
end Gx
set_option Elab.async false
set_option linter.all false
set_option maxRecDepth 100000
set_option maxHeartbeats 1000000
namespace Ab
open PySem PySem.Spec PyProof.Rows L2
open Classical
noncomputable section
section
variable {W : Wl} {E : L2.St → XK} {tr : TA} {fr : AA}
def enumUK : List AV → Sto → Res (List AV × (Sto → Prop)) := fun xs s1 => match xs with
  | [.tup ys] => .ok (enumA ys, fun _ => True) s1
  | xs => enumK xs s1
theorem enumUK_of {xs : List AV} {s1 : Sto} (c : ¬ ∃ ys, xs = [.tup ys]) : enumUK xs s1 = enumK xs s1 := by
  unfold enumUK
  split
  · exact absurd ⟨_, rfl⟩ c
  · rfl
def aEnumU (fr : AA) : AI := fun σ s => (fr σ s).bind enumUK
def enU (K : PySem.W.Frag) (ta : TA) : TI := fun σ H R => iEnum K ta σ H R ∨ Gx.iEnT K ta σ H R
theorem itw_enT {w0 : Wd} {a : Addr} {xs : List AV} {vs : List V} (h : SqT W.K w0.H a vs) (r : RelL W w0 xs vs) (G : Sto → Prop) : ItW W w0 (Gx.ItE W.K a) (enumA xs) G := by
  have hl := r.length
  refine ⟨xs.length, fun H => ∃ e, SqT W.K H a vs ∧ e = vs.length, fun i H v H' => ∃ T x, v = .ref T ∧ H T = none ∧ H' = upd H T (.tup [.int (i : Nat), x]) ∧ vs[i]? = some x, ⟨fun i H hi ⟨_, h1, h2⟩ => ⟨vs, vs[i], h1, by simp⟩, fun H ⟨_, h1, h2⟩ => ⟨vs, h1, Nat.le_of_eq hl.symm⟩, fun i H x H' hi ⟨_, h1, _⟩ ⟨T, x', y1, y2, y3, y4⟩ => ⟨T, x', y1, y2, y3, y4 vs h1⟩⟩, by simp [enumA], fun w s e S' g => ⟨_, sqt_ext e h, rfl⟩, fun w s i y H' e S' g hi hy => ?_⟩
  obtain ⟨T, u, rfl, hT, rfl, h2⟩ := hy
  obtain ⟨z, y1, y2⟩ := (r.mono e).getv i u h2
  have gr := grow_upd (o := .tup [.int (i : Nat), u]) hT
  refine ⟨.tup [.int (i : Nat), z], _, ?_, rfl, .grow gr, S'.grow gr, .tup (.inl (.inl upd_same)) (.cons (.int _) (.cons (y2.mono (.grow gr)) .nil))⟩
  unfold enumA
  rw [List.getElem?_mapIdx, y1]
  rfl
theorem DI.enumU (ha : DA W E tr fr) : DI W E (enU W.K tr) (aEnumU fr) := fun w s σ σc R S Rs h => by
  cases e : fr σ s with
  | stuck =>
    have : aEnumU fr σ s = .stuck := by unfold aEnumU; rw [e]; rfl
    rw [this] at h; exact h.elim
  | err c ns vs s1 =>
    have : aEnumU fr σ s = .err c ns vs s1 := by unfold aEnumU; rw [e]; rfl
    rw [this] at h
    exact .inl (ha w s σ σc _ S Rs (by rw [e]; exact h))
  | ok xs s1 =>
    have e1 : aEnumU fr σ s = enumUK xs s1 := by unfold aEnumU; rw [e]; rfl
    rw [e1] at h
    by_cases c : ∃ ys, xs = [.tup ys]
    · obtain ⟨ys, rfl⟩ := c
      refine .inr (ha w s σ σc _ S Rs ?_)
      rw [e]
      intro w1 v x1 S1 r1
      cases r1 with
      | cons r1 r2 =>
        cases r2
        cases r1 with
        | @tup a _ vs k1 k2 => exact ⟨a, vs, rfl, k1, h w1 _ x1 S1 (itw_enT k1 k2 _)⟩
    · have e2 : aEnum fr σ s = enumUK xs s1 := by
        rw [e_enum, e, Res.bind_ok, enumUK_of c]
      rw [← e2] at h
      exact .inl (DI.enum ha w s σ σc R S Rs h)
theorem e_enumU {σ : ASt} {s : Sto} : aEnumU fr σ s = (fr σ s).bind enumUK := rfl
theorem e_enumUT {ys : List AV} {s : Sto} : enumUK [.tup ys] s = .ok (enumA ys, fun _ => True) s := rfl
def gMulV : AV → AV → Sto → Res AV := fun x y s => match x, y with
  | .tup a, .int k => if a ≠ [] ∧ -1000 ≤ k ∧ k ≤ 1000 ∧ a.length ≤ 1000 then .ok (.tup (List.replicate k.toNat a).flatten) s else .stuck
  | x, y => gMul x y s
@[simp] theorem gMulV_int {i j : Int} {s : Sto} : gMulV (.int i) (.int j) s = gMul (.int i) (.int j) s := rfl
@[simp] theorem gMulV_str {i : Str} {j : Int} {s : Sto} : gMulV (.str i) (.int j) s = gMul (.str i) (.int j) s := rfl
@[simp] theorem gMulV_obj {i : Nat} {j : Int} {s : Sto} : gMulV (.obj i) (.int j) s = gMul (.obj i) (.int j) s := rfl
def datE : Nat → Sto → AV → Option PyData
  | 0, _, _ => none
  | n + 1, s, x => match x with
    | .non => some .none
    | .bl b => some (.bool b)
    | .int i => some (.int i)
    | .str z => some (.str z)
    | .tup xs => (optL (datE n s) xs).map .tuple
    | .scr xs => (optL (datE n s) xs).map .list
    | .obj i => match s.c i with | .lst xs => (optL (datE n s) xs).map .list | .dic [] => some (.dict []) | _ => none
    | _ => none
def gReprE : List AV → Sto → Res AV := fun xs s => match xs with | [x] => (match datE 12 s x with | some d => if d.showable = true ∧ d.depth ≤ 60 ∧ d.shown.length ≤ sizeLine then .ok (.str d.shown) s else .stuck | none => .stuck) | _ => .stuck
theorem gReprE_dat {x : AV} {s : Sto} {d : PyData} (e : datE 12 s x = some d) (h : d.showable = true ∧ d.depth ≤ 60 ∧ d.shown.length ≤ sizeLine) : gReprE [x] s = .ok (.str d.shown) s := by
  unfold gReprE; simp only [e]; exact if_pos h
end
end
end Ab
set_option Elab.async false
set_option linter.all false
set_option maxRecDepth 100000
set_option maxHeartbeats 1000000
namespace Gx
open PySem PySem.Spec PyProof.Rows L2
end Gx
set_option Elab.async false
set_option linter.all false
set_option maxRecDepth 100000
set_option maxHeartbeats 1000000
namespace Ab
open PySem PySem.Spec PyProof.Rows L2
open Classical
end Ab
set_option Elab.async false
set_option linter.all false
set_option maxRecDepth 100000
set_option maxHeartbeats 4000000
namespace Gx
open PySem PySem.Spec PyProof.Rows L2
end Gx
set_option Elab.async false
set_option linter.all false
set_option maxRecDepth 100000
set_option maxHeartbeats 2000000
namespace Ab
open PySem PySem.Spec PyProof.Rows L2
section
def aMNil : AV → AS := fun _ => aNext
def aMAny (f : AS) : AV → AS := fun _ => f
def aMCase (k : Str) (fb : AS) (fr : AV → AS) : AV → AS := fun x σ s => match x with | .str y => if y = k then fb σ s else fr (.str y) σ s | _ => .stuck
def aMCase2 (k l : Str) (fb : AS) (fr : AV → AS) : AV → AS := aMCase k fb (aMCase l fb fr)
def aMatch (fa : AE) (fc : AV → AS) : AS := fun σ s => (fa σ s).st σ fun x s1 => fc x σ s1
variable {W : Wl} {E : L2.St → XK}
def DMt (W : Wl) (E : L2.St → XK) (tc : V → TS) (fc : AV → AS) : Prop := ∀ (w : Wd) (s : Sto) (σ : ASt) (σc : L2.St) (D : Ends) (x : AV) (v : V), Sim W w s → RSt W w σ σc → Rel W w x v → (fc x σ s).P W w D E → tc v D σc w.H
theorem DMt.nil : DMt W E Mt.tEnd aMNil := fun w s σ σc D x v S R r h => h w σc (.refl w) S R
theorem DMt.any {tb : TS} {fb : AS} (hb : DS W E tb fb) : DMt W E (Mt.tAny tb) (aMAny fb) := fun w s σ σc D x v S R r h => hb w s σ σc D S R h
theorem DMt.case {k : Str} {tb : TS} {fb : AS} {tr : V → TS} {fr : AV → AS} (hb : DS W E tb fb) (hr : DMt W E tr fr) : DMt W E (Mt.tCase (tC (.str k)) tb tr) (aMCase k fb fr) := fun w s σ σc D x v S R r h => by
  unfold aMCase at h
  cases r with
  | str y =>
    by_cases e : y = k
    · simp only [if_pos e] at h
      refine ⟨rfl, decide (V.str y = V.str k), rfl, ?_⟩
      rw [decide_eq_true (congrArg V.str e)]
      exact hb w s σ σc D S R h
    · simp only [if_neg e] at h
      refine ⟨rfl, decide (V.str y = V.str k), rfl, ?_⟩
      rw [decide_eq_false (fun c => e (V.str.inj c))]
      exact hr w s σ σc D _ _ S R (.str y) h
  | _ => exact h.elim
theorem DS.match {ta : TE} {fa : AE} {tc : V → TS} {fc : AV → AS} (ha : DE W E ta fa) (hc : DMt W E tc fc) : DS W E (Mt.tMatch ta tc) (aMatch fa fc) := fun w s σ σc D S R h =>
  ha w s σ σc _ S R ((exp_post R h).mono (fun v s1 h1 w1 vc e1 S1 r1 => hc w1 s1 σ σc D v vc S1 (R.mono e1) r1 (P.mono e1 h1)) fun _ _ _ _ z => z)
end
section
noncomputable def gMulB : AV → AV → Sto → Res AV := fun x y s => match x, y with
  | .tup [a], .int k => if 2 ≤ k ∧ k ≤ 100000 then .ok (.tup (List.replicate k.toNat [a]).flatten) s else gMulV (.tup [a]) (.int k) s
  | x, y => gMulV x y s
@[simp] theorem gMulB_int {i j : Int} {s : Sto} : gMulB (.int i) (.int j) s = gMul (.int i) (.int j) s := rfl
@[simp] theorem gMulB_str {i : Str} {j : Int} {s : Sto} : gMulB (.str i) (.int j) s = gMul (.str i) (.int j) s := rfl
@[simp] theorem gMulB_obj {i : Nat} {j : Int} {s : Sto} : gMulB (.obj i) (.int j) s = gMul (.obj i) (.int j) s := rfl
end
section
variable {k l : Str} {fb : AS} {fr : AV → AS} {y : Str} {x : AV} {σ : ASt} {s : Sto} {fa : AE} {fc : AV → AS}
theorem e_match : aMatch fa fc σ s = (fa σ s).st σ fun x s1 => fc x σ s1 := rfl
theorem e_mcase : aMCase k fb fr (.str y) σ s = if y = k then fb σ s else fr (.str y) σ s := rfl
theorem e_mcase2 : aMCase2 k l fb fr (.str y) σ s = if y = k then fb σ s else if y = l then fb σ s else fr (.str y) σ s := rfl
theorem e_many : aMAny fb x σ s = fb σ s := rfl
theorem e_mnil : aMNil x σ s = .nx σ s := rfl
end
end Ab
set_option Elab.async false
set_option linter.all false
set_option maxRecDepth 100000
set_option maxHeartbeats 1000000
namespace Sm
open PySem PySem.Spec PyProof.Rows L2
def rEq0 (K : PySem.W.Frag) : R2 := fun x y H Q => ∃ a b xs, x = .ref a ∧ y = .ref b ∧ SqT K H a xs ∧ SqT K H b [] ∧ xs ≠ [] ∧ Q (.bl false) H
section
variable {X : Cx}
theorem op_eq0 (hu : X.A.units + 64 < cLine) : OpR X (compareOp .Eq) (rEq0 X.K) := by
  intro pins s σ H x y v u Q I rx ry h
  obtain ⟨a, b, xs, rfl, rfl, h, h', hn, q⟩ := h
  cases rx
  cases ry
  obtain ⟨its, r1, p1, _⟩ := I.tuple h
  obtain ⟨its2, r2, p2, _⟩ := I.tuple h'
  have e1 := r1.length
  have e2 : its2 = [] := List.eq_nil_of_length_eq_zero r2.length.symm
  subst e2
  have := SeqAt.RcAt.tuples (A := X.A) (e := fun _ => true) p1 p2 (by omega) fun j h1 h2 => absurd h2 (by simp)
  have sz : (its.toArray.size == ([] : List Value).toArray.size) = false := by
    rw [beq_eq_false_iff_ne, List.size_toArray, ← e1]
    exact fun c => hn (List.eq_nil_of_length_eq_zero c)
  rw [sz, Bool.and_false] at this
  exact this _ _ _ _ ⟨.bl _, H, I, rfl, q⟩
end
end Sm
set_option Elab.async false
set_option linter.all false
set_option maxRecDepth 100000
set_option maxHeartbeats 1000000
namespace Ab
open PySem PySem.Spec PyProof.Rows L2
open Classical
noncomputable section
/-- a tuple == () -/
def gEq0 : AV → AV → Sto → Res AV := fun x y s => match x, y with
  | .tup (_ :: _), .tup [] => .ok (.bl false) s
  | x, y => gEq x y s
@[simp] theorem gEq0_tup {a : AV} {l : List AV} {s : Sto} : gEq0 (.tup (a :: l)) (.tup []) s = .ok (.bl false) s := rfl
theorem NE2.eq0 : NE2 gEq0 := fun x y s c ns vs s' h => by
  unfold gEq0 at h
  split at h
  · cases h
  · exact NE2.eq _ _ _ _ _ _ _ h
def rEqZ (K : PySem.W.Frag) : R2 := fun x y H Q => Sm.rEq0 K x y H Q ∨ rEqU K x y H Q
theorem op_eqZ {X : Cx} (hu : X.A.units + 64 < cLine) : OpR X (compareOp .Eq) (rEqZ X.K) := OpR.or (Sm.op_eq0 hu) (op_eqU hu)
theorem DR.eq0 {W : Wl} : DR W (rEqZ W.K) gEq0 := fun w s x y v u Q S rx ry h => by
  unfold gEq0 at h
  split at h
  · rename_i a l
    cases rx with
    | @tup a' xs vs h1 r1 =>
      cases ry with
      | @tup b' ys us h2 r2 =>
        cases r2
        exact .inl ⟨_, _, vs, rfl, rfl, h1, h2, (by rintro rfl; cases r1), h w _ (.refl w) S (.bl false)⟩
  · exact .inr (DR.eq w s x y v u Q S rx ry h)
end
end Ab
set_option Elab.async false
set_option linter.all false
set_option maxRecDepth 100000
set_option maxHeartbeats 1000000
set_option Elab.async false
set_option linter.all false
set_option maxRecDepth 100000
set_option maxHeartbeats 1000000
namespace Gx
open PySem PySem.Spec PyProof.Rows L2 PySem.HandSPX
end Gx
set_option Elab.async false
set_option linter.all false
set_option maxRecDepth 100000
set_option maxHeartbeats 1000000
namespace Ab
open PySem PySem.Spec PyProof.Rows L2
open Classical
noncomputable section
section
variable {W : Wl} {E : L2.St → XK} {ta tb td : TE} {fa fb fd : AE}
/-- d.get(y, z) -/
def isDic (s : Sto) (x : AV) : Prop := ∃ i kvs, x = .obj i ∧ s.c i = .dic kvs
def gGet2 (x y z : AV) (s : Sto) : Res AV := match x, toKey y with | .obj i, some k => (match s.c i with | .dic kvs => .ok ((valA kvs k).getD z) s | _ => .stuck) | _, _ => .stuck
def aGet2 (fd fa fb : AE) : AE := fun σ s => (fd σ s).bind fun x s1 => if isDic s1 x then (fa σ s1).bind fun y s2 => (fb σ s2).bind fun z s3 => gGet2 x y z s3 else .stuck
def get2K (fa fb : AE) (σ : ASt) : AV → Sto → Res AV := fun x s1 => if isDic s1 x then (fa σ s1).bind fun y s2 => (fb σ s2).bind fun z s3 => gGet2 x y z s3 else .stuck
theorem e_get2 {σ : ASt} {s : Sto} : aGet2 fd fa fb σ s = (fd σ s).bind (get2K fa fb σ) := rfl
end
/-- x.pop(i) -/
def gPop (x : AV) (ys : List AV) (s : Sto) : Res AV := match x, ys with
  | .obj i, [.int j] => (match s.c i with | .lst xs => if -(2 ^ 63) ≤ j ∧ j < 2 ^ 63 then (match seqIndex? j xs.length with | some k => (match xs[k]? with | some y => .ok y (s.set i (.lst (xs.eraseIdx k))) | none => .stuck) | none => .stuck) else .stuck | _ => .stuck)
  | _, _ => .stuck
theorem NEM.pop : NEM gPop := fun x ys s c ns vs s' h => by
  unfold gPop at h
  repeat' split at h
  all_goals cases h
theorem eraseA_rel {W : Wc} {w : Wd} : ∀ {xs : List AV} {vs : List V}, RelL W w xs vs → ∀ k, RelL W w (xs.eraseIdx k) (vs.eraseIdx k)
  | _, _, .nil, _ => by simp only [List.eraseIdx_nil]; exact .nil
  | _, _, .cons h r, 0 => r
  | _, _, .cons h r, k + 1 => .cons h (eraseA_rel r k)
theorem DM.pop {W : Wl} : DM W rPopAt gPop := fun w s x ys v us Q S rx ry h => by
  unfold gPop at h
  split at h
  · split at h
    · rename_i i j _ xs e
      split at h
      · rename_i hb
        split at h
        · rename_i k hk
          split at h
          · rename_i y hy
            obtain ⟨vs, i1, i2, i3, i4⟩ := lstO_at S rx e
            cases ry with
            | cons r1 r2 =>
              cases r2
              cases r1
              obtain ⟨vy, v1, v2⟩ := i4.get k y hy
              refine ⟨_, vs, j, k, vy, i2, rfl, i3, hb.1, hb.2, by rw [← i4.length]; exact hk, v1, ?_⟩
              exact wr_ok S i1 (.lst (eraseA_rel i4 k)) fun w' e' S' => h w' _ e' S' (v2.mono e')
          · exact h.elim
        · exact h.elim
      · exact h.elim
    · exact h.elim
  · exact h.elim
def augSK (g : AV → AV → Sto → Res AV) (σ : ASt) (o i x y : AV) (s : Sto) : SRes := (g x y s).st σ fun z s2 => oNx σ (setL o i z s2)
def getLN (o i : AV) (s : Sto) : Option AV := match o, i with | .obj j, .int k => (match s.c j with | .lst xs => if 0 ≤ k ∧ k < 2 ^ 63 then xs[k.toNat]? else none | _ => none) | _, _ => none
def augS2 (g : AV → AV → Sto → Res AV) (fe : AE) (σ : ASt) (o i : AV) (s : Sto) : SRes := match getLN o i s with | some x => (fe σ s).st σ (augSK g σ o i x) | none => .stuck
def augS1 (g : AV → AV → Sto → Res AV) (fi fe : AE) (σ : ASt) (o : AV) (s : Sto) : SRes := (fi σ s).st σ (augS2 g fe σ o)
def aAugS (g : AV → AV → Sto → Res AV) (fo fi fe : AE) : AS := fun σ s => (fo σ s).st σ (augS1 g fi fe σ)
theorem s_augS {g : AV → AV → Sto → Res AV} {fo fi fe : AE} {σ : ASt} {s : Sto} : aAugS g fo fi fe σ s = (fo σ s).st σ (augS1 g fi fe σ) := rfl
theorem s_augS1 {g : AV → AV → Sto → Res AV} {fi fe : AE} {σ : ASt} {s : Sto} {o : AV} : augS1 g fi fe σ o s = (fi σ s).st σ (augS2 g fe σ o) := rfl
/-- lists of the very same things are equal -/
def gEqS : AV → AV → Sto → Res AV := fun x y s => match lstOf s x, lstOf s y with
  | some xs, some ys => if xs = ys ∧ xs.all (smA 19) = true then .ok (.bl true) s else gEq x y s
  | _, _ => gEq x y s
@[simp] theorem gEqS_int {i j : Int} {s : Sto} : gEqS (.int i) (.int j) s = .ok (.bl (decide (i = j))) s := gEq_int
@[simp] theorem gEqS_str {i j : Str} {s : Sto} : gEqS (.str i) (.str j) s = .ok (.bl (decide (i = j))) s := gEq_str
@[simp] theorem gEqS_bl {i j : Bool} {s : Sto} : gEqS (.bl i) (.bl j) s = .ok (.bl (decide (i = j))) s := gEq_bl
@[simp] theorem gEqS_tup {i : List AV} {j : AV} {s : Sto} : gEqS (.tup i) j s = gEq (.tup i) j s := rfl
def gMulW : AV → AV → Sto → Res AV := fun x y s => match x, y with
  | .tup [a], .int k => if 1000 < k ∧ k ≤ 100000 then .ok (.tup (List.replicate k.toNat [a]).flatten) s else gMulV (.tup [a]) (.int k) s
  | x, y => gMulV x y s
@[simp] theorem gMulW_int {i j : Int} {s : Sto} : gMulW (.int i) (.int j) s = gMul (.int i) (.int j) s := rfl
@[simp] theorem gMulW_str {i : Str} {j : Int} {s : Sto} : gMulW (.str i) (.int j) s = gMul (.str i) (.int j) s := rfl
@[simp] theorem gMulW_obj {i : Nat} {j : Int} {s : Sto} : gMulW (.obj i) (.int j) s = gMul (.obj i) (.int j) s := rfl
end
end Ab
namespace Gx
open PySem PySem.Spec PyProof.Rows L2
end Gx
namespace Ab
open PySem PySem.Spec PyProof.Rows L2
open Classical
end Ab
namespace Gx
open PySem PySem.Spec PyProof.Rows L2
end Gx
namespace Ab
open PySem PySem.Spec PyProof.Rows L2
open Classical
end Ab
namespace Gx
open PySem PySem.Spec PyProof.Rows L2
end Gx
namespace Ab
open PySem PySem.Spec PyProof.Rows L2
open Classical
noncomputable section
def aMethS (c : String) (m : Str) (F : List AV → Sto → Res AV) (fa : AE) (fr : AA) : AE := fun σ s => (fa σ s).bind fun x s1 => if clsIs s1 x c m = true then (fr σ s1).bind fun xs s2 => if xs.length ≤ sizeLine then F [x, .tup xs] s2 else .stuck else .stuck
section
variable {c : String} {m : Str} {F : List AV → Sto → Res AV} {fa : AE} {fr : AA} {σ : ASt} {s : Sto} {x : AV} {xs : List AV}
def mSK2 (F : List AV → Sto → Res AV) (x : AV) : List AV → Sto → Res AV := fun xs s2 => if xs.length ≤ sizeLine then F [x, .tup xs] s2 else .stuck
def mSK1 (c : String) (m : Str) (F : List AV → Sto → Res AV) (fr : AA) (σ : ASt) : AV → Sto → Res AV := fun x s1 => if clsIs s1 x c m = true then (fr σ s1).bind (mSK2 F x) else .stuck
theorem e_methS : aMethS c m F fa fr σ s = (fa σ s).bind (mSK1 c m F fr σ) := rfl
theorem e_methS1 : mSK1 c m F fr σ x s = grd (clsIs s x c m = true) ((fr σ s).bind (mSK2 F x)) := rfl
theorem e_methS2 : mSK2 F x xs s = grd (xs.length ≤ sizeLine) (F [x, .tup xs] s) := rfl
end
end
end Ab
namespace Ab
open PySem PySem.Spec PyProof.Rows L2
open Classical
noncomputable section
def lcIX (k : Nat) (G : Sto → Prop) (g : AV → AS) (ft : AT) (fe : AE) (σ0 : ASt) : List AV → Sto → Res AV
  | [] => fun s => if G s then .ok (.obj k) s else .stuck
  | x :: r => fun s => if G s then (match g x σ0 s with
    | .nx σ2 s2 => (match ft σ2 s2 with
      | .ok true s3 => (match fe σ2 s3 with
        | .ok y s4 => (match s4.c k with | .lst acc => if acc.length < sizeLine then lcIX k G g ft fe σ0 r (s4.set k (.lst (acc ++ [y]))) else .stuck | _ => .stuck)
        | .err c ns vs s4 => .err c ns vs s4
        | .stuck => .stuck)
      | .ok false s3 => lcIX k G g ft fe σ0 r s3
      | .err c ns vs s3 => .err c ns vs s3
      | .stuck => .stuck)
    | _ => .stuck) else .stuck
def aLcX (fi : AI) (g : AV → AS) (ft : AT) (fe : AE) (vs : List Nat) : AE := fun σ s => (fi σ s).bind fun p s1 => lcIX s1.n p.2 g ft fe (wipeA σ vs) p.1 (s1.new (.lst []))
section
variable {σ : ASt} {s : Sto} {fi : AI} {g : AV → AS} {ft : AT} {fe : AE} {vs : List Nat}
def lcXK (g : AV → AS) (ft : AT) (fe : AE) (vs : List Nat) (σ : ASt) : List AV × (Sto → Prop) → Sto → Res AV := fun p s1 => lcIX s1.n p.2 g ft fe (wipeA σ vs) p.1 (s1.new (.lst []))
theorem e_lcX : aLcX fi g ft fe vs σ s = (fi σ s).bind (lcXK g ft fe vs σ) := rfl
theorem e_lcXK {xs : List AV} {G : Sto → Prop} : lcXK g ft fe vs σ (xs, G) s = lcIX s.n G g ft fe (wipeA σ vs) xs (s.new (.lst [])) := rfl
end
end
end Ab
set_option Elab.async false
set_option linter.all false
set_option maxRecDepth 100000
set_option maxHeartbeats 2000000
namespace Gx
open PySem PySem.Spec PyProof.Rows L2
end Gx
set_option Elab.async false
set_option linter.all false
set_option maxRecDepth 100000
set_option maxHeartbeats 1000000
namespace Ab
open PySem PySem.Spec PyProof.Rows L2
open Classical
end Ab
set_option Elab.async false
set_option linter.all false
set_option maxRecDepth 100000
set_option maxHeartbeats 2000000
namespace Ve
open PySem
/-- it could not be woken -/
def veil : GenState → GenState
  | .suspended _ l c p fs cl => .suspended (fun _ => .unsupported "") l c p fs cl
  | x => x
def sleeps : GenState → Bool
  | .suspended .. => true
  | _ => false
/-- no generator's frame among them -/
def pureG : GenState → Prop
  | .suspended _ _ _ _ fs _ => splitAtGen fs = none
  | _ => True
/-- the tables: where V holds, the state st stands, veiled in the first one; elsewhere they are alike -/
structure Rg (V : Nat → Prop) (st : Nat → GenState) (a b : Array GenState) : Prop where
  sz : b.size = a.size
  v : ∀ i, V i → sleeps (st i) = true ∧ a[i]? = some (veil (st i)) ∧ b[i]? = some (st i)
  e : ∀ i, ¬ V i → b[i]? = a[i]?
  p : ∀ i x, ¬ V i → a[i]? = some x → pureG x
variable {V : Nat → Prop} {st : Nat → GenState} {a b : Array GenState}
theorem Rg.lt (r : Rg V st a b) {i : Nat} (h : V i) : i < a.size := by
  obtain ⟨_, h1, _⟩ := r.v i h
  exact (Array.getElem?_eq_some_iff.mp h1).1
theorem Rg.push (r : Rg V st a b) {x : GenState} (hx : pureG x) : Rg V st (a.push x) (b.push x) where
  sz := by simp [r.sz]
  v := fun i h => by
    obtain ⟨h0, h1, h2⟩ := r.v i h
    have l := r.lt h
    refine ⟨h0, ?_, ?_⟩
    · rw [Array.getElem?_push_lt l]
      rw [← h1, Array.getElem?_eq_getElem l]
    · have l2 : i < b.size := by rw [r.sz]; exact l
      rw [Array.getElem?_push_lt l2]
      rw [← h2, Array.getElem?_eq_getElem l2]
  e := fun i h => by
    rw [Array.getElem?_push, Array.getElem?_push, r.sz, r.e i h]
  p := fun i y h e => by
    rw [Array.getElem?_push] at e
    split at e
    · cases e; exact hx
    · exact r.p i y h e
theorem Rg.set (r : Rg V st a b) {g : Nat} {x : GenState} (hg : ¬ V g) (hx : pureG x) : Rg V st (a.setIfInBounds g x) (b.setIfInBounds g x) where
  sz := by simp [r.sz]
  v := fun i h => by
    obtain ⟨h0, h1, h2⟩ := r.v i h
    have ne : g ≠ i := fun e => hg (e ▸ h)
    refine ⟨h0, ?_, ?_⟩
    · rw [Array.getElem?_setIfInBounds_ne ne]; exact h1
    · rw [Array.getElem?_setIfInBounds_ne ne]; exact h2
  e := fun i h => by
    by_cases ne : g = i
    · subst ne
      rw [Array.getElem?_setIfInBounds_self, Array.getElem?_setIfInBounds_self, r.sz]
    · rw [Array.getElem?_setIfInBounds_ne ne, Array.getElem?_setIfInBounds_ne ne, r.e i h]
  p := fun i y h e => by
    by_cases ne : g = i
    · subst ne
      rw [Array.getElem?_setIfInBounds_self] at e
      split at e
      · cases e; exact hx
      · cases e
    · rw [Array.getElem?_setIfInBounds_ne ne] at e
      exact r.p i y h e
open Sem (wp)
end Ve
set_option Elab.async false
set_option linter.all false
set_option maxRecDepth 100000
set_option maxHeartbeats 2000000
namespace Lv
open PySem PySem.Spec PyProof.Rows L2 GenW
def cut (L : Addr) (h : Heap) : Heap := { h with objs := h.objs.extract 0 L }
theorem cut_size (L : Addr) (h : Heap) : (cut L h).objs.size = min L h.objs.size := by
  show (h.objs.extract 0 L).size = _
  simp
theorem cut_get {L b : Addr} {h : Heap} (hb : b < L) : (cut L h).get? b = h.get? b := by
  have e : (h.objs.extract 0 L)[b]? = h.objs[b]? := by
    by_cases hs : b < h.objs.size
    · rw [Array.getElem?_eq_getElem hs, Array.getElem?_eq_getElem (by simp only [Array.size_extract]; exact Nat.lt_min.mpr ⟨hb, hs⟩ |> fun z => by simpa using z)]
      simp
    · have hs : h.objs.size ≤ b := Nat.le_of_not_lt hs
      rw [Array.getElem?_eq_none hs, Array.getElem?_eq_none (by simp only [Array.size_extract]; exact Nat.le_trans (by simp) (Nat.le_trans (Nat.min_le_right L h.objs.size) hs))]
  unfold Heap.get? cut
  simp only [e]
theorem of_cut {L b : Addr} {h : Heap} {o : Obj} (e : (cut L h).get? b = some o) : b < L ∧ h.get? b = some o := by
  have hb : b < L := by
    have := Heap.lt_size e
    rw [cut_size] at this
    exact Nat.lt_of_lt_of_le this (Nat.min_le_left _ _)
  exact ⟨hb, (cut_get hb).symm.trans e⟩
structure G where
  P : Program
  w : World
  K : PySem.W.Frag
  mg : Str → Option Value
  base : Heap
  N : List Str
  qual : Str
  scope : Scope
  f : Addr
  cd : Value
  A : Around
  outer : List Env
  L : Addr
abbrev G.env (g : G) : Env := envOfC g.qual g.scope g.L g.f g.cd
/-- the frame's context between two yields: s0, H0 as they stood when it was woken; Y: young things that stay -/
abbrev lX (g : G) (Y : List Addr) (s0 : Shared) (H0 : Hp) : Cx where
  prog := g.P
  w := g.w
  K := g.K
  mg := g.mg
  base := g.base
  A := g.A.deeper g.env
  N := g.N
  s_0 := { s0 with heap := cut g.L s0.heap }
  H_0 := H0
  env := g.env
  outer := g.outer
  stack := g.env :: g.outer
  ex := []
  fn := fun _ => true
  calm := true
  pn := pinsAt Y s0.heap
  xe := fun _ _ => False
/-- what never changes -/
structure G.Ok (g : G) : Prop where
  mod : Mod g.K g.mg g.base
  kind : g.scope.kind = .function
  nocell : g.env.cells = []
  noname : ∀ x, g.env.kindOf x ≠ some .cell ∧ g.env.kindOf x ≠ some .free
  hd : g.A.handled = none
  frames : g.A.frames = some g.outer
  bsz : g.base.objs.size ≤ g.L
  fl : ∀ b ∈ frs g.outer, b < g.L
/-- the world around, whenever it is woken -/
structure Wo (g : G) (Y : List Addr) (s : Shared) (H : Hp) : Prop where
  bare : AllBare s.gens
  hok : HOk g.P g.w H s.heap
  bs : ∀ b o, g.base.get? b = some o → s.heap.get? b = some o ∧ H b = none
  funs : s.heap.FunFrames g.base g.outer
  frf : ∀ b ∈ frs g.outer, H b = none
  y : ∀ b ∈ Y, H b = none ∧ b ≠ g.L ∧ b ∉ frs g.outer ∧ ∀ o, s.heap.get? b = some o → ∀ v, o.data ≠ .cell v
theorem ff_cut {L : Addr} {h base : Heap} : ∀ {l : List Env}, h.FunFrames base l → (∀ b ∈ frs l, b < L) → (cut L h).FunFrames base l
  | [], _, _ => trivial
  | v :: l, f, n => by
    obtain ⟨f1, ⟨x, o, f2, f3, f4, f5⟩, f6⟩ := f
    have hx : x ∈ frs (v :: l) := List.mem_filterMap.mpr ⟨v, List.mem_cons_self, f2⟩
    refine ⟨f1, ⟨x, o, f2, f3, (cut_get (n x hx)).trans f4, f5⟩, ff_cut f6 fun b hb => n b ?_⟩
    obtain ⟨u, hu, hv⟩ := List.mem_filterMap.mp hb
    exact List.mem_filterMap.mpr ⟨u, List.mem_cons_of_mem _ hu, hv⟩
/-- the frame's own names in its dict o -/
structure Core (g : G) (o : Obj) (σ : L2.St) : Prop where
  ns : ∃ es ep, ∃ m : Str → Option Value, o.data = .dict es ep ∧ StrKeys es ∧ (∀ name, nsFind es name = m name) ∧ ∀ (i : Nat) (x : Str) (v : V), g.N[i]? = some x → σ[i]? = some (some v) → Vis g.scope x → ∃ u, RelV v u ∧ g.env.kindOf x = some .local ∧ m x = some u
  len : σ.length = g.N.length
/-- woken: the frame's state in the world as it is -/
theorem Core.inv {g : G} {Y : List Addr} {o : Obj} {σ : L2.St} {H : Hp} {s : Shared} {ip : List (Addr × Obj)} (c : Core g o σ) (ok : g.Ok) (W : Wo g Y s H) (ho : s.heap.get? g.L = some o) (hn : H g.L = none)
    (hip : ∀ p ∈ ip, s.heap.get? p.1 = some p.2 ∧ H p.1 = none ∧ p.1 ≠ g.L ∧ p.1 ∉ frs g.outer ∧ ∀ v, p.2.data ≠ .cell v) : Inv (lX g Y s H) ip σ H s := by
  obtain ⟨es, ep, m, d1, d2, d3, d4⟩ := c.ns
  have lt : g.L < s.heap.objs.size := Heap.lt_size ho
  have nc : ∀ x c, g.env.cells.lookup x = some c → False := fun x c e => by rw [ok.nocell] at e; cases e
  have okx : (lX g Y s H).Ok := by
    refine ⟨ok.mod, ok.kind, rfl, rfl, ?_, fun x y c e => (nc x c e).elim, fun x h => ?_, fun x c _ e => (nc x c e).elim, fun _ => ok.hd, Around.frames_deeper ok.frames, .inr ⟨rfl, rfl⟩, fun b hb => (nomatch hb), fun b u e => ?_, ?_, fun _ _ _ h => (nomatch h), fun b hb => (nomatch hb), ff_cut W.funs ok.fl, W.frf⟩
    · show (cut g.L s.heap).objs.size ≤ g.L
      rw [cut_size]; exact Nat.min_le_left _ _
    · exact absurd h (fun z => z.elim (ok.noname x).1 (ok.noname x).2)
    · obtain ⟨z1, z2⟩ := W.bs b u e
      exact ⟨(cut_get (Nat.lt_of_lt_of_le (Heap.lt_size e) ok.bsz)).trans z1, z2⟩
    · show g.base.objs.size ≤ (cut g.L s.heap).objs.size
      rw [cut_size]
      exact Nat.le_min.mpr ⟨ok.bsz, Nat.le_trans ok.bsz (Nat.le_of_lt lt)⟩
  refine ⟨okx, rfl, W.bare, Un.kept fun b u e => (of_cut e).2, ⟨m, ⟨o, es, ep, ho, d1, d2, d3⟩, fun i x v e1 e2 e3 => ?_⟩, fun x c e => (nc x c e).elim, hn, fun x c e => (nc x c e).elim, fun p hp => ?_, W.hok, c.len⟩
  · obtain ⟨u, r, q1, q2⟩ := d4 i x v e1 e2 e3
    exact ⟨u, r, .inl ⟨q1, q2⟩⟩
  · rcases List.mem_append.mp hp with z | z
    · obtain ⟨hb, e⟩ := of_pinsAt z
      obtain ⟨y1, y2, y3, y4⟩ := W.y p.1 hb
      exact ⟨e, y1, y2, y3, y4 _ e⟩
    · exact hip p z
end Lv
set_option Elab.async false
set_option linter.all false
set_option maxRecDepth 100000
set_option maxHeartbeats 2000000
namespace Lv
open PySem PySem.Spec PyProof.Rows L2 GenW
/-- it sleeps on as it was -/
def Sleep (t u : Shared) : Prop := ∀ (i : Nat) (x : GenState), t.gens[i]? = some x → Ve.sleeps x = true → u.gens[i]? = some x
theorem Sleep.refl (t : Shared) : Sleep t t := fun _ _ h _ => h
theorem Sleep.trans {t u v : Shared} (a : Sleep t u) (b : Sleep u v) : Sleep t v := fun i x h z => b i x (a i x h z) z
/-- young things that a turn may change: all but Y -/
def young (L n : Nat) (Y : List Addr) : List Addr := (List.range n).filter fun b => decide (L ≤ b) && decide (b ∉ Y)
theorem mem_young {L n b : Nat} {Y : List Addr} : b ∈ young L n Y ↔ b < n ∧ L ≤ b ∧ b ∉ Y := by
  unfold young
  rw [List.mem_filter, List.mem_range, Bool.and_eq_true, decide_eq_true_eq, decide_eq_true_eq]
/-- what a turn keeps: old things as a call does, Y as they are -/
structure Turned (g : G) (Y : List Addr) (s0 : Shared) (H0 : Hp) (s : Shared) (H : Hp) : Prop where
  os : s.os = s0.os
  bare : AllBare s.gens
  hok : HOk g.P g.w H s.heap
  un : Un (frs g.outer) [] H0 H (cut g.L s0.heap) s.heap
  y : ∀ b ∈ Y, ∀ o, s0.heap.get? b = some o → s.heap.get? b = some o ∧ H b = none
theorem Turned.whole {g : G} {Y : List Addr} {s0 s : Shared} {H0 H : Hp} (t : Turned g Y s0 H0 s H) (fl : ∀ b ∈ frs g.outer, b < g.L) : Un (frs g.outer) (young g.L s0.heap.objs.size Y) H0 H s0.heap s.heap := by
  have case : ∀ b o, s0.heap.get? b = some o → b ∉ young g.L s0.heap.objs.size Y → ((cut g.L s0.heap).get? b = some o) ∨ (b ∈ Y ∧ g.L ≤ b) := fun b o e hx => by
    by_cases hb : b < g.L
    · exact .inl ((cut_get hb).trans e)
    · by_cases hy : b ∈ Y
      · exact .inr ⟨hy, Nat.le_of_not_lt hb⟩
      · exact absurd (mem_young.mpr ⟨Heap.lt_size e, Nat.le_of_not_lt hb, hy⟩) hx
  refine ⟨fun b o e n hb hx => ?_, fun b o e n hb hx => ?_, fun b o e n hx => ?_, fun b o e hx => ?_, t.un.tups, t.un.frzs, t.un.tbls⟩
  · rcases case b o e hx with z | ⟨z, _⟩
    · exact t.un.keep b o z n hb (fun h => (nomatch h))
    · exact (t.y b z o e).1
  · rcases case b o e hx with z | ⟨z, l⟩
    · exact t.un.slot b o z n hb (fun h => (nomatch h))
    · exact absurd (fl b hb) (Nat.not_lt_of_le l)
  · rcases case b o e hx with z | ⟨z, _⟩
    · exact t.un.free b o z n (fun h => (nomatch h))
    · exact (t.y b z o e).2
  · rcases case b o e hx with z | ⟨z, _⟩
    · exact t.un.there b o z (fun h => (nomatch h))
    · exact ⟨o, (t.y b z o e).1⟩
/-- the consumer's own things are older than the frame, or among Y -/
structure Safe (g : G) (Y : List Addr) (X : Cx) (pins : List (Addr × Obj)) : Prop where
  prog : X.prog = g.P
  w : X.w = g.w
  stack : X.stack = g.outer
  yo : ∀ b, g.L ≤ b → b ∉ Y → b ∈ X.ex ∨ X.s_0.heap.objs.size ≤ b
  loc : X.env.locals < g.L ∨ X.env.locals ∈ Y
  cell : ∀ x c, X.env.cells.lookup x = some c → c < g.L ∨ c ∈ Y
  pin : ∀ p ∈ X.pn ++ pins, p.1 < g.L ∨ p.1 ∈ Y
theorem Safe.inv {g : G} {Y : List Addr} {X : Cx} {pins : List (Addr × Obj)} {σ : L2.St} {s0 s : Shared} {H0 H : Hp} (S : Safe g Y X pins) (fl : ∀ b ∈ frs g.outer, b < g.L) (I : Inv X pins σ H0 s0) (t : Turned g Y s0 H0 s H) : Inv X pins σ H s := by
  have out : ∀ b c, b ∈ young g.L s0.heap.objs.size Y → (c < g.L ∨ c ∈ Y) → c ≠ b := fun b c hb hc e => by
    obtain ⟨_, l, n⟩ := mem_young.mp hb
    rcases hc with hc | hc
    · rw [e] at hc; exact absurd hc (Nat.not_lt_of_le l)
    · exact n (e ▸ hc)
  refine I.call' (ch := young g.L s0.heap.objs.size Y) t.os (by rw [S.stack]; exact t.whole fl) (by rw [S.prog, S.w]; exact t.hok) t.bare fun b hb => ?_
  obtain ⟨_, l, ny⟩ := mem_young.mp hb
  exact ⟨S.yo b l ny, (out b _ hb S.loc).symm, fun x c e => out b c hb (S.cell x c e), fun p hp => out b _ hb (S.pin p hp)⟩
end Lv
set_option Elab.async false
set_option linter.all false
set_option maxRecDepth 100000
set_option maxHeartbeats 2000000
namespace Lv
open PySem PySem.Spec PyProof.Rows L2 GenW
/-- what the consumer does with an item: where it stands, the heap, what is wanted when the next one is asked for -/
abbrev CB (C : Type) := V → C → Hp → (C → Hp → Prop) → Prop
/-- running: woken at s0, H0 -/
def LI (g : G) (Y : List Addr) {C : Type} (CI : C → Shared → Hp → Prop) (ip : List (Addr × Obj)) (σ : L2.St) (σc : C) (H : Hp) (s : Shared) : Prop := ∃ s0 H0, g.L < s0.heap.objs.size ∧ CI σc s0 H0 ∧ Inv (lX g Y s0 H0) ip σ H s
theorem LI.turned {g : G} {Y : List Addr} {ip : List (Addr × Obj)} {σ : L2.St} {s0 s : Shared} {H0 H : Hp} (I : Inv (lX g Y s0 H0) ip σ H s) : Turned g Y s0 H0 s H :=
  ⟨I.os, I.bare, I.hok, I.base, fun b hb o e => by
    have z := I.pin (b, o) (List.mem_append_left _ (mem_pinsAt hb e))
    exact ⟨z.1, z.2.1⟩⟩
/-- what is wanted behind a statement: items so far, the generator's slots, the consumer's -/
structure LEnds (C : Type) where
  nx : Nat → L2.St → C → Hp → Prop
  rt : Nat → V → C → Hp → Prop
  bk : Nat → L2.St → C → Hp → Prop := fun _ _ _ _ => False
  ct : Nat → L2.St → C → Hp → Prop := fun _ _ _ _ => False
def LEnds.at {C : Type} (D : LEnds C) (k : Nat) (σc : C) : Ends := { nx := fun σ H => D.nx k σ σc H, rt := fun v H => D.rt k v σc H, bk := fun σ H => D.bk k σ σc H, ct := fun σ H => D.ct k σ σc H }
abbrev TL (C : Type) := CB C → LEnds C → Nat → L2.St → C → Hp → Prop
section
variable {g : G} {Y : List Addr} {C : Type} {CI : C → Shared → Hp → Prop} {st : Stmt} {rest : List Stmt}
def tLPlain (t : TS) : TL C := fun _ D k σ σc H => t (D.at k σc) σ H
def tLNil : TL C := fun _ D k σ σc H => D.nx k σ σc H
def tLThen (t u : TL C) : TL C := fun cb D k σ σc H => t cb { D with nx := fun k' σ' σc' H' => u cb D k' σ' σc' H' } k σ σc H
end
end Lv
set_option Elab.async false
set_option linter.all false
set_option maxRecDepth 100000
set_option maxHeartbeats 2000000
namespace Lv
open PySem PySem.Spec PyProof.Rows L2 GenW
end Lv
set_option Elab.async false
set_option linter.all false
set_option maxRecDepth 100000
set_option maxHeartbeats 2000000
namespace Lv
open PySem PySem.Spec PyProof.Rows L2 GenW
open Sem (wp)
end Lv
set_option Elab.async false
set_option linter.all false
set_option maxRecDepth 100000
set_option maxHeartbeats 2000000
namespace Lv
open PySem PySem.Spec PyProof.Rows L2 GenW
end Lv
set_option Elab.async false
set_option linter.all false
set_option maxRecDepth 100000
set_option maxHeartbeats 2000000
namespace Lv
open PySem PySem.Spec PyProof.Rows L2 GenW
end Lv
set_option Elab.async false
set_option linter.all false
set_option maxRecDepth 100000
set_option maxHeartbeats 2000000
namespace Lv
open PySem PySem.Spec PyProof.Rows L2 GenW
end Lv
set_option Elab.async false
set_option linter.all false
set_option maxRecDepth 100000
set_option maxHeartbeats 2000000
namespace Ab
open PySem PySem.Spec PyProof.Rows L2 Lv
open Classical
noncomputable section
abbrev LKx (γ ρ : Type) := Nat → ASt → γ → Sto → ρ
/-- what follows a generator's statement -/
structure LKs (γ ρ : Type) where
  nx : LKx γ ρ
  bk : LKx γ ρ
  ct : LKx γ ρ
  rt : Nat → AV → γ → Sto → ρ
/-- the consumer: what it does with an item -/
structure LHd (γ ρ : Type) where
  cb : AV → γ → Sto → (γ → Sto → ρ) → ρ
  bad : ρ
abbrev AL := ∀ γ ρ : Type, LHd γ ρ → LKs γ ρ → LKx γ ρ
def aLP (f : AS) : AL := fun _ _ h k n σ c s => match f σ s with
  | .nx σ s => k.nx n σ c s
  | .bk σ s => k.bk n σ c s
  | .ct σ s => k.ct n σ c s
  | .rt v s => k.rt n v c s
  | _ => h.bad
def aLNil : AL := fun _ _ h k n σ c s => k.nx n σ c s
def aLSeq (f g : AL) : AL := fun γ ρ h k n σ c s => f γ ρ h { k with nx := g γ ρ h k } n σ c s
section
variable (W : Wl)
abbrev E0c : L2.St → XK := fun _ _ _ _ => False
/-- the consumer's reading follows -/
def CbOk {γ ρ C : Type} (R : Wd → γ → C → Prop) (Good : ρ → Prop) (cb : CB C) (h : LHd γ ρ) (w0 : Wd) : Prop := ∀ (w : Wd) (s : Sto) (x : AV) (v : V) (c : γ) (cc : C) (K : C → Hp → Prop) (kk : γ → Sto → ρ), Ext w0 w → Sim W w s → Rel W w x v → R w c cc →
  (∀ w' s' c' cc', Ext w w' → Sim W w' s' → R w' c' cc' → Good (kk c' s') → K cc' w'.H) → Good (h.cb x c s kk) → cb v cc w.H K
structure KOk {γ ρ C : Type} (R : Wd → γ → C → Prop) (Good : ρ → Prop) (D : LEnds C) (k : LKs γ ρ) (w0 : Wd) : Prop where
  nx : ∀ n w s σ σc c cc, Ext w0 w → Sim W w s → RSt W w σ σc → R w c cc → Good (k.nx n σ c s) → D.nx n σc cc w.H
  bk : ∀ n w s σ σc c cc, Ext w0 w → Sim W w s → RSt W w σ σc → R w c cc → Good (k.bk n σ c s) → D.bk n σc cc w.H
  ct : ∀ n w s σ σc c cc, Ext w0 w → Sim W w s → RSt W w σ σc → R w c cc → Good (k.ct n σ c s) → D.ct n σc cc w.H
  rt : ∀ n w s x v c cc, Ext w0 w → Sim W w s → Rel W w x v → R w c cc → Good (k.rt n x c s) → D.rt n v cc w.H
/-- places that stay related -/
def Mono {γ C : Type} (R : Wd → γ → C → Prop) : Prop := ∀ w w' c cc, Ext w w' → R w c cc → R w' c cc
/-- a reading of a generator's statement -/
def DL (t : ∀ C, TL C) (f : AL) : Prop := ∀ (γ ρ C : Type) (R : Wd → γ → C → Prop) (Good : ρ → Prop) (cb : CB C) (D : LEnds C) (h : LHd γ ρ) (k : LKs γ ρ) (w : Wd) (s : Sto) (σ : ASt) (σc : L2.St) (c : γ) (cc : C) (n : Nat),
  Mono R → ¬ Good h.bad → CbOk W R Good cb h w → KOk W R Good D k w → Sim W w s → RSt W w σ σc → R w c cc → Good (f γ ρ h k n σ c s) → t C cb D n σc cc w.H
end
section
variable {W : Wl}
theorem CbOk.mono {γ ρ C : Type} {R : Wd → γ → C → Prop} {Good : ρ → Prop} {cb : CB C} {h : LHd γ ρ} {w w' : Wd} (e : Ext w w') (o : CbOk W R Good cb h w) : CbOk W R Good cb h w' := fun w2 s x v c cc K kk e2 => o w2 s x v c cc K kk (e.trans e2)
theorem KOk.mono {γ ρ C : Type} {R : Wd → γ → C → Prop} {Good : ρ → Prop} {D : LEnds C} {k : LKs γ ρ} {w w' : Wd} (e : Ext w w') (o : KOk W R Good D k w) : KOk W R Good D k w' :=
  ⟨fun n w2 s σ σc c cc e2 => o.nx n w2 s σ σc c cc (e.trans e2), fun n w2 s σ σc c cc e2 => o.bk n w2 s σ σc c cc (e.trans e2), fun n w2 s σ σc c cc e2 => o.ct n w2 s σ σc c cc (e.trans e2), fun n w2 s x v c cc e2 => o.rt n w2 s x v c cc (e.trans e2)⟩
theorem DL.plain {t : TS} {f : AS} (d : DS W E0c t f) : DL W (fun _ => tLPlain t) (aLP f) := fun γ ρ C R Good cb D h k w s σ σc c cc n hm hb _ ko S Rs Rc g => by
  refine d w s σ σc (D.at n cc) S Rs ?_
  unfold aLP at g
  cases e : f σ s with
  | nx σ' s' => rw [e] at g; exact fun w' σc' e' S' R' => ko.nx n w' s' σ' σc' c cc e' S' R' (hm _ _ _ _ e' Rc) g
  | bk σ' s' => rw [e] at g; exact fun w' σc' e' S' R' => ko.bk n w' s' σ' σc' c cc e' S' R' (hm _ _ _ _ e' Rc) g
  | ct σ' s' => rw [e] at g; exact fun w' σc' e' S' R' => ko.ct n w' s' σ' σc' c cc e' S' R' (hm _ _ _ _ e' Rc) g
  | rt v s' => rw [e] at g; exact fun w' vc e' S' r' => ko.rt n w' s' v vc c cc e' S' r' (hm _ _ _ _ e' Rc) g
  | err => rw [e] at g; exact absurd g hb
  | stuck => rw [e] at g; exact absurd g hb
theorem DL.nil : DL W (fun _ => tLNil) aLNil := fun γ ρ C R Good cb D h k w s σ σc c cc n _ _ _ ko S Rs Rc g => ko.nx n w s σ σc c cc (.refl w) S Rs Rc g
theorem DL.seq {t u : ∀ C, TL C} {f g : AL} (a : DL W t f) (b : DL W u g) : DL W (fun C => tLThen (t C) (u C)) (aLSeq f g) := fun γ ρ C R Good cb D h k w s σ σc c cc n hm hb co ko S Rs Rc gd =>
  a γ ρ C R Good cb _ h { k with nx := g γ ρ h k } w s σ σc c cc n hm hb co ⟨fun n' w' s' σ' σc' c' cc' e' S' R' Rc' g' => b γ ρ C R Good cb D h k w' s' σ' σc' c' cc' n' hm hb (co.mono e') (ko.mono e') S' R' Rc' g', ko.bk, ko.ct, ko.rt⟩ S Rs Rc gd
/-- the loop's body, its end given to what follows -/
def SRes.cps (r : SRes) (kk : ASt → Sto → SRes) : SRes := match r with
  | .nx σ s => kk σ s
  | .ct σ s => kk σ s
  | .bk σ s => .nx σ s
  | .rt v s => .rt v s
  | .err c ns vs σ s => .stuck
  | .stuck => .stuck
end
end
end Ab
set_option Elab.async false
set_option linter.all false
set_option maxRecDepth 100000
set_option maxHeartbeats 1000000
namespace Ab
open PySem PySem.Spec PyProof.Rows L2
open Classical
noncomputable section
abbrev numS (i : Int) : Str := Str.ofString (toString i)
def fmtK : AV → Sto → Res AV := fun x s => match x with
  | .str y => if y.length ≤ sizeLine then .ok (.str y) s else .stuck
  | .int i => if i.natAbs.log2 < 1920 then .ok (.str (numS i)) s else .stuck
  | _ => .stuck
def aFmt (fe : AE) : AE := fun σ s => (fe σ s).bind fmtK
theorem e_fmt {fe : AE} {σ : ASt} {s : Sto} : aFmt fe σ s = (fe σ s).bind fmtK := rfl
def jsK (k : Str → Sto → Res AV) (acc : Str) : AV → Sto → Res AV := fun x s => match x with
  | .str y => if (acc ++ y).length ≤ sizeLine then k (acc ++ y) s else .stuck
  | _ => .stuck
def jsA : List AE → Str → ASt → Sto → Res AV
  | [], acc, _, s => .ok (.str acc) s
  | f :: fs, acc, σ, s => (f σ s).bind (jsK (fun a s => jsA fs a σ s) acc)
def aJs (fs : List AE) : AE := fun σ s => jsA fs Str.empty σ s
theorem e_js {fs : List AE} {σ : ASt} {s : Sto} : aJs fs σ s = jsA fs Str.empty σ s := rfl
theorem e_jsN {acc : Str} {σ : ASt} {s : Sto} : jsA [] acc σ s = .ok (.str acc) s := rfl
theorem e_jsC {f : AE} {fs : List AE} {acc : Str} {σ : ASt} {s : Sto} : jsA (f :: fs) acc σ s = (f σ s).bind (jsK (fun a s => jsA fs a σ s) acc) := rfl
def rJoin (K : PySem.W.Frag) : V → List V → Hp → VK → Prop := fun x xs H Q => ∃ a p, ∃ ys : List Str, x = .str a ∧ xs = [.ref p] ∧ (SqL K H p (ys.map V.str) ∨ SqT K H p (ys.map V.str)) ∧ (ys.map (·.length)).sum + ys.length * a.length ≤ 16777216 ∧ Q (.str (Txt.join a ys)) H
def strsA : List AV → Option (List Str)
  | [] => some []
  | .str y :: r => (strsA r).map fun ys => y :: ys
  | _ :: _ => none
theorem strsA_eq {xs : List AV} {ys : List Str} (h : strsA xs = some ys) : xs = ys.map AV.str := by
  induction xs generalizing ys with
  | nil => cases h; rfl
  | cons x r ih =>
    cases x with
    | str y =>
      have h : (strsA r).map (fun ys => y :: ys) = some ys := h
      cases e : strsA r with
      | none => rw [e] at h; cases h
      | some zs => rw [e] at h; cases h; rw [ih e]; rfl
    | _ => cases h
theorem relL_strs {W : Wc} {w : Wd} {ys : List Str} {vs : List V} (h : RelL W w (ys.map AV.str) vs) : vs = ys.map V.str := by
  induction ys generalizing vs with
  | nil => cases h; rfl
  | cons y r ih => cases h with | cons h1 h2 => cases h1; rw [ih h2]; rfl
def gJoin (a : Str) : AV → Sto → Res AV := fun y s => match y with
  | .obj i => (match s.c i with
    | .lst xs => (match strsA xs with
      | some ys => if (ys.map (·.length)).sum + ys.length * a.length ≤ 16777216 then .ok (.str (Txt.join a ys)) s else .stuck
      | none => .stuck)
    | _ => .stuck)
  | _ => .stuck
def joinK (fe : AE) (σ : ASt) : AV → Sto → Res AV := fun x s => match x with
  | .str a => (fe σ s).bind (gJoin a)
  | _ => .stuck
def aJoin (fo fe : AE) : AE := fun σ s => (fo σ s).bind (joinK fe σ)
theorem e_join {fo fe : AE} {σ : ASt} {s : Sto} : aJoin fo fe σ s = (fo σ s).bind (joinK fe σ) := rfl
theorem e_joinK {fe : AE} {σ : ASt} {a : Str} {s : Sto} : joinK fe σ (.str a) s = (fe σ s).bind (gJoin a) := rfl
theorem DE.join {W : Wl} {E : L2.St → XK} {to te : TE} {fo fe : AE} (ho : DE W E to fo) (he : DE W E te fe) : DE W E (tM1 (rJoin W.K) to te) (aJoin fo fe) := fun w s σ σc Q S R h => by
  refine ho w s σ σc _ S R ((post_bind_ok h).mono (fun x s1 h1 w1 v e1 S1 r1 => ?_) fun _ _ _ _ z => z)
  unfold joinK at h1
  split at h1
  · rename_i a
    cases r1
    refine ⟨⟨a, rfl⟩, he w1 s1 σ σc _ S1 (R.mono e1) ((post_bind_ok h1).mono (fun y s2 h2 w2 u e2 S2 r2 => ?_) fun _ _ _ _ z => z.mono e1)⟩
    unfold gJoin at h2
    split at h2
    · rename_i i
      split at h2
      · rename_i xs ec
        split at h2
        · rename_i ys es
          split at h2
          · rename_i hl
            obtain ⟨vs, k1, rfl, k3, k4⟩ := lstO_at S2 r2 ec
            rw [strsA_eq es] at k4
            rw [relL_strs k4] at k3
            exact ⟨a, _, ys, rfl, rfl, .inl (SqL.of k3), hl, h2 w2 _ (e1.trans e2) S2 (.str _)⟩
          · exact h2.elim
        · exact h2.elim
      · exact h2.elim
    · exact h2.elim
  · exact h1.elim
end
end Ab
set_option Elab.async false
set_option linter.all false
set_option maxRecDepth 100000
set_option maxHeartbeats 1000000
namespace Gx
open PySem PySem.Spec PyProof.Rows L2 GenW
end Gx
set_option Elab.async false
set_option linter.all false
set_option maxRecDepth 100000
set_option maxHeartbeats 1000000
namespace Gx
open PySem PySem.Spec PyProof.Rows L2 GenW
end Gx
set_option Elab.async false
set_option linter.all false
set_option maxRecDepth 100000
set_option maxHeartbeats 1000000
namespace Ab
open PySem PySem.Spec PyProof.Rows L2
open Classical
noncomputable section
def gAny : List AV → Sto → Res AV := fun xs s => match xs with | [x] => (match lstOf s x with | some ys => (match boolsOf ys with | some ns => .ok (.bl (ns.any id)) s | none => .stuck) | none => .stuck) | _ => .stuck
theorem NEL.any : NEL gAny := fun x s c ns vs s' h => by 
  unfold gAny at h
  repeat' split at h
  all_goals first | cases h | (unfold newL at h; cases h)
theorem DB.any {W : Wl} : DB W (rAny W.K) gAny := fun w s x v Q S r h => by
  unfold gAny at h
  split at h
  · cases r with
    | cons r1 r2 =>
      cases r2
      split at h
      · rename_i ys e
        split at h
        · rename_i ns e2
          obtain ⟨a, vs, h1, h2, h3⟩ := lst_at S r1 e
          subst h1
          refine ⟨a, ns, rfl, ?_, h w _ (.refl w) S (.bl _)⟩
          rw [← bools_rel h3 e2]; exact h2
        · exact h.elim
      · exact h.elim
  · exact h.elim
end
end Ab
set_option Elab.async false
set_option linter.all false
set_option maxRecDepth 100000
set_option maxHeartbeats 1000000
namespace Gx
open PySem PySem.Spec PyProof.Rows L2 GenW
def cxS (CX : CXT) (P : Program) (w : World) (K : PySem.W.Frag) (mg : Str → Option Value) (base : Heap) (N : List Str) (qual : Str) (scope : PySem.Scope) (f : Addr) (cd : Value) (cc : Addr) (A : Around) (outer : List Env) (s : Shared) (H : Hp) (E : XK) : Cx :=
  { prog := P, w := w, K := K, mg := mg, base := base, A := A.deeper (PySem.W.ksEnv qual scope s.heap.objs.size f cd cc), N := N, s_0 := s, H_0 := H,
    env := PySem.W.ksEnv qual scope s.heap.objs.size f cd cc, outer := outer, stack := PySem.W.ksEnv qual scope s.heap.objs.size f cd cc :: outer, ex := [], fn := fun x => x != "__class__", calm := true, pn := [],
    xe := fun e s' => wpAny (model P w) (A.deeper (PySem.W.ksEnv qual scope s.heap.objs.size f cd cc)) (leaving (PySem.W.ksEnv qual scope s.heap.objs.size f cd cc) e) (fun x s'' => CX outer H s E e s'') (fun e' s'' => CX outer H s E e' s'') s' }
structure SuScope (p0 p1 : Str) (sc : PySem.Scope) : Prop where
  kind : sc.kind = ScopeKind.function
  co : sc.isCoroutine = false
  gen : sc.isGenerator = false
  l0 : sc.names.lookup p0 = some .local
  l1 : sc.names.lookup p1 = some .local
  ne : p0 ≠ p1
  cl : sc.names.lookup ("__class__" : Str) = some NameKind.free
  su : sc.names.lookup ("super" : Str) = some NameKind.globalImplicit
  fr : ∀ y ∈ sc.names, y.2 = NameKind.free → y.1 = "__class__"
  nc : ∀ y ∈ sc.names, y.2 ≠ NameKind.cell
  d1 : (p1 == ("__debug__" : Str)) = false
  d2 : (p1 == ("__classdict__" : Str)) = false
section
variable {P : Program} {w : World} {K : PySem.W.Frag} {mg : Str → Option Value} {base : Heap} {qual : Str} {scope : PySem.Scope} {f cc D : Addr} {cd : Value} {A : Around} {outer : List Env} {s : Shared} {H : Hp} {E : XK} {CX : CXT} {p0 p1 : Str}
theorem inv_super {a b : V} {ua ub : Value} {m : Str → Option Value} {h₁ : Heap} {tk : Nat} {cl : Value} {cld : Option Addr} {csl : Array (Option Value)} (S : SuScope p0 p1 scope) (hd : A.handled = none) (e0 : Env0 P w K mg base A outer s H)
    (hcc : K.lookup cc = some ⟨cl, cld, .cell (some (.ref D)), csl⟩) (ra : RelV a ua) (rb : RelV b ub) (ns : h₁.Ns s.heap.objs.size m) (m0 : m p0 = some ua) (m1 : m p1 = some ub)
    (keep : ∀ (b : Addr) (o : Obj), s.heap.get? b = some o → h₁.get? b = some o) :
    L2.Inv (cxS CX P w K mg base [p0, p1] qual scope f cd cc A outer s H E) [] [some a, some b] H { heap := h₁, gens := s.gens, drawn := s.drawn, toks := tk, os := s.os } := by
  have noA : ∀ b : Addr, ¬ b ∈ ([] : List Addr) := fun b z => by cases z
  have bcc := e0.bs cc _ (e0.mod.kin cc _ hcc)
  have only : ∀ (y : Str) (c : Addr), List.lookup y [(("__class__" : Str), cc)] = some c → y = "__class__" ∧ c = cc := fun y c h => by
    rw [List.lookup_cons] at h
    split at h
    · rename_i e
      exact ⟨eq_of_beq e, (Option.some.inj h).symm⟩
    · cases h
  exact {
    ok := { mod := e0.mod, kind := S.kind, glob := rfl, blt := rfl, above := Nat.le_refl _,
            inj := fun y z c h1 h2 => (only y c h1).1.trans (only z c h2).1.symm,
            has := fun y hy => by
              rcases hy with hy | hy
              · exact (S.nc (y, .cell) (PySem.mem_of_lookup hy) rfl).elim
              · have := S.fr (y, .free) (PySem.mem_of_lookup hy) rfl
                exact ⟨cc, by rw [show y = "__class__" from this]; rfl⟩,
            cab := fun y c h1 h2 => by
              have := (only y c h2).1
              rw [this] at h1
              exact absurd h1 (by show ¬ (("__class__" : Str) != "__class__") = true; decide),
            hd := fun _ => hd, frames := Around.frames_deeper e0.frames, stk := Or.inr ⟨rfl, rfl⟩,
            exf := fun b z => absurd z (noA b), bs := e0.bs, bsz := e0.bsz, noex := fun b _ _ => noA b, exfs := fun b z => absurd z (noA b), funs := e0.funs, frf := e0.frf },
    os := rfl, bare := e0.bare, base := Un.kept keep,
    loc := ⟨m, ns, fun i y v h1 h2 h3 => by
      match i, h1, h2 with
      | 0, h1, h2 =>
        cases h1; cases h2
        exact ⟨ua, ra, .inl ⟨S.l0, m0⟩⟩
      | 1, h1, h2 =>
        cases h1; cases h2
        exact ⟨ub, rb, .inl ⟨S.l1, m1⟩⟩
      | n + 2, h1, h2 => cases h1⟩,
    cell := fun y c h => by
      obtain ⟨_, rfl⟩ := only y c h
      exact ⟨_, _, keep _ _ bcc.1, rfl⟩,
    free := HOk.fresh e0.hok (Nat.le_refl _),
    freeC := fun y c h => by
      obtain ⟨_, rfl⟩ := only y c h
      exact bcc.2,
    pin := fun p hp => (nomatch hp),
    hok := HOk.kept e0.hok keep,
    len := rfl }
/-- what is known of such a def, of its class and of its base's `__init__` -/
structure SuDef (K : PySem.W.Frag) (mg : Str → Option Value) (qual : Str) (params : Arguments) (body : List Stmt) (scope : PySem.Scope) (p0 p1 : Str) (f D g : Addr) (fd : FuncData) (cd : Value) (cc : Addr) : Prop where
  S : SuScope p0 p1 scope
  fn : ∃ name kV doc pm ct an oc od osl, fd = PySem.W.ksFn name qual params body scope .none kV doc pm an cd ct cc ∧ K.lookup f = some ⟨oc, od, .func fd, osl⟩
  code : PySem.W.codeIn K cd qual = true
  file : ∃ cda ccl cdd vs ccs tf, cd = .ref cda ∧ K.lookup cda = some ⟨ccl, cdd, .fields vs, ccs⟩ ∧ vs[2]? = some (.str "/claim/cut.py" tf)
  cell : ∃ cl cld csl, K.lookup cc = some ⟨cl, cld, .cell (some (.ref D)), csl⟩
  par : ∃ ar, (params.posonlyargs ++ params.args).head? = some ar ∧ ar.arg = p0
  mgs : mg "super" = none
  cls : ∃ cdD, PySem.W.clsIn K D = some cdD
  sub : PySem.W.subIn K (.ref D) (.ref D) = true
  sup : PySem.W.ks_superIn K D D "__init__" = some (some (.ref g))
  gt : PySem.W.typeIn K (.ref g) = some (.type "function")
  gf : PySem.W.fnIn K g = true
  op : PySem.W.nsIn K cStatics "thirdparty.any" = some none
structure SuP (P : Program) : Prop where
  file : (P.main.file == ("/claim/cut.py" : Str)) = true
  nos : (List.lookup ("super" : Str) P.main.scope.names).isSome = false
theorem cls_obj {cdD : ClassData} (e : PySem.W.clsIn K D = some cdD) : ∃ o, K.lookup D = some o ∧ o.data = .cls cdD := by
  unfold PySem.W.clsIn at e
  split at e
  · rename_i o eq
    cases e
    exact ⟨_, eq, rfl⟩
  · cases e
theorem looks_mro {M : Model} {h : Heap} (I : K.In h) {cdD : ClassData} (e : PySem.W.clsIn K D = some cdD) : PySem.W.Looks M h (mroOf (.ref D)) cdD.mro := by
  obtain ⟨o, h1, h2⟩ := cls_obj e
  intro A Q E s hk q
  refine wpAny_bind (wpAny_bind (wpAny_load (hk D o (I D o h1)) ?_))
  rw [h2]
  exact wpAny_pure (wpAny_pure q)
theorem super_fn {params : Arguments} {rest : List Stmt} {q0 q1 q2 apos pos epos : Pos} {g : Addr} {fd : FuncData} {k : Nat} {spG sp : Sp}
    (d : SuDef K mg qual params (.Expr (.Call (.Attribute (.Call (.Name "super" q0) [] [] q1) "__init__" apos) [.Name p1 q2] [] pos) epos :: rest) scope p0 p1 f D g fd cd cc) (hP : SuP P)
    {pl : Env → Sem Bool} (ht : ∀ env : Env, eval (.Call (.Attribute (.Call (.Name "super" q0) [] [] q1) "__init__" apos) [.Name p1 q2] [] pos) env = (do
        let ov ← attributeBase (.Call (.Name "super" q0) [] [] q1) "__init__" env (eval (.Call (.Name "super" q0) [] [] q1) env)
        standAt apos.atName
        let (f, first) ← holding [ov] (getMethod ov "__init__" (pl env))
        callWith pos f first (backTo pos (starEach [.Name p1 q2] env)) []))
    (G : FnR P w K mg base (L2.CX P w) k g spG)
    (len : ∀ vs H Q E, sp vs H Q E → vs.length = 2)
    (hrest : ∀ (A : Around) (outer : List Env) (s : Shared) (H : Hp) (vs : List V) (Q : VK) (E : XK), sp vs H Q E → ∃ (tr : TS) (a : Addr) (b : V) (dx : Addr) (fs : List (Str × V)), vs = [.ref a, b] ∧ H a = some (.ins D dx fs) ∧
      PSs (cxS (L2.CX P w) P w K mg base [p0, p1] qual scope f cd cc A outer s H E) rest tr ∧ spG [.ref a, b] H (fun _ H1 => tr { nx := fun _ H' => Q .non H', rt := Q } [some (.ref a), some b] H1) E) :
    FnOk P w K mg base (L2.CX P w) (k + 1) f fd [p0, p1] sp := by
  obtain ⟨name, kV, doc, pm, ct, an, oc, od, osl, rfl, lk⟩ := d.fn
  refine { len := ?_, run := ?_ }
  · exact fun vs H Q E h => len vs H Q E h
  · intro A outer s H args us vs Q E hr e0 hb r hs0
    obtain ⟨tr, a, b, dx, fs, rfl, ha, hpss, hsp⟩ := hrest A outer s H vs Q E hs0
    have KX := PySem.W.Frag.In.keeps e0.mod.kin fun b o e => (e0.bs b o e).left
    have lim := Heap.NoLimit.keeps e0.mod.nolimit fun b o e => (e0.bs b o e).left
    obtain ⟨cl, cld, csl, hcc⟩ := d.cell
    obtain ⟨cda, ccl, cdd, vs, ccs, tf, rfl, hcda, hfile⟩ := d.file
    obtain ⟨ar, hpar, har⟩ := d.par
    obtain ⟨cdD, hcD⟩ := d.cls
    obtain ⟨oD, hD, hDd⟩ := cls_obj hcD
    match us, r with
    | [ua, ub], .cons ra (.cons rb .nil) =>
    cases ra
    refine ks_codeAny_call_defAt (Room.depth hr) (KX f _ lk) rfl lim (PySem.W.codeRec_of KX d.code) rfl hb (fun x hx => d.S.nc x hx) ?_ (fun h₀ ns keep => ?_) d.S.co d.S.gen d.S.kind
    · intro x hx
      simp only [List.zip_cons_cons, List.zip_nil_right, List.mem_cons, List.not_mem_nil, or_false] at hx
      rcases hx with rfl | rfl
      · exact d.S.l0
      · exact d.S.l1
    · have I : L2.Inv (cxS (L2.CX P w) P w K mg base [p0, p1] qual scope f (.ref cda) cc A outer s H E) [] [some (.ref a), some b] H { heap := h₀, gens := s.gens, drawn := s.drawn, toks := s.toks + ([p0, p1].zip [Value.ref a, ub]).length, os := s.os } :=
        inv_super (a := .ref a) d.S hr.hd e0 hcc rfl rb ns (by
          show List.lookup p0 [(p1, ub), (p0, Value.ref a)] = _
          rw [List.lookup_cons, show (p0 == p1) = false from by simpa using d.S.ne]
          simp) (by
          show List.lookup p1 [(p1, ub), (p0, Value.ref a)] = _
          simp) keep
      show PySem.wpAt (model P w) (A.deeper (PySem.W.ksEnv qual scope s.heap.objs.size f (.ref cda) cc)) (Code.func _ (PySem.W.ksEnv qual scope s.heap.objs.size f (.ref cda) cc)) (execs _ (PySem.W.ksEnv qual scope s.heap.objs.size f (.ref cda) cc)) _ _ _
      generalize hs1 : ({ heap := h₀, gens := s.gens, drawn := s.drawn, toks := s.toks + ([p0, p1].zip [Value.ref a, ub]).length, os := s.os } : Shared) = s1 at *
      have ni : interactive (PySem.W.ksEnv qual scope s.heap.objs.size f (.ref cda) cc) = false := by
        unfold interactive
        rw [show (PySem.W.ksEnv qual scope s.heap.objs.size f (.ref cda) cc).scope.kind = ScopeKind.function from d.S.kind]
        rfl
      refine ks_wpAt_execs_cons (ks_wpAt_Expr_any (ks_wpAt_MethodCall ?_ (ht _)) ni)
      refine ks_wpAt_super_base d.S.su d.S.cl (by decide) rfl (of := ⟨oc, od, _, osl⟩) (I.kIn f _ lk) rfl hpar rfl (I.kIn cda _ hcda) rfl hfile hP.file hP.nos ?_
      obtain ⟨mb, hmb1, hmb2⟩ := e0.mod.blt
      refine PySem.W.ks_loadName_global d.S.kind d.S.su (Calls.loadGlobal_builtin (Heap.Ns.keeps e0.mod.glob I.bk) d.mgs (Heap.Ns.keeps hmb1 I.bk) ((hmb2 "super" (by decide)).trans Boot.super) ⟨rfl, ?_⟩)
      refine wpAny_loadName_free d.S.kind d.S.cl (show List.lookup ("__class__" : Str) [(("__class__" : Str), cc)] = some cc from rfl) ⟨_, I.kIn cc _ hcc, rfl⟩ ?_
      obtain ⟨m, ns1, look⟩ := I.loc
      obtain ⟨u0, r0, lk0⟩ := look 0 p0 (.ref a) rfl rfl (.inl d.S.l0)
      cases r0
      have m0 : m p0 = some (.ref a) := by
        rcases lk0 with ⟨_, h⟩ | ⟨h, _⟩
        · exact h
        · rcases h with h | h
          · exact absurd (d.S.l0.symm.trans h) (by simp)
          · exact absurd (d.S.l0.symm.trans h) (by simp)
      rw [har]
      refine wpAny_loadName_local d.S.kind d.S.l0 ns1 m0 ?_
      have hD1 := I.kIn D _ hD
      have hob := I.hok a _ ha
      simp only [ObjOk] at hob
      have hx := hob.2.2.2.1
      obtain ⟨og, hg, hgc⟩ : ∃ o, K.lookup g = some o ∧ o.cls = .type "function" := by
        have := d.gt
        unfold PySem.W.typeIn at this
        obtain ⟨o, h1, h2⟩ := Option.map_eq_some_iff.mp this
        exact ⟨o, h1, h2⟩
      have hne : a ≠ D := fun e => by
        have := (e0.bs D _ (e0.mod.kin D _ hD)).2
        rw [← e, ha] at this
        cases this
      have hsup : PySem.W.alongIn K "__init__" (List.drop 1 (List.dropWhile (fun x => x != Value.ref D) cdD.mro)) = some (some (.ref g)) := by
        have := d.sup
        unfold PySem.W.ks_superIn at this
        rw [hcD] at this
        exact this
      subst hs1
      refine ks_wpAny_isType_cls hD1 hDd ⟨rfl, ?_⟩
      refine ks_wpAny_call_super hD1 hDd hx rfl (fun c z => by cases z) (PySem.W.looks_subIn I.kIn d.sub) (fun h' so keep' => ?_)
      have I2 := I.kept (h' := h') (t' := s.toks + ([p0, p1].zip [Value.ref a, ub]).length) keep'
      refine ks_wpAny_getMethod_super so (PySem.W.looks_opaque I2.kIn d.op) (looks_mro I2.kIn hcD) rfl I2.kIn hsup (I2.kIn g _ hg) hgc hne (by decide) ?_
      have I3 := ClX.met_new (C := a) (g := g) I2
      have hpa := pa_cons (X := cxS (L2.CX P w) P w K mg base [p0, p1] qual scope f (.ref cda) cc A outer s H E) (pe_var (pos := q2) (i := 1) rfl (.inl d.S.l1) d.S.d1 d.S.d2) pa_nil
      refine ClX.callwith_cm I3 (ClX.base_none I2 (Nat.le_refl _)) d.gf (thn (hpa.run pos _ _ [some (.ref a), some b] H (fun vs H1 => vs = [b] ∧ H1 = H) I3 ⟨b, rfl, rfl, rfl⟩) fun us3 s3 got => ?_) rfl rfl
      obtain ⟨vs3, H3, I4, rv, rfl, rfl⟩ := got
      refine ⟨⟨ClX.pin_at I4, I4.kIn⟩, ?_⟩
      refine wpAny_mono (ClX.run_cm (CX := L2.CX P w) (E := E) G (Room.deeper hr _) (passes_call (takes_of rfl rfl rfl rfl) fun _ _ _ _ h => h) I4 rv hsp) (fun v s4 got => ?_) (fun e s4 h => h)
      obtain ⟨v4, H4, I5, r5, q5⟩ := got
      refine wpAt_of_wpAny ?_
      refine wpAny_mono (hpss.run [] s4 _ H4 _ I5 q5) (fun fl s5 hs => ?_) (fun e s5 h => h)
      cases fl with
      | next =>
        obtain ⟨σ5, H5, J, q⟩ := hs
        exact ⟨.non, H5, J.os, J.bare, J.base, J.hok, rfl, q⟩
      | ret u =>
        obtain ⟨v5, σ5, H5, J, r5, q⟩ := hs
        exact ⟨v5, H5, J.os, J.bare, J.base, J.hok, r5, q⟩
      | _ =>
        obtain ⟨_, _, _, q⟩ := hs
        exact q.elim
/-- what a head tells of the code's file and of a cell -/
def fileIn (K : PySem.W.Frag) (cd : Value) (file : Str) : Bool := match cd with
  | .ref c => match K.lookup c with
    | some ⟨_, _, .fields vs, _⟩ => match (vs[2]? : Option Value) with
      | some (.str n _) => n == file
      | _ => false
    | _ => false
  | _ => false
def cellIn (K : PySem.W.Frag) (cc D : Addr) : Bool := match K.lookup cc with
  | some ⟨_, _, .cell (some (.ref d)), _⟩ => d == D
  | _ => false
theorem file_of {cd : Value} (h : fileIn K cd "/claim/cut.py" = true) : ∃ cda ccl cdd vs ccs tf, cd = .ref cda ∧ K.lookup cda = some ⟨ccl, cdd, .fields vs, ccs⟩ ∧ vs[2]? = some (.str "/claim/cut.py" tf) := by
  unfold fileIn at h
  split at h
  · split at h
    · split at h
      · rename_i h1 _ _ _ h2
        exact ⟨_, _, _, _, _, _, rfl, ‹_›, by rw [← eq_of_beq h]; assumption⟩
      · cases h
    · cases h
  · cases h
theorem cell_of (h : cellIn K cc D = true) : ∃ cl cld csl, K.lookup cc = some ⟨cl, cld, .cell (some (.ref D)), csl⟩ := by
  unfold cellIn at h
  split at h
  · cases eq_of_beq h
    exact ⟨_, _, _, ‹_›⟩
  · cases h
theorem cls_of (h : (PySem.W.clsIn K D).isSome = true) : ∃ cdD, PySem.W.clsIn K D = some cdD := Option.isSome_iff_exists.mp h
theorem su_binds {params : Arguments} {body : List Stmt} {g : Addr} {fd : FuncData} (d : SuDef K mg qual params body scope p0 p1 f D g fd cd cc)
    (h : ∀ (name : Str) (kV doc pm ct : Value) (an : Option Addr) (us : List Value), us.length = 2 → bindArgs (PySem.W.ksFn name qual params body scope .none kV doc pm an cd ct cc) { pos := us } = pure ([p0, p1].zip us)) : Binds K fd [p0, p1] [] := by
  obtain ⟨name, kV, doc, pm, ct, an, oc, od, osl, rfl, lk⟩ := d.fn
  intro s us _ hl
  rw [List.append_nil] at hl ⊢
  exact BindsTo.of_eq (h name kV doc pm ct an us hl)
end
end Gx
set_option Elab.async false
set_option linter.all false
set_option maxRecDepth 100000
set_option maxHeartbeats 1000000
namespace Ab
open PySem PySem.Spec PyProof.Rows L2
open Classical
noncomputable section
def aSuper (c : String) (F : List AV → Sto → Res AV) : AE := fun σ s => match σ with
  | [some x, some y] => if isI s x c = true then F [x, y] s else .stuck
  | _ => .stuck
theorem super_ok {W : Wl} {c : String} {F : List AV → Sto → Res AV} {f1 : AS} {t1 : TS} {Ek : XK} {vs : List V} {H : Hp} {Q : VK}
    (h : spF W 2 (aDef 0 (aSeq (aDrop (aSuper c F)) f1)) vs H Q Ek) (hs : DS W (fun _ => Ek) t1 f1) :
    ∃ a b dx fs, vs = [.ref a, b] ∧ H a = some (.ins (W.κ c) dx fs) ∧ spF W 2 F [.ref a, b] H (fun _ H1 => t1 { nx := fun _ H' => Q .non H', rt := Q } [some (.ref a), some b] H1) Ek := by
  obtain ⟨w, s, args, rfl, S, R, hn, p⟩ := h
  match args, vs, R with
  | [x, y], _, .cons (v := vx) r1 (.cons (v := vy) r2 .nil) =>
  have p : ((aSeq (aDrop (aSuper c F)) f1) [some x, some y] s).fn.Post (OkP W w Q) (ErrP W w Ek) := p
  have ev : aSeq (aDrop (aSuper c F)) f1 [some x, some y] s = ((if isI s x c = true then F [x, y] s else .stuck : Res AV).st [some x, some y] fun _ s1 => .nx [some x, some y] s1).thn f1 := rfl
  rw [ev] at p
  by_cases hi : isI s x c = true
  · rw [if_pos hi] at p
    have hi2 := hi
    unfold isI at hi2
    split at hi2
    · rename_i d fs e
      cases of_decide_eq_true hi2
      obtain ⟨i, dx, gs, rfl, h2, rfl, h3, h4, h5⟩ := ins_at S r1 e
      refine ⟨_, vy, dx, gs, rfl, h3, w, s, [.obj i, y], rfl, S, .cons r1 (.cons r2 .nil), rfl, ?_⟩
      cases e2 : F [.obj i, y] s with
      | ok v s1 =>
        rw [e2] at p
        intro w1 vc e1 S1 rv
        refine hs w1 s1 [some (.obj i), some y] [some (.ref (w.m i)), some vy] _ S1 (RSt.start (k := 0) (.cons (r1.mono e1) (.cons (r2.mono e1) .nil))) ?_
        have p : (f1 [some (.obj i), some y] s1).fn.Post (OkP W w Q) (ErrP W w Ek) := p
        cases e3 : f1 [some (.obj i), some y] s1 with
        | nx σ' s' =>
          rw [e3] at p
          exact fun w' σc' e' S' R' => p w' _ (e1.trans e') S' .non
        | rt v s' =>
          rw [e3] at p
          exact fun w' vc' e' S' R' => p w' _ (e1.trans e') S' R'
        | bk σ' s' => rw [e3] at p; exact p.elim
        | ct σ' s' => rw [e3] at p; exact p.elim
        | err c' ns vs σ' s' =>
          rw [e3] at p
          exact fun w' σc' d' e' S' R' x => p w' d' (e1.trans e') S' x
        | stuck => rw [e3] at p; exact p.elim
      | err c' ns vs s1 => rw [e2] at p; exact p
      | stuck => rw [e2] at p; exact p.elim
    · cases hi2
  · rw [if_neg hi] at p
    exact p.elim
theorem super_ex {X : Cx} {rest : List Stmt} {W : Wl} {c : String} {F : List AV → Sto → Res AV} {f1 : AS} {t1 : TS} {Ek : XK} {vs : List V} {H : Hp} {Q : VK}
    (h : spF W 2 (aDef 0 (aSeq (aDrop (aSuper c F)) f1)) vs H Q Ek) (hp : PSs X rest t1) (hs : DS W (fun _ => Ek) t1 f1) :
    ∃ (tr : TS) (a : Addr) (b : V) (dx : Addr) (fs : List (Str × V)), vs = [.ref a, b] ∧ H a = some (.ins (W.κ c) dx fs) ∧ PSs X rest tr ∧ spF W 2 F [.ref a, b] H (fun _ H1 => tr { nx := fun _ H' => Q .non H', rt := Q } [some (.ref a), some b] H1) Ek := by
  obtain ⟨a, b, dx, fs, e1, e2, e3⟩ := super_ok h hs
  exact ⟨t1, a, b, dx, fs, e1, e2, hp, e3⟩
end
end Ab
set_option Elab.async false
set_option linter.all false
set_option maxRecDepth 100000
set_option maxHeartbeats 2000000
namespace LsT
open PySem PySem.W PySem.Calls PyProof.Rows PyProof.V PySem.Spec
section
variable {prog : Program} {w : World} {A : Around} {E : Value → Shared → Prop} {s : Shared} {x : Str} {t : Tok}
theorem hint_str {Q : Bool → Shared → Prop} (h : Q false s) : wpAny (model prog w) A (Builtin.List.listLengthHint (.str x t)) Q E s := by
  unfold Builtin.List.listLengthHint
  refine wpAny_bind (wpAny_specialOf (T := "str") (v := .str x t) rfl PySem.F.str_len ?_)
  wp_delta
  refine wpAny_bind (wpAny_isInstance (T := "str") (v := .str x t) (b := true) rfl (by rw [isSubtype_type]; kernel_rfl) ?_)
  show wpAny _ _ (typeOf (Value.str x t) >>= _) _ _ _
  refine wpAny_bind (wpAny_typeOf (T := "str") (v := .str x t) rfl ?_)
  exact wpAny_pure h
theorem ext_str {R : Result → Shared → Prop} (hh : A.handled = none) (S : Addr) (res : Value) (c₀ : Nat) (hS : s.heap.get? S = some { cls := .type "list", data := .seq #[] c₀ })
    (hR : ∀ h' tk acc' c', (∀ b o, b ≠ S → s.heap.get? b = some o → h'.get? b = some o) → h'.get? S = some { cls := .type "list", dict := none, data := .seq acc' c', slots := #[] } → ItemsOf (SignAt x) acc' x.cps.size → R (.ok (.ret res)) { s with heap := h', toks := tk }) (hn : x.cps.size ≤ sizeLine) :
    wpAny (model prog w) A.in1 (Builtin.List.listExtendWith (.ref S) (.str x t) res)
      (fun fin s' => match fin with | .done f => R (.ok f) s' | .again c' => c'.quiet = true ∧ codeAny (model prog w) A c' R s') (fun e s' => R (.error e) s') s := by
  have hSI : S ≠ s.heap.objs.size := Nat.ne_of_lt (Heap.lt_size hS)
  have hSf : S ∉ [s.heap.objs.size] := by simp only [List.mem_cons, List.not_mem_nil, or_false]; exact hSI
  unfold Builtin.List.listExtendWith
  refine wpAny_bind (wpAny_typeOf (T := "str") (v := .str x t) rfl ?_)
  have h1 : Builtin.List.listSameRef (.ref S) (.str x t) = false := rfl
  have h2 : (Value.type "str" == Value.type "list") = false := by decide
  have h3 : (Value.type "str" == Value.type "tuple") = false := by decide
  simp only [h1, h2, h3, Bool.or_false, Bool.false_eq_true, if_false]
  refine wpAny_bind (wpAny_pyIter_str fun oI St W st => ?_)
  have W := W A.in1 hh
  have key : ∀ (h : Heap) (c₁ tk : Nat), St 0 h → (∀ b o, b ≠ S → s.heap.get? b = some o → h.get? b = some o) →
      h.get? S = some { cls := .type "list", data := .seq #[] c₁ } → codeAny (model prog w) A (.builtin "list.extend.loop" ⟨[.ref S, .ref s.heap.objs.size, res], []⟩) R { s with heap := h, toks := tk } := by
    intro h c₁ tk hst hk hS₁
    refine codeAny_extend_loopS W.toS hn S hSf res x.cps.size 0 _ #[] c₁ rfl (Nat.zero_le _) hst hS₁ (ItemsOf.nil _) fun s' acc' c' hm hS' hacc => ?_
    rw [Moved.eq_with hm]
    refine hR s'.heap s'.toks acc' c' (fun b o hb e => hm.heap b o (fun hmem => ?_) (hk b o hb e)) hS' hacc
    rcases List.mem_cons.mp hmem with e' | hmem
    · exact hb e'
    · exact absurd (Heap.lt_size e) (by rw [List.mem_singleton.mp hmem]; exact Nat.lt_irrefl _)
  have hS₁ := Heap.get?_push_of_some oI hS
  refine wpAny_bind (wpAny_holding (hint_str ?_))
  refine wpAny_ite_split (fun _ => ?_) (fun _ => wpAny_pure ⟨plainId_quiet PySem.F.plain_extend_loop _, key _ c₀ _ st (fun b o _ e => Heap.get?_push_of_some _ e) hS₁⟩)
  refine wpAny_bind (wpAny_rule ?_)
  refine wpAny_bind ?_
  show wpAny _ _ (updateSeq S (·.push .none) >>= fun _ => updateSeq S (·.pop)) _ _ _
  refine wpAny_bind (wpAny_updateSeq hS₁ rfl ?_)
  have hS₂ := Heap.get?_update_self (Obj.mapSeq (·.push Value.none)) hS₁ rfl
  refine wpAny_updateSeq (hz := by seq_fits) hS₂ rfl ?_
  have hS₃ := Heap.get?_update_self (Obj.mapSeq (·.pop)) hS₂ rfl
  refine wpAny_pure ⟨plainId_quiet PySem.F.plain_extend_loop _, key _ _ _ ?_ (fun b o hb e => ?_) hS₃⟩
  · refine W.frame 0 _ _ st fun b hb o e => ?_
    have hbS : b ≠ S := fun h => hSf (h ▸ hb)
    exact (Heap.get?_update_other _ _ (Ne.symm hbS)).trans ((Heap.get?_update_other _ _ (Ne.symm hbS)).trans e)
  · exact (Heap.get?_update_other _ _ (Ne.symm hb)).trans ((Heap.get?_update_other _ _ (Ne.symm hb)).trans (Heap.get?_push_of_some _ e))
theorem init_str {R : Result → Shared → Prop} (hh : A.handled = none) (S : Addr) (hS : s.heap.get? S = some { cls := .type "list", data := .seq #[] })
    (hR : ∀ h' tk acc' c', (∀ b o, b ≠ S → s.heap.get? b = some o → h'.get? b = some o) → h'.get? S = some { cls := .type "list", dict := none, data := .seq acc' c', slots := #[] } → ItemsOf (SignAt x) acc' x.cps.size → R (.ok (.ret .none)) { s with heap := h', toks := tk }) (hn : x.cps.size ≤ sizeLine) :
    wpAny (model prog w) A.in1 (Builtin.«list.__init__» ⟨[.ref S, .str x t], []⟩)
      (fun fin s' => match fin with | .done f => R (.ok f) s' | .again c' => c'.quiet = true ∧ codeAny (model prog w) A c' R s') (fun e s' => R (.error e) s') s := by
  show wpAny _ _ (do let old ← Builtin.List.listItems (.ref S); Builtin.List.listUpdate (.ref S) (fun _ => #[]); letGo old.toList.reverse; Builtin.List.listExtendWith (.ref S) (.str x t) .none) _ _ s
  refine wpAny_bind ?_
  unfold Builtin.List.listItems
  refine wpAny_bind (wpAny_seqItems hS rfl (wpAny_pure ?_))
  show wpAny _ _ (updateSeq S (fun _ => #[]) >>= fun _ => letGo (#[] : Array Value).toList.reverse >>= fun _ => Builtin.List.listExtendWith (.ref S) (.str x t) .none) _ _ s
  refine wpAny_bind (wpAny_updateSeq hS rfl ?_)
  have hS₂ := Heap.get?_update_self (Obj.mapSeq (fun _ => (#[] : Array Value))) hS rfl
  have oth : ∀ b o, b ≠ S → s.heap.get? b = some o → (s.heap.update S (Obj.mapSeq (fun _ => (#[] : Array Value)))).get? b = some o :=
    fun b o hb e => (Heap.get?_update_other _ _ (Ne.symm hb)).trans e
  refine wpAny_bind (wpAny_letGo ?_)
  refine ext_str hh S .none _ hS₂ (fun h' tk acc' c' hk hS' hacc => ?_) hn
  exact hR h' tk acc' c' (fun b o hb e => hk b o hb (oth b o hb e)) hS' hacc
theorem call_str {Q : Value → Shared → Prop} (hh : A.handled = none) (hn : x.cps.size ≤ sizeLine)
    (hQ : ∀ h' tk acc' c', (∀ b o, s.heap.get? b = some o → h'.get? b = some o) → h'.get? s.heap.objs.size = some { cls := .type "list", dict := none, data := .seq acc' c', slots := #[] } → ItemsOf (SignAt x) acc' x.cps.size → Q (.ref s.heap.objs.size) { s with heap := h', toks := tk }) :
    wpAny (model prog w) A (call (.type "list") [.str x t]) Q E s := by
  refine callType_codes (Q₁ := fun obj s₁ => obj = .ref s.heap.objs.size ∧ s₁ = { s with heap := s.heap.push { cls := .type "list", data := .seq #[] } }) PySem.F.called_list (PySem.F.typeCall_list_1 _) PySem.F.entry_list_init
    (code_list_new _ ⟨rfl, rfl⟩) fun obj s₁ h₁ => ?_
  obtain ⟨rfl, rfl⟩ := h₁
  have hS : (s.heap.push { cls := .type "list", data := .seq #[] }).get? s.heap.objs.size = some { cls := .type "list", data := .seq #[] } := Heap.get?_push_size _ rfl
  refine ⟨⟨_, hS, rfl⟩, PySem.F.args_list_init_2 _ _, init_str (A := A.in1) hh _ hS (fun h' tk acc' c' hk hS' hacc => ?_) hn⟩
  exact ⟨rfl, hQ h' tk acc' c' (fun b o e => hk b o (Nat.ne_of_lt (Heap.lt_size e)) (Heap.get?_push_of_some _ e)) hS' hacc⟩
end
end LsT
namespace Gx
open PySem PySem.Spec PyProof.Rows L2 GenW
def sgV (x : Str) : List V := x.cps.toList.map fun c => .str ⟨#[c]⟩
def rLstStr : List V → Hp → VK → Prop := fun xs H Q => ∃ x, xs = [.str x] ∧ x.cps.size ≤ sizeLine ∧ ∀ l, H l = none → Q (.ref l) (upd H l (.lst (sgV x)))
theorem call_lstStr {X : Cx} (hc : X.calm = true) : CallR X (.type "list") rLstStr := by
  intro pins s σ H xs us Q I r h
  obtain ⟨x, e, hn, q⟩ := h
  subst e
  obtain ⟨u, eu, rx⟩ := vals1 r
  subst eu
  obtain ⟨t, rfl⟩ := rx
  refine LsT.call_str (I.ok.hd hc) hn fun h' tk acc' c' hkeep hS hacc => ?_
  refine ⟨.ref s.heap.objs.size, upd H s.heap.objs.size (.lst (sgV x)), I.laid (t' := tk) hkeep (Nat.le_refl _) (show ObjOk X.prog X.w _ _ _ (.lst (sgV x)) from ⟨?_, acc'.toList, c', ?_, ?_⟩), rfl, q _ (I.hok.fresh (Nat.le_refl _))⟩
  · unfold sgV
    rw [List.length_map, Array.length_toList]
    exact hn
  · refine vals_of_at (by unfold sgV; rw [List.length_map, Array.length_toList, Array.length_toList, hacc.1]) fun j y w h1 h2 => ?_
    obtain ⟨c, u, hcx, rfl⟩ := hacc.2 j w (by rw [← Array.getElem?_toList]; exact h2)
    have e2 : (sgV x)[j]? = some (.str ⟨#[c]⟩) := by
      unfold sgV
      rw [List.getElem?_map, Array.getElem?_toList, hcx]
      rfl
    rw [e2] at h1
    cases h1
    exact ⟨u, rfl⟩
  · rw [Array.toArray_toList]; exact hS
end Gx
set_option Elab.async false
set_option linter.all false
set_option maxRecDepth 100000
set_option maxHeartbeats 1000000
namespace Ab
open PySem PySem.Spec PyProof.Rows L2
open Classical
noncomputable section
def sgA (z : Str) : List AV := z.cps.toList.map fun c => .str ⟨#[c]⟩
def gListS : List AV → Sto → Res AV := fun xs s => match xs with | [.str z] => if z.cps.size ≤ sizeLine then newL (sgA z) s else .stuck | _ => .stuck
theorem gListS_str {z : Str} {s : Sto} (h : z.cps.size ≤ sizeLine) : gListS [.str z] s = newL (sgA z) s := if_pos h
theorem NEL.listS : NEL gListS := fun x s c ns vs s' h => by 
  unfold gListS at h
  repeat' split at h
  all_goals first | cases h | (unfold newL at h; cases h)
theorem DB.listS {W : Wl} : DB W Gx.rLstStr gListS := fun w s x v Q S r h => by
  unfold gListS at h
  split at h
  · rename_i z
    split at h
    · rename_i hz
      cases r with
      | cons r1 r2 =>
        cases r2
        cases r1
        refine ⟨z, rfl, hz, newL_ok S ?_ h⟩
        have : ∀ l : List Nat, RelL W w (l.map fun c => AV.str ⟨#[c]⟩) (l.map fun c => V.str ⟨#[c]⟩) := by
          intro l
          induction l with
          | nil => exact .nil
          | cons c l ih => exact .cons (.str _) ih
        exact this _
    · exact h.elim
  · exact h.elim
end
end Ab
set_option Elab.async false
set_option linter.all false
set_option maxRecDepth 100000
set_option maxHeartbeats 4000000
set_option exponentiation.threshold 3000
namespace Pf
open PySem PySem.Spec PyProof.Rows L2 Ab
noncomputable section
def KV_SIZES : List (Key × AV) := [(.inr "bits", .int 2), (.inr "below", .int 2), (.inr "between", .int 3), (.inr "choice", .int 2), (.inr "coin", .int 3), (.inr "fraction", .int 2)]
theorem RK_SIZES {W : Wc} (w : Wd) : RelK W w KV_SIZES ([(.inr "bits", .int 2), (.inr "below", .int 2), (.inr "between", .int 3), (.inr "choice", .int 2), (.inr "coin", .int 3), (.inr "fraction", .int 2)] : List (Key × V)) := (.cons ⟨rfl, .int _⟩ (.cons ⟨rfl, .int _⟩ (.cons ⟨rfl, .int _⟩ (.cons ⟨rfl, .int _⟩ (.cons ⟨rfl, .int _⟩ (.cons ⟨rfl, .int _⟩ .nil))))))
def B_is_integer : AS := (aRet (aAndV (aCB (gIsi (kitB "int")) (aCons (aVar 0) (aCons (aC (.ty "int")) aNil))) (aNotV (aCB (gIsi (kitB "bool")) (aCons (aVar 0) (aCons (aC (.ty "bool")) aNil))))))
def F_is_integer : List AV → Sto → Res AV := gcF (aDef 0 B_is_integer)
def B_need_source : AS := (aIfS (aOr (aNot (aTest (aCB (gIsi (kitB "Source")) (aCons (aVar 0) (aCons (aC (.cls "Source")) aNil))))) (aTest (aOp gEq (aUn (gIVal ["Scripted"] "KIND" (.str "script")) (aVar 0)) (aC (.str "none"))))) aNever aNext)
def F_need_source : List AV → Sto → Res AV := gcF (aDef 0 B_need_source)
def B_script_after : AS := (aSeq (aIfS (aTest (aOp gGt (aOp gAdd (aVar 1) (aVar 2)) (aCB gLen (aCons (aVar 0) aNil)))) aNever aNext)
  (aRet (aOp gAdd (aVar 1) (aVar 2))))
def F_script_after : List AV → Sto → Res AV := gcF (aDef 0 B_script_after)
def B_Scripted_state : AS := (aRet (aTup (aCons (aFld ["Scripted"] "s1_script" (aVar 0)) (aCons (aFld ["Scripted"] "s1_place" (aVar 0)) aNil))))
def F_Scripted_state : List AV → Sto → Res AV := gcF (aDef 0 B_Scripted_state)
def B_s5_digits : AS := (aSeq (aAsg (aC (.int 0)) (agName 1))
  (aSeq (aWhile (aTest (aOp gGt (aVar 0) (aC (.int 0)))) (aPar 0 1 (aCons (aOp gFdiv (aVar 0) (aC (.int 2))) (aCons (aOp gAdd (aVar 1) (aC (.int 1))) aNil))))
  (aRet (aVar 1))))
def F_s5_digits : List AV → Sto → Res AV := gcF (aDef 1 B_s5_digits)
def B_s5_reduced : AS := (aSeq (aPar 2 3 (aCons (aVar 0) (aCons (aVar 1) aNil)))
  (aSeq (aWhile (aTest (aOp gGt (aVar 3) (aC (.int 0)))) (aPar 2 3 (aCons (aVar 3) (aCons (aOp gMod (aVar 2) (aVar 3)) aNil))))
  (aRet (aTup (aCons (aOp gFdiv (aVar 0) (aVar 2)) (aCons (aOp gFdiv (aVar 1) (aVar 2)) aNil))))))
def F_s5_reduced : List AV → Sto → Res AV := gcF (aDef 2 B_s5_reduced)
def B_need_step : AS := (aSeq (aIfS (aOr (aNot (aTest (aCB (gIsi (kitB "tuple")) (aCons (aVar 0) (aCons (aC (.ty "tuple")) aNil))))) (aOr (aTest (aOp gEq0 (aVar 0) (aTup aNil))) (aNot (aTest (aCB (gIsi (kitB "str")) (aCons (aOp gIx (aVar 0) (aC (.int 0))) (aCons (aC (.ty "str")) aNil))))))) aNever aNext)
  (aIfS (gcT (aTest (aOp gNe (aUn (kgetN KV_SIZES) (aOp gIx (aVar 0) (aC (.int 0)))) (aCB gLen (aCons (aVar 0) aNil))))) aNever aNext))
def F_need_step : List AV → Sto → Res AV := gcF (aDef 0 B_need_step)
def B_Draws_words_used : AS := (aRet (aFld ["Draws", "PooledDraws"] "s5_used" (aVar 0)))
def F_Draws_words_used : List AV → Sto → Res AV := gcF (aDef 0 B_Draws_words_used)
def B_PooledDraws_pool : AS := (aRet (aTup (aCons (aFld ["PooledDraws"] "s5_size" (aVar 0)) (aCons (aFld ["PooledDraws"] "s5_value" (aVar 0)) aNil))))
def F_PooledDraws_pool : List AV → Sto → Res AV := gcF (aDef 0 B_PooledDraws_pool)
def B__law_begun : AS := (aSeq (aAsg (aOp gAdd (aC (.int 32452843)) (aOp gMul (aC (.int 41)) (aCB gLen (aCons (aVar 0) aNil)))) (agName 1))
  (aSeq (aFor (aEnumU (aCons (aVar 0) aNil)) (agTup 2 (agCons (agName 2) (agCons (agName 3) agNil))) (aAsg (aOp gMod (aOp gAdd (aOp gAdd (aOp gMul (aVar 1) (aC (.int 998244353))) (aVar 3)) (aOp gMul (aC (.int 104723)) (aVar 2))) (aC (.int 2305843009213693951))) (agName 1)))
  (aRet (aDisp [((aC (.str "mixed")), (aVar 1)), ((aC (.str "great")), (aLc (aIter (aVar 0)) (agName 3) (aTest (aOp gGe (aVar 3) (aOp gPow (aC (.int 10)) (aC (.int 18))))) (aVar 3) [3])), ((aC (.str "turn")), (aC (.int 0)))]))))
def F__law_begun : List AV → Sto → Res AV := gcF (aDef 3 B__law_begun)
def B__law_next : AS := (aSeq (aAsg (aTup (aCons (aOp gAdd (aOp gDGet (aVar 0) (aC (.str "turn"))) (aC (.int 1))) (aCons (aOp gDGet (aVar 0) (aC (.str "great"))) aNil))) (agTup 2 (agCons (agSub setD (aVar 0) (aC (.str "turn"))) (agCons (agName 2) agNil))))
  (aSeq (aAsg (aOp gMod (aOp gDGet (aVar 0) (aC (.str "turn"))) (aCB gMax2 (aCons (aC (.int 1)) (aCons (aCB gLen (aCons (aVar 2) aNil)) aNil)))) (agName 3))
  (aSeq (aIfS (gcT (aAnd (aTest (aOp gNe (aVar 2) (aLst aNil))) (aTest (aOp gGt (aOp gIx (aVar 2) (aVar 3)) (aC (.int 0)))))) (aSeq (aAsg (aOp gMod (aOp gIx (aVar 2) (aVar 3)) (aVar 1)) (agName 4))
  (aSeq (aAsg (aOp gFdiv (aOp gIx (aVar 2) (aVar 3)) (aVar 1)) (agSub setL (aVar 2) (aVar 3)))
  (aRet (aVar 4)))) aNext)
  (aSeq (aAsg (aOp gAdd (aOp gAdd (aOp gMul (aOp gDGet (aVar 0) (aC (.str "mixed"))) (aC (.int 6364136223846793))) (aOp gMul (aC (.int 1442695040888963)) (aOp gDGet (aVar 0) (aC (.str "turn"))))) (aC (.int 11))) (agName 5))
  (aSeq (aDPut (aVar 0) (aC (.str "mixed")) (aOp gMod (aVar 5) (aC (.int 2305843009213693951))))
  (aRet (aOp gMod (aOp gFdiv (aOp gDGet (aVar 0) (aC (.str "mixed"))) (aC (.int 32749))) (aVar 1))))))))
def F__law_next : List AV → Sto → Res AV := gcF (aDef 4 B__law_next)
def B__law_fraction_right : AS := (aSeq (aAsg (aVar 0) (agTup 2 (agCons (agName 3) (agCons (agName 4) agNil))))
  (aSeq (aAsg (aOrV (aOp gEq (aVar 4) (aC (.int 1))) (aOp gEq (aOp gMod (aVar 3) (aC (.int 2))) (aC (.int 1)))) (agName 5))
  (aRet (aAndV (aOp gEq (aOp gShl (aVar 3) (aVar 2)) (aOp gMul (aVar 1) (aVar 4))) (aAndV (aOp gGt (aVar 4) (aC (.int 0))) (aAndV (aOp gEq (aOp gMod (aOp gShl (aC (.int 1)) (aVar 2)) (aVar 4)) (aC (.int 0))) (aVar 5)))))))
def F__law_fraction_right : List AV → Sto → Res AV := gcF (aDef 3 B__law_fraction_right)
def B_is_word : AS := (aRet (aAndV (aCall 1 F_is_integer [] (aCons (aVar 0) aNil)) (aChain gLe gLt (aC (.int 0)) (aVar 0) (aC (.int 4294967296)))))
def F_is_word : List AV → Sto → Res AV := gcF (aDef 0 B_is_word)
def B_Scripted_next_word : AS := (aSeq (aAsg (aCall 3 F_script_after [] (aCons (aFld ["Scripted"] "s1_script" (aVar 0)) (aCons (aFld ["Scripted"] "s1_place" (aVar 0)) (aCons (aC (.int 1)) aNil)))) (agName 1))
  (aSeq (aSFld ["Scripted"] "s1_place" (aVar 0) (aVar 1))
  (aRet (aOp gIx (aFld ["Scripted"] "s1_script" (aVar 0)) (aOp gMinus (aVar 1) (aC (.int 1)))))))
def F_Scripted_next_word : List AV → Sto → Res AV := gcF (aDef 1 B_Scripted_next_word)
def B_s5_need : AS := (aIfS (gcT (aOr (aNot (aTest (aCall 1 F_is_integer [] (aCons (aVar 0) aNil)))) (aNot (aTest (aChain gLe gLe (aVar 1) (aVar 0) (aVar 2)))))) aNever aNext)
def F_s5_need : List AV → Sto → Res AV := gcF (aDef 0 B_s5_need)
def B_Draws___init__ : AS := (aSeq (aDrop (aCall 1 F_need_source [] (aCons (aVar 1) aNil)))
  (aSeq (aSFld ["Draws", "PooledDraws"] "s5_source" (aVar 0) (aVar 1))
  (aSFld ["Draws", "PooledDraws"] "s5_used" (aVar 0) (aC (.int 0)))))
def F_Draws___init__ : List AV → Sto → Res AV := gcF (aDef 0 B_Draws___init__)
def B__law_pick : AS := (aRet (aOp gIx (aVar 1) (aCall 2 F__law_next [] (aCons (aVar 0) (aCons (aCB gLen (aCons (aVar 1) aNil)) aNil)))))
def F__law_pick : List AV → Sto → Res AV := gcF (aDef 0 B__law_pick)
def B__law_words : AS := (aSeq (aAsg (aLc (aRng1 (aCons (aC (.int 8)) aNil)) (agName 2) aYes (aCall 2 F__law_next [] (aCons (aVar 0) (aCons (aC (.int 4294967296)) aNil))) [2]) (agName 1))
  (aSeq (aFor (aRng1 (aCons (aC (.int 52)) aNil)) (agName 2) (aDrop (aBM gAppend (aVar 1) (aCons (aOp gMod (aOp gAdd (aOp gAdd (aOp gAdd (aOp gMul (aOp gIx (aVar 1) (aUn gNeg (aC (.int 1)))) (aC (.int 1664525))) (aOp gMul (aOp gIx (aVar 1) (aUn gNeg (aC (.int 3)))) (aC (.int 69069)))) (aOp gMul (aC (.int 1013904223)) (aVar 2))) (aC (.int 7))) (aC (.int 4294967296))) aNil))))
  (aRet (aCB gTuple (aCons (aOp gAdd (aVar 1) (aOp gMul (aLst (aCons (aC (.int 0)) aNil)) (aC (.int 40)))) aNil)))))
def F__law_words : List AV → Sto → Res AV := gcF (aDef 2 B__law_words)
def B_is_script : AS := (aRet (aAndV (aCB (gIsi (kitB "tuple")) (aCons (aVar 0) (aCons (aC (.ty "tuple")) aNil))) (aAndV (aOp gLe (aCB gLen (aCons (aVar 0) aNil)) (aC (.int 10000))) (aCB gAll (aCons (aLc (aIter (aVar 0)) (agName 1) aYes (aCall 1 F_is_word [] (aCons (aVar 1) aNil)) [1]) aNil)))))
def F_is_script : List AV → Sto → Res AV := gcF (aDef 1 B_is_script)
def B_digits_of : AS := (aSeq (aDrop (aCall 3 F_s5_need [] (aCons (aVar 0) (aCons (aC (.int 0)) (aCons (aC (.int 13407807929942597099574024998205846127479365820592393377723561443721764030073546976801874298166903427690031858186486050853753882811946569946433649006084096)) aNil)))))
  (aRet (aCall 1 F_s5_digits [] (aCons (aVar 0) aNil))))
def F_digits_of : List AV → Sto → Res AV := gcF (aDef 0 B_digits_of)
def B_need_range : AS := (aSeq (aFor (aIter (aTup (aCons (aVar 0) (aCons (aVar 1) aNil)))) (agName 2) (aDrop (aCall 3 F_s5_need [] (aCons (aVar 2) (aCons (aUn gNeg (aC (.int 115792089237316195423570985008687907853269984665640564039457584007913129639936))) (aCons (aC (.int 115792089237316195423570985008687907853269984665640564039457584007913129639936)) aNil))))))
  (aIfS (aOr (aTest (aOp gLt (aVar 1) (aVar 0))) (aTest (aOp gGe (aOp gMinus (aVar 1) (aVar 0)) (aC (.int 115792089237316195423570985008687907853269984665640564039457584007913129639936))))) aNever aNext))
def F_need_range : List AV → Sto → Res AV := gcF (aDef 1 B_need_range)
def B_need_share : AS := (aSeq (aDrop (aCall 3 F_s5_need [] (aCons (aVar 0) (aCons (aC (.int 0)) (aCons (aC (.int 115792089237316195423570985008687907853269984665640564039457584007913129639936)) aNil)))))
  (aDrop (aCall 3 F_s5_need [] (aCons (aVar 1) (aCons (aCB gMax2 (aCons (aC (.int 1)) (aCons (aVar 0) aNil))) (aCons (aC (.int 115792089237316195423570985008687907853269984665640564039457584007913129639936)) aNil))))))
def F_need_share : List AV → Sto → Res AV := gcF (aDef 0 B_need_share)
def B_Draws_s5_word : AS := (aSeq (aAsg (aMeth "Scripted" "next_word" 1 F_Scripted_next_word [] (aFld ["Draws", "PooledDraws"] "s5_source" (aVar 0)) aNil) (agName 1))
  (aSeq (aFAug ["Draws", "PooledDraws"] "s5_used" (gI0 fun i j => .int (i + j)) (aVar 0) (aC (.int 1)))
  (aRet (aVar 1))))
def F_Draws_s5_word : List AV → Sto → Res AV := gcF (aDef 1 B_Draws_s5_word)
def B_Draws_saved : AS := (aRet (aTup (aCons (aProp "Scripted" (fun xs s => noErr (F_Scripted_state xs s)) (aFld ["Draws", "PooledDraws"] "s5_source" (aVar 0))) (aCons (aFld ["Draws", "PooledDraws"] "s5_used" (aVar 0)) aNil))))
def F_Draws_saved : List AV → Sto → Res AV := gcF (aDef 0 B_Draws_saved)
def B_PooledDraws_saved : AS := (aRet (aTup (aCons (aProp "Scripted" (fun xs s => noErr (F_Scripted_state xs s)) (aFld ["PooledDraws"] "s5_source" (aVar 0))) (aCons (aFld ["PooledDraws"] "s5_used" (aVar 0)) (aCons (aFld ["PooledDraws"] "s5_size" (aVar 0)) (aCons (aFld ["PooledDraws"] "s5_value" (aVar 0)) aNil))))))
def F_PooledDraws_saved : List AV → Sto → Res AV := gcF (aDef 0 B_PooledDraws_saved)
def B_need_script_state : AS := (aSeq (aIfS (gcT (aOr (aNot (aTest (aCB (gIsi (kitB "tuple")) (aCons (aVar 0) (aCons (aC (.ty "tuple")) aNil))))) (aOr (aTest (aOp gNe (aCB gLen (aCons (aVar 0) aNil)) (aC (.int 2)))) (aOr (aNot (aTest (aCall 1 F_is_script [] (aCons (aOp gIx (aVar 0) (aC (.int 0))) aNil)))) (aNot (aTest (aCall 1 F_is_integer [] (aCons (aOp gIx (aVar 0) (aC (.int 1))) aNil)))))))) aNever aNext)
  (aIfS (aNot (aTest (aChain gLe gLe (aC (.int 0)) (aOp gIx (aVar 0) (aC (.int 1))) (aCB gLen (aCons (aOp gIx (aVar 0) (aC (.int 0))) aNil))))) aNever aNext))
def F_need_script_state : List AV → Sto → Res AV := gcF (aDef 0 B_need_script_state)
def B_Draws_s5_bits : AS := (aSeq (aAsg (aTup (aCons (aC (.int 0)) (aCons (aC (.int 0)) aNil))) (agTup 2 (agCons (agName 2) (agCons (agName 3) agNil))))
  (aSeq (aWhile (aTest (aOp gLt (aVar 3) (aVar 1))) (aSeq (aPar 4 5 (aCons (aVirt "s5_word" 1 [("Draws", F_Draws_s5_word), ("PooledDraws", F_Draws_s5_word)] (aVar 0) aNil) (aCons (aOp gMinus (aVar 1) (aVar 3)) aNil)))
  (aSeq (aIfS (aTest (aOp gLt (aVar 5) (aC (.int 32)))) (aAsg (aOp gShr (aVar 4) (aOp gMinus (aC (.int 32)) (aVar 5))) (agName 4)) aNext)
  (aPar 2 3 (aCons (aOp gAdd (aVar 2) (aOp gShl (aVar 4) (aVar 3))) (aCons (aOp gAdd (aVar 3) (aC (.int 32))) aNil))))))
  (aRet (aVar 2))))
def F_Draws_s5_bits : List AV → Sto → Res AV := gcF (aDef 4 B_Draws_s5_bits)
def B_PooledDraws___init__ : AS := (aSeq (aDrop (aSuper "PooledDraws" F_Draws___init__))
  (aAsg (aTup (aCons (aC (.int 0)) (aCons (aC (.int 0)) aNil))) (agTup 2 (agCons (agFld ["PooledDraws"] "s5_size" (aVar 0)) (agCons (agFld ["PooledDraws"] "s5_value" (aVar 0)) agNil)))))
def F_PooledDraws___init__ : List AV → Sto → Res AV := gcF (aDef 0 B_PooledDraws___init__)
def B_PooledDraws_s5_bits : AS := (aSeq (aWhile (aTest (aOp gLt (aFld ["PooledDraws"] "s5_size" (aVar 0)) (aVar 1))) (aSeq (aFAug ["PooledDraws"] "s5_value" (gI0 fun i j => .int (i + j)) (aVar 0) (aOp gShl (aMeth "PooledDraws" "s5_word" 1 F_Draws_s5_word [] (aVar 0) aNil) (aFld ["PooledDraws"] "s5_size" (aVar 0))))
  (aFAug ["PooledDraws"] "s5_size" (gI0 fun i j => .int (i + j)) (aVar 0) (aC (.int 32)))))
  (aSeq (aAsg (aOp gMod (aFld ["PooledDraws"] "s5_value" (aVar 0)) (aOp gShl (aC (.int 1)) (aVar 1))) (agName 2))
  (aSeq (aSFld ["PooledDraws"] "s5_value" (aVar 0) (aOp gShr (aFld ["PooledDraws"] "s5_value" (aVar 0)) (aVar 1)))
  (aSeq (aFAug ["PooledDraws"] "s5_size" (gI0 fun i j => .int (i - j)) (aVar 0) (aVar 1))
  (aRet (aVar 2))))))
def F_PooledDraws_s5_bits : List AV → Sto → Res AV := gcF (aDef 1 B_PooledDraws_s5_bits)
def B_Scripted___init__ : AS := (aSeq (aIfS (gcT (aNot (aTest (aCall 1 F_is_script [] (aCons (aVar 1) aNil))))) aNever aNext)
  (aSeq (aDrop (aCall 1 F_need_script_state [] (aCons (aTup (aCons (aVar 1) (aCons (aVar 2) aNil))) aNil)))
  (aSeq (aSFld ["Scripted"] "s1_script" (aVar 0) (aVar 1))
  (aSFld ["Scripted"] "s1_place" (aVar 0) (aVar 2)))))
def F_Scripted___init__ : List AV → Sto → Res AV := gcF (aDef 0 B_Scripted___init__)
def B_Draws_s5_below : AS := (aSeq (aAsg (aCall 1 F_s5_digits [] (aCons (aOp gMinus (aVar 1) (aC (.int 1))) aNil)) (agName 2))
  (aSeq (aAsg (aVirt "s5_bits" 2 [("Draws", F_Draws_s5_bits), ("PooledDraws", F_PooledDraws_s5_bits)] (aVar 0) (aCons (aVar 2) aNil)) (agName 3))
  (aSeq (aWhile (aTest (aOp gGe (aVar 3) (aVar 1))) (aAsg (aVirt "s5_bits" 2 [("Draws", F_Draws_s5_bits), ("PooledDraws", F_PooledDraws_s5_bits)] (aVar 0) (aCons (aVar 2) aNil)) (agName 3)))
  (aRet (aVar 3)))))
def F_Draws_s5_below : List AV → Sto → Res AV := gcF (aDef 2 B_Draws_s5_below)
def B_Draws_bits : AS := (aSeq (aDrop (aCall 3 F_s5_need [] (aCons (aVar 1) (aCons (aC (.int 0)) (aCons (aC (.int 512)) aNil)))))
  (aRet (aVirt "s5_bits" 2 [("Draws", F_Draws_s5_bits), ("PooledDraws", F_PooledDraws_s5_bits)] (aVar 0) (aCons (aVar 1) aNil))))
def F_Draws_bits : List AV → Sto → Res AV := gcF (aDef 0 B_Draws_bits)
def B_Draws_fraction : AS := (aSeq (aDrop (aCall 3 F_s5_need [] (aCons (aVar 1) (aCons (aC (.int 0)) (aCons (aC (.int 512)) aNil)))))
  (aRet (aCall 2 F_s5_reduced [] (aCons (aVirt "s5_bits" 2 [("Draws", F_Draws_s5_bits), ("PooledDraws", F_PooledDraws_s5_bits)] (aVar 0) (aCons (aVar 1) aNil)) (aCons (aOp gShl (aC (.int 1)) (aVar 1)) aNil)))))
def F_Draws_fraction : List AV → Sto → Res AV := gcF (aDef 0 B_Draws_fraction)
def B_Draws_below : AS := (aSeq (aDrop (aCall 3 F_s5_need [] (aCons (aVar 1) (aCons (aC (.int 1)) (aCons (aC (.int 115792089237316195423570985008687907853269984665640564039457584007913129639936)) aNil)))))
  (aRet (aVirt "s5_below" 2 [("Draws", F_Draws_s5_below), ("PooledDraws", F_Draws_s5_below)] (aVar 0) (aCons (aVar 1) aNil))))
def F_Draws_below : List AV → Sto → Res AV := gcF (aDef 0 B_Draws_below)
def B_Draws_between : AS := (aSeq (aDrop (aCall 2 F_need_range [] (aCons (aVar 1) (aCons (aVar 2) aNil))))
  (aRet (aOp gAdd (aVar 1) (aVirt "s5_below" 2 [("Draws", F_Draws_s5_below), ("PooledDraws", F_Draws_s5_below)] (aVar 0) (aCons (aOp gAdd (aOp gMinus (aVar 2) (aVar 1)) (aC (.int 1))) aNil)))))
def F_Draws_between : List AV → Sto → Res AV := gcF (aDef 0 B_Draws_between)
def B_Draws_choice : AS := (aSeq (aIfS (aOr (aNot (aTest (aUn (gIsiT ["list", "tuple"]) (aVar 1)))) (aTest (aOp gEq (aCB gLen (aCons (aVar 1) aNil)) (aC (.int 0))))) aNever aNext)
  (aRet (aOp gIx (aVar 1) (aVirt "s5_below" 2 [("Draws", F_Draws_s5_below), ("PooledDraws", F_Draws_s5_below)] (aVar 0) (aCons (aCB gLen (aCons (aVar 1) aNil)) aNil)))))
def F_Draws_choice : List AV → Sto → Res AV := gcF (aDef 0 B_Draws_choice)
def B_Draws_coin : AS := (aSeq (aDrop (aCall 2 F_need_share [] (aCons (aVar 1) (aCons (aVar 2) aNil))))
  (aRet (aOp gLt (aVirt "s5_below" 2 [("Draws", F_Draws_s5_below), ("PooledDraws", F_Draws_s5_below)] (aVar 0) (aCons (aVar 2) aNil)) (aVar 1))))
def F_Draws_coin : List AV → Sto → Res AV := gcF (aDef 0 B_Draws_coin)
def B__law_first : AS := (aSeq (aAsg (aCall 1 F_digits_of [] (aCons (aOp gMinus (aVar 1) (aC (.int 1))) aNil)) (agName 2))
  (aSeq (aAsg (aVirt "bits" 2 [("Draws", F_Draws_bits), ("PooledDraws", F_Draws_bits)] (aVar 0) (aCons (aVar 2) aNil)) (agName 3))
  (aSeq (aWhile (aTest (aOp gGe (aVar 3) (aVar 1))) (aAsg (aVirt "bits" 2 [("Draws", F_Draws_bits), ("PooledDraws", F_Draws_bits)] (aVar 0) (aCons (aVar 2) aNil)) (agName 3)))
  (aRet (aVar 3)))))
def F__law_first : List AV → Sto → Res AV := gcF (aDef 2 B__law_first)
def B_Draws_do : AS := (aSeq (aDrop (aCall 1 F_need_step [] (aCons (aVar 1) aNil)))
  (aMatch (aOp gIx (aVar 1) (aC (.int 0))) (aMCase "bits" (aRet (aVirt "bits" 2 [("Draws", F_Draws_bits), ("PooledDraws", F_Draws_bits)] (aVar 0) (aCons (aOp gIx (aVar 1) (aC (.int 1))) aNil))) (aMCase "below" (aRet (aVirt "below" 2 [("Draws", F_Draws_below), ("PooledDraws", F_Draws_below)] (aVar 0) (aCons (aOp gIx (aVar 1) (aC (.int 1))) aNil))) (aMCase "between" (aRet (aVirt "between" 3 [("Draws", F_Draws_between), ("PooledDraws", F_Draws_between)] (aVar 0) (aCons (aOp gIx (aVar 1) (aC (.int 1))) (aCons (aOp gIx (aVar 1) (aC (.int 2))) aNil)))) (aMCase "choice" (aRet (aVirt "choice" 2 [("Draws", F_Draws_choice), ("PooledDraws", F_Draws_choice)] (aVar 0) (aCons (aOp gIx (aVar 1) (aC (.int 1))) aNil))) (aMCase "coin" (aRet (aVirt "coin" 3 [("Draws", F_Draws_coin), ("PooledDraws", F_Draws_coin)] (aVar 0) (aCons (aOp gIx (aVar 1) (aC (.int 1))) (aCons (aOp gIx (aVar 1) (aC (.int 2))) aNil)))) (aMAny (aRet (aVirt "fraction" 2 [("Draws", F_Draws_fraction), ("PooledDraws", F_Draws_fraction)] (aVar 0) (aCons (aOp gIx (aVar 1) (aC (.int 1))) aNil)))))))))))
def F_Draws_do : List AV → Sto → Res AV := gcF (aDef 0 B_Draws_do)
def B__law_pair : AS := (aSeq (aIfS (aTest (aVar 1)) (aRet (aLst (aCons (aMake "PooledDraws" 2 F_PooledDraws___init__ [] (aCons (aMake "Scripted" 3 F_Scripted___init__ [.int 0] (aCons (aVar 0) aNil)) aNil)) (aCons (aMake "PooledDraws" 2 F_PooledDraws___init__ [] (aCons (aMake "Scripted" 3 F_Scripted___init__ [.int 0] (aCons (aVar 0) aNil)) aNil)) aNil)))) aNext)
  (aRet (aLst (aCons (aMake "Draws" 2 F_Draws___init__ [] (aCons (aMake "Scripted" 3 F_Scripted___init__ [.int 0] (aCons (aVar 0) aNil)) aNil)) (aCons (aMake "Draws" 2 F_Draws___init__ [] (aCons (aMake "Scripted" 3 F_Scripted___init__ [.int 0] (aCons (aVar 0) aNil)) aNil)) aNil)))))
def F__law_pair : List AV → Sto → Res AV := gcF (aDef 0 B__law_pair)
def B__law_digits_right : AS := (aSeq (aAsg (aCB gTuple (aCons (aLc (aRng1 (aCons (aC (.int 5)) aNil)) (agName 2) aYes (aCall 2 F__law_next [] (aCons (aVar 0) (aCons (aC (.int 4294967296)) aNil))) [2]) aNil)) (agName 1))
  (aSeq (aAsg (aTup (aCons (aMake "Draws" 2 F_Draws___init__ [] (aCons (aMake "Scripted" 3 F_Scripted___init__ [.int 0] (aCons (aVar 1) aNil)) aNil)) (aCons (aMake "PooledDraws" 2 F_PooledDraws___init__ [] (aCons (aMake "Scripted" 3 F_Scripted___init__ [.int 0] (aCons (aVar 1) aNil)) aNil)) (aCons (aCall 2 F__law_next [] (aCons (aVar 0) (aCons (aC (.int 5)) aNil))) aNil)))) (agTup 3 (agCons (agName 3) (agCons (agName 4) (agCons (agName 5) agNil)))))
  (aSeq (aAsg (aCB gSum (aCons (aLc (aEnumU (aCons (aVar 1) aNil)) (agTup 2 (agCons (agName 7) (agCons (agName 8) agNil))) aYes (aOp gShl (aVar 8) (aOp gMul (aC (.int 32)) (aVar 7))) [7, 8]) aNil)) (agName 6))
  (aSeq (aIfS (gcT (aOr (aTest (aOp gNe (aVirt "bits" 2 [("Draws", F_Draws_bits), ("PooledDraws", F_Draws_bits)] (aVar 3) (aCons (aC (.int 160)) aNil)) (aVar 6))) (aOr (aTest (aOp gNe (aVirt "bits" 2 [("Draws", F_Draws_bits), ("PooledDraws", F_Draws_bits)] (aVar 4) (aCons (aC (.int 160)) aNil)) (aVar 6))) (aTest (aOp gNe (aProp "PooledDraws" (fun xs s => noErr (F_PooledDraws_pool xs s)) (aVar 4)) (aTup (aCons (aC (.int 0)) (aCons (aC (.int 0)) aNil)))))))) (aRet (aC (.bl false))) aNext)
  (aSeq (aAsg (aTup (aCons (aMake "Draws" 2 F_Draws___init__ [] (aCons (aMake "Scripted" 3 F_Scripted___init__ [.int 0] (aCons (aVar 1) aNil)) aNil)) (aCons (aMake "PooledDraws" 2 F_PooledDraws___init__ [] (aCons (aMake "Scripted" 3 F_Scripted___init__ [.int 0] (aCons (aVar 1) aNil)) aNil)) aNil))) (agTup 2 (agCons (agName 3) (agCons (agName 4) agNil))))
  (aSeq (aIfS (gcT (aTest (aOp gNe (aOp gAdd (aVirt "bits" 2 [("Draws", F_Draws_bits), ("PooledDraws", F_Draws_bits)] (aVar 3) (aCons (aOp gMul (aC (.int 32)) (aVar 5)) aNil)) (aOp gShl (aVirt "bits" 2 [("Draws", F_Draws_bits), ("PooledDraws", F_Draws_bits)] (aVar 3) (aCons (aOp gMinus (aC (.int 160)) (aOp gMul (aC (.int 32)) (aVar 5))) aNil)) (aOp gMul (aC (.int 32)) (aVar 5)))) (aVar 6)))) (aRet (aC (.bl false))) aNext)
  (aSeq (aAsg (aCall 2 F__law_next [] (aCons (aVar 0) (aCons (aC (.int 41)) aNil))) (agName 9))
  (aSeq (aAsg (aLc (aRng1 (aCons (aVar 9) aNil)) (agName 2) aYes (aVirt "bits" 2 [("Draws", F_Draws_bits), ("PooledDraws", F_Draws_bits)] (aVar 4) (aCons (aC (.int 1)) aNil)) [2]) (agName 10))
  (aRet (aAndV (aOp gEq (aVar 10) (aLc (aRng1 (aCons (aVar 9) aNil)) (agName 7) aYes (aOp gAnd (aOp gShr (aVar 6) (aVar 7)) (aC (.int 1))) [7])) (aOp gEq (aVirtP [("Draws", F_Draws_words_used), ("PooledDraws", F_Draws_words_used)] (aVar 4)) (aOp gFdiv (aOp gAdd (aVar 9) (aC (.int 31))) (aC (.int 32))))))))))))))
def F__law_digits_right : List AV → Sto → Res AV := gcF (aDef 10 B__law_digits_right)
def B__law_alike : AS := (aSeq (aPar 3 4 (aCons (aCall 2 F__law_next [] (aCons (aVar 0) (aCons (aC (.int 7)) aNil))) (aCons (aOp gAdd (aC (.int 1)) (aCall 2 F__law_next [] (aCons (aVar 0) (aCons (aCall 2 F__law_pick [] (aCons (aVar 0) (aCons (aLst (aCons (aC (.int 2)) (aCons (aC (.int 7)) (aCons (aC (.int 60)) (aCons (aOp gShl (aC (.int 1)) (aC (.int 32))) (aCons (aOp gShl (aC (.int 1)) (aC (.int 64))) (aCons (aOp gShl (aC (.int 1)) (aC (.int 150))) aNil))))))) aNil))) aNil)))) aNil)))
  (aSeq (aPar3 5 6 7 (aCons (aCall 2 F__law_next [] (aCons (aVar 0) (aCons (aOp gAdd (aVar 4) (aC (.int 1))) aNil))) (aCons (aOp gMinus (aCall 2 F__law_next [] (aCons (aVar 0) (aCons (aC (.int 200)) aNil))) (aC (.int 100))) (aCons (aCall 2 F__law_next [] (aCons (aVar 0) (aCons (aC (.int 140)) aNil))) aNil))))
  (aSeq (aIfS (aTest (aOp gEq (aVar 3) (aC (.int 0)))) (aRet (aOp gEq (aVirt "between" 3 [("Draws", F_Draws_between), ("PooledDraws", F_Draws_between)] (aVar 1) (aCons (aVar 6) (aCons (aOp gMinus (aOp gAdd (aVar 6) (aVar 4)) (aC (.int 1))) aNil))) (aOp gAdd (aVar 6) (aVirt "below" 2 [("Draws", F_Draws_below), ("PooledDraws", F_Draws_below)] (aVar 2) (aCons (aVar 4) aNil))))) aNext)
  (aSeq (aIfS (aTest (aOp gEq (aVar 3) (aC (.int 1)))) (aRet (aOp gEq (aLst (aCons (aVirt "coin" 3 [("Draws", F_Draws_coin), ("PooledDraws", F_Draws_coin)] (aVar 1) (aCons (aVar 5) (aCons (aVar 4) aNil))) aNil)) (aLst (aCons (aOp gLt (aVirt "below" 2 [("Draws", F_Draws_below), ("PooledDraws", F_Draws_below)] (aVar 2) (aCons (aVar 4) aNil)) (aVar 5)) aNil)))) aNext)
  (aSeq (aIfS (aTest (aOp gEq (aVar 3) (aC (.int 2)))) (aSeq (aAsg (aSl (aCB gListS (aCons (aC (.str "abcdefg")) aNil)) aNoPart (aPart (aOp gAdd (aC (.int 1)) (aOp gMod (aVar 5) (aC (.int 7)))))) (agName 8))
  (aRet (aOp gEq (aVirt "choice" 2 [("Draws", F_Draws_choice), ("PooledDraws", F_Draws_choice)] (aVar 1) (aCons (aVar 8) aNil)) (aOp gIx (aVar 8) (aVirt "below" 2 [("Draws", F_Draws_below), ("PooledDraws", F_Draws_below)] (aVar 2) (aCons (aCB gLen (aCons (aVar 8) aNil)) aNil)))))) aNext)
  (aSeq (aIfS (aTest (aOp gEq (aVar 3) (aC (.int 3)))) (aRet (aCall 3 F__law_fraction_right [] (aCons (aVirt "fraction" 2 [("Draws", F_Draws_fraction), ("PooledDraws", F_Draws_fraction)] (aVar 1) (aCons (aVar 7) aNil)) (aCons (aVirt "bits" 2 [("Draws", F_Draws_bits), ("PooledDraws", F_Draws_bits)] (aVar 2) (aCons (aVar 7) aNil)) (aCons (aVar 7) aNil))))) aNext)
  (aSeq (aIfS (aTest (aOp gEq (aVar 3) (aC (.int 4)))) (aRet (aOp gEq (aVirt "below" 2 [("Draws", F_Draws_below), ("PooledDraws", F_Draws_below)] (aVar 1) (aCons (aOp gShl (aC (.int 1)) (aVar 7)) aNil)) (aVirt "bits" 2 [("Draws", F_Draws_bits), ("PooledDraws", F_Draws_bits)] (aVar 2) (aCons (aVar 7) aNil)))) aNext)
  (aSeq (aIfS (aTest (aOp gEq (aVar 3) (aC (.int 5)))) (aRet (aOp gEq (aVirt "below" 2 [("Draws", F_Draws_below), ("PooledDraws", F_Draws_below)] (aVar 1) (aCons (aVar 4) aNil)) (aCall 2 F__law_first [] (aCons (aVar 2) (aCons (aVar 4) aNil))))) aNext)
  (aRet (aOp gEq (aVirt "bits" 2 [("Draws", F_Draws_bits), ("PooledDraws", F_Draws_bits)] (aVar 1) (aCons (aVar 7) aNil)) (aVirt "do" 2 [("Draws", F_Draws_do), ("PooledDraws", F_Draws_do)] (aVar 2) (aCons (aTup (aCons (aC (.str "bits")) (aCons (aVar 7) aNil))) aNil))))))))))))
def F__law_alike : List AV → Sto → Res AV := gcF (aDef 6 B__law_alike)
def B__law_pair_right : AS := (aSeq (aAsg (aCall 2 F__law_pair [] (aCons (aCall 1 F__law_words [] (aCons (aVar 0) aNil)) (aCons (aVar 1) aNil))) (agTupL 2 (agCons (agName 2) (agCons (agName 3) agNil))))
  (aSeq (aFor (aRng1 (aCons (aOp gAdd (aC (.int 3)) (aCall 2 F__law_next [] (aCons (aVar 0) (aCons (aC (.int 4)) aNil)))) aNil)) (agName 4) (aIfS (gcT (aOr (aNot (aTest (aCall 3 F__law_alike [] (aCons (aVar 0) (aCons (aVar 2) (aCons (aVar 3) aNil)))))) (aTest (aOp gNe (aVirt "saved" 1 [("Draws", F_Draws_saved), ("PooledDraws", F_PooledDraws_saved)] (aVar 2) aNil) (aVirt "saved" 1 [("Draws", F_Draws_saved), ("PooledDraws", F_PooledDraws_saved)] (aVar 3) aNil))))) (aRet (aC (.bl false))) aNext))
  (aRet (aC (.bl true)))))
def F__law_pair_right : List AV → Sto → Res AV := gcF (aDef 3 B__law_pair_right)
def B_law : AS := (aSeq (aAsg (aCall 1 F__law_begun [] (aCons (aVar 0) aNil)) (agName 1))
  (aSeq (aFor (aRng1 (aCons (aOp gAdd (aC (.int 2)) (aCB gMin2 (aCons (aC (.int 4)) (aCons (aCB gLen (aCons (aVar 0) aNil)) aNil)))) aNil)) (agName 2) (aIfS (gcT (aOr (aNot (aTest (aCall 2 F__law_pair_right [] (aCons (aVar 1) (aCons (aC (.bl true)) aNil))))) (aOr (aNot (aTest (aCall 2 F__law_pair_right [] (aCons (aVar 1) (aCons (aC (.bl false)) aNil))))) (aNot (aTest (aCall 1 F__law_digits_right [] (aCons (aVar 1) aNil))))))) (aRet (aC (.bl false))) aNext))
  (aRet (aC (.bl true)))))
def F_law : List AV → Sto → Res AV := aDef 2 B_law
end
end Pf
set_option Elab.async false
set_option linter.all false
set_option maxRecDepth 100000
set_option maxHeartbeats 4000000
set_option exponentiation.threshold 3000
namespace Pf
open PySem PySem.Spec PyProof.Rows L2 Ab
def top (i : Nat) : Stmt := PySem.Challenge.pw_drawstate_k80_whole_draws_by_one_another.main.body.getD i (.Pass ⟨0, 0, 0, 0⟩)
abbrev s_is_integer : Stmt := top 16
theorem sc_is_integer : FnScope ["value"] ["value"] (C8.fnScope s_is_integer) := C8.fnScope_by (by decide +kernel)
abbrev s_is_word : Stmt := top 17
theorem sc_is_word : FnScope ["value"] ["value"] (C8.fnScope s_is_word) := C8.fnScope_by (by decide +kernel)
abbrev s_need_source : Stmt := top 25
theorem sc_need_source : FnScope ["source"] ["source"] (C8.fnScope s_need_source) := C8.fnScope_by (by decide +kernel)
abbrev s_is_script : Stmt := top 26
theorem sc_is_script : FnScope ["value", "word"] ["value"] (C8.fnScope s_is_script) := C8.fnScope_by (by decide +kernel)
abbrev s_need_script_state : Stmt := top 27
theorem sc_need_script_state : FnScope ["state"] ["state"] (C8.fnScope s_need_script_state) := C8.fnScope_by (by decide +kernel)
abbrev s_script_after : Stmt := top 28
theorem sc_script_after : FnScope ["script", "place", "steps"] ["script", "place", "steps"] (C8.fnScope s_script_after) := C8.fnScope_by (by decide +kernel)
abbrev s_Scripted___init__ : Stmt := inClass (top 30) 1
theorem sc_Scripted___init__ : FnScope ["self", "script", "place"] ["self", "script", "place"] (C8.fnScope s_Scripted___init__) := C8.fnScope_by (by decide +kernel)
abbrev s_Scripted_next_word : Stmt := inClass (top 30) 2
theorem sc_Scripted_next_word : FnScope ["self", "place"] ["self"] (C8.fnScope s_Scripted_next_word) := C8.fnScope_by (by decide +kernel)
abbrev s_Scripted_state : Stmt := inClass (top 30) 4
theorem sc_Scripted_state : FnScope ["self"] ["self"] (C8.fnScope s_Scripted_state) := C8.fnScope_by (by decide +kernel)
abbrev s_s5_need : Stmt := top 37
theorem sc_s5_need : FnScope ["number", "low", "high"] ["number", "low", "high"] (C8.fnScope s_s5_need) := C8.fnScope_by (by decide +kernel)
abbrev s_s5_digits : Stmt := top 38
theorem sc_s5_digits : FnScope ["number", "many"] ["number"] (C8.fnScope s_s5_digits) := C8.fnScope_by (by decide +kernel)
abbrev s_digits_of : Stmt := top 39
theorem sc_digits_of : FnScope ["number"] ["number"] (C8.fnScope s_digits_of) := C8.fnScope_by (by decide +kernel)
abbrev s_s5_reduced : Stmt := top 40
theorem sc_s5_reduced : FnScope ["top", "under", "one", "other"] ["top", "under"] (C8.fnScope s_s5_reduced) := C8.fnScope_by (by decide +kernel)
abbrev s_need_step : Stmt := top 41
theorem sc_need_step : FnScope ["step"] ["step"] (C8.fnScope s_need_step) := C8.fnScope_by (by decide +kernel)
abbrev s_need_range : Stmt := top 42
theorem sc_need_range : FnScope ["low", "high", "end"] ["low", "high"] (C8.fnScope s_need_range) := C8.fnScope_by (by decide +kernel)
abbrev s_need_share : Stmt := top 43
theorem sc_need_share : FnScope ["p", "q"] ["p", "q"] (C8.fnScope s_need_share) := C8.fnScope_by (by decide +kernel)
abbrev s_Draws___init__ : Stmt := inClass (top 44) 1
theorem sc_Draws___init__ : FnScope ["self", "source"] ["self", "source"] (C8.fnScope s_Draws___init__) := C8.fnScope_by (by decide +kernel)
abbrev s_Draws_words_used : Stmt := inClass (top 44) 2
theorem sc_Draws_words_used : FnScope ["self"] ["self"] (C8.fnScope s_Draws_words_used) := C8.fnScope_by (by decide +kernel)
abbrev s_Draws_s5_word : Stmt := inClass (top 44) 4
theorem sc_Draws_s5_word : FnScope ["self", "found"] ["self"] (C8.fnScope s_Draws_s5_word) := C8.fnScope_by (by decide +kernel)
abbrev s_Draws_s5_bits : Stmt := inClass (top 44) 5
theorem sc_Draws_s5_bits : FnScope ["self", "k", "found", "place", "word", "rest"] ["self", "k"] (C8.fnScope s_Draws_s5_bits) := C8.fnScope_by (by decide +kernel)
abbrev s_Draws_s5_below : Stmt := inClass (top 44) 6
theorem sc_Draws_s5_below : FnScope ["self", "n", "k", "found"] ["self", "n"] (C8.fnScope s_Draws_s5_below) := C8.fnScope_by (by decide +kernel)
abbrev s_Draws_bits : Stmt := inClass (top 44) 7
theorem sc_Draws_bits : FnScope ["self", "k"] ["self", "k"] (C8.fnScope s_Draws_bits) := C8.fnScope_by (by decide +kernel)
abbrev s_Draws_below : Stmt := inClass (top 44) 8
theorem sc_Draws_below : FnScope ["self", "n"] ["self", "n"] (C8.fnScope s_Draws_below) := C8.fnScope_by (by decide +kernel)
abbrev s_Draws_between : Stmt := inClass (top 44) 9
theorem sc_Draws_between : FnScope ["self", "low", "high"] ["self", "low", "high"] (C8.fnScope s_Draws_between) := C8.fnScope_by (by decide +kernel)
abbrev s_Draws_choice : Stmt := inClass (top 44) 10
theorem sc_Draws_choice : FnScope ["self", "things"] ["self", "things"] (C8.fnScope s_Draws_choice) := C8.fnScope_by (by decide +kernel)
abbrev s_Draws_coin : Stmt := inClass (top 44) 11
theorem sc_Draws_coin : FnScope ["self", "p", "q"] ["self", "p", "q"] (C8.fnScope s_Draws_coin) := C8.fnScope_by (by decide +kernel)
abbrev s_Draws_fraction : Stmt := inClass (top 44) 12
theorem sc_Draws_fraction : FnScope ["self", "k"] ["self", "k"] (C8.fnScope s_Draws_fraction) := C8.fnScope_by (by decide +kernel)
abbrev s_Draws_do : Stmt := inClass (top 44) 13
theorem sc_Draws_do : FnScope ["self", "step"] ["self", "step"] (C8.fnScope s_Draws_do) := C8.fnScope_by (by decide +kernel)
abbrev s_Draws_saved : Stmt := inClass (top 44) 15
theorem sc_Draws_saved : FnScope ["self"] ["self"] (C8.fnScope s_Draws_saved) := C8.fnScope_by (by decide +kernel)
abbrev s_PooledDraws___init__ : Stmt := inClass (top 45) 1
theorem sc_PooledDraws___init__ : Gx.SuScope "self" "source" (C8.fnScope s_PooledDraws___init__) := ⟨by decide +kernel, by decide +kernel, by decide +kernel, by decide +kernel, by decide +kernel, by decide +kernel, by decide +kernel, by decide +kernel, by decide +kernel, by decide +kernel, by decide +kernel, by decide +kernel⟩
abbrev s_PooledDraws_pool : Stmt := inClass (top 45) 3
theorem sc_PooledDraws_pool : FnScope ["self"] ["self"] (C8.fnScope s_PooledDraws_pool) := C8.fnScope_by (by decide +kernel)
abbrev s_PooledDraws_s5_bits : Stmt := inClass (top 45) 4
theorem sc_PooledDraws_s5_bits : FnScope ["self", "k", "found"] ["self", "k"] (C8.fnScope s_PooledDraws_s5_bits) := C8.fnScope_by (by decide +kernel)
abbrev s_PooledDraws_saved : Stmt := inClass (top 45) 6
theorem sc_PooledDraws_saved : FnScope ["self"] ["self"] (C8.fnScope s_PooledDraws_saved) := C8.fnScope_by (by decide +kernel)
abbrev s__law_begun : Stmt := top 47
theorem sc__law_begun : FnScope ["_law_script", "_law_whirl", "_law_k", "_law_cell"] ["_law_script"] (C8.fnScope s__law_begun) := C8.fnScope_by (by decide +kernel)
abbrev s__law_next : Stmt := top 48
theorem sc__law_next : FnScope ["_law_draw", "_law_below", "_law_great", "_law_at", "_law_found", "_law_whirl"] ["_law_draw", "_law_below"] (C8.fnScope s__law_next) := C8.fnScope_by (by decide +kernel)
abbrev s__law_pick : Stmt := top 49
theorem sc__law_pick : FnScope ["_law_draw", "_law_items"] ["_law_draw", "_law_items"] (C8.fnScope s__law_pick) := C8.fnScope_by (by decide +kernel)
abbrev s__law_words : Stmt := top 50
theorem sc__law_words : FnScope ["_law_draw", "_law_found", "_law_turn"] ["_law_draw"] (C8.fnScope s__law_words) := C8.fnScope_by (by decide +kernel)
abbrev s__law_pair : Stmt := top 51
theorem sc__law_pair : FnScope ["_law_row", "_law_is_pooled"] ["_law_row", "_law_is_pooled"] (C8.fnScope s__law_pair) := C8.fnScope_by (by decide +kernel)
abbrev s__law_first : Stmt := top 52
theorem sc__law_first : FnScope ["_law_draws", "_law_bound", "_law_size", "_law_found"] ["_law_draws", "_law_bound"] (C8.fnScope s__law_first) := C8.fnScope_by (by decide +kernel)
abbrev s__law_fraction_right : Stmt := top 53
theorem sc__law_fraction_right : FnScope ["_law_told", "_law_number", "_law_size", "_law_top", "_law_under", "_law_is_low"] ["_law_told", "_law_number", "_law_size"] (C8.fnScope s__law_fraction_right) := C8.fnScope_by (by decide +kernel)
abbrev s__law_alike : Stmt := top 54
theorem sc__law_alike : FnScope ["_law_draw", "_law_near", "_law_far", "_law_way", "_law_bound", "_law_part", "_law_base", "_law_size", "_law_things_so"] ["_law_draw", "_law_near", "_law_far"] (C8.fnScope s__law_alike) := C8.fnScope_by (by decide +kernel)
abbrev s__law_pair_right : Stmt := top 55
theorem sc__law_pair_right : FnScope ["_law_draw", "_law_is_pooled", "_law_near", "_law_far", "_law_turn"] ["_law_draw", "_law_is_pooled"] (C8.fnScope s__law_pair_right) := C8.fnScope_by (by decide +kernel)
abbrev s__law_digits_right : Stmt := top 56
theorem sc__law_digits_right : FnScope ["_law_draw", "_law_row", "_law_turn", "_law_near", "_law_far", "_law_many", "_law_due", "_law_at", "_law_one", "_law_count", "_law_found"] ["_law_draw"] (C8.fnScope s__law_digits_right) := C8.fnScope_by (by decide +kernel)
abbrev s_law : Stmt := top 57
theorem sc_law : FnScope ["_law_script", "_law_draw", "_law_turn"] ["_law_script"] (C8.fnScope s_law) := C8.fnScope_by (by decide +kernel)
structure Txt (K : PySem.W.Frag) (mg : Str → Option Value) (P : Program) (w : World) (C_Source C_Scripted C_Draws C_PooledDraws R_SIZES : Addr) : Prop where
  d_is_integer : ∃ f fd, C8.Def K mg "is_integer" s_is_integer f fd ∧ Binds K fd ["value"] []
  d_is_word : ∃ f fd, C8.Def K mg "is_word" s_is_word f fd ∧ Binds K fd ["value"] []
  d_need_source : ∃ f fd, C8.Def K mg "need_source" s_need_source f fd ∧ Binds K fd ["source"] []
  d_is_script : ∃ f fd, C8.Def K mg "is_script" s_is_script f fd ∧ Binds K fd ["value"] []
  d_need_script_state : ∃ f fd, C8.Def K mg "need_script_state" s_need_script_state f fd ∧ Binds K fd ["state"] []
  d_script_after : ∃ f fd, C8.Def K mg "script_after" s_script_after f fd ∧ Binds K fd ["script", "place", "steps"] []
  d_Scripted___init__ : ∃ f fd, Mk K C_Scripted f ∧ C8.Fun K "__init__" "Scripted.__init__" s_Scripted___init__ f fd ∧ Binds K fd ["self", "script", "place"] [] ∧ ∃ ds, Vals [.int 0] ds ∧ Binds K fd ["self", "script", "place"] ds
  d_Scripted_next_word : ∃ f fd, Meth K C_Scripted "next_word" f ∧ C8.Fun K "next_word" "Scripted.next_word" s_Scripted_next_word f fd ∧ Binds K fd ["self"] []
  d_Scripted_state : ∃ p f fd, PropOf K C_Scripted "state" p f ∧ C8.Fun K "state" "Scripted.state" s_Scripted_state f fd ∧ Binds K fd ["self"] []
  d_s5_need : ∃ f fd, C8.Def K mg "s5_need" s_s5_need f fd ∧ Binds K fd ["number", "low", "high"] []
  d_s5_digits : ∃ f fd, C8.Def K mg "s5_digits" s_s5_digits f fd ∧ Binds K fd ["number"] []
  d_digits_of : ∃ f fd, C8.Def K mg "digits_of" s_digits_of f fd ∧ Binds K fd ["number"] []
  d_s5_reduced : ∃ f fd, C8.Def K mg "s5_reduced" s_s5_reduced f fd ∧ Binds K fd ["top", "under"] []
  d_need_step : ∃ f fd, C8.Def K mg "need_step" s_need_step f fd ∧ Binds K fd ["step"] []
  d_need_range : ∃ f fd, C8.Def K mg "need_range" s_need_range f fd ∧ Binds K fd ["low", "high"] []
  d_need_share : ∃ f fd, C8.Def K mg "need_share" s_need_share f fd ∧ Binds K fd ["p", "q"] []
  d_Draws___init__ : ∃ f fd, Mk K C_Draws f ∧ C8.Fun K "__init__" "Draws.__init__" s_Draws___init__ f fd ∧ Binds K fd ["self", "source"] []
  d_Draws_words_used : ∃ p f fd, PropOf K C_Draws "words_used" p f ∧ C8.Fun K "words_used" "Draws.words_used" s_Draws_words_used f fd ∧ Binds K fd ["self"] []
  d_Draws_words_used_of_PooledDraws : ∃ p f fd, PropOf K C_PooledDraws "words_used" p f ∧ C8.Fun K "words_used" "Draws.words_used" s_Draws_words_used f fd ∧ Binds K fd ["self"] []
  d_Draws_s5_word : ∃ f fd, Meth K C_Draws "s5_word" f ∧ C8.Fun K "s5_word" "Draws.s5_word" s_Draws_s5_word f fd ∧ Binds K fd ["self"] []
  d_Draws_s5_word_of_PooledDraws : ∃ f fd, Meth K C_PooledDraws "s5_word" f ∧ C8.Fun K "s5_word" "Draws.s5_word" s_Draws_s5_word f fd ∧ Binds K fd ["self"] []
  d_Draws_s5_bits : ∃ f fd, Meth K C_Draws "s5_bits" f ∧ C8.Fun K "s5_bits" "Draws.s5_bits" s_Draws_s5_bits f fd ∧ Binds K fd ["self", "k"] []
  d_Draws_s5_below : ∃ f fd, Meth K C_Draws "s5_below" f ∧ C8.Fun K "s5_below" "Draws.s5_below" s_Draws_s5_below f fd ∧ Binds K fd ["self", "n"] []
  d_Draws_s5_below_of_PooledDraws : ∃ f fd, Meth K C_PooledDraws "s5_below" f ∧ C8.Fun K "s5_below" "Draws.s5_below" s_Draws_s5_below f fd ∧ Binds K fd ["self", "n"] []
  d_Draws_bits : ∃ f fd, Meth K C_Draws "bits" f ∧ C8.Fun K "bits" "Draws.bits" s_Draws_bits f fd ∧ Binds K fd ["self", "k"] []
  d_Draws_bits_of_PooledDraws : ∃ f fd, Meth K C_PooledDraws "bits" f ∧ C8.Fun K "bits" "Draws.bits" s_Draws_bits f fd ∧ Binds K fd ["self", "k"] []
  d_Draws_below : ∃ f fd, Meth K C_Draws "below" f ∧ C8.Fun K "below" "Draws.below" s_Draws_below f fd ∧ Binds K fd ["self", "n"] []
  d_Draws_below_of_PooledDraws : ∃ f fd, Meth K C_PooledDraws "below" f ∧ C8.Fun K "below" "Draws.below" s_Draws_below f fd ∧ Binds K fd ["self", "n"] []
  d_Draws_between : ∃ f fd, Meth K C_Draws "between" f ∧ C8.Fun K "between" "Draws.between" s_Draws_between f fd ∧ Binds K fd ["self", "low", "high"] []
  d_Draws_between_of_PooledDraws : ∃ f fd, Meth K C_PooledDraws "between" f ∧ C8.Fun K "between" "Draws.between" s_Draws_between f fd ∧ Binds K fd ["self", "low", "high"] []
  d_Draws_choice : ∃ f fd, Meth K C_Draws "choice" f ∧ C8.Fun K "choice" "Draws.choice" s_Draws_choice f fd ∧ Binds K fd ["self", "things"] []
  d_Draws_choice_of_PooledDraws : ∃ f fd, Meth K C_PooledDraws "choice" f ∧ C8.Fun K "choice" "Draws.choice" s_Draws_choice f fd ∧ Binds K fd ["self", "things"] []
  d_Draws_coin : ∃ f fd, Meth K C_Draws "coin" f ∧ C8.Fun K "coin" "Draws.coin" s_Draws_coin f fd ∧ Binds K fd ["self", "p", "q"] []
  d_Draws_coin_of_PooledDraws : ∃ f fd, Meth K C_PooledDraws "coin" f ∧ C8.Fun K "coin" "Draws.coin" s_Draws_coin f fd ∧ Binds K fd ["self", "p", "q"] []
  d_Draws_fraction : ∃ f fd, Meth K C_Draws "fraction" f ∧ C8.Fun K "fraction" "Draws.fraction" s_Draws_fraction f fd ∧ Binds K fd ["self", "k"] []
  d_Draws_fraction_of_PooledDraws : ∃ f fd, Meth K C_PooledDraws "fraction" f ∧ C8.Fun K "fraction" "Draws.fraction" s_Draws_fraction f fd ∧ Binds K fd ["self", "k"] []
  d_Draws_do : ∃ f fd, Meth K C_Draws "do" f ∧ C8.Fun K "do" "Draws.do" s_Draws_do f fd ∧ Binds K fd ["self", "step"] []
  d_Draws_do_of_PooledDraws : ∃ f fd, Meth K C_PooledDraws "do" f ∧ C8.Fun K "do" "Draws.do" s_Draws_do f fd ∧ Binds K fd ["self", "step"] []
  d_Draws_saved : ∃ f fd, Meth K C_Draws "saved" f ∧ C8.Fun K "saved" "Draws.saved" s_Draws_saved f fd ∧ Binds K fd ["self"] []
  d_PooledDraws___init__ : ∃ f fd cd cc g, Mk K C_PooledDraws f ∧ Gx.SuDef K mg "PooledDraws.__init__" (C8.fnArgs s_PooledDraws___init__) (C8.fnBody s_PooledDraws___init__) (C8.fnScope s_PooledDraws___init__) "self" "source" f C_PooledDraws g fd cd cc ∧ Binds K fd ["self", "source"] [] ∧ PySem.W.findIn K (.ref C_Draws) "__init__" = some (some (.ref g))
  d_PooledDraws_pool : ∃ p f fd, PropOf K C_PooledDraws "pool" p f ∧ C8.Fun K "pool" "PooledDraws.pool" s_PooledDraws_pool f fd ∧ Binds K fd ["self"] []
  d_PooledDraws_s5_bits : ∃ f fd, Meth K C_PooledDraws "s5_bits" f ∧ C8.Fun K "s5_bits" "PooledDraws.s5_bits" s_PooledDraws_s5_bits f fd ∧ Binds K fd ["self", "k"] []
  d_PooledDraws_saved : ∃ f fd, Meth K C_PooledDraws "saved" f ∧ C8.Fun K "saved" "PooledDraws.saved" s_PooledDraws_saved f fd ∧ Binds K fd ["self"] []
  d__law_begun : ∃ f fd, C8.Def K mg "_law_begun" s__law_begun f fd ∧ Binds K fd ["_law_script"] []
  d__law_next : ∃ f fd, C8.Def K mg "_law_next" s__law_next f fd ∧ Binds K fd ["_law_draw", "_law_below"] []
  d__law_pick : ∃ f fd, C8.Def K mg "_law_pick" s__law_pick f fd ∧ Binds K fd ["_law_draw", "_law_items"] []
  d__law_words : ∃ f fd, C8.Def K mg "_law_words" s__law_words f fd ∧ Binds K fd ["_law_draw"] []
  d__law_pair : ∃ f fd, C8.Def K mg "_law_pair" s__law_pair f fd ∧ Binds K fd ["_law_row", "_law_is_pooled"] []
  d__law_first : ∃ f fd, C8.Def K mg "_law_first" s__law_first f fd ∧ Binds K fd ["_law_draws", "_law_bound"] []
  d__law_fraction_right : ∃ f fd, C8.Def K mg "_law_fraction_right" s__law_fraction_right f fd ∧ Binds K fd ["_law_told", "_law_number", "_law_size"] []
  d__law_alike : ∃ f fd, C8.Def K mg "_law_alike" s__law_alike f fd ∧ Binds K fd ["_law_draw", "_law_near", "_law_far"] []
  d__law_pair_right : ∃ f fd, C8.Def K mg "_law_pair_right" s__law_pair_right f fd ∧ Binds K fd ["_law_draw", "_law_is_pooled"] []
  d__law_digits_right : ∃ f fd, C8.Def K mg "_law_digits_right" s__law_digits_right f fd ∧ Binds K fd ["_law_draw"] []
  d_law : ∃ f fd, C8.Def K mg "law" s_law f fd ∧ Binds K fd ["_law_script"] [] ∧ ∀ (s : Shared) (v : Value), BindsTo s fd ⟨[v], []⟩ [("_law_script", v)]
  suP : Gx.SuP P
  c_WORDS : ∃ u, mg "WORDS" = some u ∧ RelV (.int 4294967296) u
  c_MOST_SCRIPT : ∃ u, mg "MOST_SCRIPT" = some u ∧ RelV (.int 10000) u
  c_WORD_BITS : ∃ u, mg "WORD_BITS" = some u ∧ RelV (.int 32) u
  c_MOST_BITS : ∃ u, mg "MOST_BITS" = some u ∧ RelV (.int 512) u
  c_MOST_BOUND : ∃ u, mg "MOST_BOUND" = some u ∧ RelV (.int 115792089237316195423570985008687907853269984665640564039457584007913129639936) u
  c_MOST_WIDE : ∃ u, mg "MOST_WIDE" = some u ∧ RelV (.int 13407807929942597099574024998205846127479365820592393377723561443721764030073546976801874298166903427690031858186486050853753882811946569946433649006084096) u
  c_SIZES : ∃ u, mg "SIZES" = some u ∧ RelV (.ref R_SIZES) u
  s_SIZES : ∃ od, K.lookup R_SIZES = some od ∧ (R_SIZES == sysModules) = false ∧ ∀ P : Program, Cd.DicO P w od [(Sum.inr "bits", V.int 2), (Sum.inr "below", V.int 2), (Sum.inr "between", V.int 3), (Sum.inr "choice", V.int 2), (Sum.inr "coin", V.int 3), (Sum.inr "fraction", V.int 2)]
  k_Source : ∃ u, mg "Source" = some u ∧ RelV (.ref C_Source) u
  cl_Source : Cls K C_Source
  is_Source : C8.InsC K C_Source
  k_Scripted : ∃ u, mg "Scripted" = some u ∧ RelV (.ref C_Scripted) u
  cl_Scripted : Cls K C_Scripted
  is_Scripted : C8.InsC K C_Scripted
  n_Scripted_s1_script : NoAttr K C_Scripted "s1_script"
  n_Scripted_s1_place : NoAttr K C_Scripted "s1_place"
  k_Draws : ∃ u, mg "Draws" = some u ∧ RelV (.ref C_Draws) u
  cl_Draws : Cls K C_Draws
  is_Draws : C8.InsC K C_Draws
  n_Draws_s5_source : NoAttr K C_Draws "s5_source"
  n_Draws_s5_used : NoAttr K C_Draws "s5_used"
  k_PooledDraws : ∃ u, mg "PooledDraws" = some u ∧ RelV (.ref C_PooledDraws) u
  cl_PooledDraws : Cls K C_PooledDraws
  is_PooledDraws : C8.InsC K C_PooledDraws
  n_PooledDraws_s5_size : NoAttr K C_PooledDraws "s5_size"
  n_PooledDraws_s5_value : NoAttr K C_PooledDraws "s5_value"
  n_PooledDraws_s5_source : NoAttr K C_PooledDraws "s5_source"
  n_PooledDraws_s5_used : NoAttr K C_PooledDraws "s5_used"
  v_Scripted_KIND : Gx.IVal K C_Scripted "KIND" (.str "script")
  b_all : mg "all" = none
  b_bool : mg "bool" = none
  b_enumerate : mg "enumerate" = none
  b_int : mg "int" = none
  b_isinstance : mg "isinstance" = none
  b_len : mg "len" = none
  b_list : mg "list" = none
  b_max : mg "max" = none
  b_min : mg "min" = none
  b_range : mg "range" = none
  b_str : mg "str" = none
  b_sum : mg "sum" = none
  b_super : mg "super" = none
  b_tuple : mg "tuple" = none
  kt_Source_int : PySem.W.kitOne K (.ref C_Source) (.type "int") = some false
  kt_Scripted_int : PySem.W.kitOne K (.ref C_Scripted) (.type "int") = some false
  kt_Draws_int : PySem.W.kitOne K (.ref C_Draws) (.type "int") = some false
  kt_PooledDraws_int : PySem.W.kitOne K (.ref C_PooledDraws) (.type "int") = some false
  kt_Source_bool : PySem.W.kitOne K (.ref C_Source) (.type "bool") = some false
  kt_Scripted_bool : PySem.W.kitOne K (.ref C_Scripted) (.type "bool") = some false
  kt_Draws_bool : PySem.W.kitOne K (.ref C_Draws) (.type "bool") = some false
  kt_PooledDraws_bool : PySem.W.kitOne K (.ref C_PooledDraws) (.type "bool") = some false
  kt_NoneType_Source : PySem.W.kitOne K (.type "NoneType") (.ref C_Source) = some false
  kt_bool_Source : PySem.W.kitOne K (.type "bool") (.ref C_Source) = some false
  kt_int_Source : PySem.W.kitOne K (.type "int") (.ref C_Source) = some false
  kt_str_Source : PySem.W.kitOne K (.type "str") (.ref C_Source) = some false
  kt_tuple_Source : PySem.W.kitOne K (.type "tuple") (.ref C_Source) = some false
  kt_list_Source : PySem.W.kitOne K (.type "list") (.ref C_Source) = some false
  kt_dict_Source : PySem.W.kitOne K (.type "dict") (.ref C_Source) = some false
  kt_Scripted_Source : PySem.W.kitOne K (.ref C_Scripted) (.ref C_Source) = some true
  kt_Draws_Source : PySem.W.kitOne K (.ref C_Draws) (.ref C_Source) = some false
  kt_PooledDraws_Source : PySem.W.kitOne K (.ref C_PooledDraws) (.ref C_Source) = some false
  kt_Source_tuple : PySem.W.kitOne K (.ref C_Source) (.type "tuple") = some false
  kt_Scripted_tuple : PySem.W.kitOne K (.ref C_Scripted) (.type "tuple") = some false
  kt_Draws_tuple : PySem.W.kitOne K (.ref C_Draws) (.type "tuple") = some false
  kt_PooledDraws_tuple : PySem.W.kitOne K (.ref C_PooledDraws) (.type "tuple") = some false
  kt_Source_str : PySem.W.kitOne K (.ref C_Source) (.type "str") = some false
  kt_Scripted_str : PySem.W.kitOne K (.ref C_Scripted) (.type "str") = some false
  kt_Draws_str : PySem.W.kitOne K (.ref C_Draws) (.type "str") = some false
  kt_PooledDraws_str : PySem.W.kitOne K (.ref C_PooledDraws) (.type "str") = some false
  kt_Source_list : PySem.W.kitOne K (.ref C_Source) (.type "list") = some false
  kt_Scripted_list : PySem.W.kitOne K (.ref C_Scripted) (.type "list") = some false
  kt_Draws_list : PySem.W.kitOne K (.ref C_Draws) (.type "list") = some false
  kt_PooledDraws_list : PySem.W.kitOne K (.ref C_PooledDraws) (.type "list") = some false
abbrev Wk (K : PySem.W.Frag) (κ : String → Addr) : Wl := { K := K, κ := κ, T := [], live := ["Source", "Scripted", "Draws", "PooledDraws"], xlive := [], inv := fun _ => True, cl := fun _ _ _ _ => trivial }
section
variable {P : Program} {w : World} {K : PySem.W.Frag} {mg : Str → Option Value} {base : Heap} {κ : String → Addr} {R_SIZES : Addr}
theorem kit_int (T : Txt K mg P w (κ "Source") (κ "Scripted") (κ "Draws") (κ "PooledDraws") R_SIZES) : KitOk (Wk K κ) (kitB "int") := kitOk_of (.cons (kitE (show kitP "NoneType" "int" = some false by decide) (if_pos (by decide)) (if_pos (by decide)) Sx.kb_NoneType_int) (.cons (kitE (show kitP "bool" "int" = some true by decide) (if_pos (by decide)) (if_pos (by decide)) Sx.kb_bool_int) (.cons (kitE (show kitP "int" "int" = some true by decide) (if_pos (by decide)) (if_pos (by decide)) Sx.kb_int_int) (.cons (kitE (show kitP "str" "int" = some false by decide) (if_pos (by decide)) (if_pos (by decide)) Sx.kb_str_int) (.cons (kitE (show kitP "tuple" "int" = some false by decide) (if_pos (by decide)) (if_pos (by decide)) Sx.kb_tuple_int) (.cons (kitE (show kitP "list" "int" = some false by decide) (if_pos (by decide)) (if_pos (by decide)) Sx.kb_list_int) (.cons (kitE (show kitP "dict" "int" = some false by decide) (if_pos (by decide)) (if_pos (by decide)) Sx.kb_dict_int) .nil))))))) (.cons (kitE (show kitP "Source" "int" = some false by decide) (if_neg (by decide)) (if_pos (by decide)) T.kt_Source_int) (.cons (kitE (show kitP "Scripted" "int" = some false by decide) (if_neg (by decide)) (if_pos (by decide)) T.kt_Scripted_int) (.cons (kitE (show kitP "Draws" "int" = some false by decide) (if_neg (by decide)) (if_pos (by decide)) T.kt_Draws_int) (.cons (kitE (show kitP "PooledDraws" "int" = some false by decide) (if_neg (by decide)) (if_pos (by decide)) T.kt_PooledDraws_int) .nil)))) .nil (.cons ⟨by decide, T.is_Source⟩ (.cons ⟨by decide, T.is_Scripted⟩ (.cons ⟨by decide, T.is_Draws⟩ (.cons ⟨by decide, T.is_PooledDraws⟩ .nil)))) .nil
theorem kit_bool (T : Txt K mg P w (κ "Source") (κ "Scripted") (κ "Draws") (κ "PooledDraws") R_SIZES) : KitOk (Wk K κ) (kitB "bool") := kitOk_of (.cons (kitE (show kitP "NoneType" "bool" = some false by decide) (if_pos (by decide)) (if_pos (by decide)) Sx.kb_NoneType_bool) (.cons (kitE (show kitP "bool" "bool" = some true by decide) (if_pos (by decide)) (if_pos (by decide)) Sx.kb_bool_bool) (.cons (kitE (show kitP "int" "bool" = some false by decide) (if_pos (by decide)) (if_pos (by decide)) Sx.kb_int_bool) (.cons (kitE (show kitP "str" "bool" = some false by decide) (if_pos (by decide)) (if_pos (by decide)) Sx.kb_str_bool) (.cons (kitE (show kitP "tuple" "bool" = some false by decide) (if_pos (by decide)) (if_pos (by decide)) Sx.kb_tuple_bool) (.cons (kitE (show kitP "list" "bool" = some false by decide) (if_pos (by decide)) (if_pos (by decide)) Sx.kb_list_bool) (.cons (kitE (show kitP "dict" "bool" = some false by decide) (if_pos (by decide)) (if_pos (by decide)) Sx.kb_dict_bool) .nil))))))) (.cons (kitE (show kitP "Source" "bool" = some false by decide) (if_neg (by decide)) (if_pos (by decide)) T.kt_Source_bool) (.cons (kitE (show kitP "Scripted" "bool" = some false by decide) (if_neg (by decide)) (if_pos (by decide)) T.kt_Scripted_bool) (.cons (kitE (show kitP "Draws" "bool" = some false by decide) (if_neg (by decide)) (if_pos (by decide)) T.kt_Draws_bool) (.cons (kitE (show kitP "PooledDraws" "bool" = some false by decide) (if_neg (by decide)) (if_pos (by decide)) T.kt_PooledDraws_bool) .nil)))) .nil (.cons ⟨by decide, T.is_Source⟩ (.cons ⟨by decide, T.is_Scripted⟩ (.cons ⟨by decide, T.is_Draws⟩ (.cons ⟨by decide, T.is_PooledDraws⟩ .nil)))) .nil
theorem kit_Source (T : Txt K mg P w (κ "Source") (κ "Scripted") (κ "Draws") (κ "PooledDraws") R_SIZES) : KitOk (Wk K κ) (kitB "Source") := kitOk_of (.cons (kitE (show kitP "NoneType" "Source" = some false by decide) (if_pos (by decide)) (if_neg (by decide)) T.kt_NoneType_Source) (.cons (kitE (show kitP "bool" "Source" = some false by decide) (if_pos (by decide)) (if_neg (by decide)) T.kt_bool_Source) (.cons (kitE (show kitP "int" "Source" = some false by decide) (if_pos (by decide)) (if_neg (by decide)) T.kt_int_Source) (.cons (kitE (show kitP "str" "Source" = some false by decide) (if_pos (by decide)) (if_neg (by decide)) T.kt_str_Source) (.cons (kitE (show kitP "tuple" "Source" = some false by decide) (if_pos (by decide)) (if_neg (by decide)) T.kt_tuple_Source) (.cons (kitE (show kitP "list" "Source" = some false by decide) (if_pos (by decide)) (if_neg (by decide)) T.kt_list_Source) (.cons (kitE (show kitP "dict" "Source" = some false by decide) (if_pos (by decide)) (if_neg (by decide)) T.kt_dict_Source) .nil))))))) (.cons (kitE (show kitP "Source" "Source" = some true by decide) (if_neg (by decide)) (if_neg (by decide)) (Rd.kit_self K (κ "Source"))) (.cons (kitE (show kitP "Scripted" "Source" = some true by decide) (if_neg (by decide)) (if_neg (by decide)) T.kt_Scripted_Source) (.cons (kitE (show kitP "Draws" "Source" = some false by decide) (if_neg (by decide)) (if_neg (by decide)) T.kt_Draws_Source) (.cons (kitE (show kitP "PooledDraws" "Source" = some false by decide) (if_neg (by decide)) (if_neg (by decide)) T.kt_PooledDraws_Source) .nil)))) .nil (.cons ⟨by decide, T.is_Source⟩ (.cons ⟨by decide, T.is_Scripted⟩ (.cons ⟨by decide, T.is_Draws⟩ (.cons ⟨by decide, T.is_PooledDraws⟩ .nil)))) .nil
theorem kit_tuple (T : Txt K mg P w (κ "Source") (κ "Scripted") (κ "Draws") (κ "PooledDraws") R_SIZES) : KitOk (Wk K κ) (kitB "tuple") := kitOk_of (.cons (kitE (show kitP "NoneType" "tuple" = some false by decide) (if_pos (by decide)) (if_pos (by decide)) Sx.kb_NoneType_tuple) (.cons (kitE (show kitP "bool" "tuple" = some false by decide) (if_pos (by decide)) (if_pos (by decide)) Sx.kb_bool_tuple) (.cons (kitE (show kitP "int" "tuple" = some false by decide) (if_pos (by decide)) (if_pos (by decide)) Sx.kb_int_tuple) (.cons (kitE (show kitP "str" "tuple" = some false by decide) (if_pos (by decide)) (if_pos (by decide)) Sx.kb_str_tuple) (.cons (kitE (show kitP "tuple" "tuple" = some true by decide) (if_pos (by decide)) (if_pos (by decide)) Sx.kb_tuple_tuple) (.cons (kitE (show kitP "list" "tuple" = some false by decide) (if_pos (by decide)) (if_pos (by decide)) Sx.kb_list_tuple) (.cons (kitE (show kitP "dict" "tuple" = some false by decide) (if_pos (by decide)) (if_pos (by decide)) Sx.kb_dict_tuple) .nil))))))) (.cons (kitE (show kitP "Source" "tuple" = some false by decide) (if_neg (by decide)) (if_pos (by decide)) T.kt_Source_tuple) (.cons (kitE (show kitP "Scripted" "tuple" = some false by decide) (if_neg (by decide)) (if_pos (by decide)) T.kt_Scripted_tuple) (.cons (kitE (show kitP "Draws" "tuple" = some false by decide) (if_neg (by decide)) (if_pos (by decide)) T.kt_Draws_tuple) (.cons (kitE (show kitP "PooledDraws" "tuple" = some false by decide) (if_neg (by decide)) (if_pos (by decide)) T.kt_PooledDraws_tuple) .nil)))) .nil (.cons ⟨by decide, T.is_Source⟩ (.cons ⟨by decide, T.is_Scripted⟩ (.cons ⟨by decide, T.is_Draws⟩ (.cons ⟨by decide, T.is_PooledDraws⟩ .nil)))) .nil
theorem kit_str (T : Txt K mg P w (κ "Source") (κ "Scripted") (κ "Draws") (κ "PooledDraws") R_SIZES) : KitOk (Wk K κ) (kitB "str") := kitOk_of (.cons (kitE (show kitP "NoneType" "str" = some false by decide) (if_pos (by decide)) (if_pos (by decide)) Sx.kb_NoneType_str) (.cons (kitE (show kitP "bool" "str" = some false by decide) (if_pos (by decide)) (if_pos (by decide)) Sx.kb_bool_str) (.cons (kitE (show kitP "int" "str" = some false by decide) (if_pos (by decide)) (if_pos (by decide)) Sx.kb_int_str) (.cons (kitE (show kitP "str" "str" = some true by decide) (if_pos (by decide)) (if_pos (by decide)) Sx.kb_str_str) (.cons (kitE (show kitP "tuple" "str" = some false by decide) (if_pos (by decide)) (if_pos (by decide)) Sx.kb_tuple_str) (.cons (kitE (show kitP "list" "str" = some false by decide) (if_pos (by decide)) (if_pos (by decide)) Sx.kb_list_str) (.cons (kitE (show kitP "dict" "str" = some false by decide) (if_pos (by decide)) (if_pos (by decide)) Sx.kb_dict_str) .nil))))))) (.cons (kitE (show kitP "Source" "str" = some false by decide) (if_neg (by decide)) (if_pos (by decide)) T.kt_Source_str) (.cons (kitE (show kitP "Scripted" "str" = some false by decide) (if_neg (by decide)) (if_pos (by decide)) T.kt_Scripted_str) (.cons (kitE (show kitP "Draws" "str" = some false by decide) (if_neg (by decide)) (if_pos (by decide)) T.kt_Draws_str) (.cons (kitE (show kitP "PooledDraws" "str" = some false by decide) (if_neg (by decide)) (if_pos (by decide)) T.kt_PooledDraws_str) .nil)))) .nil (.cons ⟨by decide, T.is_Source⟩ (.cons ⟨by decide, T.is_Scripted⟩ (.cons ⟨by decide, T.is_Draws⟩ (.cons ⟨by decide, T.is_PooledDraws⟩ .nil)))) .nil
theorem kit_list (T : Txt K mg P w (κ "Source") (κ "Scripted") (κ "Draws") (κ "PooledDraws") R_SIZES) : KitOk (Wk K κ) (kitB "list") := kitOk_of (.cons (kitE (show kitP "NoneType" "list" = some false by decide) (if_pos (by decide)) (if_pos (by decide)) Sx.kb_NoneType_list) (.cons (kitE (show kitP "bool" "list" = some false by decide) (if_pos (by decide)) (if_pos (by decide)) Sx.kb_bool_list) (.cons (kitE (show kitP "int" "list" = some false by decide) (if_pos (by decide)) (if_pos (by decide)) Sx.kb_int_list) (.cons (kitE (show kitP "str" "list" = some false by decide) (if_pos (by decide)) (if_pos (by decide)) Sx.kb_str_list) (.cons (kitE (show kitP "tuple" "list" = some false by decide) (if_pos (by decide)) (if_pos (by decide)) Sx.kb_tuple_list) (.cons (kitE (show kitP "list" "list" = some true by decide) (if_pos (by decide)) (if_pos (by decide)) Sx.kb_list_list) (.cons (kitE (show kitP "dict" "list" = some false by decide) (if_pos (by decide)) (if_pos (by decide)) Sx.kb_dict_list) .nil))))))) (.cons (kitE (show kitP "Source" "list" = some false by decide) (if_neg (by decide)) (if_pos (by decide)) T.kt_Source_list) (.cons (kitE (show kitP "Scripted" "list" = some false by decide) (if_neg (by decide)) (if_pos (by decide)) T.kt_Scripted_list) (.cons (kitE (show kitP "Draws" "list" = some false by decide) (if_neg (by decide)) (if_pos (by decide)) T.kt_Draws_list) (.cons (kitE (show kitP "PooledDraws" "list" = some false by decide) (if_neg (by decide)) (if_pos (by decide)) T.kt_PooledDraws_list) .nil)))) .nil (.cons ⟨by decide, T.is_Source⟩ (.cons ⟨by decide, T.is_Scripted⟩ (.cons ⟨by decide, T.is_Draws⟩ (.cons ⟨by decide, T.is_PooledDraws⟩ .nil)))) .nil
theorem calx_is_integer (T : Txt K mg P w (κ "Source") (κ "Scripted") (κ "Draws") (κ "PooledDraws") R_SIZES) : Gx.CalX P w K mg base 1 "is_integer" (spF (Wk K κ) 1 F_is_integer) := by
  obtain ⟨f, fd, F, b⟩ := T.d_is_integer
  refine Gx.calX F b sc_is_integer (fun vs H Q E h => spF.len h) (fun cdv A outer s H vs Q E hr h => ?_)
  have hu := hu_of hr
  have hu64 := hr.units
  have hu65 := Ab.u65 hr
  exact ⟨_, (pss_one (ps_ret (pe_and (pe_callB (show CallR _ _ (Ab.rIsiU K) by exact Ab.call_isiU) (by rfl) T.b_isinstance (by decide +kernel) (pa_cons (pv 0) (pa_cons (pe_bltn (v := .ty "int") (by rfl) T.b_int (by decide +kernel) rfl) pa_nil))) (pe_one (pe_not (pe_callB (show CallR _ _ (Ab.rIsiU K) by exact Ab.call_isiU) (by rfl) T.b_isinstance (by decide +kernel) (pa_cons (pv 0) (pa_cons (pe_bltn (v := .ty "bool") (by rfl) T.b_bool (by decide +kernel) rfl) pa_nil)))))))), Ab.DS.dfn (spF_gc h) rfl (DS.ret (DE.andV (DE.cb (DB.isi (kit_int T)) (DA.cons DE.var (DA.cons (DE.c fun _ => .ty _) DA.nil)) NEL.isi) (DE.notV (DE.cb (DB.isi (kit_bool T)) (DA.cons DE.var (DA.cons (DE.c fun _ => .ty _) DA.nil)) NEL.isi))))⟩
theorem calx_need_source (T : Txt K mg P w (κ "Source") (κ "Scripted") (κ "Draws") (κ "PooledDraws") R_SIZES) : Gx.CalX P w K mg base 1 "need_source" (spF (Wk K κ) 1 F_need_source) := by
  obtain ⟨f, fd, F, b⟩ := T.d_need_source
  refine Gx.calX F b sc_need_source (fun vs H Q E h => spF.len h) (fun cdv A outer s H vs Q E hr h => ?_)
  have hu := hu_of hr
  have hu64 := hr.units
  have hu65 := Ab.u65 hr
  exact ⟨_, (pss_one (ps_if (PW.pt (pw_or (pt_not (pt_val (pe_callB (show CallR _ _ (Ab.rIsiU K) by exact Ab.call_isiU) (by rfl) T.b_isinstance (by decide +kernel) (pa_cons (pv 0) (pa_cons (C8.pe_gc (by rfl) T.k_Source) pa_nil))))) (pw_or1 (pt_cmpR (show OpR _ _ (Ab.rEqU K) by exact Ab.op_eqU hu64) (Gx.pe_ival (pv 0)) pe_str (nomark _))))) (pss_one ps_never) pss_nil)), Ab.DS.dfn (spF_gc h) rfl (DS.ifs (DT.or (DT.not (DT.b (DE.cb (DB.isi (kit_Source T)) (DA.cons DE.var (DA.cons (DE.c fun _ => .cls "Source") DA.nil)) NEL.isi))) (DT.test (DE.op DR.eq (DE.ival (fun _ => .str _) (.cons ⟨T.cl_Scripted, T.v_Scripted_KIND⟩ .nil) DE.var) (DE.c fun _ => .str _) NE2.eq))) (DS.never fun _ _ => rfl) DS.next)⟩
theorem calx_script_after (T : Txt K mg P w (κ "Source") (κ "Scripted") (κ "Draws") (κ "PooledDraws") R_SIZES) : Gx.CalX P w K mg base 1 "script_after" (spF (Wk K κ) 3 F_script_after) := by
  obtain ⟨f, fd, F, b⟩ := T.d_script_after
  refine Gx.calX F b sc_script_after (fun vs H Q E h => spF.len h) (fun cdv A outer s H vs Q E hr h => ?_)
  have hu := hu_of hr
  have hu64 := hr.units
  have hu65 := Ab.u65 hr
  exact ⟨_, (pss_cons (ps_if (pt_cmpR op_gt (pe_op (show OpR _ _ (Ab.rAddU K) by exact Ab.op_addU) (pv 1) (pv 2)) (pe_callB (show CallR _ _ (Ab.rLenU K) by exact Ab.call_lenU) (by rfl) T.b_len PySem.boot_len (pa_cons (pv 0) pa_nil)) (nomark _)) (pss_one ps_never) pss_nil)
      (pss_one (ps_ret (pe_op (show OpR _ _ (Ab.rAddU K) by exact Ab.op_addU) (pv 1) (pv 2))))), Ab.DS.dfn (spF_gc h) rfl (DS.seq (DS.ifs (DT.test (DE.op (DR.i0 fun _ _ _ => .bl _) (DE.op DR.add DE.var DE.var NE2.add) (DE.cb DB.len (DA.cons DE.var DA.nil) NEL.len) NE2.i0)) (DS.never fun _ _ => rfl) DS.next)
      (DS.ret (DE.op DR.add DE.var DE.var NE2.add)))⟩
theorem prop_Scripted_state (T : Txt K mg P w (κ "Source") (κ "Scripted") (κ "Draws") (κ "PooledDraws") R_SIZES) : Gx.PrpC P w K mg base 1 (κ "Scripted") "state" (spF (Wk K κ) 1 (fun xs s => noErr (F_Scripted_state xs s))) := by
  obtain ⟨pp, f, fd, pr, F, b⟩ := T.d_Scripted_state
  refine Gx.prp0 T.cl_Scripted pr F b sc_Scripted_state (fun vs H Q E h => spF.len h) (fun cdv A outer s H vs Q E hr h => ?_)
  have hu := hu_of hr
  have hu64 := hr.units
  have hu65 := Ab.u65 hr
  have h := spF_noErr (E' := fun _ _ _ => False) h
  exact ⟨_, (pss_one (ps_ret (pe_tup (pa_cons (pe_fld (pv 0) rfl) (pa_cons (pe_fld (pv 0) rfl) pa_nil))))), Ab.DS.dfn (spF_gc h) rfl (DS.ret (DE.tup (DA.cons (DE.fld (.cons ⟨T.cl_Scripted, T.n_Scripted_s1_script⟩ .nil) DE.var) (DA.cons (DE.fld (.cons ⟨T.cl_Scripted, T.n_Scripted_s1_place⟩ .nil) DE.var) DA.nil))))⟩
theorem calx_s5_digits (T : Txt K mg P w (κ "Source") (κ "Scripted") (κ "Draws") (κ "PooledDraws") R_SIZES) : Gx.CalX P w K mg base 1 "s5_digits" (spF (Wk K κ) 1 F_s5_digits) := by
  obtain ⟨f, fd, F, b⟩ := T.d_s5_digits
  refine Gx.calX F b sc_s5_digits (fun vs H Q E h => spF.len h) (fun cdv A outer s H vs Q E hr h => ?_)
  have hu := hu_of hr
  have hu64 := hr.units
  have hu65 := Ab.u65 hr
  exact ⟨_, (pss_cons (ps_set (i := 1) sc_s5_digits.nd rfl (.inl rfl) pe_int)
      (pss_cons (ps_while (passes_of rfl) (pt_cmpR op_gt (pv 0) pe_int (nomark _)) (pss_one (ps_par (i := 0) (j := 1) rfl sc_s5_digits.nd rfl rfl (by decide) rfl rfl (pa_cons (pe_op op_fdivW (pv 0) pe_int) (pa_cons (pe_op (show OpR _ _ (Ab.rAddU K) by exact Ab.op_addU) (pv 1) pe_int) pa_nil)) (by rfl))))
      (pss_one (ps_ret (pv 1))))), Ab.DS.dfn (spF_gc h) rfl (DS.seq (DS.asg (DE.c fun _ => .int _) DG.name Goes.name)
      (DS.seq (DS.whileS (DT.test (DE.op (DR.i0 fun _ _ _ => .bl _) DE.var (DE.c fun _ => .int _) NE2.i0)) (DS.par (DA.cons (DE.op (DR.i fun _ _ _ => .int _) DE.var (DE.c fun _ => .int _) NE2.i) (DA.cons (DE.op DR.add DE.var (DE.c fun _ => .int _) NE2.add) DA.nil))))
      (DS.ret DE.var)))⟩
theorem calx_s5_reduced (T : Txt K mg P w (κ "Source") (κ "Scripted") (κ "Draws") (κ "PooledDraws") R_SIZES) : Gx.CalX P w K mg base 1 "s5_reduced" (spF (Wk K κ) 2 F_s5_reduced) := by
  obtain ⟨f, fd, F, b⟩ := T.d_s5_reduced
  refine Gx.calX F b sc_s5_reduced (fun vs H Q E h => spF.len h) (fun cdv A outer s H vs Q E hr h => ?_)
  have hu := hu_of hr
  have hu64 := hr.units
  have hu65 := Ab.u65 hr
  exact ⟨_, (pss_cons (ps_par (i := 2) (j := 3) rfl sc_s5_reduced.nd rfl rfl (by decide) rfl rfl (pa_cons (pv 0) (pa_cons (pv 1) pa_nil)) (by rfl))
      (pss_cons (ps_while (passes_of rfl) (pt_cmpR op_gt (pv 3) pe_int (nomark _)) (pss_one (ps_par (i := 2) (j := 3) rfl sc_s5_reduced.nd rfl rfl (by decide) rfl rfl (pa_cons (pv 3) (pa_cons (pe_op op_mod (pv 2) (pv 3)) pa_nil)) (by rfl))))
      (pss_one (ps_ret (pe_tup (pa_cons (pe_op op_fdivW (pv 0) (pv 2)) (pa_cons (pe_op op_fdivW (pv 1) (pv 2)) pa_nil))))))), Ab.DS.dfn (spF_gc h) rfl (DS.seq (DS.par (DA.cons DE.var (DA.cons DE.var DA.nil)))
      (DS.seq (DS.whileS (DT.test (DE.op (DR.i0 fun _ _ _ => .bl _) DE.var (DE.c fun _ => .int _) NE2.i0)) (DS.par (DA.cons DE.var (DA.cons (DE.op (DR.i fun _ _ _ => .int _) DE.var DE.var NE2.i) DA.nil))))
      (DS.ret (DE.tup (DA.cons (DE.op (DR.i fun _ _ _ => .int _) DE.var DE.var NE2.i) (DA.cons (DE.op (DR.i fun _ _ _ => .int _) DE.var DE.var NE2.i) DA.nil))))))⟩
theorem calx_need_step (T : Txt K mg P w (κ "Source") (κ "Scripted") (κ "Draws") (κ "PooledDraws") R_SIZES) : Gx.CalX P w K mg base 1 "need_step" (spF (Wk K κ) 1 F_need_step) := by
  obtain ⟨f, fd, F, b⟩ := T.d_need_step
  refine Gx.calX F b sc_need_step (fun vs H Q E h => spF.len h) (fun cdv A outer s H vs Q E hr h => ?_)
  have hu := hu_of hr
  have hu64 := hr.units
  have hu65 := Ab.u65 hr
  exact ⟨_, (pss_cons (ps_if (PW.pt (pw_or (pt_not (pt_val (pe_callB (show CallR _ _ (Ab.rIsiU K) by exact Ab.call_isiU) (by rfl) T.b_isinstance (by decide +kernel) (pa_cons (pv 0) (pa_cons (pe_bltn (v := .ty "tuple") (by rfl) T.b_tuple (by decide +kernel) rfl) pa_nil))))) (pw_or (pt_cmpR (show OpR _ _ (Ab.rEqZ K) by exact Ab.op_eqZ hu64) (pv 0) (pe_tup pa_nil) (nomark _)) (pw_or1 (pt_not (pt_val (pe_callB (show CallR _ _ (Ab.rIsiU K) by exact Ab.call_isiU) (by rfl) T.b_isinstance (by decide +kernel) (pa_cons (pe_ix (show IxR _ (Ab.rIxU K) by exact Ab.ix_U) (pv 0) pe_int (fun _ _ => rfl)) (pa_cons (pe_bltn (v := .ty "str") (by rfl) T.b_str (by decide +kernel) rfl) pa_nil))))))))) (pss_one ps_never) pss_nil)
      (pss_one (ps_if (pt_cmpR (show OpR _ _ (Ab.rNeU K) by exact Ab.op_neU hu64) (Cd.pe_dgetT (C8.pe_gc (by rfl) T.c_SIZES) T.s_SIZES (pe_ix (show IxR _ (Ab.rIxU K) by exact Ab.ix_U) (pv 0) pe_int (fun _ _ => rfl)) ⟨rfl, rfl, rfl, rfl⟩) (pe_callB (show CallR _ _ (Ab.rLenU K) by exact Ab.call_lenU) (by rfl) T.b_len PySem.boot_len (pa_cons (pv 0) pa_nil)) (nomark _)) (pss_one ps_never) pss_nil))), Ab.DS.dfn (spF_gc h) rfl (DS.seq (DS.ifs (DT.or (DT.not (DT.b (DE.cb (DB.isi (kit_tuple T)) (DA.cons DE.var (DA.cons (DE.c fun _ => .ty _) DA.nil)) NEL.isi))) (DT.or (DT.test (DE.op DR.eq0 DE.var (DE.tup DA.nil) NE2.eq0)) (DT.not (DT.b (DE.cb (DB.isi (kit_str T)) (DA.cons (DE.op DR.ix DE.var (DE.c fun _ => .int _) NE2.ix) (DA.cons (DE.c fun _ => .ty _) DA.nil)) NEL.isi))))) (DS.never fun _ _ => rfl) DS.next)
      (DS.ifs (DT.gc (DT.test (DE.op DR.ne (DE.dgetN (fun w => RK_SIZES w) (DE.op DR.ix DE.var (DE.c fun _ => .int _) NE2.ix)) (DE.cb DB.len (DA.cons DE.var DA.nil) NEL.len) NE2.ne))) (DS.never fun _ _ => rfl) DS.next))⟩
theorem prop_Draws_words_used (T : Txt K mg P w (κ "Source") (κ "Scripted") (κ "Draws") (κ "PooledDraws") R_SIZES) : Gx.PrpC P w K mg base 1 (κ "Draws") "words_used" (spF (Wk K κ) 1 (fun xs s => noErr (F_Draws_words_used xs s))) := by
  obtain ⟨pp, f, fd, pr, F, b⟩ := T.d_Draws_words_used
  refine Gx.prp0 T.cl_Draws pr F b sc_Draws_words_used (fun vs H Q E h => spF.len h) (fun cdv A outer s H vs Q E hr h => ?_)
  have hu := hu_of hr
  have hu64 := hr.units
  have hu65 := Ab.u65 hr
  have h := spF_noErr (E' := fun _ _ _ => False) h
  exact ⟨_, (pss_one (ps_ret (pe_fld (pv 0) rfl))), Ab.DS.dfn (spF_gc h) rfl (DS.ret (DE.fld (.cons ⟨T.cl_Draws, T.n_Draws_s5_used⟩ (.cons ⟨T.cl_PooledDraws, T.n_PooledDraws_s5_used⟩ .nil)) DE.var))⟩
theorem prop_Draws_words_used_of_PooledDraws (T : Txt K mg P w (κ "Source") (κ "Scripted") (κ "Draws") (κ "PooledDraws") R_SIZES) : Gx.PrpC P w K mg base 1 (κ "PooledDraws") "words_used" (spF (Wk K κ) 1 (fun xs s => noErr (F_Draws_words_used xs s))) := by
  obtain ⟨pp, f, fd, pr, F, b⟩ := T.d_Draws_words_used_of_PooledDraws
  refine Gx.prp0 T.cl_PooledDraws pr F b sc_Draws_words_used (fun vs H Q E h => spF.len h) (fun cdv A outer s H vs Q E hr h => ?_)
  have hu := hu_of hr
  have hu64 := hr.units
  have hu65 := Ab.u65 hr
  have h := spF_noErr (E' := fun _ _ _ => False) h
  exact ⟨_, (pss_one (ps_ret (pe_fld (pv 0) rfl))), Ab.DS.dfn (spF_gc h) rfl (DS.ret (DE.fld (.cons ⟨T.cl_Draws, T.n_Draws_s5_used⟩ (.cons ⟨T.cl_PooledDraws, T.n_PooledDraws_s5_used⟩ .nil)) DE.var))⟩
theorem prop_PooledDraws_pool (T : Txt K mg P w (κ "Source") (κ "Scripted") (κ "Draws") (κ "PooledDraws") R_SIZES) : Gx.PrpC P w K mg base 1 (κ "PooledDraws") "pool" (spF (Wk K κ) 1 (fun xs s => noErr (F_PooledDraws_pool xs s))) := by
  obtain ⟨pp, f, fd, pr, F, b⟩ := T.d_PooledDraws_pool
  refine Gx.prp0 T.cl_PooledDraws pr F b sc_PooledDraws_pool (fun vs H Q E h => spF.len h) (fun cdv A outer s H vs Q E hr h => ?_)
  have hu := hu_of hr
  have hu64 := hr.units
  have hu65 := Ab.u65 hr
  have h := spF_noErr (E' := fun _ _ _ => False) h
  exact ⟨_, (pss_one (ps_ret (pe_tup (pa_cons (pe_fld (pv 0) rfl) (pa_cons (pe_fld (pv 0) rfl) pa_nil))))), Ab.DS.dfn (spF_gc h) rfl (DS.ret (DE.tup (DA.cons (DE.fld (.cons ⟨T.cl_PooledDraws, T.n_PooledDraws_s5_size⟩ .nil) DE.var) (DA.cons (DE.fld (.cons ⟨T.cl_PooledDraws, T.n_PooledDraws_s5_value⟩ .nil) DE.var) DA.nil))))⟩
theorem calx__law_begun (T : Txt K mg P w (κ "Source") (κ "Scripted") (κ "Draws") (κ "PooledDraws") R_SIZES) : Gx.CalX P w K mg base 1 "_law_begun" (spF (Wk K κ) 1 F__law_begun) := by
  obtain ⟨f, fd, F, b⟩ := T.d__law_begun
  refine Gx.calX F b sc__law_begun (fun vs H Q E h => spF.len h) (fun cdv A outer s H vs Q E hr h => ?_)
  have hu := hu_of hr
  have hu64 := hr.units
  have hu65 := Ab.u65 hr
  exact ⟨_, (pss_cons (ps_set (i := 1) sc__law_begun.nd rfl (.inl rfl) (pe_op (show OpR _ _ (Ab.rAddU K) by exact Ab.op_addU) pe_int (pe_op Ab.op_mulU pe_int (pe_callB (show CallR _ _ (Ab.rLenU K) by exact Ab.call_lenU) (by rfl) T.b_len PySem.boot_len (pa_cons (pv 0) pa_nil)))))
      (pss_cons (ps_for (passes_of rfl) rfl (show PI _ _ _ (Ab.enU K _) by exact Ab.PI.or (pi_enum (by rfl) T.b_enumerate (pa_cons (pv 0) pa_nil)) (Gx.pi_enT (by rfl) T.b_enumerate (pa_cons (pv 0) pa_nil))) (show PG _ _ (gTup K 2 _) by exact pg_tup rfl (pgs_cons (pg_name (i := 2) sc__law_begun.nd rfl (.inl rfl)) (pgs_cons (pg_name (i := 3) sc__law_begun.nd rfl (.inl rfl)) pgs_nil))) (pss_one (ps_set (i := 1) sc__law_begun.nd rfl (.inl rfl) (pe_op op_mod (pe_op (show OpR _ _ (Ab.rAddU K) by exact Ab.op_addU) (pe_op (show OpR _ _ (Ab.rAddU K) by exact Ab.op_addU) (pe_op Ab.op_mulU (pv 1) pe_int) (pv 3)) (pe_op Ab.op_mulU pe_int (pv 2))) pe_int))))
      (pss_one (ps_ret (pe_disp (pps_cons pe_str (pv 1) (pps_cons pe_str (pe_lc (own := [("_law_cell", 3)]) rfl sc__law_begun.nd (show PI _ _ _ (Ab.iterU K _) by exact Ab.PI.or (pi_list (pv 0)) (Ab.PI.or (pi_tup (pv 0)) (pi_str (pv 0)))) (blkOk_by (N := ["_law_script", "_law_whirl", "_law_k", "_law_cell"]) (sc := C8.fnScope s__law_begun) (by decide +kernel)) (fun _ _ _ _ _ => (pg_name (i := 3) sc__law_begun.nd rfl (.inl rfl))) (fun _ _ _ _ _ => (pts_one (pt_cmpR op_ge (pv 3) (pe_op op_pow pe_int pe_int) (nomark _)))) (fun _ _ _ _ _ => (pv 3))) (pps_cons pe_str pe_int pps_nil))) rfl rfl (by simp) (by decide)))))), Ab.DS.dfn (spF_gc h) rfl (DS.seq (DS.asg (DE.op DR.add (DE.c fun _ => .int _) (DE.op DR.mul (DE.c fun _ => .int _) (DE.cb DB.len (DA.cons DE.var DA.nil) NEL.len) NE2.mul) NE2.add) DG.name Goes.name)
      (DS.seq (DS.forS (DI.enumU (DA.cons DE.var DA.nil)) (DG.tup (DGs.cons DG.name (DGs.cons DG.name DGs.nil))) (Goes.tup (GoesL.cons Goes.name (GoesL.cons Goes.name GoesL.nil))) (DS.asg (DE.op (DR.i fun _ _ _ => .int _) (DE.op DR.add (DE.op DR.add (DE.op DR.mul DE.var (DE.c fun _ => .int _) NE2.mul) DE.var NE2.add) (DE.op DR.mul (DE.c fun _ => .int _) DE.var NE2.mul) NE2.add) (DE.c fun _ => .int _) NE2.i) DG.name Goes.name))
      (DS.ret (DE.disp (.cons (DE.c fun _ => .str _) DE.var (.cons (DE.c fun _ => .str _) (DE.lc (DI.iter DE.var) DG.name Goes.name (WT.name (by decide)) (DT.test (DE.op (DR.i0 fun _ _ _ => .bl _) DE.var (DE.op (DR.i fun _ _ _ => .int _) (DE.c fun _ => .int _) (DE.c fun _ => .int _) NE2.i) NE2.i0)) DE.var) (.cons (DE.c fun _ => .str _) (DE.c fun _ => .int _) .nil)))))))⟩
theorem calx__law_next (T : Txt K mg P w (κ "Source") (κ "Scripted") (κ "Draws") (κ "PooledDraws") R_SIZES) : Gx.CalX P w K mg base 1 "_law_next" (spF (Wk K κ) 2 F__law_next) := by
  obtain ⟨f, fd, F, b⟩ := T.d__law_next
  refine Gx.calX F b sc__law_next (fun vs H Q E h => spF.len h) (fun cdv A outer s H vs Q E hr h => ?_)
  have hu := hu_of hr
  have hu64 := hr.units
  have hu65 := Ab.u65 hr
  exact ⟨_, (pss_cons (ps_asg (pe_tup (pa_cons (pe_op (show OpR _ _ (Ab.rAddU K) by exact Ab.op_addU) (pe_dget hu (pv 0) pe_str (fun _ _ => rfl)) pe_int) (pa_cons (pe_dget hu (pv 0) pe_str (fun _ _ => rfl)) pa_nil))) (show PG _ _ (gTup K 2 _) by exact pg_tup rfl (pgs_cons (pg_sub (pv 0) pe_str (set_dict hu)) (pgs_cons (pg_name (i := 2) sc__law_next.nd rfl (.inl rfl)) pgs_nil))))
      (pss_cons (ps_set (i := 3) sc__law_next.nd rfl (.inl rfl) (pe_op op_mod (pe_dget hu (pv 0) pe_str (fun _ _ => rfl)) (pe_callB (Rd.call_mx2 rfl) (by rfl) T.b_max (by decide +kernel) (pa_cons pe_int (pa_cons (pe_callB (show CallR _ _ (Ab.rLenU K) by exact Ab.call_lenU) (by rfl) T.b_len PySem.boot_len (pa_cons (pv 2) pa_nil)) pa_nil)))))
      (pss_cons (ps_if (PW.pt (pw_and (pt_cmpR (show OpR _ _ (Ab.rNeU K) by exact Ab.op_neU hu64) (pv 2) (pe_lst pa_nil) (nomark _)) (pw_and1 (pt_cmpR op_gt (pe_ix (show IxR _ (Ab.rIxU K) by exact Ab.ix_U) (pv 2) (pv 3) (fun _ _ => rfl)) pe_int (nomark _))))) (pss_cons (ps_set (i := 4) sc__law_next.nd rfl (.inl rfl) (pe_op op_mod (pe_ix (show IxR _ (Ab.rIxU K) by exact Ab.ix_U) (pv 2) (pv 3) (fun _ _ => rfl)) (pv 1)))
      (pss_cons (ps_asg (pe_op op_fdivW (pe_ix (show IxR _ (Ab.rIxU K) by exact Ab.ix_U) (pv 2) (pv 3) (fun _ _ => rfl)) (pv 1)) (pg_sub (pv 2) (pv 3) set_list))
      (pss_one (ps_ret (pv 4))))) pss_nil)
      (pss_cons (ps_set (i := 5) sc__law_next.nd rfl (.inl rfl) (pe_op (show OpR _ _ (Ab.rAddU K) by exact Ab.op_addU) (pe_op (show OpR _ _ (Ab.rAddU K) by exact Ab.op_addU) (pe_op Ab.op_mulU (pe_dget hu (pv 0) pe_str (fun _ _ => rfl)) pe_int) (pe_op Ab.op_mulU pe_int (pe_dget hu (pv 0) pe_str (fun _ _ => rfl)))) pe_int))
      (pss_cons (ps_dput hu (pv 0) pe_str (pe_op op_mod (pv 5) pe_int) rfl)
      (pss_one (ps_ret (pe_op op_mod (pe_op op_fdivW (pe_dget hu (pv 0) pe_str (fun _ _ => rfl)) pe_int) (pv 1))))))))), Ab.DS.dfn (spF_gc h) rfl (DS.seq (DS.asg (DE.tup (DA.cons (DE.op DR.add (DE.dget DE.var (DE.c fun _ => .str _)) (DE.c fun _ => .int _) NE2.add) (DA.cons (DE.dget DE.var (DE.c fun _ => .str _)) DA.nil))) (DG.tup (DGs.cons (DG.subD DE.var (DE.c fun _ => .str _)) (DGs.cons DG.name DGs.nil))) (Goes.tup (GoesL.cons Goes.sub (GoesL.cons Goes.name GoesL.nil))))
      (DS.seq (DS.asg (DE.op (DR.i fun _ _ _ => .int _) (DE.dget DE.var (DE.c fun _ => .str _)) (DE.cb DB.max2 (DA.cons (DE.c fun _ => .int _) (DA.cons (DE.cb DB.len (DA.cons DE.var DA.nil) NEL.len) DA.nil)) NEL.max2) NE2.i) DG.name Goes.name)
      (DS.seq (DS.ifs (DT.gc (DT.and (DT.test (DE.op DR.ne DE.var (DE.lst DA.nil) NE2.ne)) (DT.test (DE.op (DR.i0 fun _ _ _ => .bl _) (DE.op DR.ix DE.var DE.var NE2.ix) (DE.c fun _ => .int _) NE2.i0)))) (DS.seq (DS.asg (DE.op (DR.i fun _ _ _ => .int _) (DE.op DR.ix DE.var DE.var NE2.ix) DE.var NE2.i) DG.name Goes.name)
      (DS.seq (DS.asg (DE.op (DR.i fun _ _ _ => .int _) (DE.op DR.ix DE.var DE.var NE2.ix) DE.var NE2.i) (DG.subL DE.var DE.var) Goes.sub)
      (DS.ret DE.var))) DS.next)
      (DS.seq (DS.asg (DE.op DR.add (DE.op DR.add (DE.op DR.mul (DE.dget DE.var (DE.c fun _ => .str _)) (DE.c fun _ => .int _) NE2.mul) (DE.op DR.mul (DE.c fun _ => .int _) (DE.dget DE.var (DE.c fun _ => .str _)) NE2.mul) NE2.add) (DE.c fun _ => .int _) NE2.add) DG.name Goes.name)
      (DS.seq (DS.dput DE.var (DE.c fun _ => .str _) (DE.op (DR.i fun _ _ _ => .int _) DE.var (DE.c fun _ => .int _) NE2.i))
      (DS.ret (DE.op (DR.i fun _ _ _ => .int _) (DE.op (DR.i fun _ _ _ => .int _) (DE.dget DE.var (DE.c fun _ => .str _)) (DE.c fun _ => .int _) NE2.i) DE.var NE2.i)))))))⟩
theorem calx__law_fraction_right (T : Txt K mg P w (κ "Source") (κ "Scripted") (κ "Draws") (κ "PooledDraws") R_SIZES) : Gx.CalX P w K mg base 1 "_law_fraction_right" (spF (Wk K κ) 3 F__law_fraction_right) := by
  obtain ⟨f, fd, F, b⟩ := T.d__law_fraction_right
  refine Gx.calX F b sc__law_fraction_right (fun vs H Q E h => spF.len h) (fun cdv A outer s H vs Q E hr h => ?_)
  have hu := hu_of hr
  have hu64 := hr.units
  have hu65 := Ab.u65 hr
  exact ⟨_, (pss_cons (ps_asg (pv 0) (show PG _ _ (gTup K 2 _) by exact pg_tup rfl (pgs_cons (pg_name (i := 3) sc__law_fraction_right.nd rfl (.inl rfl)) (pgs_cons (pg_name (i := 4) sc__law_fraction_right.nd rfl (.inl rfl)) pgs_nil))))
      (pss_cons (ps_set (i := 5) sc__law_fraction_right.nd rfl (.inl rfl) (pe_or (pe_cmpR (show OpR _ _ (Ab.rEqU K) by exact Ab.op_eqU hu64) (pv 4) pe_int (nomark _)) (pe_one (pe_cmpR (show OpR _ _ (Ab.rEqU K) by exact Ab.op_eqU hu64) (pe_op op_mod (pv 3) pe_int) pe_int (nomark _)))))
      (pss_one (ps_ret (pe_and (pe_cmpR (show OpR _ _ (Ab.rEqU K) by exact Ab.op_eqU hu64) (pe_op op_shlW (pv 3) (pv 2)) (pe_op Ab.op_mulU (pv 1) (pv 4)) (nomark _)) (pe_and (pe_cmpR op_gt (pv 4) pe_int (nomark _)) (pe_and (pe_cmpR (show OpR _ _ (Ab.rEqU K) by exact Ab.op_eqU hu64) (pe_op op_mod (pe_op op_shlW pe_int (pv 2)) (pv 4)) pe_int (nomark _)) (pe_one (pv 5))))))))), Ab.DS.dfn (spF_gc h) rfl (DS.seq (DS.asg DE.var (DG.tup (DGs.cons DG.name (DGs.cons DG.name DGs.nil))) (Goes.tup (GoesL.cons Goes.name (GoesL.cons Goes.name GoesL.nil))))
      (DS.seq (DS.asg (DE.orV (DE.op DR.eq DE.var (DE.c fun _ => .int _) NE2.eq) (DE.op DR.eq (DE.op (DR.i fun _ _ _ => .int _) DE.var (DE.c fun _ => .int _) NE2.i) (DE.c fun _ => .int _) NE2.eq)) DG.name Goes.name)
      (DS.ret (DE.andV (DE.op DR.eq (DE.op (DR.i fun _ _ _ => .int _) DE.var DE.var NE2.i) (DE.op DR.mul DE.var DE.var NE2.mul) NE2.eq) (DE.andV (DE.op (DR.i0 fun _ _ _ => .bl _) DE.var (DE.c fun _ => .int _) NE2.i0) (DE.andV (DE.op DR.eq (DE.op (DR.i fun _ _ _ => .int _) (DE.op (DR.i fun _ _ _ => .int _) (DE.c fun _ => .int _) DE.var NE2.i) DE.var NE2.i) (DE.c fun _ => .int _) NE2.eq) DE.var))))))⟩
theorem calx_is_word (T : Txt K mg P w (κ "Source") (κ "Scripted") (κ "Draws") (κ "PooledDraws") R_SIZES) : Gx.CalX P w K mg base 2 "is_word" (spF (Wk K κ) 1 F_is_word) := by
  obtain ⟨f, fd, F, b⟩ := T.d_is_word
  refine Gx.calX F b sc_is_word (fun vs H Q E h => spF.len h) (fun cdv A outer s H vs Q E hr h => ?_)
  have hu := hu_of hr
  have hu64 := hr.units
  have hu65 := Ab.u65 hr
  exact ⟨_, (pss_one (ps_ret (pe_and (Gx.pe_cx (calx_is_integer T) Gx.takes_cx (fun _ _ _ _ h => h) hr (by omega) (by rfl) (pa_cons (pv 0) pa_nil)) (pe_one (pe_chain op_le op_lt pe_int (pv 0) (C8.pe_gc (by rfl) T.c_WORDS)))))), Ab.DS.dfn (spF_gc h) rfl (DS.ret (DE.andV (DE.call (fun _ => .nil) (DA.cons DE.var DA.nil)) (DE.chain (DR.i0 fun _ _ _ => .bl _) (DR.i0 fun _ _ _ => .bl _) (DE.c fun _ => .int _) DE.var (DE.c fun _ => .int _) NE2.i0 NE2.i0)))⟩
theorem metx_Scripted_next_word (T : Txt K mg P w (κ "Source") (κ "Scripted") (κ "Draws") (κ "PooledDraws") R_SIZES) : Gx.MetX P w K mg base 2 (κ "Scripted") "next_word" (spF (Wk K κ) 1 F_Scripted_next_word) := by
  obtain ⟨f, fd, M, F, b⟩ := T.d_Scripted_next_word
  refine Gx.metX T.cl_Scripted M F b sc_Scripted_next_word (fun vs H Q E h => spF.len h) (fun cdv A outer s H vs Q E hr h => ?_)
  have hu := hu_of hr
  have hu64 := hr.units
  have hu65 := Ab.u65 hr
  exact ⟨_, (pss_cons (ps_set (i := 1) sc_Scripted_next_word.nd rfl (.inl rfl) (Gx.pe_cx (calx_script_after T) Gx.takes_cx (fun _ _ _ _ h => h) hr (by omega) (by rfl) (pa_cons (pe_fld (pv 0) rfl) (pa_cons (pe_fld (pv 0) rfl) (pa_cons pe_int pa_nil)))))
      (pss_cons (ps_fld (pv 0) (pv 1) rfl)
      (pss_one (ps_ret (pe_ix (show IxR _ (Ab.rIxU K) by exact Ab.ix_U) (pe_fld (pv 0) rfl) (pe_op op_sub (pv 1) pe_int) (fun _ _ => rfl)))))), Ab.DS.dfn (spF_gc h) rfl (DS.seq (DS.asg (DE.call (fun _ => .nil) (DA.cons (DE.fld (.cons ⟨T.cl_Scripted, T.n_Scripted_s1_script⟩ .nil) DE.var) (DA.cons (DE.fld (.cons ⟨T.cl_Scripted, T.n_Scripted_s1_place⟩ .nil) DE.var) (DA.cons (DE.c fun _ => .int _) DA.nil)))) DG.name Goes.name)
      (DS.seq (DS.sfld (.cons ⟨T.cl_Scripted, T.n_Scripted_s1_place⟩ .nil) DE.var DE.var)
      (DS.ret (DE.op DR.ix (DE.fld (.cons ⟨T.cl_Scripted, T.n_Scripted_s1_script⟩ .nil) DE.var) (DE.op (DR.i0 fun _ _ _ => .int _) DE.var (DE.c fun _ => .int _) NE2.i0) NE2.ix))))⟩
theorem calx_s5_need (T : Txt K mg P w (κ "Source") (κ "Scripted") (κ "Draws") (κ "PooledDraws") R_SIZES) : Gx.CalX P w K mg base 2 "s5_need" (spF (Wk K κ) 3 F_s5_need) := by
  obtain ⟨f, fd, F, b⟩ := T.d_s5_need
  refine Gx.calX F b sc_s5_need (fun vs H Q E h => spF.len h) (fun cdv A outer s H vs Q E hr h => ?_)
  have hu := hu_of hr
  have hu64 := hr.units
  have hu65 := Ab.u65 hr
  exact ⟨_, (pss_one (ps_if (PW.pt (pw_or (pt_not (pt_val (Gx.pe_cx (calx_is_integer T) Gx.takes_cx (fun _ _ _ _ h => h) hr (by omega) (by rfl) (pa_cons (pv 0) pa_nil)))) (pw_or1 (pt_not (pt_chain op_le op_le (pv 1) (pv 0) (pv 2)))))) (pss_one ps_never) pss_nil)), Ab.DS.dfn (spF_gc h) rfl (DS.ifs (DT.gc (DT.or (DT.not (DT.b (DE.call (fun _ => .nil) (DA.cons DE.var DA.nil)))) (DT.not (DT.test (DE.chain (DR.i0 fun _ _ _ => .bl _) (DR.i0 fun _ _ _ => .bl _) DE.var DE.var DE.var NE2.i0 NE2.i0))))) (DS.never fun _ _ => rfl) DS.next)⟩
theorem makx_Draws (T : Txt K mg P w (κ "Source") (κ "Scripted") (κ "Draws") (κ "PooledDraws") R_SIZES) : Gx.MakX P w K mg base 2 "Draws" (κ "Draws") (spF (Wk K κ) 2 F_Draws___init__) [] := by
  obtain ⟨f, fd, M, F, b⟩ := T.d_Draws___init__
  obtain ⟨u, hu1, hu2⟩ := T.k_Draws
  cases hu2
  refine Gx.makX M hu1 F b sc_Draws___init__ (fun vs H Q E h => spF.len h) (fun cdv A outer s H vs Q E hr h => ?_)
  have hu := hu_of hr
  have hu64 := hr.units
  have hu65 := Ab.u65 hr
  exact ⟨_, (pss_cons (ps_expr (Gx.pe_cx (calx_need_source T) Gx.takes_cx (fun _ _ _ _ h => h) hr (by omega) (by rfl) (pa_cons (pv 1) pa_nil)))
      (pss_cons (ps_fld (pv 0) (pv 1) rfl)
      (pss_one (ps_fld (pv 0) pe_int rfl)))), Ab.DS.dfn (spF_gc h) rfl (DS.seq (DS.drop (DE.call (fun _ => .nil) (DA.cons DE.var DA.nil)))
      (DS.seq (DS.sfld (.cons ⟨T.cl_Draws, T.n_Draws_s5_source⟩ (.cons ⟨T.cl_PooledDraws, T.n_PooledDraws_s5_source⟩ .nil)) DE.var DE.var)
      (DS.sfld (.cons ⟨T.cl_Draws, T.n_Draws_s5_used⟩ (.cons ⟨T.cl_PooledDraws, T.n_PooledDraws_s5_used⟩ .nil)) DE.var (DE.c fun _ => .int _))))⟩
theorem calx__law_pick (T : Txt K mg P w (κ "Source") (κ "Scripted") (κ "Draws") (κ "PooledDraws") R_SIZES) : Gx.CalX P w K mg base 2 "_law_pick" (spF (Wk K κ) 2 F__law_pick) := by
  obtain ⟨f, fd, F, b⟩ := T.d__law_pick
  refine Gx.calX F b sc__law_pick (fun vs H Q E h => spF.len h) (fun cdv A outer s H vs Q E hr h => ?_)
  have hu := hu_of hr
  have hu64 := hr.units
  have hu65 := Ab.u65 hr
  exact ⟨_, (pss_one (ps_ret (pe_ix (show IxR _ (Ab.rIxU K) by exact Ab.ix_U) (pv 1) (Gx.pe_cx (calx__law_next T) Gx.takes_cx (fun _ _ _ _ h => h) hr (by omega) (by rfl) (pa_cons (pv 0) (pa_cons (pe_callB (show CallR _ _ (Ab.rLenU K) by exact Ab.call_lenU) (by rfl) T.b_len PySem.boot_len (pa_cons (pv 1) pa_nil)) pa_nil))) (fun _ _ => rfl)))), Ab.DS.dfn (spF_gc h) rfl (DS.ret (DE.op DR.ix DE.var (DE.call (fun _ => .nil) (DA.cons DE.var (DA.cons (DE.cb DB.len (DA.cons DE.var DA.nil) NEL.len) DA.nil))) NE2.ix))⟩
theorem calx__law_words (T : Txt K mg P w (κ "Source") (κ "Scripted") (κ "Draws") (κ "PooledDraws") R_SIZES) : Gx.CalX P w K mg base 2 "_law_words" (spF (Wk K κ) 1 F__law_words) := by
  obtain ⟨f, fd, F, b⟩ := T.d__law_words
  refine Gx.calX F b sc__law_words (fun vs H Q E h => spF.len h) (fun cdv A outer s H vs Q E hr h => ?_)
  have hu := hu_of hr
  have hu64 := hr.units
  have hu65 := Ab.u65 hr
  exact ⟨_, (pss_cons (ps_setLc (i := 1) (own := [("_law_turn", 2)]) rfl sc__law_words.nd rfl rfl (sw_true rfl rfl rfl (by decide +kernel)) (pi_range1 rfl T.b_range (pa_cons pe_int pa_nil)) (blkOk_by (N := ["_law_draw", "_law_found", "_law_turn"]) (sc := C8.fnScope s__law_words) (by decide +kernel)) (fun _ _ _ _ _ => (pg_name (i := 2) sc__law_words.nd rfl (.inl rfl))) (fun _ _ _ _ _ => pts_nil) (fun _ _ _ _ _ => (Gx.pe_cx (calx__law_next T) LamX.takes0 (E := fun _ _ _ => False) (fun _ _ _ _ h => h) hr (by omega) (by rfl) (pa_cons (pv 0) (pa_cons pe_int pa_nil)))))
      (pss_cons (ps_for (passes_of rfl) rfl (pi_range1 rfl T.b_range (pa_cons pe_int pa_nil)) (pg_name (i := 2) sc__law_words.nd rfl (.inl rfl)) (pss_one (ps_expr (show PE _ _ (tBM K "list" _ _ _) by exact pe_bm PySem.F.plainAttrs_list PySem.F.slot_list_append PySem.F.type_list_append mt_append (pv 1) (pa_cons (pe_op op_mod (pe_op (show OpR _ _ (Ab.rAddU K) by exact Ab.op_addU) (pe_op (show OpR _ _ (Ab.rAddU K) by exact Ab.op_addU) (pe_op (show OpR _ _ (Ab.rAddU K) by exact Ab.op_addU) (pe_op Ab.op_mulU (pe_ix (show IxR _ (Ab.rIxU K) by exact Ab.ix_U) (pv 1) (pe_un un_neg pe_int) (fun _ _ => rfl)) pe_int) (pe_op Ab.op_mulU (pe_ix (show IxR _ (Ab.rIxU K) by exact Ab.ix_U) (pv 1) (pe_un un_neg pe_int) (fun _ _ => rfl)) pe_int)) (pe_op Ab.op_mulU pe_int (pv 2))) pe_int) pe_int) pa_nil)))))
      (pss_one (ps_ret (pe_callTy Gx.call_tupOf (by rfl) T.b_tuple (by decide +kernel) (pa_cons (pe_op (show OpR _ _ (Ab.rAddU K) by exact Ab.op_addU) (pv 1) (pe_op Ab.op_mulU (pe_lst (pa_cons pe_int pa_nil)) pe_int)) pa_nil)))))), Ab.DS.dfn (spF_gc h) rfl (DS.seq (DS.asg (DE.lc (DI.rng1 (DA.cons (DE.c fun _ => .int _) DA.nil)) DG.name Goes.name (WT.name (by decide)) DT.yes (DE.call (fun _ => .nil) (DA.cons DE.var (DA.cons (DE.c fun _ => .int _) DA.nil)))) DG.name Goes.name)
      (DS.seq (DS.forS (DI.rng1 (DA.cons (DE.c fun _ => .int _) DA.nil)) DG.name Goes.name (DS.drop (DE.bm DM.append NEM.append DE.var (DA.cons (DE.op (DR.i fun _ _ _ => .int _) (DE.op DR.add (DE.op DR.add (DE.op DR.add (DE.op DR.mul (DE.op DR.ix DE.var (DE.un DU.neg (DE.c fun _ => .int _) NE1.neg) NE2.ix) (DE.c fun _ => .int _) NE2.mul) (DE.op DR.mul (DE.op DR.ix DE.var (DE.un DU.neg (DE.c fun _ => .int _) NE1.neg) NE2.ix) (DE.c fun _ => .int _) NE2.mul) NE2.add) (DE.op DR.mul (DE.c fun _ => .int _) DE.var NE2.mul) NE2.add) (DE.c fun _ => .int _) NE2.add) (DE.c fun _ => .int _) NE2.i) DA.nil))))
      (DS.ret (DE.cb DB.tuple (DA.cons (DE.op DR.add DE.var (DE.op DR.mul (DE.lst (DA.cons (DE.c fun _ => .int _) DA.nil)) (DE.c fun _ => .int _) NE2.mul) NE2.add) DA.nil) NEL.tuple))))⟩
theorem calx_is_script (T : Txt K mg P w (κ "Source") (κ "Scripted") (κ "Draws") (κ "PooledDraws") R_SIZES) : Gx.CalX P w K mg base 3 "is_script" (spF (Wk K κ) 1 F_is_script) := by
  obtain ⟨f, fd, F, b⟩ := T.d_is_script
  refine Gx.calX F b sc_is_script (fun vs H Q E h => spF.len h) (fun cdv A outer s H vs Q E hr h => ?_)
  have hu := hu_of hr
  have hu64 := hr.units
  have hu65 := Ab.u65 hr
  exact ⟨_, (pss_one (ps_ret (pe_and (pe_callB (show CallR _ _ (Ab.rIsiU K) by exact Ab.call_isiU) (by rfl) T.b_isinstance (by decide +kernel) (pa_cons (pv 0) (pa_cons (pe_bltn (v := .ty "tuple") (by rfl) T.b_tuple (by decide +kernel) rfl) pa_nil))) (pe_and (pe_cmpR op_le (pe_callB (show CallR _ _ (Ab.rLenU K) by exact Ab.call_lenU) (by rfl) T.b_len PySem.boot_len (pa_cons (pv 0) pa_nil)) (C8.pe_gc (by rfl) T.c_MOST_SCRIPT) (nomark _)) (pe_one (pe_callB (show CallR _ _ (rAll K) by exact cr_all rfl) (by rfl) T.b_all (by decide +kernel) (pa_cons (pe_lc (own := [("word", 1)]) rfl sc_is_script.nd (show PI _ _ _ (Ab.iterU K _) by exact Ab.PI.or (pi_list (pv 0)) (Ab.PI.or (pi_tup (pv 0)) (pi_str (pv 0)))) (blkOk_by (N := ["value", "word"]) (sc := C8.fnScope s_is_script) (by decide +kernel)) (fun _ _ _ _ _ => (pg_name (i := 1) sc_is_script.nd rfl (.inl rfl))) (fun _ _ _ _ _ => pts_nil) (fun _ _ _ _ _ => (Gx.pe_cx (calx_is_word T) LamX.takes0 (E := fun _ _ _ => False) (fun _ _ _ _ h => h) hr (by omega) (by rfl) (pa_cons (pv 1) pa_nil)))) pa_nil))))))), Ab.DS.dfn (spF_gc h) rfl (DS.ret (DE.andV (DE.cb (DB.isi (kit_tuple T)) (DA.cons DE.var (DA.cons (DE.c fun _ => .ty _) DA.nil)) NEL.isi) (DE.andV (DE.op (DR.i0 fun _ _ _ => .bl _) (DE.cb DB.len (DA.cons DE.var DA.nil) NEL.len) (DE.c fun _ => .int _) NE2.i0) (DE.cb DB.all (DA.cons (DE.lc (DI.iter DE.var) DG.name Goes.name (WT.name (by decide)) DT.yes (DE.call (fun _ => .nil) (DA.cons DE.var DA.nil))) DA.nil) NEL.all))))⟩
theorem calx_digits_of (T : Txt K mg P w (κ "Source") (κ "Scripted") (κ "Draws") (κ "PooledDraws") R_SIZES) : Gx.CalX P w K mg base 3 "digits_of" (spF (Wk K κ) 1 F_digits_of) := by
  obtain ⟨f, fd, F, b⟩ := T.d_digits_of
  refine Gx.calX F b sc_digits_of (fun vs H Q E h => spF.len h) (fun cdv A outer s H vs Q E hr h => ?_)
  have hu := hu_of hr
  have hu64 := hr.units
  have hu65 := Ab.u65 hr
  exact ⟨_, (pss_cons (ps_expr (Gx.pe_cx (calx_s5_need T) Gx.takes_cx (fun _ _ _ _ h => h) hr (by omega) (by rfl) (pa_cons (pv 0) (pa_cons pe_int (pa_cons (C8.pe_gc (by rfl) T.c_MOST_WIDE) pa_nil)))))
      (pss_one (ps_ret (Gx.pe_cx (calx_s5_digits T) Gx.takes_cx (fun _ _ _ _ h => h) hr (by omega) (by rfl) (pa_cons (pv 0) pa_nil))))), Ab.DS.dfn (spF_gc h) rfl (DS.seq (DS.drop (DE.call (fun _ => .nil) (DA.cons DE.var (DA.cons (DE.c fun _ => .int _) (DA.cons (DE.c fun _ => .int _) DA.nil)))))
      (DS.ret (DE.call (fun _ => .nil) (DA.cons DE.var DA.nil))))⟩
theorem calx_need_range (T : Txt K mg P w (κ "Source") (κ "Scripted") (κ "Draws") (κ "PooledDraws") R_SIZES) : Gx.CalX P w K mg base 3 "need_range" (spF (Wk K κ) 2 F_need_range) := by
  obtain ⟨f, fd, F, b⟩ := T.d_need_range
  refine Gx.calX F b sc_need_range (fun vs H Q E h => spF.len h) (fun cdv A outer s H vs Q E hr h => ?_)
  have hu := hu_of hr
  have hu64 := hr.units
  have hu65 := Ab.u65 hr
  exact ⟨_, (pss_cons (ps_for (passes_of rfl) rfl (show PI _ _ _ (Ab.iterU K _) by exact Ab.PI.or (pi_list (pe_tup (pa_cons (pv 0) (pa_cons (pv 1) pa_nil)))) (Ab.PI.or (pi_tup (pe_tup (pa_cons (pv 0) (pa_cons (pv 1) pa_nil)))) (pi_str (pe_tup (pa_cons (pv 0) (pa_cons (pv 1) pa_nil)))))) (pg_name (i := 2) sc_need_range.nd rfl (.inl rfl)) (pss_one (ps_expr (Gx.pe_cx (calx_s5_need T) Gx.takes_cx (fun _ _ _ _ h => h) hr (by omega) (by rfl) (pa_cons (pv 2) (pa_cons (pe_un un_neg (C8.pe_gc (by rfl) T.c_MOST_BOUND)) (pa_cons (C8.pe_gc (by rfl) T.c_MOST_BOUND) pa_nil)))))))
      (pss_one (ps_if (PW.pt (pw_or (pt_cmpR op_lt (pv 1) (pv 0) (nomark _)) (pw_or1 (pt_cmpR op_ge (pe_op op_sub (pv 1) (pv 0)) (C8.pe_gc (by rfl) T.c_MOST_BOUND) (nomark _))))) (pss_one ps_never) pss_nil))), Ab.DS.dfn (spF_gc h) rfl (DS.seq (DS.forS (DI.iter (DE.tup (DA.cons DE.var (DA.cons DE.var DA.nil)))) DG.name Goes.name (DS.drop (DE.call (fun _ => .nil) (DA.cons DE.var (DA.cons (DE.un DU.neg (DE.c fun _ => .int _) NE1.neg) (DA.cons (DE.c fun _ => .int _) DA.nil))))))
      (DS.ifs (DT.or (DT.test (DE.op (DR.i0 fun _ _ _ => .bl _) DE.var DE.var NE2.i0)) (DT.test (DE.op (DR.i0 fun _ _ _ => .bl _) (DE.op (DR.i0 fun _ _ _ => .int _) DE.var DE.var NE2.i0) (DE.c fun _ => .int _) NE2.i0))) (DS.never fun _ _ => rfl) DS.next))⟩
theorem calx_need_share (T : Txt K mg P w (κ "Source") (κ "Scripted") (κ "Draws") (κ "PooledDraws") R_SIZES) : Gx.CalX P w K mg base 3 "need_share" (spF (Wk K κ) 2 F_need_share) := by
  obtain ⟨f, fd, F, b⟩ := T.d_need_share
  refine Gx.calX F b sc_need_share (fun vs H Q E h => spF.len h) (fun cdv A outer s H vs Q E hr h => ?_)
  have hu := hu_of hr
  have hu64 := hr.units
  have hu65 := Ab.u65 hr
  exact ⟨_, (pss_cons (ps_expr (Gx.pe_cx (calx_s5_need T) Gx.takes_cx (fun _ _ _ _ h => h) hr (by omega) (by rfl) (pa_cons (pv 0) (pa_cons pe_int (pa_cons (C8.pe_gc (by rfl) T.c_MOST_BOUND) pa_nil)))))
      (pss_one (ps_expr (Gx.pe_cx (calx_s5_need T) Gx.takes_cx (fun _ _ _ _ h => h) hr (by omega) (by rfl) (pa_cons (pv 1) (pa_cons (pe_callB (Rd.call_mx2 rfl) (by rfl) T.b_max (by decide +kernel) (pa_cons pe_int (pa_cons (pv 0) pa_nil))) (pa_cons (C8.pe_gc (by rfl) T.c_MOST_BOUND) pa_nil))))))), Ab.DS.dfn (spF_gc h) rfl (DS.seq (DS.drop (DE.call (fun _ => .nil) (DA.cons DE.var (DA.cons (DE.c fun _ => .int _) (DA.cons (DE.c fun _ => .int _) DA.nil)))))
      (DS.drop (DE.call (fun _ => .nil) (DA.cons DE.var (DA.cons (DE.cb DB.max2 (DA.cons (DE.c fun _ => .int _) (DA.cons DE.var DA.nil)) NEL.max2) (DA.cons (DE.c fun _ => .int _) DA.nil))))))⟩
theorem metx_Draws_s5_word (T : Txt K mg P w (κ "Source") (κ "Scripted") (κ "Draws") (κ "PooledDraws") R_SIZES) : Gx.MetX P w K mg base 3 (κ "Draws") "s5_word" (spF (Wk K κ) 1 F_Draws_s5_word) := by
  obtain ⟨f, fd, M, F, b⟩ := T.d_Draws_s5_word
  refine Gx.metX T.cl_Draws M F b sc_Draws_s5_word (fun vs H Q E h => spF.len h) (fun cdv A outer s H vs Q E hr h => ?_)
  have hu := hu_of hr
  have hu64 := hr.units
  have hu65 := Ab.u65 hr
  exact ⟨_, (pss_cons (ps_set (i := 1) sc_Draws_s5_word.nd rfl (.inl rfl) (Gx.pe_mx0 (metx_Scripted_next_word T) Gx.takes_cx (fun _ _ _ _ h => h) hr (by omega) (pe_fld (pv 0) rfl)))
      (pss_cons (ps_fldaug (pv 0) pe_int in_add)
      (pss_one (ps_ret (pv 1))))), Ab.DS.dfn (spF_gc h) rfl (DS.seq (DS.asg (DE.meth (fun _ => .nil) (DE.fld (.cons ⟨T.cl_Draws, T.n_Draws_s5_source⟩ (.cons ⟨T.cl_PooledDraws, T.n_PooledDraws_s5_source⟩ .nil)) DE.var) DA.nil) DG.name Goes.name)
      (DS.seq (DS.faug (.cons ⟨T.cl_Draws, T.n_Draws_s5_used⟩ (.cons ⟨T.cl_PooledDraws, T.n_PooledDraws_s5_used⟩ .nil)) (DR.i0 fun _ _ _ => .int _) NE2.i0 DE.var (DE.c fun _ => .int _))
      (DS.ret DE.var)))⟩
theorem metx_Draws_s5_word_of_PooledDraws (T : Txt K mg P w (κ "Source") (κ "Scripted") (κ "Draws") (κ "PooledDraws") R_SIZES) : Gx.MetX P w K mg base 3 (κ "PooledDraws") "s5_word" (spF (Wk K κ) 1 F_Draws_s5_word) := by
  obtain ⟨f, fd, M, F, b⟩ := T.d_Draws_s5_word_of_PooledDraws
  refine Gx.metX T.cl_PooledDraws M F b sc_Draws_s5_word (fun vs H Q E h => spF.len h) (fun cdv A outer s H vs Q E hr h => ?_)
  have hu := hu_of hr
  have hu64 := hr.units
  have hu65 := Ab.u65 hr
  exact ⟨_, (pss_cons (ps_set (i := 1) sc_Draws_s5_word.nd rfl (.inl rfl) (Gx.pe_mx0 (metx_Scripted_next_word T) Gx.takes_cx (fun _ _ _ _ h => h) hr (by omega) (pe_fld (pv 0) rfl)))
      (pss_cons (ps_fldaug (pv 0) pe_int in_add)
      (pss_one (ps_ret (pv 1))))), Ab.DS.dfn (spF_gc h) rfl (DS.seq (DS.asg (DE.meth (fun _ => .nil) (DE.fld (.cons ⟨T.cl_Draws, T.n_Draws_s5_source⟩ (.cons ⟨T.cl_PooledDraws, T.n_PooledDraws_s5_source⟩ .nil)) DE.var) DA.nil) DG.name Goes.name)
      (DS.seq (DS.faug (.cons ⟨T.cl_Draws, T.n_Draws_s5_used⟩ (.cons ⟨T.cl_PooledDraws, T.n_PooledDraws_s5_used⟩ .nil)) (DR.i0 fun _ _ _ => .int _) NE2.i0 DE.var (DE.c fun _ => .int _))
      (DS.ret DE.var)))⟩
theorem metx_Draws_saved (T : Txt K mg P w (κ "Source") (κ "Scripted") (κ "Draws") (κ "PooledDraws") R_SIZES) : Gx.MetX P w K mg base 3 (κ "Draws") "saved" (spF (Wk K κ) 1 F_Draws_saved) := by
  obtain ⟨f, fd, M, F, b⟩ := T.d_Draws_saved
  refine Gx.metX T.cl_Draws M F b sc_Draws_saved (fun vs H Q E h => spF.len h) (fun cdv A outer s H vs Q E hr h => ?_)
  have hu := hu_of hr
  have hu64 := hr.units
  have hu65 := Ab.u65 hr
  exact ⟨_, (pss_one (ps_ret (pe_tup (pa_cons (Gx.pe_propC (pe_fld (pv 0) rfl) (prop_Scripted_state T) hr (by omega) rfl) (pa_cons (pe_fld (pv 0) rfl) pa_nil))))), Ab.DS.dfn (spF_gc h) rfl (DS.ret (DE.tup (DA.cons (DE.prop (DE.fld (.cons ⟨T.cl_Draws, T.n_Draws_s5_source⟩ (.cons ⟨T.cl_PooledDraws, T.n_PooledDraws_s5_source⟩ .nil)) DE.var)) (DA.cons (DE.fld (.cons ⟨T.cl_Draws, T.n_Draws_s5_used⟩ (.cons ⟨T.cl_PooledDraws, T.n_PooledDraws_s5_used⟩ .nil)) DE.var) DA.nil))))⟩
theorem metx_PooledDraws_saved (T : Txt K mg P w (κ "Source") (κ "Scripted") (κ "Draws") (κ "PooledDraws") R_SIZES) : Gx.MetX P w K mg base 3 (κ "PooledDraws") "saved" (spF (Wk K κ) 1 F_PooledDraws_saved) := by
  obtain ⟨f, fd, M, F, b⟩ := T.d_PooledDraws_saved
  refine Gx.metX T.cl_PooledDraws M F b sc_PooledDraws_saved (fun vs H Q E h => spF.len h) (fun cdv A outer s H vs Q E hr h => ?_)
  have hu := hu_of hr
  have hu64 := hr.units
  have hu65 := Ab.u65 hr
  exact ⟨_, (pss_one (ps_ret (pe_tup (pa_cons (Gx.pe_propC (pe_fld (pv 0) rfl) (prop_Scripted_state T) hr (by omega) rfl) (pa_cons (pe_fld (pv 0) rfl) (pa_cons (pe_fld (pv 0) rfl) (pa_cons (pe_fld (pv 0) rfl) pa_nil))))))), Ab.DS.dfn (spF_gc h) rfl (DS.ret (DE.tup (DA.cons (DE.prop (DE.fld (.cons ⟨T.cl_PooledDraws, T.n_PooledDraws_s5_source⟩ .nil) DE.var)) (DA.cons (DE.fld (.cons ⟨T.cl_PooledDraws, T.n_PooledDraws_s5_used⟩ .nil) DE.var) (DA.cons (DE.fld (.cons ⟨T.cl_PooledDraws, T.n_PooledDraws_s5_size⟩ .nil) DE.var) (DA.cons (DE.fld (.cons ⟨T.cl_PooledDraws, T.n_PooledDraws_s5_value⟩ .nil) DE.var) DA.nil))))))⟩
theorem calx_need_script_state (T : Txt K mg P w (κ "Source") (κ "Scripted") (κ "Draws") (κ "PooledDraws") R_SIZES) : Gx.CalX P w K mg base 4 "need_script_state" (spF (Wk K κ) 1 F_need_script_state) := by
  obtain ⟨f, fd, F, b⟩ := T.d_need_script_state
  refine Gx.calX F b sc_need_script_state (fun vs H Q E h => spF.len h) (fun cdv A outer s H vs Q E hr h => ?_)
  have hu := hu_of hr
  have hu64 := hr.units
  have hu65 := Ab.u65 hr
  exact ⟨_, (pss_cons (ps_if (PW.pt (pw_or (pt_not (pt_val (pe_callB (show CallR _ _ (Ab.rIsiU K) by exact Ab.call_isiU) (by rfl) T.b_isinstance (by decide +kernel) (pa_cons (pv 0) (pa_cons (pe_bltn (v := .ty "tuple") (by rfl) T.b_tuple (by decide +kernel) rfl) pa_nil))))) (pw_or (pt_cmpR (show OpR _ _ (Ab.rNeU K) by exact Ab.op_neU hu64) (pe_callB (show CallR _ _ (Ab.rLenU K) by exact Ab.call_lenU) (by rfl) T.b_len PySem.boot_len (pa_cons (pv 0) pa_nil)) pe_int (nomark _)) (pw_or (pt_not (pt_val (Gx.pe_cx (calx_is_script T) Gx.takes_cx (fun _ _ _ _ h => h) hr (by omega) (by rfl) (pa_cons (pe_ix (show IxR _ (Ab.rIxU K) by exact Ab.ix_U) (pv 0) pe_int (fun _ _ => rfl)) pa_nil)))) (pw_or1 (pt_not (pt_val (Gx.pe_cx (calx_is_integer T) Gx.takes_cx (fun _ _ _ _ h => h) hr (by omega) (by rfl) (pa_cons (pe_ix (show IxR _ (Ab.rIxU K) by exact Ab.ix_U) (pv 0) pe_int (fun _ _ => rfl)) pa_nil))))))))) (pss_one ps_never) pss_nil)
      (pss_one (ps_if (pt_not (pt_chain op_le op_le pe_int (pe_ix (show IxR _ (Ab.rIxU K) by exact Ab.ix_U) (pv 0) pe_int (fun _ _ => rfl)) (pe_callB (show CallR _ _ (Ab.rLenU K) by exact Ab.call_lenU) (by rfl) T.b_len PySem.boot_len (pa_cons (pe_ix (show IxR _ (Ab.rIxU K) by exact Ab.ix_U) (pv 0) pe_int (fun _ _ => rfl)) pa_nil)))) (pss_one ps_never) pss_nil))), Ab.DS.dfn (spF_gc h) rfl (DS.seq (DS.ifs (DT.gc (DT.or (DT.not (DT.b (DE.cb (DB.isi (kit_tuple T)) (DA.cons DE.var (DA.cons (DE.c fun _ => .ty _) DA.nil)) NEL.isi))) (DT.or (DT.test (DE.op DR.ne (DE.cb DB.len (DA.cons DE.var DA.nil) NEL.len) (DE.c fun _ => .int _) NE2.ne)) (DT.or (DT.not (DT.b (DE.call (fun _ => .nil) (DA.cons (DE.op DR.ix DE.var (DE.c fun _ => .int _) NE2.ix) DA.nil)))) (DT.not (DT.b (DE.call (fun _ => .nil) (DA.cons (DE.op DR.ix DE.var (DE.c fun _ => .int _) NE2.ix) DA.nil)))))))) (DS.never fun _ _ => rfl) DS.next)
      (DS.ifs (DT.not (DT.test (DE.chain (DR.i0 fun _ _ _ => .bl _) (DR.i0 fun _ _ _ => .bl _) (DE.c fun _ => .int _) (DE.op DR.ix DE.var (DE.c fun _ => .int _) NE2.ix) (DE.cb DB.len (DA.cons (DE.op DR.ix DE.var (DE.c fun _ => .int _) NE2.ix) DA.nil) NEL.len) NE2.i0 NE2.i0))) (DS.never fun _ _ => rfl) DS.next))⟩
theorem metx_Draws_s5_bits (T : Txt K mg P w (κ "Source") (κ "Scripted") (κ "Draws") (κ "PooledDraws") R_SIZES) : Gx.MetX P w K mg base 4 (κ "Draws") "s5_bits" (spF (Wk K κ) 2 F_Draws_s5_bits) := by
  obtain ⟨f, fd, M, F, b⟩ := T.d_Draws_s5_bits
  refine Gx.metX T.cl_Draws M F b sc_Draws_s5_bits (fun vs H Q E h => spF.len h) (fun cdv A outer s H vs Q E hr h => ?_)
  have hu := hu_of hr
  have hu64 := hr.units
  have hu65 := Ab.u65 hr
  exact ⟨_, (pss_cons (ps_asg (pe_tup (pa_cons pe_int (pa_cons pe_int pa_nil))) (show PG _ _ (gTup K 2 _) by exact pg_tup rfl (pgs_cons (pg_name (i := 2) sc_Draws_s5_bits.nd rfl (.inl rfl)) (pgs_cons (pg_name (i := 3) sc_Draws_s5_bits.nd rfl (.inl rfl)) pgs_nil))))
      (pss_cons (ps_while (passes_of rfl) (pt_cmpR op_lt (pv 3) (pv 1) (nomark _)) (pss_cons (ps_par (i := 4) (j := 5) rfl sc_Draws_s5_bits.nd rfl rfl (by decide) rfl rfl (pa_cons (Ab.PE.or (Gx.pe_mx0 (metx_Draws_s5_word T) Gx.takes_cx (fun _ _ _ _ h => h) hr (by omega) (pv 0)) (Gx.pe_mx0 (metx_Draws_s5_word_of_PooledDraws T) Gx.takes_cx (fun _ _ _ _ h => h) hr (by omega) (pv 0))) (pa_cons (pe_op op_sub (pv 1) (pv 3)) pa_nil)) (by rfl))
      (pss_cons (ps_if (pt_cmpR op_lt (pv 5) (C8.pe_gc (by rfl) T.c_WORD_BITS) (nomark _)) (pss_one (ps_set (i := 4) sc_Draws_s5_bits.nd rfl (.inl rfl) (pe_op op_shr (pv 4) (pe_op op_sub (C8.pe_gc (by rfl) T.c_WORD_BITS) (pv 5))))) pss_nil)
      (pss_one (ps_par (i := 2) (j := 3) rfl sc_Draws_s5_bits.nd rfl rfl (by decide) rfl rfl (pa_cons (pe_op (show OpR _ _ (Ab.rAddU K) by exact Ab.op_addU) (pv 2) (pe_op op_shlW (pv 4) (pv 3))) (pa_cons (pe_op (show OpR _ _ (Ab.rAddU K) by exact Ab.op_addU) (pv 3) (C8.pe_gc (by rfl) T.c_WORD_BITS)) pa_nil)) (by rfl))))))
      (pss_one (ps_ret (pv 2))))), Ab.DS.dfn (spF_gc h) rfl (DS.seq (DS.asg (DE.tup (DA.cons (DE.c fun _ => .int _) (DA.cons (DE.c fun _ => .int _) DA.nil))) (DG.tup (DGs.cons DG.name (DGs.cons DG.name DGs.nil))) (Goes.tup (GoesL.cons Goes.name (GoesL.cons Goes.name GoesL.nil))))
      (DS.seq (DS.whileS (DT.test (DE.op (DR.i0 fun _ _ _ => .bl _) DE.var DE.var NE2.i0)) (DS.seq (DS.par (DA.cons (DE.sel _ (DE.meth (fun _ => .nil) DE.var DA.nil) (DE.meth (fun _ => .nil) DE.var DA.nil)) (DA.cons (DE.op (DR.i0 fun _ _ _ => .int _) DE.var DE.var NE2.i0) DA.nil)))
      (DS.seq (DS.ifs (DT.test (DE.op (DR.i0 fun _ _ _ => .bl _) DE.var (DE.c fun _ => .int _) NE2.i0)) (DS.asg (DE.op (DR.i fun _ _ _ => .int _) DE.var (DE.op (DR.i0 fun _ _ _ => .int _) (DE.c fun _ => .int _) DE.var NE2.i0) NE2.i) DG.name Goes.name) DS.next)
      (DS.par (DA.cons (DE.op DR.add DE.var (DE.op (DR.i fun _ _ _ => .int _) DE.var DE.var NE2.i) NE2.add) (DA.cons (DE.op DR.add DE.var (DE.c fun _ => .int _) NE2.add) DA.nil))))))
      (DS.ret DE.var)))⟩
theorem makx_PooledDraws (T : Txt K mg P w (κ "Source") (κ "Scripted") (κ "Draws") (κ "PooledDraws") R_SIZES) : Gx.MakX P w K mg base 4 "PooledDraws" (κ "PooledDraws") (spF (Wk K κ) 2 F_PooledDraws___init__) [] := by
  obtain ⟨f, fd, cd, cc, g, M, d, b, hg⟩ := T.d_PooledDraws___init__
  obtain ⟨u, hu1, hu2⟩ := T.k_PooledDraws
  cases hu2
  obtain ⟨f2, fd2, ps2, ds2, M2, F2, _, b2, dv2⟩ := (makx_Draws (P := P) (w := w) (base := base) T).ex
  have e2 : g = f2 := by
    have := hg.symm.trans M2.init
    cases this
    rfl
  subst e2
  refine ⟨f, fd, ["self", "source"], [], M, FnOk.mono (Gx.super_fn (P := P) (w := w) (base := base) (spG := (spF (Wk K κ) 2 F_Draws___init__)) d T.suP (fun _ => rfl) ((F2.raw b2 dv2).imp fun vs H Q E z => ?z) (fun vs H Q E h => spF.len h) (fun A outer s H vs Q E h => ?r)) (by omega), hu1, b, .nil⟩
  case z => rw [List.append_nil]; exact z
  case r => exact super_ex (spF_gc h) (pss_one (ps_asg (pe_tup (pa_cons pe_int (pa_cons pe_int pa_nil))) (show PG _ _ (gTup K 2 _) by exact pg_tup rfl (pgs_cons (Gx.pg_fld (pv 0)) (pgs_cons (Gx.pg_fld (pv 0)) pgs_nil))))) (DS.asg (DE.tup (DA.cons (DE.c fun _ => .int _) (DA.cons (DE.c fun _ => .int _) DA.nil))) (DG.tup (DGs.cons (DG.fld (.cons ⟨T.cl_PooledDraws, T.n_PooledDraws_s5_size⟩ .nil) DE.var) (DGs.cons (DG.fld (.cons ⟨T.cl_PooledDraws, T.n_PooledDraws_s5_value⟩ .nil) DE.var) DGs.nil))) (Goes.tup (GoesL.cons Goes.fld (GoesL.cons Goes.fld GoesL.nil))))
theorem metx_PooledDraws_s5_bits (T : Txt K mg P w (κ "Source") (κ "Scripted") (κ "Draws") (κ "PooledDraws") R_SIZES) : Gx.MetX P w K mg base 4 (κ "PooledDraws") "s5_bits" (spF (Wk K κ) 2 F_PooledDraws_s5_bits) := by
  obtain ⟨f, fd, M, F, b⟩ := T.d_PooledDraws_s5_bits
  refine Gx.metX T.cl_PooledDraws M F b sc_PooledDraws_s5_bits (fun vs H Q E h => spF.len h) (fun cdv A outer s H vs Q E hr h => ?_)
  have hu := hu_of hr
  have hu64 := hr.units
  have hu65 := Ab.u65 hr
  exact ⟨_, (pss_cons (ps_while (passes_of rfl) (pt_cmpR op_lt (pe_fld (pv 0) rfl) (pv 1) (nomark _)) (pss_cons (ps_fldaug (pv 0) (pe_op op_shlW (Gx.pe_mx0 (metx_Draws_s5_word_of_PooledDraws T) Gx.takes_cx (fun _ _ _ _ h => h) hr (by omega) (pv 0)) (pe_fld (pv 0) rfl)) in_add)
      (pss_one (ps_fldaug (pv 0) (C8.pe_gc (by rfl) T.c_WORD_BITS) in_add))))
      (pss_cons (ps_set (i := 2) sc_PooledDraws_s5_bits.nd rfl (.inl rfl) (pe_op op_mod (pe_fld (pv 0) rfl) (pe_op op_shlW pe_int (pv 1))))
      (pss_cons (ps_fld (pv 0) (pe_op op_shr (pe_fld (pv 0) rfl) (pv 1)) rfl)
      (pss_cons (ps_fldaug (pv 0) (pv 1) in_sub)
      (pss_one (ps_ret (pv 2))))))), Ab.DS.dfn (spF_gc h) rfl (DS.seq (DS.whileS (DT.test (DE.op (DR.i0 fun _ _ _ => .bl _) (DE.fld (.cons ⟨T.cl_PooledDraws, T.n_PooledDraws_s5_size⟩ .nil) DE.var) DE.var NE2.i0)) (DS.seq (DS.faug (.cons ⟨T.cl_PooledDraws, T.n_PooledDraws_s5_value⟩ .nil) (DR.i0 fun _ _ _ => .int _) NE2.i0 DE.var (DE.op (DR.i fun _ _ _ => .int _) (DE.meth (fun _ => .nil) DE.var DA.nil) (DE.fld (.cons ⟨T.cl_PooledDraws, T.n_PooledDraws_s5_size⟩ .nil) DE.var) NE2.i))
      (DS.faug (.cons ⟨T.cl_PooledDraws, T.n_PooledDraws_s5_size⟩ .nil) (DR.i0 fun _ _ _ => .int _) NE2.i0 DE.var (DE.c fun _ => .int _))))
      (DS.seq (DS.asg (DE.op (DR.i fun _ _ _ => .int _) (DE.fld (.cons ⟨T.cl_PooledDraws, T.n_PooledDraws_s5_value⟩ .nil) DE.var) (DE.op (DR.i fun _ _ _ => .int _) (DE.c fun _ => .int _) DE.var NE2.i) NE2.i) DG.name Goes.name)
      (DS.seq (DS.sfld (.cons ⟨T.cl_PooledDraws, T.n_PooledDraws_s5_value⟩ .nil) DE.var (DE.op (DR.i fun _ _ _ => .int _) (DE.fld (.cons ⟨T.cl_PooledDraws, T.n_PooledDraws_s5_value⟩ .nil) DE.var) DE.var NE2.i))
      (DS.seq (DS.faug (.cons ⟨T.cl_PooledDraws, T.n_PooledDraws_s5_size⟩ .nil) (DR.i0 fun _ _ _ => .int _) NE2.i0 DE.var DE.var)
      (DS.ret DE.var)))))⟩
theorem makx_Scripted_d1 (T : Txt K mg P w (κ "Source") (κ "Scripted") (κ "Draws") (κ "PooledDraws") R_SIZES) : Gx.MakX P w K mg base 5 "Scripted" (κ "Scripted") (spF (Wk K κ) 3 F_Scripted___init__) [.int 0] := by
  obtain ⟨f, fd, M, F, b, ds, hv, hb⟩ := T.d_Scripted___init__
  obtain ⟨u, hu1, hu2⟩ := T.k_Scripted
  cases hu2
  refine ⟨f, fd, _, ds, M, Gx.fnX F sc_Scripted___init__ (fun vs H Q E h => spF.len h) (fun cdv A outer s H vs Q E hr h => ?_), hu1, hb, hv⟩
  have hu := hu_of hr
  have hu64 := hr.units
  have hu65 := Ab.u65 hr
  exact ⟨_, (pss_cons (ps_if (pt_not (pt_val (Gx.pe_cx (calx_is_script T) Gx.takes_cx (fun _ _ _ _ h => h) hr (by omega) (by rfl) (pa_cons (pv 1) pa_nil)))) (pss_one ps_never) pss_nil)
      (pss_cons (ps_expr (Gx.pe_cx (calx_need_script_state T) Gx.takes_cx (fun _ _ _ _ h => h) hr (by omega) (by rfl) (pa_cons (pe_tup (pa_cons (pv 1) (pa_cons (pv 2) pa_nil))) pa_nil)))
      (pss_cons (ps_fld (pv 0) (pv 1) rfl)
      (pss_one (ps_fld (pv 0) (pv 2) rfl))))), Ab.DS.dfn (spF_gc h) rfl (DS.seq (DS.ifs (DT.gc (DT.not (DT.b (DE.call (fun _ => .nil) (DA.cons DE.var DA.nil))))) (DS.never fun _ _ => rfl) DS.next)
      (DS.seq (DS.drop (DE.call (fun _ => .nil) (DA.cons (DE.tup (DA.cons DE.var (DA.cons DE.var DA.nil))) DA.nil)))
      (DS.seq (DS.sfld (.cons ⟨T.cl_Scripted, T.n_Scripted_s1_script⟩ .nil) DE.var DE.var)
      (DS.sfld (.cons ⟨T.cl_Scripted, T.n_Scripted_s1_place⟩ .nil) DE.var DE.var))))⟩
theorem metx_Draws_s5_below (T : Txt K mg P w (κ "Source") (κ "Scripted") (κ "Draws") (κ "PooledDraws") R_SIZES) : Gx.MetX P w K mg base 5 (κ "Draws") "s5_below" (spF (Wk K κ) 2 F_Draws_s5_below) := by
  obtain ⟨f, fd, M, F, b⟩ := T.d_Draws_s5_below
  refine Gx.metX T.cl_Draws M F b sc_Draws_s5_below (fun vs H Q E h => spF.len h) (fun cdv A outer s H vs Q E hr h => ?_)
  have hu := hu_of hr
  have hu64 := hr.units
  have hu65 := Ab.u65 hr
  exact ⟨_, (pss_cons (ps_set (i := 2) sc_Draws_s5_below.nd rfl (.inl rfl) (Gx.pe_cx (calx_s5_digits T) Gx.takes_cx (fun _ _ _ _ h => h) hr (by omega) (by rfl) (pa_cons (pe_op op_sub (pv 1) pe_int) pa_nil)))
      (pss_cons (ps_set (i := 3) sc_Draws_s5_below.nd rfl (.inl rfl) (Ab.PE.or (Gx.pe_mx (metx_Draws_s5_bits T) Gx.takes_cx (fun _ _ _ _ h => h) hr (by omega) (pv 0) (pa_cons (pv 2) pa_nil)) (Gx.pe_mx (metx_PooledDraws_s5_bits T) Gx.takes_cx (fun _ _ _ _ h => h) hr (by omega) (pv 0) (pa_cons (pv 2) pa_nil))))
      (pss_cons (ps_while (passes_of rfl) (pt_cmpR op_ge (pv 3) (pv 1) (nomark _)) (pss_one (ps_set (i := 3) sc_Draws_s5_below.nd rfl (.inl rfl) (Ab.PE.or (Gx.pe_mx (metx_Draws_s5_bits T) Gx.takes_cx (fun _ _ _ _ h => h) hr (by omega) (pv 0) (pa_cons (pv 2) pa_nil)) (Gx.pe_mx (metx_PooledDraws_s5_bits T) Gx.takes_cx (fun _ _ _ _ h => h) hr (by omega) (pv 0) (pa_cons (pv 2) pa_nil))))))
      (pss_one (ps_ret (pv 3)))))), Ab.DS.dfn (spF_gc h) rfl (DS.seq (DS.asg (DE.call (fun _ => .nil) (DA.cons (DE.op (DR.i0 fun _ _ _ => .int _) DE.var (DE.c fun _ => .int _) NE2.i0) DA.nil)) DG.name Goes.name)
      (DS.seq (DS.asg (DE.sel _ (DE.meth (fun _ => .nil) DE.var (DA.cons DE.var DA.nil)) (DE.meth (fun _ => .nil) DE.var (DA.cons DE.var DA.nil))) DG.name Goes.name)
      (DS.seq (DS.whileS (DT.test (DE.op (DR.i0 fun _ _ _ => .bl _) DE.var DE.var NE2.i0)) (DS.asg (DE.sel _ (DE.meth (fun _ => .nil) DE.var (DA.cons DE.var DA.nil)) (DE.meth (fun _ => .nil) DE.var (DA.cons DE.var DA.nil))) DG.name Goes.name))
      (DS.ret DE.var))))⟩
theorem metx_Draws_s5_below_of_PooledDraws (T : Txt K mg P w (κ "Source") (κ "Scripted") (κ "Draws") (κ "PooledDraws") R_SIZES) : Gx.MetX P w K mg base 5 (κ "PooledDraws") "s5_below" (spF (Wk K κ) 2 F_Draws_s5_below) := by
  obtain ⟨f, fd, M, F, b⟩ := T.d_Draws_s5_below_of_PooledDraws
  refine Gx.metX T.cl_PooledDraws M F b sc_Draws_s5_below (fun vs H Q E h => spF.len h) (fun cdv A outer s H vs Q E hr h => ?_)
  have hu := hu_of hr
  have hu64 := hr.units
  have hu65 := Ab.u65 hr
  exact ⟨_, (pss_cons (ps_set (i := 2) sc_Draws_s5_below.nd rfl (.inl rfl) (Gx.pe_cx (calx_s5_digits T) Gx.takes_cx (fun _ _ _ _ h => h) hr (by omega) (by rfl) (pa_cons (pe_op op_sub (pv 1) pe_int) pa_nil)))
      (pss_cons (ps_set (i := 3) sc_Draws_s5_below.nd rfl (.inl rfl) (Ab.PE.or (Gx.pe_mx (metx_Draws_s5_bits T) Gx.takes_cx (fun _ _ _ _ h => h) hr (by omega) (pv 0) (pa_cons (pv 2) pa_nil)) (Gx.pe_mx (metx_PooledDraws_s5_bits T) Gx.takes_cx (fun _ _ _ _ h => h) hr (by omega) (pv 0) (pa_cons (pv 2) pa_nil))))
      (pss_cons (ps_while (passes_of rfl) (pt_cmpR op_ge (pv 3) (pv 1) (nomark _)) (pss_one (ps_set (i := 3) sc_Draws_s5_below.nd rfl (.inl rfl) (Ab.PE.or (Gx.pe_mx (metx_Draws_s5_bits T) Gx.takes_cx (fun _ _ _ _ h => h) hr (by omega) (pv 0) (pa_cons (pv 2) pa_nil)) (Gx.pe_mx (metx_PooledDraws_s5_bits T) Gx.takes_cx (fun _ _ _ _ h => h) hr (by omega) (pv 0) (pa_cons (pv 2) pa_nil))))))
      (pss_one (ps_ret (pv 3)))))), Ab.DS.dfn (spF_gc h) rfl (DS.seq (DS.asg (DE.call (fun _ => .nil) (DA.cons (DE.op (DR.i0 fun _ _ _ => .int _) DE.var (DE.c fun _ => .int _) NE2.i0) DA.nil)) DG.name Goes.name)
      (DS.seq (DS.asg (DE.sel _ (DE.meth (fun _ => .nil) DE.var (DA.cons DE.var DA.nil)) (DE.meth (fun _ => .nil) DE.var (DA.cons DE.var DA.nil))) DG.name Goes.name)
      (DS.seq (DS.whileS (DT.test (DE.op (DR.i0 fun _ _ _ => .bl _) DE.var DE.var NE2.i0)) (DS.asg (DE.sel _ (DE.meth (fun _ => .nil) DE.var (DA.cons DE.var DA.nil)) (DE.meth (fun _ => .nil) DE.var (DA.cons DE.var DA.nil))) DG.name Goes.name))
      (DS.ret DE.var))))⟩
theorem metx_Draws_bits (T : Txt K mg P w (κ "Source") (κ "Scripted") (κ "Draws") (κ "PooledDraws") R_SIZES) : Gx.MetX P w K mg base 5 (κ "Draws") "bits" (spF (Wk K κ) 2 F_Draws_bits) := by
  obtain ⟨f, fd, M, F, b⟩ := T.d_Draws_bits
  refine Gx.metX T.cl_Draws M F b sc_Draws_bits (fun vs H Q E h => spF.len h) (fun cdv A outer s H vs Q E hr h => ?_)
  have hu := hu_of hr
  have hu64 := hr.units
  have hu65 := Ab.u65 hr
  exact ⟨_, (pss_cons (ps_expr (Gx.pe_cx (calx_s5_need T) Gx.takes_cx (fun _ _ _ _ h => h) hr (by omega) (by rfl) (pa_cons (pv 1) (pa_cons pe_int (pa_cons (C8.pe_gc (by rfl) T.c_MOST_BITS) pa_nil)))))
      (pss_one (ps_ret (Ab.PE.or (Gx.pe_mx (metx_Draws_s5_bits T) Gx.takes_cx (fun _ _ _ _ h => h) hr (by omega) (pv 0) (pa_cons (pv 1) pa_nil)) (Gx.pe_mx (metx_PooledDraws_s5_bits T) Gx.takes_cx (fun _ _ _ _ h => h) hr (by omega) (pv 0) (pa_cons (pv 1) pa_nil)))))), Ab.DS.dfn (spF_gc h) rfl (DS.seq (DS.drop (DE.call (fun _ => .nil) (DA.cons DE.var (DA.cons (DE.c fun _ => .int _) (DA.cons (DE.c fun _ => .int _) DA.nil)))))
      (DS.ret (DE.sel _ (DE.meth (fun _ => .nil) DE.var (DA.cons DE.var DA.nil)) (DE.meth (fun _ => .nil) DE.var (DA.cons DE.var DA.nil)))))⟩
theorem metx_Draws_bits_of_PooledDraws (T : Txt K mg P w (κ "Source") (κ "Scripted") (κ "Draws") (κ "PooledDraws") R_SIZES) : Gx.MetX P w K mg base 5 (κ "PooledDraws") "bits" (spF (Wk K κ) 2 F_Draws_bits) := by
  obtain ⟨f, fd, M, F, b⟩ := T.d_Draws_bits_of_PooledDraws
  refine Gx.metX T.cl_PooledDraws M F b sc_Draws_bits (fun vs H Q E h => spF.len h) (fun cdv A outer s H vs Q E hr h => ?_)
  have hu := hu_of hr
  have hu64 := hr.units
  have hu65 := Ab.u65 hr
  exact ⟨_, (pss_cons (ps_expr (Gx.pe_cx (calx_s5_need T) Gx.takes_cx (fun _ _ _ _ h => h) hr (by omega) (by rfl) (pa_cons (pv 1) (pa_cons pe_int (pa_cons (C8.pe_gc (by rfl) T.c_MOST_BITS) pa_nil)))))
      (pss_one (ps_ret (Ab.PE.or (Gx.pe_mx (metx_Draws_s5_bits T) Gx.takes_cx (fun _ _ _ _ h => h) hr (by omega) (pv 0) (pa_cons (pv 1) pa_nil)) (Gx.pe_mx (metx_PooledDraws_s5_bits T) Gx.takes_cx (fun _ _ _ _ h => h) hr (by omega) (pv 0) (pa_cons (pv 1) pa_nil)))))), Ab.DS.dfn (spF_gc h) rfl (DS.seq (DS.drop (DE.call (fun _ => .nil) (DA.cons DE.var (DA.cons (DE.c fun _ => .int _) (DA.cons (DE.c fun _ => .int _) DA.nil)))))
      (DS.ret (DE.sel _ (DE.meth (fun _ => .nil) DE.var (DA.cons DE.var DA.nil)) (DE.meth (fun _ => .nil) DE.var (DA.cons DE.var DA.nil)))))⟩
theorem metx_Draws_fraction (T : Txt K mg P w (κ "Source") (κ "Scripted") (κ "Draws") (κ "PooledDraws") R_SIZES) : Gx.MetX P w K mg base 5 (κ "Draws") "fraction" (spF (Wk K κ) 2 F_Draws_fraction) := by
  obtain ⟨f, fd, M, F, b⟩ := T.d_Draws_fraction
  refine Gx.metX T.cl_Draws M F b sc_Draws_fraction (fun vs H Q E h => spF.len h) (fun cdv A outer s H vs Q E hr h => ?_)
  have hu := hu_of hr
  have hu64 := hr.units
  have hu65 := Ab.u65 hr
  exact ⟨_, (pss_cons (ps_expr (Gx.pe_cx (calx_s5_need T) Gx.takes_cx (fun _ _ _ _ h => h) hr (by omega) (by rfl) (pa_cons (pv 1) (pa_cons pe_int (pa_cons (C8.pe_gc (by rfl) T.c_MOST_BITS) pa_nil)))))
      (pss_one (ps_ret (Gx.pe_cx (calx_s5_reduced T) Gx.takes_cx (fun _ _ _ _ h => h) hr (by omega) (by rfl) (pa_cons (Ab.PE.or (Gx.pe_mx (metx_Draws_s5_bits T) Gx.takes_cx (fun _ _ _ _ h => h) hr (by omega) (pv 0) (pa_cons (pv 1) pa_nil)) (Gx.pe_mx (metx_PooledDraws_s5_bits T) Gx.takes_cx (fun _ _ _ _ h => h) hr (by omega) (pv 0) (pa_cons (pv 1) pa_nil))) (pa_cons (pe_op op_shlW pe_int (pv 1)) pa_nil)))))), Ab.DS.dfn (spF_gc h) rfl (DS.seq (DS.drop (DE.call (fun _ => .nil) (DA.cons DE.var (DA.cons (DE.c fun _ => .int _) (DA.cons (DE.c fun _ => .int _) DA.nil)))))
      (DS.ret (DE.call (fun _ => .nil) (DA.cons (DE.sel _ (DE.meth (fun _ => .nil) DE.var (DA.cons DE.var DA.nil)) (DE.meth (fun _ => .nil) DE.var (DA.cons DE.var DA.nil))) (DA.cons (DE.op (DR.i fun _ _ _ => .int _) (DE.c fun _ => .int _) DE.var NE2.i) DA.nil)))))⟩
theorem metx_Draws_fraction_of_PooledDraws (T : Txt K mg P w (κ "Source") (κ "Scripted") (κ "Draws") (κ "PooledDraws") R_SIZES) : Gx.MetX P w K mg base 5 (κ "PooledDraws") "fraction" (spF (Wk K κ) 2 F_Draws_fraction) := by
  obtain ⟨f, fd, M, F, b⟩ := T.d_Draws_fraction_of_PooledDraws
  refine Gx.metX T.cl_PooledDraws M F b sc_Draws_fraction (fun vs H Q E h => spF.len h) (fun cdv A outer s H vs Q E hr h => ?_)
  have hu := hu_of hr
  have hu64 := hr.units
  have hu65 := Ab.u65 hr
  exact ⟨_, (pss_cons (ps_expr (Gx.pe_cx (calx_s5_need T) Gx.takes_cx (fun _ _ _ _ h => h) hr (by omega) (by rfl) (pa_cons (pv 1) (pa_cons pe_int (pa_cons (C8.pe_gc (by rfl) T.c_MOST_BITS) pa_nil)))))
      (pss_one (ps_ret (Gx.pe_cx (calx_s5_reduced T) Gx.takes_cx (fun _ _ _ _ h => h) hr (by omega) (by rfl) (pa_cons (Ab.PE.or (Gx.pe_mx (metx_Draws_s5_bits T) Gx.takes_cx (fun _ _ _ _ h => h) hr (by omega) (pv 0) (pa_cons (pv 1) pa_nil)) (Gx.pe_mx (metx_PooledDraws_s5_bits T) Gx.takes_cx (fun _ _ _ _ h => h) hr (by omega) (pv 0) (pa_cons (pv 1) pa_nil))) (pa_cons (pe_op op_shlW pe_int (pv 1)) pa_nil)))))), Ab.DS.dfn (spF_gc h) rfl (DS.seq (DS.drop (DE.call (fun _ => .nil) (DA.cons DE.var (DA.cons (DE.c fun _ => .int _) (DA.cons (DE.c fun _ => .int _) DA.nil)))))
      (DS.ret (DE.call (fun _ => .nil) (DA.cons (DE.sel _ (DE.meth (fun _ => .nil) DE.var (DA.cons DE.var DA.nil)) (DE.meth (fun _ => .nil) DE.var (DA.cons DE.var DA.nil))) (DA.cons (DE.op (DR.i fun _ _ _ => .int _) (DE.c fun _ => .int _) DE.var NE2.i) DA.nil)))))⟩
theorem metx_Draws_below (T : Txt K mg P w (κ "Source") (κ "Scripted") (κ "Draws") (κ "PooledDraws") R_SIZES) : Gx.MetX P w K mg base 6 (κ "Draws") "below" (spF (Wk K κ) 2 F_Draws_below) := by
  obtain ⟨f, fd, M, F, b⟩ := T.d_Draws_below
  refine Gx.metX T.cl_Draws M F b sc_Draws_below (fun vs H Q E h => spF.len h) (fun cdv A outer s H vs Q E hr h => ?_)
  have hu := hu_of hr
  have hu64 := hr.units
  have hu65 := Ab.u65 hr
  exact ⟨_, (pss_cons (ps_expr (Gx.pe_cx (calx_s5_need T) Gx.takes_cx (fun _ _ _ _ h => h) hr (by omega) (by rfl) (pa_cons (pv 1) (pa_cons pe_int (pa_cons (C8.pe_gc (by rfl) T.c_MOST_BOUND) pa_nil)))))
      (pss_one (ps_ret (Ab.PE.or (Gx.pe_mx (metx_Draws_s5_below T) Gx.takes_cx (fun _ _ _ _ h => h) hr (by omega) (pv 0) (pa_cons (pv 1) pa_nil)) (Gx.pe_mx (metx_Draws_s5_below_of_PooledDraws T) Gx.takes_cx (fun _ _ _ _ h => h) hr (by omega) (pv 0) (pa_cons (pv 1) pa_nil)))))), Ab.DS.dfn (spF_gc h) rfl (DS.seq (DS.drop (DE.call (fun _ => .nil) (DA.cons DE.var (DA.cons (DE.c fun _ => .int _) (DA.cons (DE.c fun _ => .int _) DA.nil)))))
      (DS.ret (DE.sel _ (DE.meth (fun _ => .nil) DE.var (DA.cons DE.var DA.nil)) (DE.meth (fun _ => .nil) DE.var (DA.cons DE.var DA.nil)))))⟩
theorem metx_Draws_below_of_PooledDraws (T : Txt K mg P w (κ "Source") (κ "Scripted") (κ "Draws") (κ "PooledDraws") R_SIZES) : Gx.MetX P w K mg base 6 (κ "PooledDraws") "below" (spF (Wk K κ) 2 F_Draws_below) := by
  obtain ⟨f, fd, M, F, b⟩ := T.d_Draws_below_of_PooledDraws
  refine Gx.metX T.cl_PooledDraws M F b sc_Draws_below (fun vs H Q E h => spF.len h) (fun cdv A outer s H vs Q E hr h => ?_)
  have hu := hu_of hr
  have hu64 := hr.units
  have hu65 := Ab.u65 hr
  exact ⟨_, (pss_cons (ps_expr (Gx.pe_cx (calx_s5_need T) Gx.takes_cx (fun _ _ _ _ h => h) hr (by omega) (by rfl) (pa_cons (pv 1) (pa_cons pe_int (pa_cons (C8.pe_gc (by rfl) T.c_MOST_BOUND) pa_nil)))))
      (pss_one (ps_ret (Ab.PE.or (Gx.pe_mx (metx_Draws_s5_below T) Gx.takes_cx (fun _ _ _ _ h => h) hr (by omega) (pv 0) (pa_cons (pv 1) pa_nil)) (Gx.pe_mx (metx_Draws_s5_below_of_PooledDraws T) Gx.takes_cx (fun _ _ _ _ h => h) hr (by omega) (pv 0) (pa_cons (pv 1) pa_nil)))))), Ab.DS.dfn (spF_gc h) rfl (DS.seq (DS.drop (DE.call (fun _ => .nil) (DA.cons DE.var (DA.cons (DE.c fun _ => .int _) (DA.cons (DE.c fun _ => .int _) DA.nil)))))
      (DS.ret (DE.sel _ (DE.meth (fun _ => .nil) DE.var (DA.cons DE.var DA.nil)) (DE.meth (fun _ => .nil) DE.var (DA.cons DE.var DA.nil)))))⟩
theorem metx_Draws_between (T : Txt K mg P w (κ "Source") (κ "Scripted") (κ "Draws") (κ "PooledDraws") R_SIZES) : Gx.MetX P w K mg base 6 (κ "Draws") "between" (spF (Wk K κ) 3 F_Draws_between) := by
  obtain ⟨f, fd, M, F, b⟩ := T.d_Draws_between
  refine Gx.metX T.cl_Draws M F b sc_Draws_between (fun vs H Q E h => spF.len h) (fun cdv A outer s H vs Q E hr h => ?_)
  have hu := hu_of hr
  have hu64 := hr.units
  have hu65 := Ab.u65 hr
  exact ⟨_, (pss_cons (ps_expr (Gx.pe_cx (calx_need_range T) Gx.takes_cx (fun _ _ _ _ h => h) hr (by omega) (by rfl) (pa_cons (pv 1) (pa_cons (pv 2) pa_nil))))
      (pss_one (ps_ret (pe_op (show OpR _ _ (Ab.rAddU K) by exact Ab.op_addU) (pv 1) (Ab.PE.or (Gx.pe_mx (metx_Draws_s5_below T) Gx.takes_cx (fun _ _ _ _ h => h) hr (by omega) (pv 0) (pa_cons (pe_op (show OpR _ _ (Ab.rAddU K) by exact Ab.op_addU) (pe_op op_sub (pv 2) (pv 1)) pe_int) pa_nil)) (Gx.pe_mx (metx_Draws_s5_below_of_PooledDraws T) Gx.takes_cx (fun _ _ _ _ h => h) hr (by omega) (pv 0) (pa_cons (pe_op (show OpR _ _ (Ab.rAddU K) by exact Ab.op_addU) (pe_op op_sub (pv 2) (pv 1)) pe_int) pa_nil))))))), Ab.DS.dfn (spF_gc h) rfl (DS.seq (DS.drop (DE.call (fun _ => .nil) (DA.cons DE.var (DA.cons DE.var DA.nil))))
      (DS.ret (DE.op DR.add DE.var (DE.sel _ (DE.meth (fun _ => .nil) DE.var (DA.cons (DE.op DR.add (DE.op (DR.i0 fun _ _ _ => .int _) DE.var DE.var NE2.i0) (DE.c fun _ => .int _) NE2.add) DA.nil)) (DE.meth (fun _ => .nil) DE.var (DA.cons (DE.op DR.add (DE.op (DR.i0 fun _ _ _ => .int _) DE.var DE.var NE2.i0) (DE.c fun _ => .int _) NE2.add) DA.nil))) NE2.add)))⟩
theorem metx_Draws_between_of_PooledDraws (T : Txt K mg P w (κ "Source") (κ "Scripted") (κ "Draws") (κ "PooledDraws") R_SIZES) : Gx.MetX P w K mg base 6 (κ "PooledDraws") "between" (spF (Wk K κ) 3 F_Draws_between) := by
  obtain ⟨f, fd, M, F, b⟩ := T.d_Draws_between_of_PooledDraws
  refine Gx.metX T.cl_PooledDraws M F b sc_Draws_between (fun vs H Q E h => spF.len h) (fun cdv A outer s H vs Q E hr h => ?_)
  have hu := hu_of hr
  have hu64 := hr.units
  have hu65 := Ab.u65 hr
  exact ⟨_, (pss_cons (ps_expr (Gx.pe_cx (calx_need_range T) Gx.takes_cx (fun _ _ _ _ h => h) hr (by omega) (by rfl) (pa_cons (pv 1) (pa_cons (pv 2) pa_nil))))
      (pss_one (ps_ret (pe_op (show OpR _ _ (Ab.rAddU K) by exact Ab.op_addU) (pv 1) (Ab.PE.or (Gx.pe_mx (metx_Draws_s5_below T) Gx.takes_cx (fun _ _ _ _ h => h) hr (by omega) (pv 0) (pa_cons (pe_op (show OpR _ _ (Ab.rAddU K) by exact Ab.op_addU) (pe_op op_sub (pv 2) (pv 1)) pe_int) pa_nil)) (Gx.pe_mx (metx_Draws_s5_below_of_PooledDraws T) Gx.takes_cx (fun _ _ _ _ h => h) hr (by omega) (pv 0) (pa_cons (pe_op (show OpR _ _ (Ab.rAddU K) by exact Ab.op_addU) (pe_op op_sub (pv 2) (pv 1)) pe_int) pa_nil))))))), Ab.DS.dfn (spF_gc h) rfl (DS.seq (DS.drop (DE.call (fun _ => .nil) (DA.cons DE.var (DA.cons DE.var DA.nil))))
      (DS.ret (DE.op DR.add DE.var (DE.sel _ (DE.meth (fun _ => .nil) DE.var (DA.cons (DE.op DR.add (DE.op (DR.i0 fun _ _ _ => .int _) DE.var DE.var NE2.i0) (DE.c fun _ => .int _) NE2.add) DA.nil)) (DE.meth (fun _ => .nil) DE.var (DA.cons (DE.op DR.add (DE.op (DR.i0 fun _ _ _ => .int _) DE.var DE.var NE2.i0) (DE.c fun _ => .int _) NE2.add) DA.nil))) NE2.add)))⟩
theorem metx_Draws_choice (T : Txt K mg P w (κ "Source") (κ "Scripted") (κ "Draws") (κ "PooledDraws") R_SIZES) : Gx.MetX P w K mg base 6 (κ "Draws") "choice" (spF (Wk K κ) 2 F_Draws_choice) := by
  obtain ⟨f, fd, M, F, b⟩ := T.d_Draws_choice
  refine Gx.metX T.cl_Draws M F b sc_Draws_choice (fun vs H Q E h => spF.len h) (fun cdv A outer s H vs Q E hr h => ?_)
  have hu := hu_of hr
  have hu64 := hr.units
  have hu65 := Ab.u65 hr
  exact ⟨_, (pss_cons (ps_if (PW.pt (pw_or (pt_not (pt_val (pe_callB (show CallR _ _ (Ab.rIsiTU K) by exact Ab.call_isiTU) (by rfl) T.b_isinstance (by decide +kernel) (pa_cons (pv 1) (pa_cons (pe_tup (pa_cons (pe_bltn (v := .ty "list") (by rfl) T.b_list (by decide +kernel) rfl) (pa_cons (pe_bltn (v := .ty "tuple") (by rfl) T.b_tuple (by decide +kernel) rfl) pa_nil))) pa_nil))))) (pw_or1 (pt_cmpR (show OpR _ _ (Ab.rEqU K) by exact Ab.op_eqU hu64) (pe_callB (show CallR _ _ (Ab.rLenU K) by exact Ab.call_lenU) (by rfl) T.b_len PySem.boot_len (pa_cons (pv 1) pa_nil)) pe_int (nomark _))))) (pss_one ps_never) pss_nil)
      (pss_one (ps_ret (pe_ix (show IxR _ (Ab.rIxU K) by exact Ab.ix_U) (pv 1) (Ab.PE.or (Gx.pe_mx (metx_Draws_s5_below T) Gx.takes_cx (fun _ _ _ _ h => h) hr (by omega) (pv 0) (pa_cons (pe_callB (show CallR _ _ (Ab.rLenU K) by exact Ab.call_lenU) (by rfl) T.b_len PySem.boot_len (pa_cons (pv 1) pa_nil)) pa_nil)) (Gx.pe_mx (metx_Draws_s5_below_of_PooledDraws T) Gx.takes_cx (fun _ _ _ _ h => h) hr (by omega) (pv 0) (pa_cons (pe_callB (show CallR _ _ (Ab.rLenU K) by exact Ab.call_lenU) (by rfl) T.b_len PySem.boot_len (pa_cons (pv 1) pa_nil)) pa_nil))) (fun _ _ => rfl))))), Ab.DS.dfn (spF_gc h) rfl (DS.seq (DS.ifs (DT.or (DT.not (DT.b (DE.isiT (.ty (by decide) (.ty (by decide) .nil)) (.cons (kit_list T) (.cons (kit_tuple T) .nil)) ⟨_, (kit_list T)⟩ DE.var (DA.cons (DE.c fun _ => .ty _) (DA.cons (DE.c fun _ => .ty _) DA.nil)) (fun _ _ => rfl) (by decide)))) (DT.test (DE.op DR.eq (DE.cb DB.len (DA.cons DE.var DA.nil) NEL.len) (DE.c fun _ => .int _) NE2.eq))) (DS.never fun _ _ => rfl) DS.next)
      (DS.ret (DE.op DR.ix DE.var (DE.sel _ (DE.meth (fun _ => .nil) DE.var (DA.cons (DE.cb DB.len (DA.cons DE.var DA.nil) NEL.len) DA.nil)) (DE.meth (fun _ => .nil) DE.var (DA.cons (DE.cb DB.len (DA.cons DE.var DA.nil) NEL.len) DA.nil))) NE2.ix)))⟩
theorem metx_Draws_choice_of_PooledDraws (T : Txt K mg P w (κ "Source") (κ "Scripted") (κ "Draws") (κ "PooledDraws") R_SIZES) : Gx.MetX P w K mg base 6 (κ "PooledDraws") "choice" (spF (Wk K κ) 2 F_Draws_choice) := by
  obtain ⟨f, fd, M, F, b⟩ := T.d_Draws_choice_of_PooledDraws
  refine Gx.metX T.cl_PooledDraws M F b sc_Draws_choice (fun vs H Q E h => spF.len h) (fun cdv A outer s H vs Q E hr h => ?_)
  have hu := hu_of hr
  have hu64 := hr.units
  have hu65 := Ab.u65 hr
  exact ⟨_, (pss_cons (ps_if (PW.pt (pw_or (pt_not (pt_val (pe_callB (show CallR _ _ (Ab.rIsiTU K) by exact Ab.call_isiTU) (by rfl) T.b_isinstance (by decide +kernel) (pa_cons (pv 1) (pa_cons (pe_tup (pa_cons (pe_bltn (v := .ty "list") (by rfl) T.b_list (by decide +kernel) rfl) (pa_cons (pe_bltn (v := .ty "tuple") (by rfl) T.b_tuple (by decide +kernel) rfl) pa_nil))) pa_nil))))) (pw_or1 (pt_cmpR (show OpR _ _ (Ab.rEqU K) by exact Ab.op_eqU hu64) (pe_callB (show CallR _ _ (Ab.rLenU K) by exact Ab.call_lenU) (by rfl) T.b_len PySem.boot_len (pa_cons (pv 1) pa_nil)) pe_int (nomark _))))) (pss_one ps_never) pss_nil)
      (pss_one (ps_ret (pe_ix (show IxR _ (Ab.rIxU K) by exact Ab.ix_U) (pv 1) (Ab.PE.or (Gx.pe_mx (metx_Draws_s5_below T) Gx.takes_cx (fun _ _ _ _ h => h) hr (by omega) (pv 0) (pa_cons (pe_callB (show CallR _ _ (Ab.rLenU K) by exact Ab.call_lenU) (by rfl) T.b_len PySem.boot_len (pa_cons (pv 1) pa_nil)) pa_nil)) (Gx.pe_mx (metx_Draws_s5_below_of_PooledDraws T) Gx.takes_cx (fun _ _ _ _ h => h) hr (by omega) (pv 0) (pa_cons (pe_callB (show CallR _ _ (Ab.rLenU K) by exact Ab.call_lenU) (by rfl) T.b_len PySem.boot_len (pa_cons (pv 1) pa_nil)) pa_nil))) (fun _ _ => rfl))))), Ab.DS.dfn (spF_gc h) rfl (DS.seq (DS.ifs (DT.or (DT.not (DT.b (DE.isiT (.ty (by decide) (.ty (by decide) .nil)) (.cons (kit_list T) (.cons (kit_tuple T) .nil)) ⟨_, (kit_list T)⟩ DE.var (DA.cons (DE.c fun _ => .ty _) (DA.cons (DE.c fun _ => .ty _) DA.nil)) (fun _ _ => rfl) (by decide)))) (DT.test (DE.op DR.eq (DE.cb DB.len (DA.cons DE.var DA.nil) NEL.len) (DE.c fun _ => .int _) NE2.eq))) (DS.never fun _ _ => rfl) DS.next)
      (DS.ret (DE.op DR.ix DE.var (DE.sel _ (DE.meth (fun _ => .nil) DE.var (DA.cons (DE.cb DB.len (DA.cons DE.var DA.nil) NEL.len) DA.nil)) (DE.meth (fun _ => .nil) DE.var (DA.cons (DE.cb DB.len (DA.cons DE.var DA.nil) NEL.len) DA.nil))) NE2.ix)))⟩
theorem metx_Draws_coin (T : Txt K mg P w (κ "Source") (κ "Scripted") (κ "Draws") (κ "PooledDraws") R_SIZES) : Gx.MetX P w K mg base 6 (κ "Draws") "coin" (spF (Wk K κ) 3 F_Draws_coin) := by
  obtain ⟨f, fd, M, F, b⟩ := T.d_Draws_coin
  refine Gx.metX T.cl_Draws M F b sc_Draws_coin (fun vs H Q E h => spF.len h) (fun cdv A outer s H vs Q E hr h => ?_)
  have hu := hu_of hr
  have hu64 := hr.units
  have hu65 := Ab.u65 hr
  exact ⟨_, (pss_cons (ps_expr (Gx.pe_cx (calx_need_share T) Gx.takes_cx (fun _ _ _ _ h => h) hr (by omega) (by rfl) (pa_cons (pv 1) (pa_cons (pv 2) pa_nil))))
      (pss_one (ps_ret (pe_cmpR op_lt (Ab.PE.or (Gx.pe_mx (metx_Draws_s5_below T) Gx.takes_cx (fun _ _ _ _ h => h) hr (by omega) (pv 0) (pa_cons (pv 2) pa_nil)) (Gx.pe_mx (metx_Draws_s5_below_of_PooledDraws T) Gx.takes_cx (fun _ _ _ _ h => h) hr (by omega) (pv 0) (pa_cons (pv 2) pa_nil))) (pv 1) (nomark _))))), Ab.DS.dfn (spF_gc h) rfl (DS.seq (DS.drop (DE.call (fun _ => .nil) (DA.cons DE.var (DA.cons DE.var DA.nil))))
      (DS.ret (DE.op (DR.i0 fun _ _ _ => .bl _) (DE.sel _ (DE.meth (fun _ => .nil) DE.var (DA.cons DE.var DA.nil)) (DE.meth (fun _ => .nil) DE.var (DA.cons DE.var DA.nil))) DE.var NE2.i0)))⟩
theorem metx_Draws_coin_of_PooledDraws (T : Txt K mg P w (κ "Source") (κ "Scripted") (κ "Draws") (κ "PooledDraws") R_SIZES) : Gx.MetX P w K mg base 6 (κ "PooledDraws") "coin" (spF (Wk K κ) 3 F_Draws_coin) := by
  obtain ⟨f, fd, M, F, b⟩ := T.d_Draws_coin_of_PooledDraws
  refine Gx.metX T.cl_PooledDraws M F b sc_Draws_coin (fun vs H Q E h => spF.len h) (fun cdv A outer s H vs Q E hr h => ?_)
  have hu := hu_of hr
  have hu64 := hr.units
  have hu65 := Ab.u65 hr
  exact ⟨_, (pss_cons (ps_expr (Gx.pe_cx (calx_need_share T) Gx.takes_cx (fun _ _ _ _ h => h) hr (by omega) (by rfl) (pa_cons (pv 1) (pa_cons (pv 2) pa_nil))))
      (pss_one (ps_ret (pe_cmpR op_lt (Ab.PE.or (Gx.pe_mx (metx_Draws_s5_below T) Gx.takes_cx (fun _ _ _ _ h => h) hr (by omega) (pv 0) (pa_cons (pv 2) pa_nil)) (Gx.pe_mx (metx_Draws_s5_below_of_PooledDraws T) Gx.takes_cx (fun _ _ _ _ h => h) hr (by omega) (pv 0) (pa_cons (pv 2) pa_nil))) (pv 1) (nomark _))))), Ab.DS.dfn (spF_gc h) rfl (DS.seq (DS.drop (DE.call (fun _ => .nil) (DA.cons DE.var (DA.cons DE.var DA.nil))))
      (DS.ret (DE.op (DR.i0 fun _ _ _ => .bl _) (DE.sel _ (DE.meth (fun _ => .nil) DE.var (DA.cons DE.var DA.nil)) (DE.meth (fun _ => .nil) DE.var (DA.cons DE.var DA.nil))) DE.var NE2.i0)))⟩
theorem calx__law_first (T : Txt K mg P w (κ "Source") (κ "Scripted") (κ "Draws") (κ "PooledDraws") R_SIZES) : Gx.CalX P w K mg base 6 "_law_first" (spF (Wk K κ) 2 F__law_first) := by
  obtain ⟨f, fd, F, b⟩ := T.d__law_first
  refine Gx.calX F b sc__law_first (fun vs H Q E h => spF.len h) (fun cdv A outer s H vs Q E hr h => ?_)
  have hu := hu_of hr
  have hu64 := hr.units
  have hu65 := Ab.u65 hr
  exact ⟨_, (pss_cons (ps_set (i := 2) sc__law_first.nd rfl (.inl rfl) (Gx.pe_cx (calx_digits_of T) Gx.takes_cx (fun _ _ _ _ h => h) hr (by omega) (by rfl) (pa_cons (pe_op op_sub (pv 1) pe_int) pa_nil)))
      (pss_cons (ps_set (i := 3) sc__law_first.nd rfl (.inl rfl) (Ab.PE.or (Gx.pe_mx (metx_Draws_bits T) Gx.takes_cx (fun _ _ _ _ h => h) hr (by omega) (pv 0) (pa_cons (pv 2) pa_nil)) (Gx.pe_mx (metx_Draws_bits_of_PooledDraws T) Gx.takes_cx (fun _ _ _ _ h => h) hr (by omega) (pv 0) (pa_cons (pv 2) pa_nil))))
      (pss_cons (ps_while (passes_of rfl) (pt_cmpR op_ge (pv 3) (pv 1) (nomark _)) (pss_one (ps_set (i := 3) sc__law_first.nd rfl (.inl rfl) (Ab.PE.or (Gx.pe_mx (metx_Draws_bits T) Gx.takes_cx (fun _ _ _ _ h => h) hr (by omega) (pv 0) (pa_cons (pv 2) pa_nil)) (Gx.pe_mx (metx_Draws_bits_of_PooledDraws T) Gx.takes_cx (fun _ _ _ _ h => h) hr (by omega) (pv 0) (pa_cons (pv 2) pa_nil))))))
      (pss_one (ps_ret (pv 3)))))), Ab.DS.dfn (spF_gc h) rfl (DS.seq (DS.asg (DE.call (fun _ => .nil) (DA.cons (DE.op (DR.i0 fun _ _ _ => .int _) DE.var (DE.c fun _ => .int _) NE2.i0) DA.nil)) DG.name Goes.name)
      (DS.seq (DS.asg (DE.sel _ (DE.meth (fun _ => .nil) DE.var (DA.cons DE.var DA.nil)) (DE.meth (fun _ => .nil) DE.var (DA.cons DE.var DA.nil))) DG.name Goes.name)
      (DS.seq (DS.whileS (DT.test (DE.op (DR.i0 fun _ _ _ => .bl _) DE.var DE.var NE2.i0)) (DS.asg (DE.sel _ (DE.meth (fun _ => .nil) DE.var (DA.cons DE.var DA.nil)) (DE.meth (fun _ => .nil) DE.var (DA.cons DE.var DA.nil))) DG.name Goes.name))
      (DS.ret DE.var))))⟩
theorem metx_Draws_do (T : Txt K mg P w (κ "Source") (κ "Scripted") (κ "Draws") (κ "PooledDraws") R_SIZES) : Gx.MetX P w K mg base 7 (κ "Draws") "do" (spF (Wk K κ) 2 F_Draws_do) := by
  obtain ⟨f, fd, M, F, b⟩ := T.d_Draws_do
  refine Gx.metX T.cl_Draws M F b sc_Draws_do (fun vs H Q E h => spF.len h) (fun cdv A outer s H vs Q E hr h => ?_)
  have hu := hu_of hr
  have hu64 := hr.units
  have hu65 := Ab.u65 hr
  exact ⟨_, (pss_cons (ps_expr (Gx.pe_cx (calx_need_step T) Gx.takes_cx (fun _ _ _ _ h => h) hr (by omega) (by rfl) (pa_cons (pv 1) pa_nil)))
      (pss_one (Mt.ps_match (pe_ix (show IxR _ (Ab.rIxU K) by exact Ab.ix_U) (pv 1) pe_int (fun _ _ => rfl)) (Mt.pmc_val pe_str (pss_one (ps_ret (Ab.PE.or (Gx.pe_mx (metx_Draws_bits T) Gx.takes_cx (fun _ _ _ _ h => h) hr (by omega) (pv 0) (pa_cons (pe_ix (show IxR _ (Ab.rIxU K) by exact Ab.ix_U) (pv 1) pe_int (fun _ _ => rfl)) pa_nil)) (Gx.pe_mx (metx_Draws_bits_of_PooledDraws T) Gx.takes_cx (fun _ _ _ _ h => h) hr (by omega) (pv 0) (pa_cons (pe_ix (show IxR _ (Ab.rIxU K) by exact Ab.ix_U) (pv 1) pe_int (fun _ _ => rfl)) pa_nil))))) (Mt.pmc_val pe_str (pss_one (ps_ret (Ab.PE.or (Gx.pe_mx (metx_Draws_below T) Gx.takes_cx (fun _ _ _ _ h => h) hr (by omega) (pv 0) (pa_cons (pe_ix (show IxR _ (Ab.rIxU K) by exact Ab.ix_U) (pv 1) pe_int (fun _ _ => rfl)) pa_nil)) (Gx.pe_mx (metx_Draws_below_of_PooledDraws T) Gx.takes_cx (fun _ _ _ _ h => h) hr (by omega) (pv 0) (pa_cons (pe_ix (show IxR _ (Ab.rIxU K) by exact Ab.ix_U) (pv 1) pe_int (fun _ _ => rfl)) pa_nil))))) (Mt.pmc_val pe_str (pss_one (ps_ret (Ab.PE.or (Gx.pe_mx (metx_Draws_between T) Gx.takes_cx (fun _ _ _ _ h => h) hr (by omega) (pv 0) (pa_cons (pe_ix (show IxR _ (Ab.rIxU K) by exact Ab.ix_U) (pv 1) pe_int (fun _ _ => rfl)) (pa_cons (pe_ix (show IxR _ (Ab.rIxU K) by exact Ab.ix_U) (pv 1) pe_int (fun _ _ => rfl)) pa_nil))) (Gx.pe_mx (metx_Draws_between_of_PooledDraws T) Gx.takes_cx (fun _ _ _ _ h => h) hr (by omega) (pv 0) (pa_cons (pe_ix (show IxR _ (Ab.rIxU K) by exact Ab.ix_U) (pv 1) pe_int (fun _ _ => rfl)) (pa_cons (pe_ix (show IxR _ (Ab.rIxU K) by exact Ab.ix_U) (pv 1) pe_int (fun _ _ => rfl)) pa_nil)))))) (Mt.pmc_val pe_str (pss_one (ps_ret (Ab.PE.or (Gx.pe_mx (metx_Draws_choice T) Gx.takes_cx (fun _ _ _ _ h => h) hr (by omega) (pv 0) (pa_cons (pe_ix (show IxR _ (Ab.rIxU K) by exact Ab.ix_U) (pv 1) pe_int (fun _ _ => rfl)) pa_nil)) (Gx.pe_mx (metx_Draws_choice_of_PooledDraws T) Gx.takes_cx (fun _ _ _ _ h => h) hr (by omega) (pv 0) (pa_cons (pe_ix (show IxR _ (Ab.rIxU K) by exact Ab.ix_U) (pv 1) pe_int (fun _ _ => rfl)) pa_nil))))) (Mt.pmc_val pe_str (pss_one (ps_ret (Ab.PE.or (Gx.pe_mx (metx_Draws_coin T) Gx.takes_cx (fun _ _ _ _ h => h) hr (by omega) (pv 0) (pa_cons (pe_ix (show IxR _ (Ab.rIxU K) by exact Ab.ix_U) (pv 1) pe_int (fun _ _ => rfl)) (pa_cons (pe_ix (show IxR _ (Ab.rIxU K) by exact Ab.ix_U) (pv 1) pe_int (fun _ _ => rfl)) pa_nil))) (Gx.pe_mx (metx_Draws_coin_of_PooledDraws T) Gx.takes_cx (fun _ _ _ _ h => h) hr (by omega) (pv 0) (pa_cons (pe_ix (show IxR _ (Ab.rIxU K) by exact Ab.ix_U) (pv 1) pe_int (fun _ _ => rfl)) (pa_cons (pe_ix (show IxR _ (Ab.rIxU K) by exact Ab.ix_U) (pv 1) pe_int (fun _ _ => rfl)) pa_nil)))))) (Mt.pmc_any (pss_one (ps_ret (Ab.PE.or (Gx.pe_mx (metx_Draws_fraction T) Gx.takes_cx (fun _ _ _ _ h => h) hr (by omega) (pv 0) (pa_cons (pe_ix (show IxR _ (Ab.rIxU K) by exact Ab.ix_U) (pv 1) pe_int (fun _ _ => rfl)) pa_nil)) (Gx.pe_mx (metx_Draws_fraction_of_PooledDraws T) Gx.takes_cx (fun _ _ _ _ h => h) hr (by omega) (pv 0) (pa_cons (pe_ix (show IxR _ (Ab.rIxU K) by exact Ab.ix_U) (pv 1) pe_int (fun _ _ => rfl)) pa_nil)))))))))))))), Ab.DS.dfn (spF_gc h) rfl (DS.seq (DS.drop (DE.call (fun _ => .nil) (DA.cons DE.var DA.nil)))
      (DS.match (DE.op DR.ix DE.var (DE.c fun _ => .int _) NE2.ix) (DMt.case (DS.ret (DE.sel _ (DE.meth (fun _ => .nil) DE.var (DA.cons (DE.op DR.ix DE.var (DE.c fun _ => .int _) NE2.ix) DA.nil)) (DE.meth (fun _ => .nil) DE.var (DA.cons (DE.op DR.ix DE.var (DE.c fun _ => .int _) NE2.ix) DA.nil)))) (DMt.case (DS.ret (DE.sel _ (DE.meth (fun _ => .nil) DE.var (DA.cons (DE.op DR.ix DE.var (DE.c fun _ => .int _) NE2.ix) DA.nil)) (DE.meth (fun _ => .nil) DE.var (DA.cons (DE.op DR.ix DE.var (DE.c fun _ => .int _) NE2.ix) DA.nil)))) (DMt.case (DS.ret (DE.sel _ (DE.meth (fun _ => .nil) DE.var (DA.cons (DE.op DR.ix DE.var (DE.c fun _ => .int _) NE2.ix) (DA.cons (DE.op DR.ix DE.var (DE.c fun _ => .int _) NE2.ix) DA.nil))) (DE.meth (fun _ => .nil) DE.var (DA.cons (DE.op DR.ix DE.var (DE.c fun _ => .int _) NE2.ix) (DA.cons (DE.op DR.ix DE.var (DE.c fun _ => .int _) NE2.ix) DA.nil))))) (DMt.case (DS.ret (DE.sel _ (DE.meth (fun _ => .nil) DE.var (DA.cons (DE.op DR.ix DE.var (DE.c fun _ => .int _) NE2.ix) DA.nil)) (DE.meth (fun _ => .nil) DE.var (DA.cons (DE.op DR.ix DE.var (DE.c fun _ => .int _) NE2.ix) DA.nil)))) (DMt.case (DS.ret (DE.sel _ (DE.meth (fun _ => .nil) DE.var (DA.cons (DE.op DR.ix DE.var (DE.c fun _ => .int _) NE2.ix) (DA.cons (DE.op DR.ix DE.var (DE.c fun _ => .int _) NE2.ix) DA.nil))) (DE.meth (fun _ => .nil) DE.var (DA.cons (DE.op DR.ix DE.var (DE.c fun _ => .int _) NE2.ix) (DA.cons (DE.op DR.ix DE.var (DE.c fun _ => .int _) NE2.ix) DA.nil))))) (DMt.any (DS.ret (DE.sel _ (DE.meth (fun _ => .nil) DE.var (DA.cons (DE.op DR.ix DE.var (DE.c fun _ => .int _) NE2.ix) DA.nil)) (DE.meth (fun _ => .nil) DE.var (DA.cons (DE.op DR.ix DE.var (DE.c fun _ => .int _) NE2.ix) DA.nil))))))))))))⟩
theorem metx_Draws_do_of_PooledDraws (T : Txt K mg P w (κ "Source") (κ "Scripted") (κ "Draws") (κ "PooledDraws") R_SIZES) : Gx.MetX P w K mg base 7 (κ "PooledDraws") "do" (spF (Wk K κ) 2 F_Draws_do) := by
  obtain ⟨f, fd, M, F, b⟩ := T.d_Draws_do_of_PooledDraws
  refine Gx.metX T.cl_PooledDraws M F b sc_Draws_do (fun vs H Q E h => spF.len h) (fun cdv A outer s H vs Q E hr h => ?_)
  have hu := hu_of hr
  have hu64 := hr.units
  have hu65 := Ab.u65 hr
  exact ⟨_, (pss_cons (ps_expr (Gx.pe_cx (calx_need_step T) Gx.takes_cx (fun _ _ _ _ h => h) hr (by omega) (by rfl) (pa_cons (pv 1) pa_nil)))
      (pss_one (Mt.ps_match (pe_ix (show IxR _ (Ab.rIxU K) by exact Ab.ix_U) (pv 1) pe_int (fun _ _ => rfl)) (Mt.pmc_val pe_str (pss_one (ps_ret (Ab.PE.or (Gx.pe_mx (metx_Draws_bits T) Gx.takes_cx (fun _ _ _ _ h => h) hr (by omega) (pv 0) (pa_cons (pe_ix (show IxR _ (Ab.rIxU K) by exact Ab.ix_U) (pv 1) pe_int (fun _ _ => rfl)) pa_nil)) (Gx.pe_mx (metx_Draws_bits_of_PooledDraws T) Gx.takes_cx (fun _ _ _ _ h => h) hr (by omega) (pv 0) (pa_cons (pe_ix (show IxR _ (Ab.rIxU K) by exact Ab.ix_U) (pv 1) pe_int (fun _ _ => rfl)) pa_nil))))) (Mt.pmc_val pe_str (pss_one (ps_ret (Ab.PE.or (Gx.pe_mx (metx_Draws_below T) Gx.takes_cx (fun _ _ _ _ h => h) hr (by omega) (pv 0) (pa_cons (pe_ix (show IxR _ (Ab.rIxU K) by exact Ab.ix_U) (pv 1) pe_int (fun _ _ => rfl)) pa_nil)) (Gx.pe_mx (metx_Draws_below_of_PooledDraws T) Gx.takes_cx (fun _ _ _ _ h => h) hr (by omega) (pv 0) (pa_cons (pe_ix (show IxR _ (Ab.rIxU K) by exact Ab.ix_U) (pv 1) pe_int (fun _ _ => rfl)) pa_nil))))) (Mt.pmc_val pe_str (pss_one (ps_ret (Ab.PE.or (Gx.pe_mx (metx_Draws_between T) Gx.takes_cx (fun _ _ _ _ h => h) hr (by omega) (pv 0) (pa_cons (pe_ix (show IxR _ (Ab.rIxU K) by exact Ab.ix_U) (pv 1) pe_int (fun _ _ => rfl)) (pa_cons (pe_ix (show IxR _ (Ab.rIxU K) by exact Ab.ix_U) (pv 1) pe_int (fun _ _ => rfl)) pa_nil))) (Gx.pe_mx (metx_Draws_between_of_PooledDraws T) Gx.takes_cx (fun _ _ _ _ h => h) hr (by omega) (pv 0) (pa_cons (pe_ix (show IxR _ (Ab.rIxU K) by exact Ab.ix_U) (pv 1) pe_int (fun _ _ => rfl)) (pa_cons (pe_ix (show IxR _ (Ab.rIxU K) by exact Ab.ix_U) (pv 1) pe_int (fun _ _ => rfl)) pa_nil)))))) (Mt.pmc_val pe_str (pss_one (ps_ret (Ab.PE.or (Gx.pe_mx (metx_Draws_choice T) Gx.takes_cx (fun _ _ _ _ h => h) hr (by omega) (pv 0) (pa_cons (pe_ix (show IxR _ (Ab.rIxU K) by exact Ab.ix_U) (pv 1) pe_int (fun _ _ => rfl)) pa_nil)) (Gx.pe_mx (metx_Draws_choice_of_PooledDraws T) Gx.takes_cx (fun _ _ _ _ h => h) hr (by omega) (pv 0) (pa_cons (pe_ix (show IxR _ (Ab.rIxU K) by exact Ab.ix_U) (pv 1) pe_int (fun _ _ => rfl)) pa_nil))))) (Mt.pmc_val pe_str (pss_one (ps_ret (Ab.PE.or (Gx.pe_mx (metx_Draws_coin T) Gx.takes_cx (fun _ _ _ _ h => h) hr (by omega) (pv 0) (pa_cons (pe_ix (show IxR _ (Ab.rIxU K) by exact Ab.ix_U) (pv 1) pe_int (fun _ _ => rfl)) (pa_cons (pe_ix (show IxR _ (Ab.rIxU K) by exact Ab.ix_U) (pv 1) pe_int (fun _ _ => rfl)) pa_nil))) (Gx.pe_mx (metx_Draws_coin_of_PooledDraws T) Gx.takes_cx (fun _ _ _ _ h => h) hr (by omega) (pv 0) (pa_cons (pe_ix (show IxR _ (Ab.rIxU K) by exact Ab.ix_U) (pv 1) pe_int (fun _ _ => rfl)) (pa_cons (pe_ix (show IxR _ (Ab.rIxU K) by exact Ab.ix_U) (pv 1) pe_int (fun _ _ => rfl)) pa_nil)))))) (Mt.pmc_any (pss_one (ps_ret (Ab.PE.or (Gx.pe_mx (metx_Draws_fraction T) Gx.takes_cx (fun _ _ _ _ h => h) hr (by omega) (pv 0) (pa_cons (pe_ix (show IxR _ (Ab.rIxU K) by exact Ab.ix_U) (pv 1) pe_int (fun _ _ => rfl)) pa_nil)) (Gx.pe_mx (metx_Draws_fraction_of_PooledDraws T) Gx.takes_cx (fun _ _ _ _ h => h) hr (by omega) (pv 0) (pa_cons (pe_ix (show IxR _ (Ab.rIxU K) by exact Ab.ix_U) (pv 1) pe_int (fun _ _ => rfl)) pa_nil)))))))))))))), Ab.DS.dfn (spF_gc h) rfl (DS.seq (DS.drop (DE.call (fun _ => .nil) (DA.cons DE.var DA.nil)))
      (DS.match (DE.op DR.ix DE.var (DE.c fun _ => .int _) NE2.ix) (DMt.case (DS.ret (DE.sel _ (DE.meth (fun _ => .nil) DE.var (DA.cons (DE.op DR.ix DE.var (DE.c fun _ => .int _) NE2.ix) DA.nil)) (DE.meth (fun _ => .nil) DE.var (DA.cons (DE.op DR.ix DE.var (DE.c fun _ => .int _) NE2.ix) DA.nil)))) (DMt.case (DS.ret (DE.sel _ (DE.meth (fun _ => .nil) DE.var (DA.cons (DE.op DR.ix DE.var (DE.c fun _ => .int _) NE2.ix) DA.nil)) (DE.meth (fun _ => .nil) DE.var (DA.cons (DE.op DR.ix DE.var (DE.c fun _ => .int _) NE2.ix) DA.nil)))) (DMt.case (DS.ret (DE.sel _ (DE.meth (fun _ => .nil) DE.var (DA.cons (DE.op DR.ix DE.var (DE.c fun _ => .int _) NE2.ix) (DA.cons (DE.op DR.ix DE.var (DE.c fun _ => .int _) NE2.ix) DA.nil))) (DE.meth (fun _ => .nil) DE.var (DA.cons (DE.op DR.ix DE.var (DE.c fun _ => .int _) NE2.ix) (DA.cons (DE.op DR.ix DE.var (DE.c fun _ => .int _) NE2.ix) DA.nil))))) (DMt.case (DS.ret (DE.sel _ (DE.meth (fun _ => .nil) DE.var (DA.cons (DE.op DR.ix DE.var (DE.c fun _ => .int _) NE2.ix) DA.nil)) (DE.meth (fun _ => .nil) DE.var (DA.cons (DE.op DR.ix DE.var (DE.c fun _ => .int _) NE2.ix) DA.nil)))) (DMt.case (DS.ret (DE.sel _ (DE.meth (fun _ => .nil) DE.var (DA.cons (DE.op DR.ix DE.var (DE.c fun _ => .int _) NE2.ix) (DA.cons (DE.op DR.ix DE.var (DE.c fun _ => .int _) NE2.ix) DA.nil))) (DE.meth (fun _ => .nil) DE.var (DA.cons (DE.op DR.ix DE.var (DE.c fun _ => .int _) NE2.ix) (DA.cons (DE.op DR.ix DE.var (DE.c fun _ => .int _) NE2.ix) DA.nil))))) (DMt.any (DS.ret (DE.sel _ (DE.meth (fun _ => .nil) DE.var (DA.cons (DE.op DR.ix DE.var (DE.c fun _ => .int _) NE2.ix) DA.nil)) (DE.meth (fun _ => .nil) DE.var (DA.cons (DE.op DR.ix DE.var (DE.c fun _ => .int _) NE2.ix) DA.nil))))))))))))⟩
theorem calx__law_pair (T : Txt K mg P w (κ "Source") (κ "Scripted") (κ "Draws") (κ "PooledDraws") R_SIZES) : Gx.CalX P w K mg base 7 "_law_pair" (spF (Wk K κ) 2 F__law_pair) := by
  obtain ⟨f, fd, F, b⟩ := T.d__law_pair
  refine Gx.calX F b sc__law_pair (fun vs H Q E h => spF.len h) (fun cdv A outer s H vs Q E hr h => ?_)
  have hu := hu_of hr
  have hu64 := hr.units
  have hu65 := Ab.u65 hr
  exact ⟨_, (pss_cons (ps_if (pt_val (pv 1)) (pss_one (ps_ret (pe_lst (pa_cons (Gx.pe_mkx (makx_PooledDraws T) Gx.takes_cx (fun _ _ _ _ h => h) hr (by omega) (by rfl) (pa_cons (Gx.pe_mkx (makx_Scripted_d1 T) Gx.takes_cx (fun _ _ _ _ h => h) hr (by omega) (by rfl) (pa_cons (pv 0) pa_nil)) pa_nil)) (pa_cons (Gx.pe_mkx (makx_PooledDraws T) Gx.takes_cx (fun _ _ _ _ h => h) hr (by omega) (by rfl) (pa_cons (Gx.pe_mkx (makx_Scripted_d1 T) Gx.takes_cx (fun _ _ _ _ h => h) hr (by omega) (by rfl) (pa_cons (pv 0) pa_nil)) pa_nil)) pa_nil))))) pss_nil)
      (pss_one (ps_ret (pe_lst (pa_cons (Gx.pe_mkx (makx_Draws T) Gx.takes_cx (fun _ _ _ _ h => h) hr (by omega) (by rfl) (pa_cons (Gx.pe_mkx (makx_Scripted_d1 T) Gx.takes_cx (fun _ _ _ _ h => h) hr (by omega) (by rfl) (pa_cons (pv 0) pa_nil)) pa_nil)) (pa_cons (Gx.pe_mkx (makx_Draws T) Gx.takes_cx (fun _ _ _ _ h => h) hr (by omega) (by rfl) (pa_cons (Gx.pe_mkx (makx_Scripted_d1 T) Gx.takes_cx (fun _ _ _ _ h => h) hr (by omega) (by rfl) (pa_cons (pv 0) pa_nil)) pa_nil)) pa_nil)))))), Ab.DS.dfn (spF_gc h) rfl (DS.seq (DS.ifs (DT.b DE.var) (DS.ret (DE.lst (DA.cons (DE.make (fun _ => .nil) (show "PooledDraws" ∈ (["Source", "Scripted", "Draws", "PooledDraws"] : List String) by decide) (DA.cons (DE.make (fun _ => (.cons (.int _) .nil)) (show "Scripted" ∈ (["Source", "Scripted", "Draws", "PooledDraws"] : List String) by decide) (DA.cons DE.var DA.nil)) DA.nil)) (DA.cons (DE.make (fun _ => .nil) (show "PooledDraws" ∈ (["Source", "Scripted", "Draws", "PooledDraws"] : List String) by decide) (DA.cons (DE.make (fun _ => (.cons (.int _) .nil)) (show "Scripted" ∈ (["Source", "Scripted", "Draws", "PooledDraws"] : List String) by decide) (DA.cons DE.var DA.nil)) DA.nil)) DA.nil)))) DS.next)
      (DS.ret (DE.lst (DA.cons (DE.make (fun _ => .nil) (show "Draws" ∈ (["Source", "Scripted", "Draws", "PooledDraws"] : List String) by decide) (DA.cons (DE.make (fun _ => (.cons (.int _) .nil)) (show "Scripted" ∈ (["Source", "Scripted", "Draws", "PooledDraws"] : List String) by decide) (DA.cons DE.var DA.nil)) DA.nil)) (DA.cons (DE.make (fun _ => .nil) (show "Draws" ∈ (["Source", "Scripted", "Draws", "PooledDraws"] : List String) by decide) (DA.cons (DE.make (fun _ => (.cons (.int _) .nil)) (show "Scripted" ∈ (["Source", "Scripted", "Draws", "PooledDraws"] : List String) by decide) (DA.cons DE.var DA.nil)) DA.nil)) DA.nil)))))⟩
theorem calx__law_digits_right (T : Txt K mg P w (κ "Source") (κ "Scripted") (κ "Draws") (κ "PooledDraws") R_SIZES) : Gx.CalX P w K mg base 7 "_law_digits_right" (spF (Wk K κ) 1 F__law_digits_right) := by
  obtain ⟨f, fd, F, b⟩ := T.d__law_digits_right
  refine Gx.calX F b sc__law_digits_right (fun vs H Q E h => spF.len h) (fun cdv A outer s H vs Q E hr h => ?_)
  have hu := hu_of hr
  have hu64 := hr.units
  have hu65 := Ab.u65 hr
  exact ⟨_, (pss_cons (ps_set (i := 1) sc__law_digits_right.nd rfl (.inl rfl) (pe_callTy Gx.call_tupOf (by rfl) T.b_tuple (by decide +kernel) (pa_cons (pe_lc (own := [("_law_turn", 2)]) rfl sc__law_digits_right.nd (pi_range1 rfl T.b_range (pa_cons pe_int pa_nil)) (blkOk_by (N := ["_law_draw", "_law_row", "_law_turn", "_law_near", "_law_far", "_law_many", "_law_due", "_law_at", "_law_one", "_law_count", "_law_found"]) (sc := C8.fnScope s__law_digits_right) (by decide +kernel)) (fun _ _ _ _ _ => (pg_name (i := 2) sc__law_digits_right.nd rfl (.inl rfl))) (fun _ _ _ _ _ => pts_nil) (fun _ _ _ _ _ => (Gx.pe_cx (calx__law_next T) LamX.takes0 (E := fun _ _ _ => False) (fun _ _ _ _ h => h) hr (by omega) (by rfl) (pa_cons (pv 0) (pa_cons pe_int pa_nil))))) pa_nil)))
      (pss_cons (ps_asg (pe_tup (pa_cons (Gx.pe_mkx (makx_Draws T) Gx.takes_cx (fun _ _ _ _ h => h) hr (by omega) (by rfl) (pa_cons (Gx.pe_mkx (makx_Scripted_d1 T) Gx.takes_cx (fun _ _ _ _ h => h) hr (by omega) (by rfl) (pa_cons (pv 1) pa_nil)) pa_nil)) (pa_cons (Gx.pe_mkx (makx_PooledDraws T) Gx.takes_cx (fun _ _ _ _ h => h) hr (by omega) (by rfl) (pa_cons (Gx.pe_mkx (makx_Scripted_d1 T) Gx.takes_cx (fun _ _ _ _ h => h) hr (by omega) (by rfl) (pa_cons (pv 1) pa_nil)) pa_nil)) (pa_cons (Gx.pe_cx (calx__law_next T) Gx.takes_cx (fun _ _ _ _ h => h) hr (by omega) (by rfl) (pa_cons (pv 0) (pa_cons pe_int pa_nil))) pa_nil)))) (show PG _ _ (gTup K 3 _) by exact pg_tup rfl (pgs_cons (pg_name (i := 3) sc__law_digits_right.nd rfl (.inl rfl)) (pgs_cons (pg_name (i := 4) sc__law_digits_right.nd rfl (.inr rfl)) (pgs_cons (pg_name (i := 5) sc__law_digits_right.nd rfl (.inl rfl)) pgs_nil)))))
      (pss_cons (ps_set (i := 6) sc__law_digits_right.nd rfl (.inr rfl) (pe_callB (show CallR _ _ (rSum K) by exact cr_sum rfl) (by rfl) T.b_sum (by decide +kernel) (pa_cons (pe_lc (own := [("_law_at", 7), ("_law_one", 8)]) rfl sc__law_digits_right.nd (show PI _ _ _ (Ab.enU K _) by exact Ab.PI.or (pi_enum (by rfl) T.b_enumerate (pa_cons (pv 1) pa_nil)) (Gx.pi_enT (by rfl) T.b_enumerate (pa_cons (pv 1) pa_nil))) (blkOk_by (N := ["_law_draw", "_law_row", "_law_turn", "_law_near", "_law_far", "_law_many", "_law_due", "_law_at", "_law_one", "_law_count", "_law_found"]) (sc := C8.fnScope s__law_digits_right) (by decide +kernel)) (fun _ _ _ _ _ => (show PG _ _ (gTup K 2 _) by exact pg_tup rfl (pgs_cons (pg_name (i := 7) sc__law_digits_right.nd rfl (.inl rfl)) (pgs_cons (pg_name (i := 8) sc__law_digits_right.nd rfl (.inl rfl)) pgs_nil)))) (fun _ _ _ _ _ => pts_nil) (fun _ _ _ _ _ => (pe_op op_shlW (pv 8) (pe_op Ab.op_mulU pe_int (pv 7))))) pa_nil)))
      (pss_cons (ps_if (PW.pt (pw_or (pt_cmpR (show OpR _ _ (Ab.rNeU K) by exact Ab.op_neU hu64) (Ab.PE.or (Gx.pe_mx (metx_Draws_bits T) Gx.takes_cx (fun _ _ _ _ h => h) hr (by omega) (pv 3) (pa_cons pe_int pa_nil)) (Gx.pe_mx (metx_Draws_bits_of_PooledDraws T) Gx.takes_cx (fun _ _ _ _ h => h) hr (by omega) (pv 3) (pa_cons pe_int pa_nil))) (pv 6) (nomark _)) (pw_or (pt_cmpR (show OpR _ _ (Ab.rNeU K) by exact Ab.op_neU hu64) (Ab.PE.or (Gx.pe_mx (metx_Draws_bits T) Gx.takes_cx (fun _ _ _ _ h => h) hr (by omega) (pv 4) (pa_cons pe_int pa_nil)) (Gx.pe_mx (metx_Draws_bits_of_PooledDraws T) Gx.takes_cx (fun _ _ _ _ h => h) hr (by omega) (pv 4) (pa_cons pe_int pa_nil))) (pv 6) (nomark _)) (pw_or1 (pt_cmpR (show OpR _ _ (Ab.rNeU K) by exact Ab.op_neU hu64) (Gx.pe_propC (pv 4) (prop_PooledDraws_pool T) hr (by omega) rfl) (pe_tup (pa_cons pe_int (pa_cons pe_int pa_nil))) (nomark _)))))) (pss_one (ps_ret pe_bl)) pss_nil)
      (pss_cons (ps_asg (pe_tup (pa_cons (Gx.pe_mkx (makx_Draws T) Gx.takes_cx (fun _ _ _ _ h => h) hr (by omega) (by rfl) (pa_cons (Gx.pe_mkx (makx_Scripted_d1 T) Gx.takes_cx (fun _ _ _ _ h => h) hr (by omega) (by rfl) (pa_cons (pv 1) pa_nil)) pa_nil)) (pa_cons (Gx.pe_mkx (makx_PooledDraws T) Gx.takes_cx (fun _ _ _ _ h => h) hr (by omega) (by rfl) (pa_cons (Gx.pe_mkx (makx_Scripted_d1 T) Gx.takes_cx (fun _ _ _ _ h => h) hr (by omega) (by rfl) (pa_cons (pv 1) pa_nil)) pa_nil)) pa_nil))) (show PG _ _ (gTup K 2 _) by exact pg_tup rfl (pgs_cons (pg_name (i := 3) sc__law_digits_right.nd rfl (.inl rfl)) (pgs_cons (pg_name (i := 4) sc__law_digits_right.nd rfl (.inr rfl)) pgs_nil))))
      (pss_cons (ps_if (pt_cmpR (show OpR _ _ (Ab.rNeU K) by exact Ab.op_neU hu64) (pe_op (show OpR _ _ (Ab.rAddU K) by exact Ab.op_addU) (Ab.PE.or (Gx.pe_mx (metx_Draws_bits T) Gx.takes_cx (fun _ _ _ _ h => h) hr (by omega) (pv 3) (pa_cons (pe_op Ab.op_mulU pe_int (pv 5)) pa_nil)) (Gx.pe_mx (metx_Draws_bits_of_PooledDraws T) Gx.takes_cx (fun _ _ _ _ h => h) hr (by omega) (pv 3) (pa_cons (pe_op Ab.op_mulU pe_int (pv 5)) pa_nil))) (pe_op op_shlW (Ab.PE.or (Gx.pe_mx (metx_Draws_bits T) Gx.takes_cx (fun _ _ _ _ h => h) hr (by omega) (pv 3) (pa_cons (pe_op op_sub pe_int (pe_op Ab.op_mulU pe_int (pv 5))) pa_nil)) (Gx.pe_mx (metx_Draws_bits_of_PooledDraws T) Gx.takes_cx (fun _ _ _ _ h => h) hr (by omega) (pv 3) (pa_cons (pe_op op_sub pe_int (pe_op Ab.op_mulU pe_int (pv 5))) pa_nil))) (pe_op Ab.op_mulU pe_int (pv 5)))) (pv 6) (nomark _)) (pss_one (ps_ret pe_bl)) pss_nil)
      (pss_cons (ps_set (i := 9) sc__law_digits_right.nd rfl (.inl rfl) (Gx.pe_cx (calx__law_next T) Gx.takes_cx (fun _ _ _ _ h => h) hr (by omega) (by rfl) (pa_cons (pv 0) (pa_cons pe_int pa_nil))))
      (pss_cons (ps_setLc (i := 10) (own := [("_law_turn", 2)]) rfl sc__law_digits_right.nd rfl rfl (sw_true rfl rfl rfl (by decide +kernel)) (pi_range1 rfl T.b_range (pa_cons (pv 9) pa_nil)) (blkOk_by (N := ["_law_draw", "_law_row", "_law_turn", "_law_near", "_law_far", "_law_many", "_law_due", "_law_at", "_law_one", "_law_count", "_law_found"]) (sc := C8.fnScope s__law_digits_right) (by decide +kernel)) (fun _ _ _ _ _ => (pg_name (i := 2) sc__law_digits_right.nd rfl (.inl rfl))) (fun _ _ _ _ _ => pts_nil) (fun _ _ _ _ _ => (Ab.PE.or (Gx.pe_mx (metx_Draws_bits T) LamX.takes0 (E := fun _ _ _ => False) (fun _ _ _ _ h => h) hr (by omega) (pv 4) (pa_cons pe_int pa_nil)) (Gx.pe_mx (metx_Draws_bits_of_PooledDraws T) LamX.takes0 (E := fun _ _ _ => False) (fun _ _ _ _ h => h) hr (by omega) (pv 4) (pa_cons pe_int pa_nil)))))
      (pss_one (ps_ret (pe_and (pe_cmpR (show OpR _ _ (Ab.rEqU K) by exact Ab.op_eqU hu64) (pv 10) (pe_lc (own := [("_law_at", 7)]) rfl sc__law_digits_right.nd (pi_range1 rfl T.b_range (pa_cons (pv 9) pa_nil)) (blkOk_by (N := ["_law_draw", "_law_row", "_law_turn", "_law_near", "_law_far", "_law_many", "_law_due", "_law_at", "_law_one", "_law_count", "_law_found"]) (sc := C8.fnScope s__law_digits_right) (by decide +kernel)) (fun _ _ _ _ _ => (pg_name (i := 7) sc__law_digits_right.nd rfl (.inl rfl))) (fun _ _ _ _ _ => pts_nil) (fun _ _ _ _ _ => (pe_op op_and (pe_op op_shr (pv 6) (pv 7)) pe_int))) (nomark _)) (pe_one (pe_cmpR (show OpR _ _ (Ab.rEqU K) by exact Ab.op_eqU hu64) (Ab.PE.or (Gx.pe_propC (pv 4) (prop_Draws_words_used T) hr (by omega) rfl) (Gx.pe_propC (pv 4) (prop_Draws_words_used_of_PooledDraws T) hr (by omega) rfl)) (pe_op op_fdivW (pe_op (show OpR _ _ (Ab.rAddU K) by exact Ab.op_addU) (pv 9) pe_int) pe_int) (nomark _)))))))))))))), Ab.DS.dfn (spF_gc h) rfl (DS.seq (DS.asg (DE.cb DB.tuple (DA.cons (DE.lc (DI.rng1 (DA.cons (DE.c fun _ => .int _) DA.nil)) DG.name Goes.name (WT.name (by decide)) DT.yes (DE.call (fun _ => .nil) (DA.cons DE.var (DA.cons (DE.c fun _ => .int _) DA.nil)))) DA.nil) NEL.tuple) DG.name Goes.name)
      (DS.seq (DS.asg (DE.tup (DA.cons (DE.make (fun _ => .nil) (show "Draws" ∈ (["Source", "Scripted", "Draws", "PooledDraws"] : List String) by decide) (DA.cons (DE.make (fun _ => (.cons (.int _) .nil)) (show "Scripted" ∈ (["Source", "Scripted", "Draws", "PooledDraws"] : List String) by decide) (DA.cons DE.var DA.nil)) DA.nil)) (DA.cons (DE.make (fun _ => .nil) (show "PooledDraws" ∈ (["Source", "Scripted", "Draws", "PooledDraws"] : List String) by decide) (DA.cons (DE.make (fun _ => (.cons (.int _) .nil)) (show "Scripted" ∈ (["Source", "Scripted", "Draws", "PooledDraws"] : List String) by decide) (DA.cons DE.var DA.nil)) DA.nil)) (DA.cons (DE.call (fun _ => .nil) (DA.cons DE.var (DA.cons (DE.c fun _ => .int _) DA.nil))) DA.nil)))) (DG.tup (DGs.cons DG.name (DGs.cons DG.name (DGs.cons DG.name DGs.nil)))) (Goes.tup (GoesL.cons Goes.name (GoesL.cons Goes.name (GoesL.cons Goes.name GoesL.nil)))))
      (DS.seq (DS.asg (DE.cb DB.sum (DA.cons (DE.lc (DI.enumU (DA.cons DE.var DA.nil)) (DG.tup (DGs.cons DG.name (DGs.cons DG.name DGs.nil))) (Goes.tup (GoesL.cons Goes.name (GoesL.cons Goes.name GoesL.nil))) (WT.tup (WTs.cons (WT.name (by decide)) (WTs.cons (WT.name (by decide)) WTs.nil))) DT.yes (DE.op (DR.i fun _ _ _ => .int _) DE.var (DE.op DR.mul (DE.c fun _ => .int _) DE.var NE2.mul) NE2.i)) DA.nil) NEL.sum) DG.name Goes.name)
      (DS.seq (DS.ifs (DT.gc (DT.or (DT.test (DE.op DR.ne (DE.sel _ (DE.meth (fun _ => .nil) DE.var (DA.cons (DE.c fun _ => .int _) DA.nil)) (DE.meth (fun _ => .nil) DE.var (DA.cons (DE.c fun _ => .int _) DA.nil))) DE.var NE2.ne)) (DT.or (DT.test (DE.op DR.ne (DE.sel _ (DE.meth (fun _ => .nil) DE.var (DA.cons (DE.c fun _ => .int _) DA.nil)) (DE.meth (fun _ => .nil) DE.var (DA.cons (DE.c fun _ => .int _) DA.nil))) DE.var NE2.ne)) (DT.test (DE.op DR.ne (DE.prop DE.var) (DE.tup (DA.cons (DE.c fun _ => .int _) (DA.cons (DE.c fun _ => .int _) DA.nil))) NE2.ne))))) (DS.ret (DE.c fun _ => .bl _)) DS.next)
      (DS.seq (DS.asg (DE.tup (DA.cons (DE.make (fun _ => .nil) (show "Draws" ∈ (["Source", "Scripted", "Draws", "PooledDraws"] : List String) by decide) (DA.cons (DE.make (fun _ => (.cons (.int _) .nil)) (show "Scripted" ∈ (["Source", "Scripted", "Draws", "PooledDraws"] : List String) by decide) (DA.cons DE.var DA.nil)) DA.nil)) (DA.cons (DE.make (fun _ => .nil) (show "PooledDraws" ∈ (["Source", "Scripted", "Draws", "PooledDraws"] : List String) by decide) (DA.cons (DE.make (fun _ => (.cons (.int _) .nil)) (show "Scripted" ∈ (["Source", "Scripted", "Draws", "PooledDraws"] : List String) by decide) (DA.cons DE.var DA.nil)) DA.nil)) DA.nil))) (DG.tup (DGs.cons DG.name (DGs.cons DG.name DGs.nil))) (Goes.tup (GoesL.cons Goes.name (GoesL.cons Goes.name GoesL.nil))))
      (DS.seq (DS.ifs (DT.gc (DT.test (DE.op DR.ne (DE.op DR.add (DE.sel _ (DE.meth (fun _ => .nil) DE.var (DA.cons (DE.op DR.mul (DE.c fun _ => .int _) DE.var NE2.mul) DA.nil)) (DE.meth (fun _ => .nil) DE.var (DA.cons (DE.op DR.mul (DE.c fun _ => .int _) DE.var NE2.mul) DA.nil))) (DE.op (DR.i fun _ _ _ => .int _) (DE.sel _ (DE.meth (fun _ => .nil) DE.var (DA.cons (DE.op (DR.i0 fun _ _ _ => .int _) (DE.c fun _ => .int _) (DE.op DR.mul (DE.c fun _ => .int _) DE.var NE2.mul) NE2.i0) DA.nil)) (DE.meth (fun _ => .nil) DE.var (DA.cons (DE.op (DR.i0 fun _ _ _ => .int _) (DE.c fun _ => .int _) (DE.op DR.mul (DE.c fun _ => .int _) DE.var NE2.mul) NE2.i0) DA.nil))) (DE.op DR.mul (DE.c fun _ => .int _) DE.var NE2.mul) NE2.i) NE2.add) DE.var NE2.ne))) (DS.ret (DE.c fun _ => .bl _)) DS.next)
      (DS.seq (DS.asg (DE.call (fun _ => .nil) (DA.cons DE.var (DA.cons (DE.c fun _ => .int _) DA.nil))) DG.name Goes.name)
      (DS.seq (DS.asg (DE.lc (DI.rng1 (DA.cons DE.var DA.nil)) DG.name Goes.name (WT.name (by decide)) DT.yes (DE.sel _ (DE.meth (fun _ => .nil) DE.var (DA.cons (DE.c fun _ => .int _) DA.nil)) (DE.meth (fun _ => .nil) DE.var (DA.cons (DE.c fun _ => .int _) DA.nil)))) DG.name Goes.name)
      (DS.ret (DE.andV (DE.op DR.eq DE.var (DE.lc (DI.rng1 (DA.cons DE.var DA.nil)) DG.name Goes.name (WT.name (by decide)) DT.yes (DE.op (DR.i0 fun _ _ _ => .int _) (DE.op (DR.i fun _ _ _ => .int _) DE.var DE.var NE2.i) (DE.c fun _ => .int _) NE2.i0)) NE2.eq) (DE.op DR.eq (DE.sel _ (DE.prop DE.var) (DE.prop DE.var)) (DE.op (DR.i fun _ _ _ => .int _) (DE.op DR.add DE.var (DE.c fun _ => .int _) NE2.add) (DE.c fun _ => .int _) NE2.i) NE2.eq)))))))))))⟩
theorem calx__law_alike (T : Txt K mg P w (κ "Source") (κ "Scripted") (κ "Draws") (κ "PooledDraws") R_SIZES) : Gx.CalX P w K mg base 8 "_law_alike" (spF (Wk K κ) 3 F__law_alike) := by
  obtain ⟨f, fd, F, b⟩ := T.d__law_alike
  refine Gx.calX F b sc__law_alike (fun vs H Q E h => spF.len h) (fun cdv A outer s H vs Q E hr h => ?_)
  have hu := hu_of hr
  have hu64 := hr.units
  have hu65 := Ab.u65 hr
  exact ⟨_, (pss_cons (ps_par (i := 3) (j := 4) rfl sc__law_alike.nd rfl rfl (by decide) rfl rfl (pa_cons (Gx.pe_cx (calx__law_next T) Gx.takes_cx (fun _ _ _ _ h => h) hr (by omega) (by rfl) (pa_cons (pv 0) (pa_cons pe_int pa_nil))) (pa_cons (pe_op (show OpR _ _ (Ab.rAddU K) by exact Ab.op_addU) pe_int (Gx.pe_cx (calx__law_next T) Gx.takes_cx (fun _ _ _ _ h => h) hr (by omega) (by rfl) (pa_cons (pv 0) (pa_cons (Gx.pe_cx (calx__law_pick T) Gx.takes_cx (fun _ _ _ _ h => h) hr (by omega) (by rfl) (pa_cons (pv 0) (pa_cons (pe_lst (pa_cons pe_int (pa_cons pe_int (pa_cons pe_int (pa_cons (pe_op op_shlW pe_int pe_int) (pa_cons (pe_op op_shlW pe_int pe_int) (pa_cons (pe_op op_shlW pe_int pe_int) pa_nil))))))) pa_nil))) pa_nil)))) pa_nil)) (by rfl))
      (pss_cons (ps_par3 (i := 5) (j := 6) (l := 7) rfl sc__law_alike.nd rfl rfl rfl (by decide) (by decide) (by decide) rfl rfl rfl (pa_cons (Gx.pe_cx (calx__law_next T) Gx.takes_cx (fun _ _ _ _ h => h) hr (by omega) (by rfl) (pa_cons (pv 0) (pa_cons (pe_op (show OpR _ _ (Ab.rAddU K) by exact Ab.op_addU) (pv 4) pe_int) pa_nil))) (pa_cons (pe_op op_sub (Gx.pe_cx (calx__law_next T) Gx.takes_cx (fun _ _ _ _ h => h) hr (by omega) (by rfl) (pa_cons (pv 0) (pa_cons pe_int pa_nil))) pe_int) (pa_cons (Gx.pe_cx (calx__law_next T) Gx.takes_cx (fun _ _ _ _ h => h) hr (by omega) (by rfl) (pa_cons (pv 0) (pa_cons pe_int pa_nil))) pa_nil))) (by rfl))
      (pss_cons (ps_if (pt_cmpR (show OpR _ _ (Ab.rEqU K) by exact Ab.op_eqU hu64) (pv 3) pe_int (nomark _)) (pss_one (ps_ret (pe_cmpR (show OpR _ _ (Ab.rEqU K) by exact Ab.op_eqU hu64) (Ab.PE.or (Gx.pe_mx (metx_Draws_between T) Gx.takes_cx (fun _ _ _ _ h => h) hr (by omega) (pv 1) (pa_cons (pv 6) (pa_cons (pe_op op_sub (pe_op (show OpR _ _ (Ab.rAddU K) by exact Ab.op_addU) (pv 6) (pv 4)) pe_int) pa_nil))) (Gx.pe_mx (metx_Draws_between_of_PooledDraws T) Gx.takes_cx (fun _ _ _ _ h => h) hr (by omega) (pv 1) (pa_cons (pv 6) (pa_cons (pe_op op_sub (pe_op (show OpR _ _ (Ab.rAddU K) by exact Ab.op_addU) (pv 6) (pv 4)) pe_int) pa_nil)))) (pe_op (show OpR _ _ (Ab.rAddU K) by exact Ab.op_addU) (pv 6) (Ab.PE.or (Gx.pe_mx (metx_Draws_below T) Gx.takes_cx (fun _ _ _ _ h => h) hr (by omega) (pv 2) (pa_cons (pv 4) pa_nil)) (Gx.pe_mx (metx_Draws_below_of_PooledDraws T) Gx.takes_cx (fun _ _ _ _ h => h) hr (by omega) (pv 2) (pa_cons (pv 4) pa_nil)))) (nomark _)))) pss_nil)
      (pss_cons (ps_if (pt_cmpR (show OpR _ _ (Ab.rEqU K) by exact Ab.op_eqU hu64) (pv 3) pe_int (nomark _)) (pss_one (ps_ret (pe_cmpR (show OpR _ _ (Ab.rEqU K) by exact Ab.op_eqU hu64) (pe_lst (pa_cons (Ab.PE.or (Gx.pe_mx (metx_Draws_coin T) Gx.takes_cx (fun _ _ _ _ h => h) hr (by omega) (pv 1) (pa_cons (pv 5) (pa_cons (pv 4) pa_nil))) (Gx.pe_mx (metx_Draws_coin_of_PooledDraws T) Gx.takes_cx (fun _ _ _ _ h => h) hr (by omega) (pv 1) (pa_cons (pv 5) (pa_cons (pv 4) pa_nil)))) pa_nil)) (pe_lst (pa_cons (pe_cmpR op_lt (Ab.PE.or (Gx.pe_mx (metx_Draws_below T) Gx.takes_cx (fun _ _ _ _ h => h) hr (by omega) (pv 2) (pa_cons (pv 4) pa_nil)) (Gx.pe_mx (metx_Draws_below_of_PooledDraws T) Gx.takes_cx (fun _ _ _ _ h => h) hr (by omega) (pv 2) (pa_cons (pv 4) pa_nil))) (pv 5) (nomark _)) pa_nil)) (nomark _)))) pss_nil)
      (pss_cons (ps_if (pt_cmpR (show OpR _ _ (Ab.rEqU K) by exact Ab.op_eqU hu64) (pv 3) pe_int (nomark _)) (pss_cons (ps_set (i := 8) sc__law_alike.nd rfl (.inl rfl) (pe_slice (show SlR _ (Ab.rSlU K) by exact Ab.sl_U) (pe_callTy (show CallR _ _ Gx.rLstStr by exact Gx.call_lstStr rfl) (by rfl) T.b_list (by decide +kernel) (pa_cons pe_str pa_nil)) po_none (po_some (pe_op (show OpR _ _ (Ab.rAddU K) by exact Ab.op_addU) pe_int (pe_op op_mod (pv 5) pe_int)))))
      (pss_one (ps_ret (pe_cmpR (show OpR _ _ (Ab.rEqU K) by exact Ab.op_eqU hu64) (Ab.PE.or (Gx.pe_mx (metx_Draws_choice T) Gx.takes_cx (fun _ _ _ _ h => h) hr (by omega) (pv 1) (pa_cons (pv 8) pa_nil)) (Gx.pe_mx (metx_Draws_choice_of_PooledDraws T) Gx.takes_cx (fun _ _ _ _ h => h) hr (by omega) (pv 1) (pa_cons (pv 8) pa_nil))) (pe_ix (show IxR _ (Ab.rIxU K) by exact Ab.ix_U) (pv 8) (Ab.PE.or (Gx.pe_mx (metx_Draws_below T) Gx.takes_cx (fun _ _ _ _ h => h) hr (by omega) (pv 2) (pa_cons (pe_callB (show CallR _ _ (Ab.rLenU K) by exact Ab.call_lenU) (by rfl) T.b_len PySem.boot_len (pa_cons (pv 8) pa_nil)) pa_nil)) (Gx.pe_mx (metx_Draws_below_of_PooledDraws T) Gx.takes_cx (fun _ _ _ _ h => h) hr (by omega) (pv 2) (pa_cons (pe_callB (show CallR _ _ (Ab.rLenU K) by exact Ab.call_lenU) (by rfl) T.b_len PySem.boot_len (pa_cons (pv 8) pa_nil)) pa_nil))) (fun _ _ => rfl)) (nomark _))))) pss_nil)
      (pss_cons (ps_if (pt_cmpR (show OpR _ _ (Ab.rEqU K) by exact Ab.op_eqU hu64) (pv 3) pe_int (nomark _)) (pss_one (ps_ret (Gx.pe_cx (calx__law_fraction_right T) Gx.takes_cx (fun _ _ _ _ h => h) hr (by omega) (by rfl) (pa_cons (Ab.PE.or (Gx.pe_mx (metx_Draws_fraction T) Gx.takes_cx (fun _ _ _ _ h => h) hr (by omega) (pv 1) (pa_cons (pv 7) pa_nil)) (Gx.pe_mx (metx_Draws_fraction_of_PooledDraws T) Gx.takes_cx (fun _ _ _ _ h => h) hr (by omega) (pv 1) (pa_cons (pv 7) pa_nil))) (pa_cons (Ab.PE.or (Gx.pe_mx (metx_Draws_bits T) Gx.takes_cx (fun _ _ _ _ h => h) hr (by omega) (pv 2) (pa_cons (pv 7) pa_nil)) (Gx.pe_mx (metx_Draws_bits_of_PooledDraws T) Gx.takes_cx (fun _ _ _ _ h => h) hr (by omega) (pv 2) (pa_cons (pv 7) pa_nil))) (pa_cons (pv 7) pa_nil)))))) pss_nil)
      (pss_cons (ps_if (pt_cmpR (show OpR _ _ (Ab.rEqU K) by exact Ab.op_eqU hu64) (pv 3) pe_int (nomark _)) (pss_one (ps_ret (pe_cmpR (show OpR _ _ (Ab.rEqU K) by exact Ab.op_eqU hu64) (Ab.PE.or (Gx.pe_mx (metx_Draws_below T) Gx.takes_cx (fun _ _ _ _ h => h) hr (by omega) (pv 1) (pa_cons (pe_op op_shlW pe_int (pv 7)) pa_nil)) (Gx.pe_mx (metx_Draws_below_of_PooledDraws T) Gx.takes_cx (fun _ _ _ _ h => h) hr (by omega) (pv 1) (pa_cons (pe_op op_shlW pe_int (pv 7)) pa_nil))) (Ab.PE.or (Gx.pe_mx (metx_Draws_bits T) Gx.takes_cx (fun _ _ _ _ h => h) hr (by omega) (pv 2) (pa_cons (pv 7) pa_nil)) (Gx.pe_mx (metx_Draws_bits_of_PooledDraws T) Gx.takes_cx (fun _ _ _ _ h => h) hr (by omega) (pv 2) (pa_cons (pv 7) pa_nil))) (nomark _)))) pss_nil)
      (pss_cons (ps_if (pt_cmpR (show OpR _ _ (Ab.rEqU K) by exact Ab.op_eqU hu64) (pv 3) pe_int (nomark _)) (pss_one (ps_ret (pe_cmpR (show OpR _ _ (Ab.rEqU K) by exact Ab.op_eqU hu64) (Ab.PE.or (Gx.pe_mx (metx_Draws_below T) Gx.takes_cx (fun _ _ _ _ h => h) hr (by omega) (pv 1) (pa_cons (pv 4) pa_nil)) (Gx.pe_mx (metx_Draws_below_of_PooledDraws T) Gx.takes_cx (fun _ _ _ _ h => h) hr (by omega) (pv 1) (pa_cons (pv 4) pa_nil))) (Gx.pe_cx (calx__law_first T) Gx.takes_cx (fun _ _ _ _ h => h) hr (by omega) (by rfl) (pa_cons (pv 2) (pa_cons (pv 4) pa_nil))) (nomark _)))) pss_nil)
      (pss_one (ps_ret (pe_cmpR (show OpR _ _ (Ab.rEqU K) by exact Ab.op_eqU hu64) (Ab.PE.or (Gx.pe_mx (metx_Draws_bits T) Gx.takes_cx (fun _ _ _ _ h => h) hr (by omega) (pv 1) (pa_cons (pv 7) pa_nil)) (Gx.pe_mx (metx_Draws_bits_of_PooledDraws T) Gx.takes_cx (fun _ _ _ _ h => h) hr (by omega) (pv 1) (pa_cons (pv 7) pa_nil))) (Ab.PE.or (Gx.pe_mx (metx_Draws_do T) Gx.takes_cx (fun _ _ _ _ h => h) hr (by omega) (pv 2) (pa_cons (pe_tup (pa_cons pe_str (pa_cons (pv 7) pa_nil))) pa_nil)) (Gx.pe_mx (metx_Draws_do_of_PooledDraws T) Gx.takes_cx (fun _ _ _ _ h => h) hr (by omega) (pv 2) (pa_cons (pe_tup (pa_cons pe_str (pa_cons (pv 7) pa_nil))) pa_nil))) (nomark _)))))))))))), Ab.DS.dfn (spF_gc h) rfl (DS.seq (DS.par (DA.cons (DE.call (fun _ => .nil) (DA.cons DE.var (DA.cons (DE.c fun _ => .int _) DA.nil))) (DA.cons (DE.op DR.add (DE.c fun _ => .int _) (DE.call (fun _ => .nil) (DA.cons DE.var (DA.cons (DE.call (fun _ => .nil) (DA.cons DE.var (DA.cons (DE.lst (DA.cons (DE.c fun _ => .int _) (DA.cons (DE.c fun _ => .int _) (DA.cons (DE.c fun _ => .int _) (DA.cons (DE.op (DR.i fun _ _ _ => .int _) (DE.c fun _ => .int _) (DE.c fun _ => .int _) NE2.i) (DA.cons (DE.op (DR.i fun _ _ _ => .int _) (DE.c fun _ => .int _) (DE.c fun _ => .int _) NE2.i) (DA.cons (DE.op (DR.i fun _ _ _ => .int _) (DE.c fun _ => .int _) (DE.c fun _ => .int _) NE2.i) DA.nil))))))) DA.nil))) DA.nil))) NE2.add) DA.nil)))
      (DS.seq (DS.par3 (DA.cons (DE.call (fun _ => .nil) (DA.cons DE.var (DA.cons (DE.op DR.add DE.var (DE.c fun _ => .int _) NE2.add) DA.nil))) (DA.cons (DE.op (DR.i0 fun _ _ _ => .int _) (DE.call (fun _ => .nil) (DA.cons DE.var (DA.cons (DE.c fun _ => .int _) DA.nil))) (DE.c fun _ => .int _) NE2.i0) (DA.cons (DE.call (fun _ => .nil) (DA.cons DE.var (DA.cons (DE.c fun _ => .int _) DA.nil))) DA.nil))))
      (DS.seq (DS.ifs (DT.test (DE.op DR.eq DE.var (DE.c fun _ => .int _) NE2.eq)) (DS.ret (DE.op DR.eq (DE.sel _ (DE.meth (fun _ => .nil) DE.var (DA.cons DE.var (DA.cons (DE.op (DR.i0 fun _ _ _ => .int _) (DE.op DR.add DE.var DE.var NE2.add) (DE.c fun _ => .int _) NE2.i0) DA.nil))) (DE.meth (fun _ => .nil) DE.var (DA.cons DE.var (DA.cons (DE.op (DR.i0 fun _ _ _ => .int _) (DE.op DR.add DE.var DE.var NE2.add) (DE.c fun _ => .int _) NE2.i0) DA.nil)))) (DE.op DR.add DE.var (DE.sel _ (DE.meth (fun _ => .nil) DE.var (DA.cons DE.var DA.nil)) (DE.meth (fun _ => .nil) DE.var (DA.cons DE.var DA.nil))) NE2.add) NE2.eq)) DS.next)
      (DS.seq (DS.ifs (DT.test (DE.op DR.eq DE.var (DE.c fun _ => .int _) NE2.eq)) (DS.ret (DE.op DR.eq (DE.lst (DA.cons (DE.sel _ (DE.meth (fun _ => .nil) DE.var (DA.cons DE.var (DA.cons DE.var DA.nil))) (DE.meth (fun _ => .nil) DE.var (DA.cons DE.var (DA.cons DE.var DA.nil)))) DA.nil)) (DE.lst (DA.cons (DE.op (DR.i0 fun _ _ _ => .bl _) (DE.sel _ (DE.meth (fun _ => .nil) DE.var (DA.cons DE.var DA.nil)) (DE.meth (fun _ => .nil) DE.var (DA.cons DE.var DA.nil))) DE.var NE2.i0) DA.nil)) NE2.eq)) DS.next)
      (DS.seq (DS.ifs (DT.test (DE.op DR.eq DE.var (DE.c fun _ => .int _) NE2.eq)) (DS.seq (DS.asg (DE.sl (DE.cb DB.listS (DA.cons (DE.c fun _ => .str _) DA.nil) NEL.listS) DO.no (DO.part (DE.op DR.add (DE.c fun _ => .int _) (DE.op (DR.i fun _ _ _ => .int _) DE.var (DE.c fun _ => .int _) NE2.i) NE2.add))) DG.name Goes.name)
      (DS.ret (DE.op DR.eq (DE.sel _ (DE.meth (fun _ => .nil) DE.var (DA.cons DE.var DA.nil)) (DE.meth (fun _ => .nil) DE.var (DA.cons DE.var DA.nil))) (DE.op DR.ix DE.var (DE.sel _ (DE.meth (fun _ => .nil) DE.var (DA.cons (DE.cb DB.len (DA.cons DE.var DA.nil) NEL.len) DA.nil)) (DE.meth (fun _ => .nil) DE.var (DA.cons (DE.cb DB.len (DA.cons DE.var DA.nil) NEL.len) DA.nil))) NE2.ix) NE2.eq))) DS.next)
      (DS.seq (DS.ifs (DT.test (DE.op DR.eq DE.var (DE.c fun _ => .int _) NE2.eq)) (DS.ret (DE.call (fun _ => .nil) (DA.cons (DE.sel _ (DE.meth (fun _ => .nil) DE.var (DA.cons DE.var DA.nil)) (DE.meth (fun _ => .nil) DE.var (DA.cons DE.var DA.nil))) (DA.cons (DE.sel _ (DE.meth (fun _ => .nil) DE.var (DA.cons DE.var DA.nil)) (DE.meth (fun _ => .nil) DE.var (DA.cons DE.var DA.nil))) (DA.cons DE.var DA.nil))))) DS.next)
      (DS.seq (DS.ifs (DT.test (DE.op DR.eq DE.var (DE.c fun _ => .int _) NE2.eq)) (DS.ret (DE.op DR.eq (DE.sel _ (DE.meth (fun _ => .nil) DE.var (DA.cons (DE.op (DR.i fun _ _ _ => .int _) (DE.c fun _ => .int _) DE.var NE2.i) DA.nil)) (DE.meth (fun _ => .nil) DE.var (DA.cons (DE.op (DR.i fun _ _ _ => .int _) (DE.c fun _ => .int _) DE.var NE2.i) DA.nil))) (DE.sel _ (DE.meth (fun _ => .nil) DE.var (DA.cons DE.var DA.nil)) (DE.meth (fun _ => .nil) DE.var (DA.cons DE.var DA.nil))) NE2.eq)) DS.next)
      (DS.seq (DS.ifs (DT.test (DE.op DR.eq DE.var (DE.c fun _ => .int _) NE2.eq)) (DS.ret (DE.op DR.eq (DE.sel _ (DE.meth (fun _ => .nil) DE.var (DA.cons DE.var DA.nil)) (DE.meth (fun _ => .nil) DE.var (DA.cons DE.var DA.nil))) (DE.call (fun _ => .nil) (DA.cons DE.var (DA.cons DE.var DA.nil))) NE2.eq)) DS.next)
      (DS.ret (DE.op DR.eq (DE.sel _ (DE.meth (fun _ => .nil) DE.var (DA.cons DE.var DA.nil)) (DE.meth (fun _ => .nil) DE.var (DA.cons DE.var DA.nil))) (DE.sel _ (DE.meth (fun _ => .nil) DE.var (DA.cons (DE.tup (DA.cons (DE.c fun _ => .str _) (DA.cons DE.var DA.nil))) DA.nil)) (DE.meth (fun _ => .nil) DE.var (DA.cons (DE.tup (DA.cons (DE.c fun _ => .str _) (DA.cons DE.var DA.nil))) DA.nil))) NE2.eq))))))))))⟩
theorem calx__law_pair_right (T : Txt K mg P w (κ "Source") (κ "Scripted") (κ "Draws") (κ "PooledDraws") R_SIZES) : Gx.CalX P w K mg base 9 "_law_pair_right" (spF (Wk K κ) 2 F__law_pair_right) := by
  obtain ⟨f, fd, F, b⟩ := T.d__law_pair_right
  refine Gx.calX F b sc__law_pair_right (fun vs H Q E h => spF.len h) (fun cdv A outer s H vs Q E hr h => ?_)
  have hu := hu_of hr
  have hu64 := hr.units
  have hu65 := Ab.u65 hr
  exact ⟨_, (pss_cons (ps_asg (Gx.pe_cx (calx__law_pair T) Gx.takes_cx (fun _ _ _ _ h => h) hr (by omega) (by rfl) (pa_cons (Gx.pe_cx (calx__law_words T) Gx.takes_cx (fun _ _ _ _ h => h) hr (by omega) (by rfl) (pa_cons (pv 0) pa_nil)) (pa_cons (pv 1) pa_nil))) (show PG _ _ (Un.gTupL K 2 _) by exact Un.pg_tupL rfl (pgs_cons (pg_name (i := 2) sc__law_pair_right.nd rfl (.inl rfl)) (pgs_cons (pg_name (i := 3) sc__law_pair_right.nd rfl (.inl rfl)) pgs_nil))))
      (pss_cons (ps_for (passes_of rfl) rfl (pi_range1 rfl T.b_range (pa_cons (pe_op (show OpR _ _ (Ab.rAddU K) by exact Ab.op_addU) pe_int (Gx.pe_cx (calx__law_next T) Gx.takes_cx (fun _ _ _ _ h => h) hr (by omega) (by rfl) (pa_cons (pv 0) (pa_cons pe_int pa_nil)))) pa_nil)) (pg_name (i := 4) sc__law_pair_right.nd rfl (.inl rfl)) (pss_one (ps_if (PW.pt (pw_or (pt_not (pt_val (Gx.pe_cx (calx__law_alike T) Gx.takes_cx (fun _ _ _ _ h => h) hr (by omega) (by rfl) (pa_cons (pv 0) (pa_cons (pv 2) (pa_cons (pv 3) pa_nil)))))) (pw_or1 (pt_cmpR (show OpR _ _ (Ab.rNeU K) by exact Ab.op_neU hu64) (Ab.PE.or (Gx.pe_mx0 (metx_Draws_saved T) Gx.takes_cx (fun _ _ _ _ h => h) hr (by omega) (pv 2)) (Gx.pe_mx0 (metx_PooledDraws_saved T) Gx.takes_cx (fun _ _ _ _ h => h) hr (by omega) (pv 2))) (Ab.PE.or (Gx.pe_mx0 (metx_Draws_saved T) Gx.takes_cx (fun _ _ _ _ h => h) hr (by omega) (pv 3)) (Gx.pe_mx0 (metx_PooledDraws_saved T) Gx.takes_cx (fun _ _ _ _ h => h) hr (by omega) (pv 3))) (nomark _))))) (pss_one (ps_ret pe_bl)) pss_nil)))
      (pss_one (ps_ret pe_bl)))), Ab.DS.dfn (spF_gc h) rfl (DS.seq (DS.asg (DE.call (fun _ => .nil) (DA.cons (DE.call (fun _ => .nil) (DA.cons DE.var DA.nil)) (DA.cons DE.var DA.nil))) (DG.tupL (DGs.cons DG.name (DGs.cons DG.name DGs.nil))) (Goes.tupL (GoesL.cons Goes.name (GoesL.cons Goes.name GoesL.nil))))
      (DS.seq (DS.forS (DI.rng1 (DA.cons (DE.op DR.add (DE.c fun _ => .int _) (DE.call (fun _ => .nil) (DA.cons DE.var (DA.cons (DE.c fun _ => .int _) DA.nil))) NE2.add) DA.nil)) DG.name Goes.name (DS.ifs (DT.gc (DT.or (DT.not (DT.b (DE.call (fun _ => .nil) (DA.cons DE.var (DA.cons DE.var (DA.cons DE.var DA.nil)))))) (DT.test (DE.op DR.ne (DE.sel _ (DE.meth (fun _ => .nil) DE.var DA.nil) (DE.meth (fun _ => .nil) DE.var DA.nil)) (DE.sel _ (DE.meth (fun _ => .nil) DE.var DA.nil) (DE.meth (fun _ => .nil) DE.var DA.nil)) NE2.ne)))) (DS.ret (DE.c fun _ => .bl _)) DS.next))
      (DS.ret (DE.c fun _ => .bl _))))⟩
def spLaw (K : PySem.W.Frag) : Sp := fun vs H Q _ => ∃ (a : Addr) (ns : List Int), vs = [.ref a] ∧ SqF K H a (ns.map V.int) ∧ LamX.Tabs [] H ∧ (∃ s', F_law [.scr (ns.map .int)] s0 = .ok (.bl true) s') ∧ ∀ H', Q (.bl true) H'
theorem fn_law (T : Txt K mg P w (κ "Source") (κ "Scripted") (κ "Draws") (κ "PooledDraws") R_SIZES) {f : Addr} {fd : FuncData} (F : C8.Def K mg "law" s_law f fd) : Gx.FnG P w K mg base 10 f fd ["_law_script"] (spLaw K) := by
  refine Gx.fnG_of F.fn sc_law (fun vs H Q E h => ?_) (fun cdv A outer s H vs Q gd hr h => ?_)
  · obtain ⟨a, ns, rfl, _⟩ := h; rfl
  · obtain ⟨a, ns, rfl, hS, tb, hl, q⟩ := h
    have hu := hu_of hr
    have hu64 := hr.units
    have hu65 := Ab.u65 hr
    exact ⟨_, (pss_cons (ps_set (i := 1) sc_law.nd rfl (.inl rfl) (Gx.pe_cx (calx__law_begun T) LamX.takes0 (E := fun _ _ _ => False) (fun _ _ _ _ h => h) hr (by omega) (by rfl) (pa_cons (pv 0) pa_nil)))
      (pss_cons (ps_for PassesOwn.never rfl (pi_range1 rfl T.b_range (pa_cons (pe_op (show OpR _ _ (Ab.rAddU K) by exact Ab.op_addU) pe_int (pe_callB (Rd.call_mn2 rfl) (by rfl) T.b_min (by decide +kernel) (pa_cons pe_int (pa_cons (pe_callB (show CallR _ _ (Ab.rLenU K) by exact Ab.call_lenU) (by rfl) T.b_len PySem.boot_len (pa_cons (pv 0) pa_nil)) pa_nil)))) pa_nil)) (pg_name (i := 2) sc_law.nd rfl (.inl rfl)) (pss_one (ps_if (PW.pt (pw_or (pt_not (pt_val (Gx.pe_cx (calx__law_pair_right T) LamX.takes0 (E := fun _ _ _ => False) (fun _ _ _ _ h => h) hr (by omega) (by rfl) (pa_cons (pv 1) (pa_cons pe_bl pa_nil))))) (pw_or (pt_not (pt_val (Gx.pe_cx (calx__law_pair_right T) LamX.takes0 (E := fun _ _ _ => False) (fun _ _ _ _ h => h) hr (by omega) (by rfl) (pa_cons (pv 1) (pa_cons pe_bl pa_nil))))) (pw_or1 (pt_not (pt_val (Gx.pe_cx (calx__law_digits_right T) LamX.takes0 (E := fun _ _ _ => False) (fun _ _ _ _ h => h) hr (by omega) (by rfl) (pa_cons (pv 1) pa_nil)))))))) (pss_one (ps_ret pe_bl)) pss_nil)))
      (pss_one (ps_ret pe_bl)))), law_run (W := (Wk K κ)) (fun _ => trivial) hS tb hl rfl (DS.seq (DS.asg (DE.call (fun _ => .nil) (DA.cons DE.var DA.nil)) DG.name Goes.name)
      (DS.seq (DS.forS (DI.rng1 (DA.cons (DE.op DR.add (DE.c fun _ => .int _) (DE.cb DB.min2 (DA.cons (DE.c fun _ => .int _) (DA.cons (DE.cb DB.len (DA.cons DE.var DA.nil) NEL.len) DA.nil)) NEL.min2) NE2.add) DA.nil)) DG.name Goes.name (DS.ifs (DT.gc (DT.or (DT.not (DT.b (DE.call (fun _ => .nil) (DA.cons DE.var (DA.cons (DE.c fun _ => .bl _) DA.nil))))) (DT.or (DT.not (DT.b (DE.call (fun _ => .nil) (DA.cons DE.var (DA.cons (DE.c fun _ => .bl _) DA.nil))))) (DT.not (DT.b (DE.call (fun _ => .nil) (DA.cons DE.var DA.nil))))))) (DS.ret (DE.c fun _ => .bl _)) DS.next))
      (DS.ret (DE.c fun _ => .bl _)))) q⟩
end
end Pf
set_option linter.all false
set_option maxRecDepth 100000
namespace TW
/-- the exclusive or of the items behind b whose places are digits of p -/
def act : Nat → Nat → (Nat → Nat) → Nat → Nat
  | 0, _, _, _ => 0
  | n + 1, p, u, b => (if p % 2 = 1 then u b else 0) ^^^ act n (p / 2) u (b + 1)
theorem xor4 (a b c d : Nat) : (a ^^^ b) ^^^ (c ^^^ d) = (a ^^^ c) ^^^ (b ^^^ d) := by
  rw [Nat.xor_assoc, Nat.xor_assoc, ← Nat.xor_assoc b c d, Nat.xor_comm b c, Nat.xor_assoc c b d]
theorem xor_mod2 (p q : Nat) : (p ^^^ q) % 2 = (p % 2 + q % 2) % 2 := by
  have h := Nat.testBit_xor p q 0
  simp only [Nat.testBit_zero] at h
  have a := Nat.mod_two_eq_zero_or_one p
  have b := Nat.mod_two_eq_zero_or_one q
  have c := Nat.mod_two_eq_zero_or_one (p ^^^ q)
  rcases a with a | a <;> rcases b with b | b <;> rcases c with c | c <;> simp [a, b, c] at h ⊢
theorem xor_div2 (p q : Nat) : (p ^^^ q) / 2 = (p / 2) ^^^ (q / 2) := by
  simpa [Nat.shiftRight_eq_div_pow] using @Nat.shiftRight_xor_distrib 1 p q
theorem act_xor : ∀ (n p q : Nat) (u : Nat → Nat) (b : Nat), act n (p ^^^ q) u b = act n p u b ^^^ act n q u b
  | 0, p, q, u, b => by simp [act]
  | n + 1, p, q, u, b => by
    unfold act
    rw [xor_div2, act_xor n, xor_mod2, xor4]
    congr 1
    rcases Nat.mod_two_eq_zero_or_one p with a | a <;> rcases Nat.mod_two_eq_zero_or_one q with c | c <;> simp [a, c]
theorem act_zero : ∀ (n : Nat) (u : Nat → Nat) (b : Nat), act n 0 u b = 0
  | 0, u, b => rfl
  | n + 1, u, b => by unfold act; simp [act_zero n]
theorem act_shift : ∀ (n p : Nat) (u : Nat → Nat) (b k : Nat), act n p (fun b => u (b + k)) b = act n p u (b + k)
  | 0, p, u, b, k => rfl
  | n + 1, p, u, b, k => by
    unfold act
    rw [act_shift n, show b + 1 + k = b + k + 1 by omega]
theorem act_fuel : ∀ (n m p : Nat) (u : Nat → Nat) (b : Nat), p < 2 ^ n → n ≤ m → act m p u b = act n p u b
  | 0, m, p, u, b, h, _ => by
    have : p = 0 := by simpa using h
    rw [this, act_zero]; rfl
  | n + 1, 0, p, u, b, h, k => by omega
  | n + 1, m + 1, p, u, b, h, k => by
    unfold act
    rw [act_fuel n m (p / 2) u (b + 1) (by rw [Nat.pow_succ] at h; omega) (by omega)]
theorem act_ext : ∀ (n p : Nat) (u v : Nat → Nat) (b : Nat), (∀ i, b ≤ i → u i = v i) → act n p u b = act n p v b
  | 0, p, u, v, b, h => rfl
  | n + 1, p, u, v, b, h => by
    unfold act
    rw [h b (Nat.le_refl b), act_ext n (p / 2) u v (b + 1) fun i hi => h i (by omega)]
def A (p : Nat) (u : Nat → Nat) (b : Nat) : Nat := act p p u b
theorem A_fuel {n p : Nat} (h : p < 2 ^ n) (u : Nat → Nat) (b : Nat) : A p u b = act n p u b := by
  unfold A
  rcases Nat.le_total n p with k | k
  · exact act_fuel n p p u b h k
  · exact (act_fuel p n p u b Nat.lt_two_pow_self k).symm
theorem lt_big {p n : Nat} (h : p ≤ n) : p < 2 ^ n := Nat.lt_of_lt_of_le Nat.lt_two_pow_self (Nat.pow_le_pow_right (by decide) h)
theorem A_xor (p q : Nat) (u : Nat → Nat) (b : Nat) : A (p ^^^ q) u b = A p u b ^^^ A q u b := by
  rw [A_fuel (lt_big (n := p + q + (p ^^^ q)) (by omega)), A_fuel (p := p) (lt_big (n := p + q + (p ^^^ q)) (by omega)), A_fuel (p := q) (lt_big (n := p + q + (p ^^^ q)) (by omega)), act_xor]
theorem A_zero (u : Nat → Nat) (b : Nat) : A 0 u b = 0 := rfl
theorem A_step (p : Nat) (u : Nat → Nat) (b : Nat) : A p u b = (if p % 2 = 1 then u b else 0) ^^^ A (p / 2) u (b + 1) := by
  rw [A_fuel (lt_big (n := p + 1) (by omega)), A_fuel (p := p / 2) (lt_big (n := p) (by omega))]
  rfl
theorem A_one (u : Nat → Nat) (b : Nat) : A 1 u b = u b := by rw [A_step]; simp [A_zero]
theorem A_two (p : Nat) (u : Nat → Nat) (b : Nat) : A (2 * p) u b = A p u (b + 1) := by
  rw [A_step, show 2 * p % 2 = 0 by omega, show 2 * p / 2 = p by omega]
  simp
theorem A_shl (p : Nat) (u : Nat → Nat) : ∀ (k b : Nat), A (p * 2 ^ k) u b = A p u (b + k)
  | 0, b => by simp
  | k + 1, b => by
    rw [Nat.pow_succ, show p * (2 ^ k * 2) = 2 * (p * 2 ^ k) by rw [← Nat.mul_assoc]; exact Nat.mul_comm _ _, A_two, A_shl p u k, show b + 1 + k = b + (k + 1) by omega]
theorem A_shift (p : Nat) (u : Nat → Nat) (b k : Nat) : A p (fun b => u (b + k)) b = A p u (b + k) := act_shift p p u b k
theorem A_ext {p : Nat} {u v : Nat → Nat} {b : Nat} (h : ∀ i, b ≤ i → u i = v i) : A p u b = A p v b := act_ext p p u v b h
/-- products -/
def prodN : Nat → Nat → Nat → Nat → Nat
  | 0, f, _, _ => f
  | n + 1, f, s, r => if r = 0 then f else prodN n (if r % 2 = 1 then f ^^^ s else f) (2 * s) (r / 2)
theorem A_prodN (u : Nat → Nat) : ∀ (n f s r b : Nat), r < 2 ^ n → A (prodN n f s r) u b = A f u b ^^^ A r (A s u) b
  | 0, f, s, r, b, h => by
    have : r = 0 := by simpa using h
    subst this
    show A f u b = _
    rw [A_zero, Nat.xor_zero]
  | n + 1, f, s, r, b, h => by
    unfold prodN
    by_cases hr : r = 0
    · subst hr
      rw [if_pos rfl, A_zero, Nat.xor_zero]
    · rw [if_neg hr, A_prodN u n _ _ _ b (by rw [Nat.pow_succ] at h; omega), A_step r]
      have e : A (r / 2) (A (2 * s) u) b = A (r / 2) (A s u) (b + 1) := by
        rw [← A_shift]
        exact A_ext fun i _ => A_two s u i
      rw [e]
      by_cases h2 : r % 2 = 1
      · rw [if_pos h2, if_pos h2, A_xor, Nat.xor_assoc]
      · rw [if_neg h2, if_neg h2, Nat.zero_xor]
/-- rests -/
def len (n : Nat) : Nat := if n = 0 then 0 else n.log2 + 1
theorem len_pos {n : Nat} (h : n ≠ 0) : len n = n.log2 + 1 := if_neg h
theorem lt_len (n : Nat) : n < 2 ^ len n := by
  unfold len
  split
  · subst n; decide
  · exact Nat.lt_log2_self
theorem len_le {n k : Nat} (h : n < 2 ^ k) : len n ≤ k := by
  unfold len
  split
  · omega
  · rename_i hn
    exact (Nat.log2_lt hn).mpr h
theorem le_len {n k : Nat} (h : 2 ^ k ≤ n) : k < len n := by
  have hn : n ≠ 0 := by have := Nat.pow_pos (n := k) (show 0 < 2 by decide); omega
  rw [len_pos hn]
  exact Nat.lt_succ_of_le ((Nat.le_log2 hn).mpr h)
theorem len_ge {n : Nat} (h : n ≠ 0) : 2 ^ (len n - 1) ≤ n := by
  rw [len_pos h]
  exact Nat.log2_self_le h
/-- the highest digits go away -/
theorem top_xor {k a b : Nat} (ha : 2 ^ k ≤ a) (ha2 : a < 2 ^ (k + 1)) (hb : 2 ^ k ≤ b) (hb2 : b < 2 ^ (k + 1)) : a ^^^ b < 2 ^ k := by
  refine Nat.lt_pow_two_of_testBit _ fun i hi => ?_
  rw [Nat.testBit_xor]
  rcases Nat.lt_or_ge k i with h | h
  · rw [Nat.testBit_lt_two_pow (Nat.lt_of_lt_of_le ha2 (Nat.pow_le_pow_right (by decide) h)), Nat.testBit_lt_two_pow (Nat.lt_of_lt_of_le hb2 (Nat.pow_le_pow_right (by decide) h))]
    rfl
  · have e : i = k := by omega
    subst e
    have t : ∀ c, 2 ^ i ≤ c → c < 2 ^ (i + 1) → c.testBit i = true := fun c h1 h2 => by
      rw [Nat.testBit_eq_decide_div_mod_eq]
      have : c / 2 ^ i = 1 := by
        rw [Nat.pow_succ] at h2
        exact Nat.div_eq_of_lt_le (by omega) (by omega)
      rw [this]
      decide
    rw [t a ha ha2, t b hb hb2]
    rfl
/-- a step of a division: the rest's highest digit goes -/
theorem len_step {r m : Nat} (hm : m ≠ 0) (h : len m ≤ len r) : len (r ^^^ m * 2 ^ (len r - len m)) < len r := by
  have hr : r ≠ 0 := fun z => by
    subst z
    have : len 0 = 0 := rfl
    have : len m = m.log2 + 1 := len_pos hm
    omega
  have lr := len_pos hr
  have lm := len_pos hm
  have r1 := lt_len r
  have r2 := len_ge hr
  have m1 := lt_len m
  have m2 := len_ge hm
  have e : ∀ a b : Nat, a ≤ b → 2 ^ a * 2 ^ (b - a) = 2 ^ b := fun a b hab => by rw [← Nat.pow_add]; congr 1; omega
  have := top_xor (k := len r - 1) (a := r) (b := m * 2 ^ (len r - len m)) r2 (by rw [show len r - 1 + 1 = len r by omega]; exact r1)
    (by
      have := Nat.mul_le_mul_right (2 ^ (len r - len m)) m2
      rw [show len r - len m = (len r - 1) - (len m - 1) by omega] at this ⊢
      rw [e _ _ (by omega)] at this
      exact this)
    (by
      rw [show len r - 1 + 1 = len r by omega]
      have := Nat.mul_lt_mul_of_pos_right m1 (Nat.pow_pos (n := len r - len m) (show 0 < 2 by decide))
      rw [e _ _ h] at this
      exact this)
  have := len_le this
  omega
def restN : Nat → Nat → Nat → Nat
  | 0, r, _ => r
  | n + 1, r, m => if len m ≤ len r then restN n (r ^^^ m * 2 ^ (len r - len m)) m else r
theorem A_restN {m : Nat} {u : Nat → Nat} (hm : ∀ b, A m u b = 0) : ∀ (n r b : Nat), A (restN n r m) u b = A r u b
  | 0, r, b => rfl
  | n + 1, r, b => by
    unfold restN
    split
    · rw [A_restN hm n, A_xor, A_shl, hm, Nat.xor_zero]
    · rfl
theorem restN_lt {m : Nat} (hm : m ≠ 0) : ∀ (n r : Nat), len r < n + len m → len (restN n r m) < len m
  | 0, r, h => by unfold restN; omega
  | n + 1, r, h => by
    unfold restN
    split
    · rename_i hl
      refine restN_lt hm n _ ?_
      have := len_step hm hl
      omega
    · omega
abbrev RULE : Nat := 2147483657
abbrev PER : Nat := 2147483647
def Rec (u : Nat → Nat) : Prop := ∀ i, u (i + 31) = u i ^^^ u (i + 3)
theorem Rec.shift {u : Nat → Nat} (h : Rec u) (k : Nat) : Rec fun i => u (i + k) := fun i => by
  have := h (i + k)
  rw [show i + k + 31 = i + 31 + k by omega, show i + k + 3 = i + 3 + k by omega] at this
  exact this
theorem xor_self3 (a b : Nat) : a ^^^ (b ^^^ (a ^^^ b)) = 0 := by
  rw [Nat.xor_comm a b, ← Nat.xor_assoc b b a, Nat.xor_self, Nat.zero_xor, Nat.xor_self]
theorem A_rule {u : Nat → Nat} (h : Rec u) (b : Nat) : A RULE u b = 0 := by
  have e : RULE = 1 ^^^ (1 * 2 ^ 3 ^^^ 1 * 2 ^ 31) := by decide
  rw [e, A_xor, A_xor, A_shl, A_shl, A_one, A_one, A_one, h b]
  exact xor_self3 _ _
/-- a polynomial that does what k steps do -/
def Does (p k : Nat) : Prop := ∀ u, Rec u → ∀ b, A p u b = u (b + k)
theorem Does.two : Does 2 1 := fun u _ b => by rw [show (2 : Nat) = 2 * 1 from rfl, A_two, A_one]
theorem Does.rest {p k n : Nat} (h : Does p k) : Does (restN n p RULE) k := fun u hu b => by rw [A_restN (A_rule hu)]; exact h u hu b
theorem Does.prod {p q j k n : Nat} (h : Does p j) (g : Does q k) (hn : q < 2 ^ n) : Does (prodN n 0 p q) (j + k) := fun u hu b => by
  rw [A_prodN u n 0 p q b hn, A_zero, Nat.zero_xor]
  have e : A q (A p u) b = A q (fun i => u (i + j)) b := A_ext fun i _ => h u hu i
  rw [e, A_shift, g u hu, show b + j + k = b + (j + k) by omega]
/-- squares -/
def sq (p : Nat) : Nat := restN 64 (prodN 40 0 p p) RULE
def sqs : Nat → Nat → Nat
  | 0, p => p
  | n + 1, p => sqs n (sq p)
theorem len_rule : len RULE = 32 := by decide
theorem sq_lt {p : Nat} (h : len (prodN 40 0 p p) < 96) : len (sq p) < 32 := by
  have := restN_lt (m := RULE) (by decide) 64 (prodN 40 0 p p) (by rw [len_rule]; omega)
  rw [len_rule] at this
  exact this
/-- 31 squares of t are t -/
theorem sqs31 : sqs 31 2 = 2 := by decide +kernel
theorem prodN_lt : ∀ (n f s r k : Nat), f < 2 ^ (k + n) → s < 2 ^ k → prodN n f s r < 2 ^ (k + n)
  | 0, f, s, r, k, h, _ => h
  | n + 1, f, s, r, k, h, hs => by
    unfold prodN
    split
    · exact h
    · rw [show k + (n + 1) = (k + 1) + n by omega] at h ⊢
      refine prodN_lt n _ _ _ (k + 1) ?_ (by rw [Nat.pow_succ]; omega)
      split
      · exact Nat.xor_lt_two_pow h (Nat.lt_of_lt_of_le hs (Nat.pow_le_pow_right (by decide) (by omega)))
      · exact h
theorem sq_ok {p k : Nat} (h : Does p k) (hp : len p < 32) : Does (sq p) (2 * k) ∧ len (sq p) < 32 := by
  have h31 : p < 2 ^ 31 := Nat.lt_of_lt_of_le (lt_len p) (Nat.pow_le_pow_right (by decide) (by omega))
  refine ⟨?_, sq_lt ?_⟩
  · rw [show 2 * k = k + k by omega]
    exact (h.prod h (n := 40) (Nat.lt_of_lt_of_le h31 (by decide))).rest
  · have := len_le (prodN_lt 40 0 p p 31 (Nat.pow_pos (by decide)) h31)
    omega
theorem sqs_ok : ∀ (n : Nat) {p k : Nat}, Does p k → len p < 32 → Does (sqs n p) (k * 2 ^ n) ∧ len (sqs n p) < 32
  | 0, p, k, h, hp => ⟨by rw [Nat.pow_zero, Nat.mul_one]; exact h, hp⟩
  | n + 1, p, k, h, hp => by
    obtain ⟨a, b⟩ := sq_ok h hp
    have := sqs_ok n a b
    rw [show k * 2 ^ (n + 1) = 2 * k * 2 ^ n by rw [Nat.pow_succ, ← Nat.mul_assoc, Nat.mul_comm (k * 2 ^ n) 2, ← Nat.mul_assoc]]
    exact this
theorem does31 : Does 2 (2 ^ 31) := by
  have := (sqs_ok 31 Does.two (by decide)).1
  rw [sqs31, Nat.one_mul] at this
  exact this
/-- a window tells what is ahead of it and what is behind -/
theorem Rec.back {u : Nat → Nat} (h : Rec u) (i : Nat) : u i = u (i + 31) ^^^ u (i + 3) := by
  rw [h i, Nat.xor_assoc, Nat.xor_self, Nat.xor_zero]
theorem Rec.same {u v : Nat → Nat} (hu : Rec u) (hv : Rec v) {n : Nat} (h : ∀ i, i < 31 → u (n + i) = v (n + i)) : ∀ i, u i = v i := by
  have up : ∀ k i, n ≤ i → i < n + k → u i = v i := by
    intro k
    induction k with
    | zero => intro i h1 h2; omega
    | succ k ih =>
      intro i h1 h2
      by_cases hi : i < n + 31
      · have := h (i - n) (by omega)
        rw [show n + (i - n) = i by omega] at this
        exact this
      · have e1 := ih (i - 31) (by omega) (by omega)
        have e2 := ih (i - 28) (by omega) (by omega)
        have a := hu (i - 31)
        have b := hv (i - 31)
        rw [show i - 31 + 31 = i by omega, show i - 31 + 3 = i - 28 by omega] at a b
        rw [a, b, e1, e2]
  have down : ∀ k i, n ≤ i + k → u i = v i := by
    intro k
    induction k with
    | zero => intro i hi; exact up (i + 1) i hi (by omega)
    | succ k ih =>
      intro i hi
      rw [hu.back i, hv.back i, ih (i + 31) (by omega), ih (i + 3) (by omega)]
  exact fun i => down n i (by omega)
theorem Rec.per {u : Nat → Nat} (h : Rec u) (i : Nat) : u (i + PER) = u i := by
  have e : ∀ j, u (j + 1 + PER) = u (j + 1) := fun j => by
    have a := does31 u h j
    have b := Does.two u h j
    rw [a] at b
    rw [show j + 1 + PER = j + 2 ^ 31 from by show j + 1 + 2147483647 = _; omega]
    exact b
  rw [show u (i + PER) = (fun i => u (i + PER)) i from rfl]
  exact Rec.same (n := 1) (h.shift PER) h (fun j _ => by
    show u (1 + j + PER) = _
    rw [show 1 + j = j + 1 by omega]; exact e j) i
theorem Rec.pers {u : Nat → Nat} (h : Rec u) (i : Nat) : ∀ k, u (i + PER * k) = u i
  | 0 => rfl
  | k + 1 => by rw [show i + PER * (k + 1) = i + PER * k + PER by rw [Nat.mul_succ, Nat.add_assoc], h.per, Rec.pers h i k]
theorem Rec.mod {u : Nat → Nat} (h : Rec u) (i n : Nat) : u (i + n % PER) = u (i + n) := by
  have := h.pers (i + n % PER) (n / PER)
  rw [show i + n % PER + PER * (n / PER) = i + n by have := Nat.mod_add_div n PER; omega] at this
  exact this.symm
end TW
set_option Elab.async false
set_option linter.all false
set_option maxRecDepth 100000
set_option maxHeartbeats 1000000
set_option exponentiation.threshold 3000
namespace Pf
open PySem Ab
theorem gcT_f {f : AT} {σ : ASt} {s : Sto} {b : Bool} (h : f σ s = .ok b s) : gcT f σ s = .ok b s := gcT0 h (.refl s) (cut_self s)
theorem z1 : ((1 : Nat) ≤ sizeLine) = True := eq_true (by decide)
theorem z2 : ((2 : Nat) ≤ sizeLine) = True := eq_true (by decide)
theorem z3 : ((3 : Nat) ≤ sizeLine) = True := eq_true (by decide)
theorem z4 : ((4 : Nat) ≤ sizeLine) = True := eq_true (by decide)
theorem z5 : ((5 : Nat) ≤ sizeLine) = True := eq_true (by decide)
theorem z6 : ((6 : Nat) ≤ sizeLine) = True := eq_true (by decide)
theorem z7 : ((7 : Nat) ≤ sizeLine) = True := eq_true (by decide)
theorem z8 : ((8 : Nat) ≤ sizeLine) = True := eq_true (by decide)
theorem z9 : ((9 : Nat) ≤ sizeLine) = True := eq_true (by decide)
theorem z10 : ((10 : Nat) ≤ sizeLine) = True := eq_true (by decide)
theorem z11 : ((11 : Nat) ≤ sizeLine) = True := eq_true (by decide)
theorem z12 : ((12 : Nat) ≤ sizeLine) = True := eq_true (by decide)
theorem z13 : ((13 : Nat) ≤ sizeLine) = True := eq_true (by decide)
theorem z14 : ((14 : Nat) ≤ sizeLine) = True := eq_true (by decide)
theorem z15 : ((15 : Nat) ≤ sizeLine) = True := eq_true (by decide)
theorem z16 : ((16 : Nat) ≤ sizeLine) = True := eq_true (by decide)
local macro_rules | `(tactic| simp! [$xs,*]) => `(tactic| try simp (config := {maxSteps := 1000000}) only [k_bind, k_Kb, k_st, k_Kst, k_Rst, k_thn, k_loop, k_fn, k_forget, k_clr, k_noX, k_try, k_stuck, k_Astuck, d_thn_nx, d_thn_bk, d_thn_ct, d_thn_rt, d_thn_er, d_lp_nx, d_lp_bk, d_lp_ct, d_lp_rt, d_lp_er, d_fg_nx, d_fg_bk, d_fg_ct, d_fg_rt, d_fg_er, d_cl_nx, d_cl_bk, d_cl_ct, d_cl_rt, d_cl_er, d_tr_nx, d_tr_bk, d_tr_ct, d_tr_rt, d_tr_er, d_nX_nx, d_nX_bk, d_nX_ct, d_nX_rt, d_nX_er, d_fn_nx, d_fn_bk, d_fn_ct, d_fn_rt, d_fn_er, A_nx, A_bk, A_ct, A_rt, A_err, post_ok, post_err, post_noErr, e_op, e_opK, e_un, e_cb, e_nil, e_c, e_cons, e_consK, e_consK2, e_and, e_or, e_andK, e_orK, e_not, e_notK, e_test, e_testK, e_tand, e_tandK, e_tor, e_torK, e_tnot, e_tnotK, e_yes, e_if, e_ifK, e_ch, e_chK1, e_chK2, e_chK3, e_tup, e_tupK, e_lst, e_lstK, e_newL, e_call, e_callK, e_meth, e_methK, e_methK2, e_prop, e_propK, e_make, e_makeK, e_makeK2, e_makeV, e_sm, e_smK, e_smK2, e_cm, e_cmK, e_cmK2, e_sl, e_slK1, e_slK2, e_slK3, e_part, e_partK, e_nopart, e_rev, e_bm, e_bmK, e_pr, e_pr0, e_prK1, e_prK2, e_prK3, e_disp, e_dnew, e_own, e_ownK, e_lc, e_lcK, e_iter, e_rng1, e_rng1K, e_rng2, e_rng2K, e_enum, s_drop, s_dropK, s_ret, s_retK, s_retN, s_next, s_break, s_cont, s_seq, s_if, s_ifK, s_asg, s_asgK, s_name, s_par, s_parK, s_par3, s_parK3, s_gnil, s_gcons, s_gtup, s_for, s_forK, s_raise, s_raiseK, s_sf, s_sfK1, s_sfK2, s_dp, s_dpK1, s_dpK2, s_dpK3, s_forget, s_def, s_fld, e_enumU, e_enumUT, e_match, e_mcase, e_mcase2, e_many, e_mnil, e_lcX, e_lcXK, e_get2, e_methS, e_methS1, e_methS2, s_augS, s_augS1, gEqS_int, gEqS_str, gEqS_bl, gEqS_tup, e_fmt, e_js, e_jsC, e_jsN, e_join, e_joinK, eq_self, beq_self_eq_true, k_grd, k_grdS, k_ite, k_Aite, true_implies, false_implies, implies_true, List.map_cons, List.map_nil, List.nil_append, List.cons_append, List.append_nil, List.replicate_succ, List.replicate_zero, List.getElem?_cons_zero, List.getElem?_cons_succ, List.length_cons, List.length_nil, List.set_cons_zero, List.set_cons_succ, ↓reduceIte, ↓reduceDIte, Nat.reduceAdd, Nat.reduceLeDiff, Nat.reduceEqDiff, Nat.zero_add, if_true, if_false, aVar, gMinus_int, gLt_int, gLe_int, gGt_int, gGe_int, gEq_int, gNe_int, gEq_str, gNe_str, gEq_bl, gNe_bl, gXor_int, gAnd_int, gOr_int, gAdd_int, gIsN_non, gNotN_non, gIsB_bl, gNotB_bl, gNeg_int, gLen_tup, gLen_scr, gMax2_int, gMin2_int, gBits_int, gSl_tup, gSl_scr, Bool.not_true, Bool.not_false, Bool.true_eq_false, Bool.false_eq_true, Bool.true_and, Bool.false_and, Bool.and_true, Bool.and_false, Bool.true_or, Bool.false_or, decide_true, decide_false, and_self, and_true, true_and, and_false, false_and, not_true_eq_false, not_false_eq_true, reduceCtorEq, kz, z1, z2, z3, z4, z5, z6, z7, z8, z9, z10, z11, z12, z13, z14, z15, z16, isCls, isNon, aForget, aHand, toKey, keysA, iterOf_tup, iterOf_scr, oNx_some, noErr_ok, decide_eq_true_eq, decide_eq_false_iff_not, Sto.new_n, Sto.set_n, Sto.set_at, Sto.new_at, Nat.zero_le, aMakeV, Cl_non, Cl_bl, Cl_int, Cl_str, Cl_cls, Cl_obj, Cl_tup, ClL_nil, ClL_cons, $xs,*])
local macro_rules | `(tactic| simp! only [$xs,*]) => `(tactic| simp only [e_op, e_opK, e_un, e_cb, e_nil, e_c, e_cons, e_consK, e_consK2, e_and, e_or, e_andK, e_orK, e_not, e_notK, e_test, e_testK, e_tand, e_tandK, e_tor, e_torK, e_tnot, e_tnotK, e_yes, e_if, e_ifK, e_ch, e_chK1, e_chK2, e_chK3, e_tup, e_tupK, e_lst, e_lstK, e_newL, e_call, e_callK, e_meth, e_methK, e_methK2, e_prop, e_propK, e_make, e_makeK, e_makeK2, e_makeV, e_sm, e_smK, e_smK2, e_cm, e_cmK, e_cmK2, e_sl, e_slK1, e_slK2, e_slK3, e_part, e_partK, e_nopart, e_rev, e_bm, e_bmK, e_pr, e_pr0, e_prK1, e_prK2, e_prK3, e_disp, e_dnew, e_own, e_ownK, e_lc, e_lcK, e_iter, e_rng1, e_rng1K, e_rng2, e_rng2K, e_enum, s_drop, s_dropK, s_ret, s_retK, s_retN, s_next, s_break, s_cont, s_seq, s_if, s_ifK, s_asg, s_asgK, s_name, s_par, s_parK, s_par3, s_parK3, s_gnil, s_gcons, s_gtup, s_for, s_forK, s_raise, s_raiseK, s_sf, s_sfK1, s_sfK2, s_dp, s_dpK1, s_dpK2, s_dpK3, s_forget, s_def, s_fld, e_enumU, e_enumUT, e_match, e_mcase, e_mcase2, e_many, e_mnil, e_lcX, e_lcXK, e_get2, e_methS, e_methS1, e_methS2, s_augS, s_augS1, gEqS_int, gEqS_str, gEqS_bl, gEqS_tup, e_fmt, e_js, e_jsC, e_jsN, e_join, e_joinK, eq_self, beq_self_eq_true, true_implies, false_implies, implies_true, List.map_cons, List.map_nil, List.nil_append, List.cons_append, List.append_nil, List.replicate_succ, List.replicate_zero, List.getElem?_cons_zero, List.getElem?_cons_succ, List.length_cons, List.length_nil, List.set_cons_zero, List.set_cons_succ, ↓reduceIte, ↓reduceDIte, Nat.reduceAdd, Nat.reduceLeDiff, Nat.reduceEqDiff, Nat.zero_add, if_true, if_false, aVar, gMinus_int, gLt_int, gLe_int, gGt_int, gGe_int, gEq_int, gNe_int, gEq_str, gNe_str, gEq_bl, gNe_bl, gXor_int, gAnd_int, gOr_int, gAdd_int, gIsN_non, gNotN_non, gIsB_bl, gNotB_bl, gNeg_int, gLen_tup, gLen_scr, gMax2_int, gMin2_int, gBits_int, gSl_tup, gSl_scr, Bool.not_true, Bool.not_false, Bool.true_eq_false, Bool.false_eq_true, Bool.true_and, Bool.false_and, Bool.and_true, Bool.and_false, Bool.true_or, Bool.false_or, decide_true, decide_false, and_self, and_true, true_and, and_false, false_and, not_true_eq_false, not_false_eq_true, reduceCtorEq, kz, z1, z2, z3, z4, z5, z6, z7, z8, z9, z10, z11, z12, z13, z14, z15, z16, isCls, isNon, aForget, aHand, toKey, keysA, iterOf_tup, iterOf_scr, oNx_some, noErr_ok, decide_eq_true_eq, decide_eq_false_iff_not, Sto.new_n, Sto.set_n, Sto.set_at, Sto.new_at, Nat.zero_le, aMakeV, Cl_non, Cl_bl, Cl_int, Cl_str, Cl_cls, Cl_obj, Cl_tup, ClL_nil, ClL_cons, grd_pos, grdS_pos, Res.bind_ok, Res.bind_err, Res.st_ok, Res.st_err, SRes.thn_nx, SRes.thn_rt, SRes.thn_err, SRes.fn_rt, SRes.fn_nx, SRes.fn_err, SRes.loop_nx, SRes.loop_rt, SRes.loop_err, SRes.loop_ct, SRes.loop_bk, SRes.forget_nx, SRes.forget_rt, SRes.forget_err, SRes.clr_nx, SRes.clr_rt, SRes.noX_nx, SRes.noX_rt, aTry, sizeLine_ge, $xs,*])
theorem isi_ty {x : AV} {a n : String} {r : Bool} {s : Sto} (h1 : tyN s x = some a) (h2 : kitP a n = some r) (h3 : n ∈ bnames) : gIsi (kitB n) [x, .ty n] s = .ok (.bl r) s := gIsi_ty h1 (by rw [kitB_self]; exact h2) h3
theorem isi_cls {x : AV} {a n : String} {r : Bool} {s : Sto} (h1 : tyN s x = some a) (h2 : kitP a n = some r) (h3 : n ∉ bnames) : gIsi (kitB n) [x, .cls n] s = .ok (.bl r) s := gIsi_cls h1 (by rw [kitB_self]; exact h2) h3
theorem is_int (i : Int) (s : Sto) : F_is_integer [.int i] s = .ok (.bl true) s := by
  refine gc0 ?_ (by simp)
  have h1 : gIsi (kitB "int") [.int i, .ty "int"] s = .ok (.bl true) s := isi_ty (a := "int") rfl (by decide) (by decide)
  have h2 : gIsi (kitB "bool") [.int i, .ty "bool"] s = .ok (.bl false) s := isi_ty (a := "int") rfl (by decide) (by decide)
  simp! only [B_is_integer, h1, h2]
theorem gc0' {F : List AV → Sto → Res AV} {args : List AV} {s : Sto} {v : AV} (h : (F args s).Post (fun v' s' => v' = v ∧ Cl s.n v ∧ Gb s s') (fun _ _ _ _ => False)) : gcF F args s = .ok v s :=
  res_ok (gcF_g (h.mono (fun v' s' z => ⟨z.1 ▸ z.2.1, z.2.2, z.1, rfl⟩) fun _ _ _ _ z => z.elim))
/-- a law's draws: what is left of the cell, the cell, the turns -/
abbrev drC (l c t : Int) : Cell := .dic [(.inr "left", .int l), (.inr "cell", .int c), (.inr "turns", .int t)]
structure Dr (d : Nat) (s : Sto) (B : Nat) : Prop where
  lt : d < s.n
  ex : ∃ l c t : Int, s.c d = drC l c t ∧ 0 ≤ l ∧ 0 ≤ t ∧ t ≤ B
/-- all but d stays -/
def Upto (d : Nat) (s s' : Sto) : Prop := s'.n = s.n ∧ ∀ i, i ≠ d → s'.c i = s.c i
theorem Upto.refl (d : Nat) (s : Sto) : Upto d s s := ⟨rfl, fun _ _ => rfl⟩
theorem Upto.trans {d : Nat} {s s1 s2 : Sto} (a : Upto d s s1) (b : Upto d s1 s2) : Upto d s s2 := ⟨b.1.trans a.1, fun i h => (b.2 i h).trans (a.2 i h)⟩
theorem Upto.set {d : Nat} {s : Sto} {x : Cell} : Upto d s (s.set d x) := ⟨rfl, fun i h => Sto.set_ne h⟩
theorem cmul {i j : Int} {m n : Nat} (hi : i.natAbs < 2 ^ m) (hj : j.natAbs < 2 ^ n) (h : m + n ≤ 134217728) : L2.CMulX i j := by
  have h1 := PySem.intBits_le_iff.mpr hi
  have h2 := PySem.intBits_le_iff.mpr hj
  show (Builtin.Int.intBits i : Int) + (Builtin.Int.intBits j : Int) ≤ 134217728
  omega
theorem gMul_ok {i j : Int} {m n : Nat} {s : Sto} (hi : i.natAbs < 2 ^ m) (hj : j.natAbs < 2 ^ n) (h : m + n ≤ 134217728) : gMul (.int i) (.int j) s = .ok (.int (i * j)) s := gMul_int (cmul hi hj h)
theorem drCl {n : Nat} {l c t : Int} : ClC n (drC l c t) := by simp [ClC]
theorem Upto.clean {d B : Nat} {s s' : Sto} (u : Upto d s s') (D : Dr d s' B) : Clean s s' := by
  obtain ⟨l, c, t, h, _⟩ := D.ex
  refine ⟨Nat.le_of_eq u.1.symm, fun i hi => ?_⟩
  by_cases e : i = d
  · subst e
    exact .inr (by rw [h]; exact drCl)
  · exact .inl (u.2 i e)
theorem Upto.cut {d B : Nat} {s s' : Sto} (u : Upto d s s') (D : Dr d s' B) : s'.cut s = s' := by
  have lt := D.lt
  have h1 := u.1
  cases s' with
  | mk n' c' =>
    cases s with
    | mk n c =>
      unfold Sto.cut
      simp only at h1
      subst h1
      simp only [Sto.mk.injEq, true_and]
      funext j
      by_cases hj : j < n'
      · simp [hj]
      · simp only [if_neg hj]
        exact (u.2 j (by have : d < n' := lt; omega)).symm
theorem Dr.mono {d B C : Nat} {s : Sto} (D : Dr d s B) (h : B ≤ C) : Dr d s C := ⟨D.lt, by
  obtain ⟨l, c, t, a, b, e, f⟩ := D.ex
  exact ⟨l, c, t, a, b, e, by omega⟩⟩
theorem gIx_tup {s : Sto} {xs : List AV} {i : Int} {v : AV} (h : L2.atI xs i = some v) : gIx (.tup xs) (.int i) s = .ok v s := gIx_seq seqOf_tup h
theorem new_set {s : Sto} {a b : Cell} : (s.new a).set s.n b = s.new b := by
  unfold Sto.new Sto.set
  simp only [Sto.mk.injEq, true_and]
  funext j
  by_cases hj : j = s.n
  · simp [hj]
  · simp [hj]
theorem m64 (i : Int) : Builtin.bitAnd i (18446744073709551616 - 1) = i % 18446744073709551616 := PySem.W.kbt_mask i 64
theorem m32 (i : Int) : Builtin.bitAnd i (4294967296 - 1) = i % 4294967296 := PySem.W.kbt_mask i 32
theorem m1 (i : Int) : Builtin.bitAnd i 1 = i % 2 := PySem.W.kbt_mask i 1
theorem gM2 {i : Int} {s : Sto} (h : i.natAbs < 2 ^ 100) : gMul (.int 2) (.int i) s = .ok (.int (2 * i)) s := gMul_ok (m := 2) (by decide) h (by decide)
abbrev dgC (b : Int) (g : Nat) (t : Int) : Cell := .dic [(.inr "mixed", .int b), (.inr "great", .obj g), (.inr "turn", .int t)]
structure Gd2 (d g : Nat) (s s' : Sto) : Prop where
  n : s.n ≤ s'.n
  c : ∀ i, i < s.n → i ≠ d → i ≠ g → s'.c i = s.c i
section
variable {d g : Nat} {s t u : Sto} {x : Cell}
theorem Gd2.refl (d g : Nat) (s : Sto) : Gd2 d g s s := ⟨Nat.le_refl _, fun _ _ _ _ => rfl⟩
theorem Gd2.trans (a : Gd2 d g s t) (b : Gd2 d g t u) : Gd2 d g s u := ⟨Nat.le_trans a.n b.n, fun i h e f => (b.c i (Nat.lt_of_lt_of_le h a.n) e f).trans (a.c i h e f)⟩
theorem Gd2.setd (a : Gd2 d g s t) : Gd2 d g s (t.set d x) := ⟨a.n, fun i h e f => (Sto.set_ne e).trans (a.c i h e f)⟩
theorem Gd2.setg (a : Gd2 d g s t) : Gd2 d g s (t.set g x) := ⟨a.n, fun i h e f => (Sto.set_ne f).trans (a.c i h e f)⟩
theorem Gd2.new (a : Gd2 d g s t) : Gd2 d g s (t.new x) := ⟨Nat.le_succ_of_le a.n, fun i h e f => (at_new (Nat.lt_of_lt_of_le h a.n)).trans (a.c i h e f)⟩
theorem Gd2.setn {i : Nat} (a : Gd2 d g s t) (h : s.n ≤ i) : Gd2 d g s (t.set i x) := ⟨a.n, fun j hj e f => (Sto.set_ne (by omega)).trans (a.c j hj e f)⟩
theorem Gd2.cut (a : Gd2 d g s t) (hd : d < s.n) (hg : g < s.n) : t.cut s = (s.set d (t.c d)).set g (t.c g) := by
  unfold Sto.cut Sto.set
  simp only [Sto.mk.injEq, true_and]
  funext i
  by_cases f : i = g
  · subst f; simp [hg]
  · by_cases e : i = d
    · subst e; simp [hd, f]
    · by_cases hi : i < s.n
      · simp [hi, e, f, a.c i hi e f]
      · simp [hi, e, f]
theorem Gd2.clean (a : Gd2 d g s t) (h1 : ClC s.n (t.c d)) (h2 : ClC s.n (t.c g)) : Clean s t := ⟨a.n, fun i hi => by
  by_cases e : i = d
  · subst e; exact .inr h1
  · by_cases f : i = g
    · subst f; exact .inr h2
    · exact .inl (a.c i hi e f)⟩
variable {P : AV → Sto → Prop} {R : String → List Str → List AV → Sto → Prop}
theorem gcF_d2 {F : List AV → Sto → Res AV} {args : List AV} (hd : d < s.n) (hg : g < s.n) (h : (F args s).Post (fun v s' => Cl s.n v ∧ Gd2 d g s s' ∧ (ClC s.n (s'.c d) ∧ ClC s.n (s'.c g)) ∧ P v ((s.set d (s'.c d)).set g (s'.c g))) (fun c ns vs s' => False)) : (gcF F args s).Post P R :=
  post_gcF.mpr (h.mono (fun v s' z => by rw [if_pos ⟨z.1, z.2.1.clean z.2.2.1.1 z.2.2.1.2⟩, z.2.1.cut hd hg]; exact z.2.2.2) fun c ns vs s' z => z.elim)
theorem gcT_d2 {f : AT} {Q : Bool → Sto → Prop} {σ : ASt} (hd : d < s.n) (hg : g < s.n) (h : (f σ s).Post (fun v s' => Gd2 d g s s' ∧ (ClC s.n (s'.c d) ∧ ClC s.n (s'.c g)) ∧ Q v ((s.set d (s'.c d)).set g (s'.c g))) R) : (gcT f σ s).Post Q R :=
  post_gcT.mpr (h.mono (fun v s' z => by rw [if_pos (z.1.clean z.2.1.1 z.2.1.2), z.1.cut hd hg]; exact z.2.2) fun _ _ _ _ z => z)
end
structure Dg (d g : Nat) (B : Nat) (s : Sto) : Prop where
  ne : d ≠ g
  ex : ∃ (b t : Int) (gs : List Int), s.c d = dgC b g t ∧ 0 ≤ b ∧ b < 2305843009213693951 ∧ 0 ≤ t ∧ t ≤ B ∧ s.c g = .lst (gs.map .int) ∧ (∀ z ∈ gs, 0 ≤ z) ∧ gs.length ≤ 64
theorem Dg.mono {d g B C : Nat} {s : Sto} (D : Dg d g B s) (h : B ≤ C) : Dg d g C s := ⟨D.ne, by
  obtain ⟨b, t, gs, h1, h2, h3, h4, h5, h6⟩ := D.ex
  exact ⟨b, t, gs, h1, h2, h3, h4, by omega, h6⟩⟩
theorem clL_ints {n : Nat} (l : List Int) : ClL n (l.map AV.int) := by
  induction l with
  | nil => simp
  | cons a l ih => simp [ih]
theorem Dg.cl {d g B n : Nat} {s : Sto} (D : Dg d g B s) (hg : g < n) : ClC n (s.c d) ∧ ClC n (s.c g) := by
  obtain ⟨b, t, gs, h1, h2, h3, h4, h5, h6, h7⟩ := D.ex
  refine ⟨?_, ?_⟩
  · rw [h1]; simp [ClC, hg]
  · rw [h6]; exact clL_ints gs
theorem Dg.of {d g B : Nat} {s t : Sto} (D : Dg d g B s) (h1 : t.c d = s.c d) (h2 : t.c g = s.c g) : Dg d g B t := ⟨D.ne, by
  obtain ⟨b, t, gs, k1, k⟩ := D.ex
  exact ⟨b, t, gs, h1.trans k1, k.1, k.2.1, k.2.2.1, k.2.2.2.1, h2.trans k.2.2.2.2.1, k.2.2.2.2.2⟩⟩
structure Inv2 (d g B : Nat) (t s : Sto) : Prop where
  ld : d < t.n
  lg : g < t.n
  gd : Gd2 d g t s
  ok : Dg d g B s
section
variable {P : AV → Sto → Prop} {R : String → List Str → List AV → Sto → Prop} {d g B : Nat} {s t : Sto} {x : Cell}
theorem Inv2.lsd (S : Inv2 d g B t s) : d < s.n := Nat.lt_of_lt_of_le S.ld S.gd.n
theorem Inv2.lsg (S : Inv2 d g B t s) : g < s.n := Nat.lt_of_lt_of_le S.lg S.gd.n
theorem Inv2.new (S : Inv2 d g B t s) : Inv2 d g B t (s.new x) := ⟨S.ld, S.lg, S.gd.new, S.ok.of (at_new S.lsd) (at_new S.lsg)⟩
theorem Inv2.mono {C : Nat} (S : Inv2 d g B t s) (h : B ≤ C) : Inv2 d g C t s := ⟨S.ld, S.lg, S.gd, S.ok.mono h⟩
theorem Inv2.set_new {i : Nat} (S : Inv2 d g B t s) (h : t.n ≤ i) : Inv2 d g B t (s.set i x) :=
  ⟨S.ld, S.lg, S.gd.setn h, S.ok.of (Sto.set_ne (by have := S.ld; omega)) (Sto.set_ne (by have := S.lg; omega))⟩
theorem Inv2.start (hd : d < s.n) (hg : g < s.n) (h : Dg d g B s) : Inv2 d g B s s := ⟨hd, hg, .refl d g s, h⟩
/-- what a def has drawn, seen by its caller -/
theorem Inv2.back {C : Nat} {s' : Sto} (S : Inv2 d g B t s) (h : Dg d g C s') : Inv2 d g C t ((s.set d (s'.c d)).set g (s'.c g)) :=
  ⟨S.ld, S.lg, S.gd.setd.setg, h.of (by rw [Sto.set_ne h.ne, Sto.set_at]) Sto.set_at⟩
theorem Gd2.back {s' : Sto} (d g : Nat) (s : Sto) : Gd2 d g s ((s.set d (s'.c d)).set g (s'.c g)) := (Gd2.refl d g s).setd.setg
end
theorem sz3b : (3 : Nat) < sizeLine := by decide
theorem q12 : ¬ (("mixed" : Str) = "great") := by decide
theorem q13 : ¬ (("mixed" : Str) = "turn") := by decide
theorem q21 : ¬ (("great" : Str) = "mixed") := by decide
theorem q23 : ¬ (("great" : Str) = "turn") := by decide
theorem q31 : ¬ (("turn" : Str) = "mixed") := by decide
theorem q32 : ¬ (("turn" : Str) = "great") := by decide
section
variable {s : Sto} {d g : Nat} {b t v : Int}
theorem dgM (h : s.c d = dgC b g t) : gDGet (.obj d) (.str "mixed") s = .ok (.int b) s := gDGet_obj h rfl (by simp [valA])
theorem dgG (h : s.c d = dgC b g t) : gDGet (.obj d) (.str "great") s = .ok (.obj g) s := gDGet_obj h rfl (by simp [valA, q12])
theorem dgT (h : s.c d = dgC b g t) : gDGet (.obj d) (.str "turn") s = .ok (.int t) s := gDGet_obj h rfl (by simp [valA, q13, q23])
theorem sdM (h : s.c d = dgC b g t) : setD (.obj d) (.str "mixed") (.int v) s = some (s.set d (dgC v g t)) := by
  rw [setD_obj h rfl sz3b]
  simp [putKA, q21, q31]
theorem sdT (h : s.c d = dgC b g t) : setD (.obj d) (.str "turn") (.int v) s = some (s.set d (dgC b g v)) := by
  rw [setD_obj h rfl sz3b]
  simp [putKA, q13, q23]
end
theorem ne_nil {s : Sto} {a e : Nat} {gs : List Int} (h1 : s.c a = .lst (gs.map .int)) (h2 : s.c e = .lst []) : gNe (.obj a) (.obj e) s = .ok (.bl (!gs.isEmpty)) s := by
  have d1 : dat 12 s (.obj a) = some (.list (gs.map PyData.int)) := by
    show (match s.c a with | .lst xs => (optL (dat 11 s) xs).map PyData.list | _ => none) = _
    rw [h1]
    have : ∀ l : List Int, optL (dat 11 s) (l.map AV.int) = some (l.map PyData.int) := by
      intro l
      induction l with
      | nil => rfl
      | cons z l ih =>
        show (match dat 11 s (.int z), optL (dat 11 s) (l.map AV.int) with | some d, some ds => some (d :: ds) | _, _ => none) = _
        rw [ih]; rfl
    show (optL (dat 11 s) (gs.map AV.int)).map PyData.list = _
    rw [this]; rfl
  have d2 : dat 12 s (.obj e) = some (.list []) := by
    show (match s.c e with | .lst xs => (optL (dat 11 s) xs).map PyData.list | _ => none) = _
    rw [h2]; rfl
  have sh : ∀ l : List Int, SeqAt.shaped (.list (l.map PyData.int)) = true := by
    intro l
    have k : PyData.canLayAll0 (l.map PyData.int) = true ∧ PyData.depthAll (l.map PyData.int) = 0 := by
      induction l with
      | nil => simp [PyData.canLayAll0, PyData.depthAll]
      | cons z l ih => simp [PyData.canLayAll0, PyData.canLay0, PyData.depthAll, PyData.depth, ih.1, ih.2]
    simp [SeqAt.shaped, PyData.canLay0, PyData.depth, k.1, k.2]
  rw [gNe_b (eqB_dat rfl d1 d2 (sh gs) (sh []))]
  congr 2
  cases gs <;> simp [PyData.eqv, PyData.eqvAll]
section
variable {P : AV → Sto → Prop} {R : String → List Str → List AV → Sto → Prop} {d g B : Nat} {s t : Sto}
theorem wi_next {n : Int} (S : Inv2 d g B t s) (hB : B ≤ 50000000) (n0 : 0 < n) (n1 : n.natAbs.log2 < 9000) (q : ∀ v s', 0 ≤ v → v < n → Inv2 d g (B + 1) t s' → Gd2 d g s s' → P (.int v) s') : (F__law_next [.obj d, .int n] s).Post P R := by
  unfold F__law_next
  refine gcF_d2 S.lsd S.lsg ?_
  obtain ⟨b, tu, gs, hd, b0, b1, t0, t1, hg, gs0, gl⟩ := S.ok.ex
  have dn := S.ok.ne
  have ld := S.lsd
  have lg := S.lsg
  have fin : ∀ v s', 0 ≤ v → v < n → Dg d g (B + 1) s' → Gd2 d g s s' → (Gd2 d g s s' ∧ (ClC s.n (s'.c d) ∧ ClC s.n (s'.c g)) ∧ P (.int v) ((s.set d (s'.c d)).set g (s'.c g))) := fun v s' h1 h2 h3 h4 =>
    ⟨h4, h3.cl lg, q v _ h1 h2 (S.back h3) (Gd2.back d g s)⟩
  have gT := dgT hd
  have gG := dgG hd
  have sT := sdT (v := tu + 1) hd
  have sub1 : agSub setD (aVar 0) (aC (.str "turn")) (.int (tu + 1)) [some (.obj d), some (.int n), none, none, none, none] s = .nx [some (.obj d), some (.int n), none, none, none, none] (s.set d (dgC b g (tu + 1))) := agSub_eq rfl rfl sT
  have hd1 : (s.set d (dgC b g (tu + 1))).c d = dgC b g (tu + 1) := Sto.set_at
  have hg1 : (s.set d (dgC b g (tu + 1))).c g = .lst (gs.map .int) := (Sto.set_ne (Ne.symm dn)).trans hg
  have G1 : Gd2 d g s (s.set d (dgC b g (tu + 1))) := (Gd2.refl d g s).setd
  have N1 : (s.set d (dgC b g (tu + 1))).n = s.n := rfl
  simp! [B__law_next, gT, gG, sub1]
  generalize s.set d (dgC b g (tu + 1)) = s1 at *
  have gT1 := dgT hd1
  have ln := gLen_seq (seqOf_obj hg1)
  rw [List.length_map] at ln
  obtain ⟨L, hL⟩ : ∃ L : Int, L = (if ((gs.length : Nat) : Int) > 1 then ((gs.length : Nat) : Int) else 1) := ⟨_, rfl⟩
  have L0 : 0 < L := by rw [hL]; split <;> omega
  have mx : gMax2 [.int 1, .int ((gs.length : Nat) : Int)] s1 = .ok (.int L) s1 := by rw [hL]; rfl
  have md : gMod (.int (tu + 1)) (.int L) s1 = .ok (.int ((tu + 1) % L)) s1 := gMod_int (by omega)
  have at0 := Int.emod_nonneg (tu + 1) (show L ≠ 0 by omega)
  have at1 := Int.emod_lt_of_pos (tu + 1) L0
  simp! [gT1, ln, mx, md]
  have ne1 := ne_nil (s := s1.new (.lst [])) (a := g) (e := s1.n) (at_old (by omega) hg1) Sto.new_at
  have gM1 := dgM hd1
  have m1 : gMul (.int b) (.int 6364136223846793) s1 = .ok (.int (b * 6364136223846793)) s1 := gMul_ok (m := 61) (n := 53) (by omega) (by decide) (by decide)
  have m2 : gMul (.int 1442695040888963) (.int (tu + 1)) s1 = .ok (.int (1442695040888963 * (tu + 1))) s1 := gMul_ok (m := 51) (n := 30) (by decide) (by omega) (by decide)
  obtain ⟨z, hz⟩ : ∃ z : Int, z = b * 6364136223846793 + 1442695040888963 * (tu + 1) + 11 := ⟨_, rfl⟩
  have md1 : gMod (.int z) (.int 2305843009213693951) s1 = .ok (.int (z % 2305843009213693951)) s1 := gMod_int (by decide)
  have sM := sdM (v := z % 2305843009213693951) hd1
  have hd2 : (s1.set d (dgC (z % 2305843009213693951) g (tu + 1))).c d = dgC (z % 2305843009213693951) g (tu + 1) := Sto.set_at
  have gM2 := dgM hd2
  have fd : ∀ s, gFdiv (.int (z % 2305843009213693951)) (.int 32749) s = .ok (.int (z % 2305843009213693951 / 32749)) s := fun s => gFdiv_int ⟨by decide, by decide⟩
  have mdn : ∀ s, gMod (.int (z % 2305843009213693951 / 32749)) (.int n) s = .ok (.int (z % 2305843009213693951 / 32749 % n)) s := fun s => gMod_int (by omega)
  have mixed := fin (z % 2305843009213693951 / 32749 % n) _ (Int.emod_nonneg _ (by omega)) (Int.emod_lt_of_pos _ n0) ⟨dn, _, _, gs, hd2, Int.emod_nonneg _ (by decide), Int.emod_lt_of_pos _ (by decide), by omega, by omega, (Sto.set_ne (Ne.symm dn)).trans hg1, gs0, gl⟩ G1.setd
  rw [hd2] at mixed
  by_cases he : gs = []
  · have ne1 : gNe (.obj g) (.obj s1.n) (s1.new (.lst [])) = .ok (.bl false) (s1.new (.lst [])) := by rw [ne1, he]; rfl
    refine gcT_g ?_
    have z0 : ((0 : Nat) ≤ sizeLine) = True := eq_true (Nat.zero_le _)
    simp! [ne1, z0]
    refine ⟨(Gb.refl _).new, ?_⟩
    simp! [gM1, gT1, m1, m2, ← hz, md1, sM, gM2, fd, mdn]
    exact mixed
  · have ne1 : gNe (.obj g) (.obj s1.n) (s1.new (.lst [])) = .ok (.bl true) (s1.new (.lst [])) := by
      rw [ne1]
      cases gs with
      | nil => exact absurd rfl he
      | cons => rfl
    have len : L = (gs.length : Nat) := by
      have : 0 < gs.length := List.length_pos_iff.mpr he
      rw [hL]; split <;> omega
    obtain ⟨k, hk⟩ := Int.eq_ofNat_of_zero_le at0
    have kl : k < gs.length := by omega
    obtain ⟨y, hy⟩ : ∃ y, gs[k]? = some y := ⟨gs[k], List.getElem?_eq_getElem kl⟩
    have z0 := gs0 y (List.mem_of_getElem? hy)
    have hx : (gs.map AV.int)[k]? = some (.int y) := by rw [List.getElem?_map, hy]; rfl
    have ia : L2.atI (gs.map AV.int) ((tu + 1) % L) = some (.int y) := by rw [hk]; exact L2.atI_nat hx
    have ix : ∀ s' : Sto, s'.c g = .lst (gs.map .int) → gIx (.obj g) (.int ((tu + 1) % L)) s' = .ok (.int y) s' := fun s' h => gIx_seq (seqOf_obj h) ia
    have ixN := ix (s1.new (.lst [])) (at_old (by omega) hg1)
    have ix1 := ix s1 hg1
    have z00 : ((0 : Nat) ≤ sizeLine) = True := eq_true (Nat.zero_le _)
    by_cases zp : 0 < y
    · have dz : decide (0 < y) = true := decide_eq_true zp
      have md2 : gMod (.int y) (.int n) s1 = .ok (.int (y % n)) s1 := gMod_int (by omega)
      have fd2 : gFdiv (.int y) (.int n) s1 = .ok (.int (y / n)) s1 := gFdiv_int ⟨by omega, by omega⟩
      have ixn : L2.ixN (gs.map AV.int).length ((tu + 1) % L) = some k := by
        rw [hk, List.length_map]
        unfold L2.ixN
        rw [if_pos (by omega), if_pos (by omega)]
        rfl
      have sl := setL_obj (y := .int (y / n)) hg1 ixn
      have sub2 : ∀ x5, agSub setL (aVar 2) (aVar 3) (.int (y / n)) [some (.obj d), some (.int n), some (.obj g), some (.int ((tu + 1) % L)), some (.int (y % n)), x5] s1 = .nx [some (.obj d), some (.int n), some (.obj g), some (.int ((tu + 1) % L)), some (.int (y % n)), x5] (s1.set g (.lst ((gs.map AV.int).set k (.int (y / n))))) := fun x5 => agSub_eq rfl rfl sl
      refine gcT_g ?_
      simp! [ne1, z00, ixN, dz, gGt_int]
      refine ⟨(Gb.refl _).new, ?_⟩
      simp! [ix1, md2, fd2, sub2]
      have f := fin (y % n) (s1.set g (.lst ((gs.map AV.int).set k (.int (y / n))))) (Int.emod_nonneg _ (by omega)) (Int.emod_lt_of_pos _ n0) ⟨dn, b, _, gs.set k (y / n), (Sto.set_ne dn).trans hd1, b0, b1, by omega, by omega, Sto.set_at.trans (by rw [List.map_set]), fun w hw => by
        rcases List.mem_or_eq_of_mem_set hw with h | rfl
        · exact gs0 w h
        · exact Int.ediv_nonneg z0 (by omega), by rw [List.length_set]; exact gl⟩ G1.setg
      rw [show (s1.set g (.lst ((gs.map AV.int).set k (.int (y / n))))).c g = .lst ((gs.map AV.int).set k (.int (y / n))) from Sto.set_at] at f
      exact f
    · have dz : decide (0 < y) = false := decide_eq_false zp
      refine gcT_g ?_
      simp! [ne1, z00, ixN, dz, gGt_int]
      refine ⟨(Gb.refl _).new, ?_⟩
      simp! [gM1, gT1, m1, m2, ← hz, md1, sM, gM2, fd, mdn]
      exact mixed
end
theorem merge3g (a b c : AV) : mergeA [] [(.inr "mixed", a), (.inr "great", b), (.inr "turn", c)] = [(.inr "mixed", a), (.inr "great", b), (.inr "turn", c)] := by
  simp [mergeA, putKA, q12, q13, q21, q23, q31, q32]
theorem pow18 (s : Sto) : gPow (.int 10) (.int 18) s = .ok (.int 1000000000000000000) s := gPow_int (show L2.CPow 10 18 from ⟨by decide, by decide, by decide⟩)
theorem begun_post {ns : List Int} {s : Sto} {P : AV → Sto → Prop} {R : String → List Str → List AV → Sto → Prop} (hl : ns.length ≤ 63) (q : ∀ d g s', Gb s s' → s.n ≤ d → d < s'.n → s.n ≤ g → g < s'.n → Dg d g 0 s' → P (.obj d) s') : (F__law_begun [.scr (ns.map .int)] s).Post P R := by
  unfold F__law_begun
  refine post_gcF.mpr ?_
  have z3 : ((0 : Nat) ≤ sizeLine) = True := eq_true (Nat.zero_le _)
  have ln : gLen [.scr (ns.map .int)] s = .ok (.int (ns.length : Nat)) s := by rw [gLen_scr, List.length_map]
  have m0 : gMul (.int 41) (.int (ns.length : Nat)) s = .ok (.int (41 * (ns.length : Nat))) s := gMul_ok (m := 6) (n := 6) (by decide) (by omega) (by decide)
  simp! [B__law_begun, ln, m0]
  refine post_enum lstOf_scr ?_
  simp! [eq_self]
  refine for_A (fun i σ s' => s' = s ∧ ∃ (b : Int) (x y : Option AV), 0 ≤ b ∧ b < 2305843009213693951 ∧ σ = [some (.scr (ns.map .int)), some (.int b), x, y]) ⟨rfl, _, _, _, by omega, by omega, rfl⟩ ?_ ?_
  · rintro i x σ s' hx ⟨rfl, b, x1, y1, b0, b1, rfl⟩
    refine ⟨lstOf_scr, ?_⟩
    obtain ⟨y, hy, rfl⟩ := enumA_get hx
    have hi : i < 63 := by
      have := (List.getElem?_eq_some_iff.mp hy).1
      rw [List.length_map] at this
      omega
    obtain ⟨z, rfl⟩ : ∃ z, y = .int z := by
      have := List.mem_of_getElem? hy
      obtain ⟨z, _, rfl⟩ := List.mem_map.mp this
      exact ⟨z, rfl⟩
    have m1 : gMul (.int b) (.int 998244353) s' = .ok (.int (b * 998244353)) s' := gMul_ok (m := 61) (n := 30) (by omega) (by decide) (by decide)
    have m2 : gMul (.int 104723) (.int (i : Nat)) s' = .ok (.int (104723 * (i : Nat))) s' := gMul_ok (m := 17) (n := 6) (by decide) (by omega) (by decide)
    have md : ∀ z : Int, gMod (.int z) (.int 2305843009213693951) s' = .ok (.int (z % 2305843009213693951)) s' := fun z => gMod_int (by decide)
    simp! [m1, m2, md]
    exact ⟨_, _, _, Int.emod_nonneg _ (by decide), Int.emod_lt_of_pos _ (by decide), rfl⟩
  rintro σ s' ⟨rfl, b, x1, y1, b0, b1, rfl⟩
  refine ⟨lstOf_scr, ?_⟩
  simp! [pow18]
  refine lc_P (fun i acc s2 => Gb s' s2 ∧ s'.n + 1 < s2.n ∧ s2.c s'.n = .dic [] ∧ acc.length ≤ i ∧ ∃ gs : List Int, acc = gs.map .int ∧ ∀ z ∈ gs, 0 ≤ z) ⟨(Gb.refl s').new.new, Nat.lt_succ_self _, at_old (Nat.lt_succ_self _) Sto.new_at, Nat.le_refl _, [], rfl, fun z hz => by cases hz⟩ Sto.new_at (by rw [List.length_map]; omega) ?_ ?_
  · rintro i y acc s2 hy ⟨g2, n2, dk, hl2, gs, rfl, h0⟩ hk
    obtain ⟨z, rfl⟩ : ∃ z, y = .int z := by
      have := List.mem_of_getElem? hy
      obtain ⟨z, _, rfl⟩ := List.mem_map.mp this
      exact ⟨z, rfl⟩
    refine ⟨trivial, ?_⟩
    by_cases hz : (1000000000000000000 : Int) ≤ z
    · have d : decide ((1000000000000000000 : Int) ≤ z) = true := decide_eq_true hz
      simp! [wipeA, pow18, d]
      refine ⟨hk, g2.set (Nat.le_succ _), n2, (Sto.set_ne (by omega)).trans dk, by simpa using hl2, gs ++ [z], by simp, fun w hw => ?_⟩
      rcases List.mem_append.mp hw with h | h
      · exact h0 w h
      · rw [List.mem_singleton.mp h]; omega
    · have d : decide ((1000000000000000000 : Int) ≤ z) = false := decide_eq_false hz
      simp! [wipeA, pow18, d]
      exact ⟨hk, g2, n2, dk, by omega, gs, rfl, h0⟩
  · rintro acc s2 ⟨g2, n2, dk, hl2, gs, rfl, h0⟩ hk
    refine ⟨trivial, ?_⟩
    rw [List.length_map, List.length_map] at hl2
    simp! [eq_self]
    rw [e_dispK dk rfl (by simp), merge3g]
    simp! [eq_self]
    rw [if_neg (by simp)]
    exact q _ (s'.n + 1) _ (g2.set (Nat.le_refl _)) (Nat.le_refl _) (show s'.n < s2.n by omega) (Nat.le_succ _) n2 ⟨by omega, b, 0, gs, Sto.set_at, b0, b1, Int.le_refl _, Int.le_refl _, (Sto.set_ne (by omega)).trans hk, h0, by omega⟩
end Pf
set_option linter.all false
namespace MB
open MX
/-- a key's part for a step -/
def part (k s : Nat) : Nat := if s % 2 = 1 then k / 4294967296 else k % 4294967296
def chg (k s l : Nat) : Nat := xs 17 ((l * F + part k s + s) % 4294967296)
def bk (k s : Nat) (p : Nat × Nat) : Nat × Nat := (p.2 ^^^ chg k s p.1, p.1)
/-- the last i steps back: 3, 2, .. -/
def bs (k : Nat) : Nat → Nat × Nat → Nat × Nat
  | 0, p => p
  | i + 1, p => bk k (3 - i) (bs k i p)
end MB
set_option Elab.async false
set_option linter.all false
set_option maxRecDepth 100000
set_option maxHeartbeats 1000000
set_option exponentiation.threshold 3000
namespace Pf
open PySem Ab
theorem bitsN (n : Nat) : Builtin.Int.intBits (n : Int) = TW.len n := by
  unfold Builtin.Int.intBits TW.len
  by_cases h : n = 0
  · subst h; rfl
  · rw [if_neg (by simpa using h), if_neg h]; simp
theorem bits_le {n k : Nat} (h : n < 2 ^ k) : Builtin.Int.intBits (n : Int) ≤ k := by
  rw [bitsN]; exact TW.len_le h
theorem shl_ok {a : Nat} {j : Nat} {k : Nat} {s : Sto} (h : a < 2 ^ k) (hk : k + j ≤ 100000) : gShl (.int (a : Nat)) (.int (j : Nat)) s = .ok (.int ((a * 2 ^ j : Nat) : Int)) s := by
  rw [gShl_int ⟨by omega, by have := bits_le h; omega⟩]
  simp
theorem shl_one {k : Nat} (s : Sto) (hk : k ≤ 5000) : gShl (.int 1) (.int (k : Nat)) s = .ok (.int ((2 ^ k : Nat) : Int)) s := by
  have := shl_ok (a := 1) (j := k) (k := 1) (s := s) (by decide) (by omega)
  rw [Nat.one_mul] at this
  exact this
end Pf
set_option linter.all false
set_option maxRecDepth 100000
namespace PO
open TW
def cm (a b : Nat) : Nat := A a (fun i => b * 2 ^ i) 0
theorem two_xor (x y k : Nat) : (x ^^^ y) * 2 ^ k = (x * 2 ^ k) ^^^ (y * 2 ^ k) := by
  rw [← Nat.shiftLeft_eq, ← Nat.shiftLeft_eq, ← Nat.shiftLeft_eq, Nat.shiftLeft_xor_distrib]
theorem act_scale : ∀ (n p : Nat) (u : Nat → Nat) (b k : Nat), act n p (fun i => u i * 2 ^ k) b = act n p u b * 2 ^ k
  | 0, p, u, b, k => by simp [act]
  | n + 1, p, u, b, k => by
    unfold act
    rw [act_scale n, two_xor]
    congr 1
    by_cases h : p % 2 = 1 <;> simp [h]
theorem A_scale (p : Nat) (u : Nat → Nat) (b k : Nat) : A p (fun i => u i * 2 ^ k) b = A p u b * 2 ^ k := act_scale p p u b k
theorem A_pow (a b i : Nat) : A a (fun j => b * 2 ^ j) i = cm a b * 2 ^ i := by
  have h := A_shift a (fun j => b * 2 ^ j) 0 i
  rw [Nat.zero_add] at h
  rw [← h, cm, ← A_scale]
  congr 1
  funext j
  rw [Nat.pow_add, Nat.mul_assoc]
theorem cm_step (a b : Nat) : cm a b = (if a % 2 = 1 then b else 0) ^^^ cm (a / 2) b * 2 := by
  have h := A_step a (fun i => b * 2 ^ i) 0
  rw [A_pow, A_pow] at h
  simpa using h
theorem cm_zero_left (b : Nat) : cm 0 b = 0 := rfl
theorem cm_xor_left (a b c : Nat) : cm (a ^^^ b) c = cm a c ^^^ cm b c := A_xor a b _ 0
theorem cm_one_left (b : Nat) : cm 1 b = b := by
  unfold cm
  rw [A_one]; simp
theorem cm_two_left (a b : Nat) : cm (a * 2) b = cm a b * 2 := by
  have h := A_shl a (fun i => b * 2 ^ i) 1 0
  rw [Nat.pow_one] at h
  unfold cm at *
  rw [h, A_pow, Nat.zero_add, Nat.pow_one]
  rfl
theorem pow_left (k b : Nat) : cm (2 ^ k) b = b * 2 ^ k := by
  induction k with
  | zero => rw [Nat.pow_zero, cm_one_left, Nat.mul_one]
  | succ k ih => rw [Nat.pow_succ, cm_two_left, ih, Nat.mul_assoc]
theorem cm_assoc : ∀ a b c : Nat, cm (cm a b) c = cm a (cm b c) := by
  intro a
  induction a using Nat.strongRecOn with
  | _ a ih =>
    intro b c
    by_cases h : a = 0
    · subst h; rfl
    · rw [cm_step a b, cm_xor_left, cm_two_left, ih (a / 2) (by omega), cm_step a (cm b c)]
      congr 1
      split <;> simp [cm_zero_left]
theorem len_rng {n : Nat} (h : n ≠ 0) : 2 ^ (len n - 1) ≤ n ∧ n < 2 ^ (len n - 1 + 1) ∧ 1 ≤ len n := by
  have h0 : 1 ≤ len n := by rw [len_pos h]; omega
  refine ⟨len_ge h, ?_, h0⟩
  rw [show len n - 1 + 1 = len n by omega]
  exact lt_len n
theorem xx (a b : Nat) : a ^^^ (a ^^^ b) = b := by rw [← Nat.xor_assoc, Nat.xor_self, Nat.zero_xor]
theorem xx2 (a b : Nat) : (b ^^^ a) ^^^ a = b := by rw [Nat.xor_assoc, Nat.xor_self, Nat.xor_zero]
theorem rest_spec : ∀ (n a m : Nat), m ≠ 0 → len a < n + len m → (∃ q, a = cm q m ^^^ restN n a m) ∧ len (restN n a m) < len m
  | 0, a, m, hm, h => ⟨⟨0, by rw [cm_zero_left, Nat.zero_xor]; rfl⟩, by show len a < _; omega⟩
  | n + 1, a, m, hm, h => by
    rw [restN]
    split
    · rename_i h0
      have st := len_step hm h0
      obtain ⟨⟨q, hq⟩, hl⟩ := rest_spec n (a ^^^ m * 2 ^ (len a - len m)) m hm (by omega)
      refine ⟨⟨q ^^^ 2 ^ (len a - len m), ?_⟩, hl⟩
      rw [cm_xor_left, pow_left]
      have e := congrArg (· ^^^ m * 2 ^ (len a - len m)) hq
      simp only [xx2] at e
      refine e.trans ?_
      rw [Nat.xor_assoc, Nat.xor_assoc, Nat.xor_comm (restN _ _ _)]
    · rename_i h0
      exact ⟨⟨0, by rw [cm_zero_left, Nat.zero_xor]⟩, by omega⟩
/-- the rest modulo m -/
def md (a m : Nat) : Nat := restN (len a + 1) a m
theorem md_spec (a : Nat) {m : Nat} (hm : m ≠ 0) : (∃ q, a = cm q m ^^^ md a m) ∧ len (md a m) < len m := rest_spec (len a + 1) a m hm (by have := (len_rng hm).2.2; omega)
def dv (d a : Nat) : Prop := ∃ q, a = cm q d
theorem dv_xor {d a b : Nat} : dv d a → dv d b → dv d (a ^^^ b)
  | ⟨q, h⟩, ⟨p, k⟩ => ⟨q ^^^ p, by rw [cm_xor_left, h, k]⟩
theorem dv_mul {d a : Nat} (c : Nat) : dv d a → dv d (cm c a)
  | ⟨q, h⟩ => ⟨cm c q, by rw [h, cm_assoc]⟩
theorem dv_md {d a m : Nat} (hm : m ≠ 0) (h : dv d a) (k : dv d m) : dv d (md a m) := by
  obtain ⟨⟨q, e⟩, _⟩ := md_spec a hm
  have : md a m = a ^^^ cm q m := by
    conv => rhs; rw [e]
    rw [Nat.xor_comm, xx]
  rw [this]
  exact dv_xor h (dv_mul q k)
theorem dv_of_md {d a m : Nat} (hm : m ≠ 0) (h : dv d (md a m)) (k : dv d m) : dv d a := by
  obtain ⟨⟨q, e⟩, _⟩ := md_spec a hm
  rw [e]
  exact dv_xor (dv_mul q k) h
theorem dv_self (a : Nat) : dv a a := ⟨1, (cm_one_left a).symm⟩
theorem dv_zero (d : Nat) : dv d 0 := ⟨0, rfl⟩
end PO
set_option linter.all false
set_option maxRecDepth 100000
namespace PO
open TW
def IsG (g a b : Nat) : Prop := dv g a ∧ dv g b ∧ ∀ d, dv d a → dv d b → dv d g
theorem IsG.symm {g a b : Nat} (x : IsG g a b) : IsG g b a := ⟨x.2.1, x.1, fun d h k => x.2.2 d k h⟩
theorem isG_zero (a : Nat) : IsG a a 0 := ⟨dv_self a, dv_zero a, fun d h _ => h⟩
theorem isG_step {g a b : Nat} (hb : b ≠ 0) : IsG g a b ↔ IsG g b (md a b) :=
  ⟨fun x => ⟨x.2.1, dv_md hb x.1 x.2.1, fun d h k => x.2.2 d (dv_of_md hb k h) h⟩, fun x => ⟨dv_of_md hb x.2.1 x.1, x.1, fun d h k => x.2.2 d k (dv_md hb h k)⟩⟩
theorem gd_ex : ∀ (n a b : Nat), len b < n → ∃ g, IsG g a b
  | 0, _, _, h => absurd h (by omega)
  | n + 1, a, b, h => by
    by_cases hb : b = 0
    · subst hb; exact ⟨a, isG_zero a⟩
    · obtain ⟨g, hg⟩ := gd_ex n b (md a b) (by have := (md_spec a hb).2; omega)
      exact ⟨g, (isG_step hb).mpr hg⟩
theorem gd_exists (a b : Nat) : ∃ g, IsG g a b := gd_ex (len b + 1) a b (by omega)
/-- the greatest common divisor, by choice -/
noncomputable def gd (a b : Nat) : Nat := Classical.choose (gd_exists a b)
end PO
set_option Elab.async false
set_option linter.all false
set_option maxRecDepth 100000
set_option maxHeartbeats 1000000
set_option exponentiation.threshold 3000
namespace Pf
open PySem Ab
local macro_rules | `(tactic| simp! [$xs,*]) => `(tactic| try simp (config := {maxSteps := 1000000}) only [k_bind, k_Kb, k_st, k_Kst, k_Rst, k_thn, k_loop, k_fn, k_forget, k_clr, k_noX, k_try, k_stuck, k_Astuck, d_thn_nx, d_thn_bk, d_thn_ct, d_thn_rt, d_thn_er, d_lp_nx, d_lp_bk, d_lp_ct, d_lp_rt, d_lp_er, d_fg_nx, d_fg_bk, d_fg_ct, d_fg_rt, d_fg_er, d_cl_nx, d_cl_bk, d_cl_ct, d_cl_rt, d_cl_er, d_tr_nx, d_tr_bk, d_tr_ct, d_tr_rt, d_tr_er, d_nX_nx, d_nX_bk, d_nX_ct, d_nX_rt, d_nX_er, d_fn_nx, d_fn_bk, d_fn_ct, d_fn_rt, d_fn_er, A_nx, A_bk, A_ct, A_rt, A_err, post_ok, post_err, post_noErr, e_op, e_opK, e_un, e_cb, e_nil, e_c, e_cons, e_consK, e_consK2, e_and, e_or, e_andK, e_orK, e_not, e_notK, e_test, e_testK, e_tand, e_tandK, e_tor, e_torK, e_tnot, e_tnotK, e_yes, e_if, e_ifK, e_ch, e_chK1, e_chK2, e_chK3, e_tup, e_tupK, e_lst, e_lstK, e_newL, e_call, e_callK, e_meth, e_methK, e_methK2, e_prop, e_propK, e_make, e_makeK, e_makeK2, e_makeV, e_sm, e_smK, e_smK2, e_cm, e_cmK, e_cmK2, e_sl, e_slK1, e_slK2, e_slK3, e_part, e_partK, e_nopart, e_rev, e_bm, e_bmK, e_pr, e_pr0, e_prK1, e_prK2, e_prK3, e_disp, e_dnew, e_own, e_ownK, e_lc, e_lcK, e_iter, e_rng1, e_rng1K, e_rng2, e_rng2K, e_enum, s_drop, s_dropK, s_ret, s_retK, s_retN, s_next, s_break, s_cont, s_seq, s_if, s_ifK, s_asg, s_asgK, s_name, s_par, s_parK, s_par3, s_parK3, s_gnil, s_gcons, s_gtup, s_for, s_forK, s_raise, s_raiseK, s_sf, s_sfK1, s_sfK2, s_dp, s_dpK1, s_dpK2, s_dpK3, s_forget, s_def, s_fld, e_enumU, e_enumUT, e_match, e_mcase, e_mcase2, e_many, e_mnil, e_lcX, e_lcXK, e_get2, e_methS, e_methS1, e_methS2, s_augS, s_augS1, gEqS_int, gEqS_str, gEqS_bl, gEqS_tup, e_fmt, e_js, e_jsC, e_jsN, e_join, e_joinK, eq_self, beq_self_eq_true, k_grd, k_grdS, k_ite, k_Aite, true_implies, false_implies, implies_true, List.map_cons, List.map_nil, List.nil_append, List.cons_append, List.append_nil, List.replicate_succ, List.replicate_zero, List.getElem?_cons_zero, List.getElem?_cons_succ, List.length_cons, List.length_nil, List.set_cons_zero, List.set_cons_succ, ↓reduceIte, ↓reduceDIte, Nat.reduceAdd, Nat.reduceLeDiff, Nat.reduceEqDiff, Nat.zero_add, if_true, if_false, aVar, gMinus_int, gLt_int, gLe_int, gGt_int, gGe_int, gEq_int, gNe_int, gEq_str, gNe_str, gEq_bl, gNe_bl, gXor_int, gAnd_int, gOr_int, gAdd_int, gIsN_non, gNotN_non, gIsB_bl, gNotB_bl, gNeg_int, gLen_tup, gLen_scr, gMax2_int, gMin2_int, gBits_int, gSl_tup, gSl_scr, Bool.not_true, Bool.not_false, Bool.true_eq_false, Bool.false_eq_true, Bool.true_and, Bool.false_and, Bool.and_true, Bool.and_false, Bool.true_or, Bool.false_or, decide_true, decide_false, and_self, and_true, true_and, and_false, false_and, not_true_eq_false, not_false_eq_true, reduceCtorEq, kz, z1, z2, z3, z4, z5, z6, z7, z8, z9, z10, z11, z12, z13, z14, z15, z16, isCls, isNon, aForget, aHand, toKey, keysA, iterOf_tup, iterOf_scr, oNx_some, noErr_ok, decide_eq_true_eq, decide_eq_false_iff_not, Sto.new_n, Sto.set_n, Sto.set_at, Sto.new_at, Nat.zero_le, aMakeV, Cl_non, Cl_bl, Cl_int, Cl_str, Cl_cls, Cl_obj, Cl_tup, ClL_nil, ClL_cons, $xs,*])
local macro_rules | `(tactic| simp! only [$xs,*]) => `(tactic| simp only [e_op, e_opK, e_un, e_cb, e_nil, e_c, e_cons, e_consK, e_consK2, e_and, e_or, e_andK, e_orK, e_not, e_notK, e_test, e_testK, e_tand, e_tandK, e_tor, e_torK, e_tnot, e_tnotK, e_yes, e_if, e_ifK, e_ch, e_chK1, e_chK2, e_chK3, e_tup, e_tupK, e_lst, e_lstK, e_newL, e_call, e_callK, e_meth, e_methK, e_methK2, e_prop, e_propK, e_make, e_makeK, e_makeK2, e_makeV, e_sm, e_smK, e_smK2, e_cm, e_cmK, e_cmK2, e_sl, e_slK1, e_slK2, e_slK3, e_part, e_partK, e_nopart, e_rev, e_bm, e_bmK, e_pr, e_pr0, e_prK1, e_prK2, e_prK3, e_disp, e_dnew, e_own, e_ownK, e_lc, e_lcK, e_iter, e_rng1, e_rng1K, e_rng2, e_rng2K, e_enum, s_drop, s_dropK, s_ret, s_retK, s_retN, s_next, s_break, s_cont, s_seq, s_if, s_ifK, s_asg, s_asgK, s_name, s_par, s_parK, s_par3, s_parK3, s_gnil, s_gcons, s_gtup, s_for, s_forK, s_raise, s_raiseK, s_sf, s_sfK1, s_sfK2, s_dp, s_dpK1, s_dpK2, s_dpK3, s_forget, s_def, s_fld, e_enumU, e_enumUT, e_match, e_mcase, e_mcase2, e_many, e_mnil, e_lcX, e_lcXK, e_get2, e_methS, e_methS1, e_methS2, s_augS, s_augS1, gEqS_int, gEqS_str, gEqS_bl, gEqS_tup, e_fmt, e_js, e_jsC, e_jsN, e_join, e_joinK, eq_self, beq_self_eq_true, true_implies, false_implies, implies_true, List.map_cons, List.map_nil, List.nil_append, List.cons_append, List.append_nil, List.replicate_succ, List.replicate_zero, List.getElem?_cons_zero, List.getElem?_cons_succ, List.length_cons, List.length_nil, List.set_cons_zero, List.set_cons_succ, ↓reduceIte, ↓reduceDIte, Nat.reduceAdd, Nat.reduceLeDiff, Nat.reduceEqDiff, Nat.zero_add, if_true, if_false, aVar, gMinus_int, gLt_int, gLe_int, gGt_int, gGe_int, gEq_int, gNe_int, gEq_str, gNe_str, gEq_bl, gNe_bl, gXor_int, gAnd_int, gOr_int, gAdd_int, gIsN_non, gNotN_non, gIsB_bl, gNotB_bl, gNeg_int, gLen_tup, gLen_scr, gMax2_int, gMin2_int, gBits_int, gSl_tup, gSl_scr, Bool.not_true, Bool.not_false, Bool.true_eq_false, Bool.false_eq_true, Bool.true_and, Bool.false_and, Bool.and_true, Bool.and_false, Bool.true_or, Bool.false_or, decide_true, decide_false, and_self, and_true, true_and, and_false, false_and, not_true_eq_false, not_false_eq_true, reduceCtorEq, kz, z1, z2, z3, z4, z5, z6, z7, z8, z9, z10, z11, z12, z13, z14, z15, z16, isCls, isNon, aForget, aHand, toKey, keysA, iterOf_tup, iterOf_scr, oNx_some, noErr_ok, decide_eq_true_eq, decide_eq_false_iff_not, Sto.new_n, Sto.set_n, Sto.set_at, Sto.new_at, Nat.zero_le, aMakeV, Cl_non, Cl_bl, Cl_int, Cl_str, Cl_cls, Cl_obj, Cl_tup, ClL_nil, ClL_cons, grd_pos, grdS_pos, Res.bind_ok, Res.bind_err, Res.st_ok, Res.st_err, SRes.thn_nx, SRes.thn_rt, SRes.thn_err, SRes.fn_rt, SRes.fn_nx, SRes.fn_err, SRes.loop_nx, SRes.loop_rt, SRes.loop_err, SRes.loop_ct, SRes.loop_bk, SRes.forget_nx, SRes.forget_rt, SRes.forget_err, SRes.clr_nx, SRes.clr_rt, SRes.noX_nx, SRes.noX_rt, aTry, sizeLine_ge, $xs,*])
abbrev iN (l : List Nat) : List AV := l.map fun n => .int (n : Nat)
theorem iN_len (r : List Nat) : (iN r).length = r.length := List.length_map ..
theorem list_same {s : Sto} {a b : Nat} {xs : List AV} (ha : s.c a = .lst xs) (hb : s.c b = .lst xs) (hd : ∀ x ∈ xs, ∃ d, dat 11 s x = some d ∧ PyData.canLay0 d = true ∧ d.depth ≤ 3) : eqB (.obj a) (.obj b) s = some true := by
  have key : ∀ l : List AV, (∀ x ∈ l, ∃ d, dat 11 s x = some d ∧ PyData.canLay0 d = true ∧ d.depth ≤ 3) → ∃ ds, optL (dat 11 s) l = some ds ∧ PyData.canLayAll0 ds = true ∧ PyData.depthAll ds ≤ 3 := by
    intro l
    induction l with
    | nil => exact fun _ => ⟨[], rfl, by simp [PyData.canLayAll0], by simp [PyData.depthAll]⟩
    | cons x l ih =>
      intro h
      obtain ⟨d, h1, h2, h3⟩ := h x List.mem_cons_self
      obtain ⟨ds, k1, k2, k3⟩ := ih fun y hy => h y (List.mem_cons_of_mem _ hy)
      refine ⟨d :: ds, ?_, by simp [PyData.canLayAll0, h2, k2], by simp only [PyData.depthAll]; omega⟩
      show (match dat 11 s x, optL (dat 11 s) l with | some d, some ds => some (d :: ds) | _, _ => none) = _
      rw [h1, k1]
  obtain ⟨ds, k1, k2, k3⟩ := key xs hd
  have e : ∀ o, s.c o = .lst xs → dat 12 s (.obj o) = some (.list ds) := by
    intro o h
    show (match s.c o with | .lst xs => (optL (dat 11 s) xs).map PyData.list | _ => none) = _
    rw [h]
    show (optL (dat 11 s) xs).map PyData.list = _
    rw [k1]
    rfl
  have sh : SeqAt.shaped (.list ds) = true := by
    simp [SeqAt.shaped, PyData.canLay0, k2, PyData.depth]
    omega
  rw [eqB_dat rfl (e a ha) (e b hb) sh sh, PySem.SeqAt.eqv_refl _ (SeqAt.canLay_of_shaped sh)]
theorem lc_el {α : Type} {G : Sto → Prop} {j : Nat} {ft : AT} {fe : AE} {σ0 : ASt} {P : AV → Sto → Prop} {R : String → List Str → List AV → Sto → Prop} {L : List α} {φ : α → AV} {s : Sto} (p : α → Bool) (f : α → AV) (hl : L.length ≤ 1000) (hG : ∀ s', Gb s s' → G s')
    (h : ∀ x ∈ L, ∀ s', Gb s s' → ft (σ0.set j (some (φ x))) s' = .ok (p x) s' ∧ (p x = true → fe (σ0.set j (some (φ x))) s' = .ok (f x) s'))
    (q : P (.obj s.n) (s.new (.lst ((L.filter p).map f)))) : (oObj s.n (lcI s.n G (agName j) ft fe σ0 (L.map φ) (s.new (.lst [])))).Post P R := by
  refine lc_P (fun i acc s' => s' = s.new (.lst (((L.take i).filter p).map f)) ∧ acc = ((L.take i).filter p).map f) ⟨rfl, rfl⟩ Sto.new_at (by rw [List.length_map]; exact hl) ?_ ?_
  · rintro i x acc s' hx ⟨e1, rfl⟩ hk
    obtain ⟨y, hy, rfl⟩ : ∃ y, L[i]? = some y ∧ φ y = x := by
      rw [List.getElem?_map] at hx
      cases e : L[i]? with
      | none => rw [e] at hx; cases hx
      | some y => rw [e] at hx; exact ⟨y, rfl, Option.some.inj hx⟩
    have tk : L.take (i + 1) = L.take i ++ [y] := by rw [List.take_add_one, hy]; rfl
    have g : Gb s s' := e1 ▸ (Gb.refl s).new
    obtain ⟨h1, h2⟩ := h y (List.mem_of_getElem? hy) s' g
    refine ⟨hG _ g, ?_⟩
    show (ft (σ0.set j (some (φ y))) s').Post _ _
    rw [h1]
    show (p y = true → _) ∧ (p y = false → _)
    refine ⟨fun e => ?_, fun e => ?_⟩
    · rw [h2 e]
      refine ⟨hk, ?_, ?_⟩
      · rw [e1, new_set, tk]; simp [e]
      · rw [tk]; simp [e]
    · refine ⟨hk, ?_, ?_⟩
      · rw [e1, tk]; simp [e]
      · rw [tk]; simp [e]
  · rintro acc s' ⟨e1, rfl⟩ hk
    rw [List.length_map, List.take_length] at e1
    subst e1
    exact ⟨hG _ (Gb.refl s).new, q⟩
theorem sum_cast (l : List Nat) : (l.map fun n => ((n : Nat) : Int)).sum = ((l.sum : Nat) : Int) := by
  induction l with
  | nil => rfl
  | cons a l ih => simp only [List.map_cons, List.sum_cons, Int.natCast_add, ih]
theorem sumN {s : Sto} {o : Nat} {l : List Nat} (h : s.c o = .lst (iN l)) : gSum [.obj o] s = .ok (.int ((l.sum : Nat) : Int)) s := by
  have e : lstOf s (.obj o) = some ((l.map fun n => ((n : Nat) : Int)).map .int) := by
    rw [lstOf_obj h, List.map_map]
    rfl
  rw [gSum_lst e, sum_cast]
def De (s : Sto) (l c : Nat) (x : AV) : Prop := ∃ d : PyData, (∀ s', Gb s s' → ∀ n, l < n → datE n s' x = some d) ∧ Gx.SmE d ∧ d.depth ≤ l ∧ Gx.nodes d ≤ c
def DeL (s : Sto) (l c : Nat) (xs : List AV) : Prop := ∃ ds : List PyData, (∀ s', Gb s s' → ∀ n, l < n → optL (datE n s') xs = some ds) ∧ Gx.SmEAll ds ∧ PyData.depthAll ds ≤ l ∧ Gx.nodesAll ds ≤ c * xs.length
section
variable {s : Sto} {l c : Nat} {x : AV} {xs : List AV}
theorem De.mono {m e : Nat} (h : De s l c x) (h1 : l ≤ m) (h2 : c ≤ e) : De s m e x := by
  obtain ⟨d, k1, k2, k3, k4⟩ := h
  exact ⟨d, fun t g n hn => k1 t g n (by omega), k2, by omega, by omega⟩
/-- the text of a value -/
theorem De.rep (h : De s l c x) (h1 : l ≤ 11) (h2 : c ≤ 20000) : ∃ z : Str, ∀ s', Gb s s' → gReprE [x] s' = .ok (.str z) s' := by
  obtain ⟨d, k1, k2, k3, k4⟩ := h
  have o : Gx.Okd d := Gx.okdE k2 (by omega) (by omega)
  exact ⟨d.shown, fun t g => gReprE_dat (k1 t g 12 (by omega)) ⟨o.sh, o.dp, o.ln⟩⟩
/-- the text of a list, by what it holds -/
theorem DeL.rep (h : DeL s l c xs) (h1 : l ≤ 10) (h2 : c * xs.length ≤ 19999) : ∃ z : Str, ∀ s' o, Gb s s' → s'.c o = .lst xs → gReprE [.obj o] s' = .ok (.str z) s' := by
  obtain ⟨ds, m1, m2, m3, m4⟩ := h
  have o : Gx.Okd (.list ds) := Gx.okdE (by simp only [Gx.SmE]; exact m2) (by simp only [PyData.depth]; omega) (by simp only [Gx.nodes]; omega)
  refine ⟨(PyData.list ds).shown, fun t p g e => gReprE_dat (d := .list ds) ?_ ⟨o.sh, o.dp, o.ln⟩⟩
  show (match t.c p with | .lst xs => (optL (datE 11 t) xs).map PyData.list | .dic [] => some (PyData.dict []) | _ => none) = _
  rw [e]
  show (optL (datE 11 t) xs).map PyData.list = _
  rw [m1 t g 11 (by omega)]
  rfl
end
theorem len_half {n : Nat} (h : 0 < n) : TW.len n = TW.len (n / 2) + 1 := by
  refine Nat.le_antisymm (TW.len_le ?_) ?_
  · have := TW.lt_len (n / 2)
    rw [Nat.pow_succ]
    omega
  · by_cases h2 : n / 2 = 0
    · rw [h2]
      exact TW.le_len (k := 0) (by rw [Nat.pow_zero]; exact h)
    · have := TW.len_ge h2
      have p := (PO.len_rng h2).2.2
      refine TW.le_len ?_
      rw [show TW.len (n / 2) = TW.len (n / 2) - 1 + 1 by omega, Nat.pow_succ]
      omega
theorem len0 : TW.len 0 = 0 := rfl
theorem fd2N (a : Nat) (s : Sto) : gFdiv (.int (a : Nat)) (.int 2) s = .ok (.int ((a / 2 : Nat) : Int)) s := by
  rw [gFdiv_int ⟨by decide, by decide⟩]
  congr 2
theorem digits_okN {n : Nat} (s : Sto) : F_s5_digits [.int (n : Nat)] s = .ok (.int (TW.len n : Nat)) s := by
  refine gc0 ?_ (by simp)
  refine res_ok ?_
  simp! [B_s5_digits]
  refine while_A (fun m σ s' => s' = s ∧ ∃ a i : Nat, σ = [some (.int (a : Nat)), some (.int (i : Nat))] ∧ TW.len a = m ∧ m + i = TW.len n) (TW.len n) ⟨rfl, n, 0, rfl, rfl, rfl⟩ ?_
  rintro m σ s' ⟨rfl, a, i, rfl, h1, h2⟩
  by_cases h0 : a = 0
  · subst h0
    have d : decide ((0 : Int) < ((0 : Nat) : Int)) = false := rfl
    rw [len0] at h1
    have e : i = TW.len n := by omega
    simp! [gGt_int, d]
    rw [e]
  · have d : decide ((0 : Int) < ((a : Nat) : Int)) = true := decide_eq_true (by omega)
    have f := fd2N a s'
    simp! [gGt_int, d, f]
    have l := len_half (n := a) (by omega)
    exact ⟨TW.len (a / 2), by omega, a / 2, i + 1, rfl, rfl, by omega⟩
theorem log9 {b : Nat} (h2 : b < 2 ^ 600) : ((b : Nat) : Int).natAbs.log2 < 9000 := by
  rw [Int.natAbs_natCast]
  by_cases h : b = 0
  · subst h; decide
  · have := (Nat.log2_lt h).mpr h2
    omega
theorem modNN {a b : Nat} (s : Sto) (h : 0 < b) (h2 : b < 2 ^ 600) : gMod (.int (a : Nat)) (.int (b : Nat)) s = .ok (.int ((a % b : Nat) : Int)) s := gMod_int (by omega)
theorem fdNN {a b : Nat} (s : Sto) (h : 0 < b) (h2 : b < 2 ^ 600) : gFdiv (.int (a : Nat)) (.int (b : Nat)) s = .ok (.int ((a / b : Nat) : Int)) s := by
  rw [gFdiv_int ⟨by omega, log9 h2⟩]
  congr 2
theorem red_ok {a b : Nat} (s : Sto) (h : 0 < b) (h6 : b < 2 ^ 600) : F_s5_reduced [.int (a : Nat), .int (b : Nat)] s = .ok (.tup (iN [a / Nat.gcd a b, b / Nat.gcd a b])) s := by
  refine gc0 ?_ (by simp)
  refine res_ok ?_
  have gp : 0 < Nat.gcd a b := Nat.gcd_pos_of_pos_right _ h
  have gb : Nat.gcd a b < 2 ^ 600 := Nat.lt_of_le_of_lt (Nat.gcd_le_right _ h) h6
  simp! [B_s5_reduced]
  refine while_A (fun m σ s' => s' = s ∧ ∃ x y : Nat, σ = [some (.int (a : Nat)), some (.int (b : Nat)), some (.int (x : Nat)), some (.int (y : Nat))] ∧ y = m ∧ y ≤ b ∧ Nat.gcd x y = Nat.gcd a b) b ⟨rfl, a, b, rfl, rfl, Nat.le_refl _, rfl⟩ ?_
  rintro m σ s' ⟨rfl, x, y, rfl, rfl, hy, h2⟩
  by_cases h0 : y = 0
  · subst h0
    rw [Nat.gcd_zero_right] at h2
    subst h2
    have d : decide ((0 : Int) < ((0 : Nat) : Int)) = false := rfl
    have f1 := fdNN (a := a) s' gp gb
    have f2 := fdNN (a := b) s' gp gb
    simp! [gGt_int, d, f1, f2]
  · have d : decide ((0 : Int) < ((y : Nat) : Int)) = true := decide_eq_true (by omega)
    have f := modNN (a := x) (b := y) s' (by omega) (by omega)
    simp! [gGt_int, d, f]
    exact ⟨x % y, Nat.mod_lt _ (by omega), y, x % y, rfl, rfl, by have := Nat.mod_lt x (show 0 < y by omega); omega, by rw [← h2, Nat.gcd_comm y, ← Nat.gcd_rec, Nat.gcd_comm]⟩
theorem need5_t {i lo hi : Int} (s : Sto) (h1 : lo ≤ i) (h2 : i ≤ hi) : F_s5_need [.int i, .int lo, .int hi] s = .ok .non s := by
  refine gc0 ?_ (by simp)
  have ii := is_int i s
  have d1 : decide (lo ≤ i) = true := decide_eq_true h1
  have d2 : decide (i ≤ hi) = true := decide_eq_true h2
  have g : gcT (aOr (aNot (aTest (aCall 1 F_is_integer [] (aCons (aVar 0) aNil)))) (aNot (aTest (aChain gLe gLe (aVar 1) (aVar 0) (aVar 2))))) [some (.int i), some (.int lo), some (.int hi)] s = .ok false s := gcT_f (by simp! only [ii, d1, d2])
  simp! only [B_s5_need, g]
end Pf
set_option Elab.async false
set_option linter.all false
set_option maxRecDepth 100000
set_option maxHeartbeats 1000000
set_option exponentiation.threshold 3000
namespace Pf
open PySem Ab
local macro_rules | `(tactic| simp! [$xs,*]) => `(tactic| try simp (config := {maxSteps := 1000000}) only [k_bind, k_Kb, k_st, k_Kst, k_Rst, k_thn, k_loop, k_fn, k_forget, k_clr, k_noX, k_try, k_stuck, k_Astuck, d_thn_nx, d_thn_bk, d_thn_ct, d_thn_rt, d_thn_er, d_lp_nx, d_lp_bk, d_lp_ct, d_lp_rt, d_lp_er, d_fg_nx, d_fg_bk, d_fg_ct, d_fg_rt, d_fg_er, d_cl_nx, d_cl_bk, d_cl_ct, d_cl_rt, d_cl_er, d_tr_nx, d_tr_bk, d_tr_ct, d_tr_rt, d_tr_er, d_nX_nx, d_nX_bk, d_nX_ct, d_nX_rt, d_nX_er, d_fn_nx, d_fn_bk, d_fn_ct, d_fn_rt, d_fn_er, A_nx, A_bk, A_ct, A_rt, A_err, post_ok, post_err, post_noErr, e_op, e_opK, e_un, e_cb, e_nil, e_c, e_cons, e_consK, e_consK2, e_and, e_or, e_andK, e_orK, e_not, e_notK, e_test, e_testK, e_tand, e_tandK, e_tor, e_torK, e_tnot, e_tnotK, e_yes, e_if, e_ifK, e_ch, e_chK1, e_chK2, e_chK3, e_tup, e_tupK, e_lst, e_lstK, e_newL, e_call, e_callK, e_meth, e_methK, e_methK2, e_prop, e_propK, e_make, e_makeK, e_makeK2, e_makeV, e_sm, e_smK, e_smK2, e_cm, e_cmK, e_cmK2, e_sl, e_slK1, e_slK2, e_slK3, e_part, e_partK, e_nopart, e_rev, e_bm, e_bmK, e_pr, e_pr0, e_prK1, e_prK2, e_prK3, e_disp, e_dnew, e_own, e_ownK, e_lc, e_lcK, e_iter, e_rng1, e_rng1K, e_rng2, e_rng2K, e_enum, s_drop, s_dropK, s_ret, s_retK, s_retN, s_next, s_break, s_cont, s_seq, s_if, s_ifK, s_asg, s_asgK, s_name, s_par, s_parK, s_par3, s_parK3, s_gnil, s_gcons, s_gtup, s_for, s_forK, s_raise, s_raiseK, s_sf, s_sfK1, s_sfK2, s_dp, s_dpK1, s_dpK2, s_dpK3, s_forget, s_def, s_fld, e_enumU, e_enumUT, e_match, e_mcase, e_mcase2, e_many, e_mnil, e_lcX, e_lcXK, e_get2, e_methS, e_methS1, e_methS2, s_augS, s_augS1, gEqS_int, gEqS_str, gEqS_bl, gEqS_tup, e_fmt, e_js, e_jsC, e_jsN, e_join, e_joinK, eq_self, beq_self_eq_true, k_grd, k_grdS, k_ite, k_Aite, true_implies, false_implies, implies_true, List.map_cons, List.map_nil, List.nil_append, List.cons_append, List.append_nil, List.replicate_succ, List.replicate_zero, List.getElem?_cons_zero, List.getElem?_cons_succ, List.length_cons, List.length_nil, List.set_cons_zero, List.set_cons_succ, ↓reduceIte, ↓reduceDIte, Nat.reduceAdd, Nat.reduceLeDiff, Nat.reduceEqDiff, Nat.zero_add, if_true, if_false, aVar, gMinus_int, gLt_int, gLe_int, gGt_int, gGe_int, gEq_int, gNe_int, gEq_str, gNe_str, gEq_bl, gNe_bl, gXor_int, gAnd_int, gOr_int, gAdd_int, gIsN_non, gNotN_non, gIsB_bl, gNotB_bl, gNeg_int, gLen_tup, gLen_scr, gMax2_int, gMin2_int, gBits_int, gSl_tup, gSl_scr, Bool.not_true, Bool.not_false, Bool.true_eq_false, Bool.false_eq_true, Bool.true_and, Bool.false_and, Bool.and_true, Bool.and_false, Bool.true_or, Bool.false_or, decide_true, decide_false, and_self, and_true, true_and, and_false, false_and, not_true_eq_false, not_false_eq_true, reduceCtorEq, kz, z1, z2, z3, z4, z5, z6, z7, z8, z9, z10, z11, z12, z13, z14, z15, z16, isCls, isNon, aForget, aHand, toKey, keysA, iterOf_tup, iterOf_scr, oNx_some, noErr_ok, decide_eq_true_eq, decide_eq_false_iff_not, Sto.new_n, Sto.set_n, Sto.set_at, Sto.new_at, Nat.zero_le, aMakeV, Cl_non, Cl_bl, Cl_int, Cl_str, Cl_cls, Cl_obj, Cl_tup, ClL_nil, ClL_cons, $xs,*])
local macro_rules | `(tactic| simp! only [$xs,*]) => `(tactic| simp only [e_op, e_opK, e_un, e_cb, e_nil, e_c, e_cons, e_consK, e_consK2, e_and, e_or, e_andK, e_orK, e_not, e_notK, e_test, e_testK, e_tand, e_tandK, e_tor, e_torK, e_tnot, e_tnotK, e_yes, e_if, e_ifK, e_ch, e_chK1, e_chK2, e_chK3, e_tup, e_tupK, e_lst, e_lstK, e_newL, e_call, e_callK, e_meth, e_methK, e_methK2, e_prop, e_propK, e_make, e_makeK, e_makeK2, e_makeV, e_sm, e_smK, e_smK2, e_cm, e_cmK, e_cmK2, e_sl, e_slK1, e_slK2, e_slK3, e_part, e_partK, e_nopart, e_rev, e_bm, e_bmK, e_pr, e_pr0, e_prK1, e_prK2, e_prK3, e_disp, e_dnew, e_own, e_ownK, e_lc, e_lcK, e_iter, e_rng1, e_rng1K, e_rng2, e_rng2K, e_enum, s_drop, s_dropK, s_ret, s_retK, s_retN, s_next, s_break, s_cont, s_seq, s_if, s_ifK, s_asg, s_asgK, s_name, s_par, s_parK, s_par3, s_parK3, s_gnil, s_gcons, s_gtup, s_for, s_forK, s_raise, s_raiseK, s_sf, s_sfK1, s_sfK2, s_dp, s_dpK1, s_dpK2, s_dpK3, s_forget, s_def, s_fld, e_enumU, e_enumUT, e_match, e_mcase, e_mcase2, e_many, e_mnil, e_lcX, e_lcXK, e_get2, e_methS, e_methS1, e_methS2, s_augS, s_augS1, gEqS_int, gEqS_str, gEqS_bl, gEqS_tup, e_fmt, e_js, e_jsC, e_jsN, e_join, e_joinK, eq_self, beq_self_eq_true, true_implies, false_implies, implies_true, List.map_cons, List.map_nil, List.nil_append, List.cons_append, List.append_nil, List.replicate_succ, List.replicate_zero, List.getElem?_cons_zero, List.getElem?_cons_succ, List.length_cons, List.length_nil, List.set_cons_zero, List.set_cons_succ, ↓reduceIte, ↓reduceDIte, Nat.reduceAdd, Nat.reduceLeDiff, Nat.reduceEqDiff, Nat.zero_add, if_true, if_false, aVar, gMinus_int, gLt_int, gLe_int, gGt_int, gGe_int, gEq_int, gNe_int, gEq_str, gNe_str, gEq_bl, gNe_bl, gXor_int, gAnd_int, gOr_int, gAdd_int, gIsN_non, gNotN_non, gIsB_bl, gNotB_bl, gNeg_int, gLen_tup, gLen_scr, gMax2_int, gMin2_int, gBits_int, gSl_tup, gSl_scr, Bool.not_true, Bool.not_false, Bool.true_eq_false, Bool.false_eq_true, Bool.true_and, Bool.false_and, Bool.and_true, Bool.and_false, Bool.true_or, Bool.false_or, decide_true, decide_false, and_self, and_true, true_and, and_false, false_and, not_true_eq_false, not_false_eq_true, reduceCtorEq, kz, z1, z2, z3, z4, z5, z6, z7, z8, z9, z10, z11, z12, z13, z14, z15, z16, isCls, isNon, aForget, aHand, toKey, keysA, iterOf_tup, iterOf_scr, oNx_some, noErr_ok, decide_eq_true_eq, decide_eq_false_iff_not, Sto.new_n, Sto.set_n, Sto.set_at, Sto.new_at, Nat.zero_le, aMakeV, Cl_non, Cl_bl, Cl_int, Cl_str, Cl_cls, Cl_obj, Cl_tup, ClL_nil, ClL_cons, grd_pos, grdS_pos, Res.bind_ok, Res.bind_err, Res.st_ok, Res.st_err, SRes.thn_nx, SRes.thn_rt, SRes.thn_err, SRes.fn_rt, SRes.fn_nx, SRes.fn_err, SRes.loop_nx, SRes.loop_rt, SRes.loop_err, SRes.loop_ct, SRes.loop_bk, SRes.forget_nx, SRes.forget_rt, SRes.forget_err, SRes.clr_nx, SRes.clr_rt, SRes.noX_nx, SRes.noX_rt, aTry, sizeLine_ge, $xs,*])
def scC (ws : List Nat) (p : Nat) : Cell := .ins "Scripted" [("s1_script", .tup (iN ws)), ("s1_place", .int (p : Nat))]
structure RowW (ws : List Nat) : Prop where
  lt : ∀ x ∈ ws, x < 4294967296
  len : ws.length ≤ 500
theorem iNcl2 (n : Nat) (r : List Nat) : ClL n (iN r) := ClL_all.mpr fun x hx => by
  obtain ⟨k, _, rfl⟩ := List.mem_map.mp hx
  simp
theorem sc_cl (n : Nat) (ws : List Nat) (p : Nat) : ClC n (scC ws p) := by simp [scC, ClC, iNcl2]
theorem word_ok {x : Nat} (s : Sto) (h : x < 4294967296) : F_is_word [.int (x : Nat)] s = .ok (.bl true) s := by
  refine gc0 ?_ (by simp)
  have e := is_int (x : Nat) s
  have e0 : decide ((0 : Int) ≤ ((x : Nat) : Int)) = true := decide_eq_true (by omega)
  have e1 : decide (((x : Nat) : Int) < 4294967296) = true := decide_eq_true (by omega)
  simp! only [B_is_word, e, e0, e1]
theorem script_ok {ws : List Nat} (s : Sto) (h : RowW ws) : F_is_script [.tup (iN ws)] s = .ok (.bl true) s := by
  refine gc0' ?_
  have i1 := fun s => isi_ty (x := .tup (iN ws)) (a := "tuple") (n := "tuple") (r := true) (s := s) rfl (by decide) (by decide)
  have hl := h.len
  have d1 : decide ((((iN ws).length : Nat) : Int) ≤ 10000) = true := decide_eq_true (by rw [iN_len]; omega)
  simp! [B_is_script, i1, d1]
  refine lc_el (L := ws) (φ := fun n => .int (n : Nat)) (fun _ => true) (fun _ => .bl true) (by omega) (fun _ _ => trivial) (fun x hx s2 g2 => ⟨rfl, fun _ => ?_⟩) ?_
  · have e := fun s => word_ok s (h.lt x hx)
    simp! only [wipeA, e]
  · have em : (ws.filter fun _ => true).map (fun _ => AV.bl true) = (ws.map fun _ => true).map .bl := by
      rw [List.filter_eq_self.mpr fun _ _ => rfl, List.map_map]
      rfl
    rw [em]
    have al := gAll_lst (x := .obj s.n) (ns := ws.map fun _ => true) (s := s.new (.lst ((ws.map fun _ => true).map .bl))) (lstOf_obj Sto.new_at)
    have ra : (ws.map fun _ => true).all id = true := by rw [List.all_map]; simp
    rw [ra] at al
    simp! [al]
    exact (Gb.refl s).new
theorem scstate_ok {ws : List Nat} {p : Nat} (s : Sto) (h : RowW ws) (hp : p ≤ ws.length) : F_need_script_state [.tup [.tup (iN ws), .int (p : Nat)]] s = .ok .non s := by
  refine gc0 ?_ (by simp)
  have hl := h.len
  have i1 := isi_ty (x := .tup [.tup (iN ws), .int (p : Nat)]) (a := "tuple") (n := "tuple") (r := true) (s := s) rfl (by decide) (by decide)
  have i0 : gIx (.tup [.tup (iN ws), .int (p : Nat)]) (.int 0) s = .ok (.tup (iN ws)) s := gIx_seq (xs := [.tup (iN ws), .int (p : Nat)]) rfl (show L2.atI _ ((0 : Nat) : Int) = _ from L2.atI_nat rfl)
  have i3 : gIx (.tup [.tup (iN ws), .int (p : Nat)]) (.int 1) s = .ok (.int (p : Nat)) s := gIx_seq (xs := [.tup (iN ws), .int (p : Nat)]) rfl (show L2.atI _ ((1 : Nat) : Int) = _ from L2.atI_nat rfl)
  have e := script_ok s h
  have ii := is_int (p : Nat) s
  have d2 : decide (((2 : Nat) : Int) = 2) = true := rfl
  have d3 : decide ((0 : Int) ≤ ((p : Nat) : Int)) = true := decide_eq_true (by omega)
  have d4 : decide (((p : Nat) : Int) ≤ (((iN ws).length : Nat) : Int)) = true := decide_eq_true (by rw [iN_len]; omega)
  have g : gcT (aOr (aNot (aTest (aCB (gIsi (kitB "tuple")) (aCons (aVar 0) (aCons (aC (.ty "tuple")) aNil))))) (aOr (aTest (aOp gNe (aCB gLen (aCons (aVar 0) aNil)) (aC (.int 2)))) (aOr (aNot (aTest (aCall 1 F_is_script [] (aCons (aOp gIx (aVar 0) (aC (.int 0))) aNil)))) (aNot (aTest (aCall 1 F_is_integer [] (aCons (aOp gIx (aVar 0) (aC (.int 1))) aNil))))))) [some (.tup [.tup (iN ws), .int (p : Nat)])] s = .ok false s := gcT_f (by simp! only [i1, d2, i0, e, i3, ii])
  simp! only [B_need_script_state, g, i3, i0, d3, d4]
theorem sc_init {ws : List Nat} (h : RowW ws) (s : Sto) : F_Scripted___init__ [.obj s.n, .tup (iN ws), .int 0] (s.new (.ins "Scripted" [])) = .ok .non (s.new (scC ws 0)) := by
  have e := script_ok (s.new (.ins "Scripted" [])) h
  have e2 : F_need_script_state [.tup [.tup (iN ws), .int 0]] (s.new (.ins "Scripted" [])) = .ok .non (s.new (.ins "Scripted" [])) := scstate_ok (p := 0) (s.new (.ins "Scripted" [])) h (Nat.zero_le _)
  have f1 : setF ["Scripted"] "s1_script" (.obj s.n) (.tup (iN ws)) (s.new (.ins "Scripted" [])) = some (s.new (.ins "Scripted" [("s1_script", .tup (iN ws))])) := by
    rw [setF_obj Sto.new_at (by simp) (by simp), new_set]
    rfl
  have f2 : setF ["Scripted"] "s1_place" (.obj s.n) (.int 0) (s.new (.ins "Scripted" [("s1_script", .tup (iN ws))])) = some (s.new (scC ws 0)) := by
    rw [setF_obj Sto.new_at (by simp) (by simp), new_set]
    rfl
  have lt : s.n < (s.new (.ins "Scripted" [])).n := Nat.lt_succ_self _
  have g : gcT (aNot (aTest (aCall 1 F_is_script [] (aCons (aVar 1) aNil)))) [some (.obj s.n), some (.tup (iN ws)), some (.int 0)] (s.new (.ins "Scripted" [])) = .ok false (s.new (.ins "Scripted" [])) := gcT_f (by simp! only [e])
  have k : aDef 0 B_Scripted___init__ [.obj s.n, .tup (iN ws), .int 0] (s.new (.ins "Scripted" [])) = .ok .non (s.new (scC ws 0)) := by
    simp! only [B_Scripted___init__, g, e2, f1, f2]
  have es : (s.new (.ins "Scripted" [])).set s.n (scC ws 0) = s.new (scC ws 0) := new_set
  rw [← es] at k ⊢
  have := gcF_eq k (by simp) ((Clean.refl _).set (.inr (sc_cl _ _ _)))
  rw [cut_set_old lt, cut_self] at this
  exact this
theorem need_src {s : Sto} {o p : Nat} {ws : List Nat} (h : s.c o = scC ws p) : F_need_source [.obj o] s = .ok .non s := by
  refine gc0 ?_ (by simp)
  have i1 : gIsi (kitB "Source") [.obj o, .cls "Source"] s = .ok (.bl true) s := isi_cls (a := "Scripted") (by show (match s.c o with | .lst _ => some "list" | .dic _ => some "dict" | .ins c _ => some c) = _; rw [h]; rfl) (by decide) (by decide)
  have iv : gIVal ["Scripted"] "KIND" (.str "script") (.obj o) s = .ok (.str "script") s := gIVal_at (insAt_obj (h.trans rfl)) (by simp) (by rw [lookA_tl (by decide), lookA_tl (by decide)]; rfl)
  have ns : (("script" : Str) = "none") = False := eq_false (by decide)
  have dn : decide (("script" : Str) = "none") = false := decide_eq_false (by decide)
  simp! only [B_need_source, i1, iv, dn]
def wd (ws : List Nat) (i : Nat) : Nat := ws.getD i 0
theorem wd_lt {ws : List Nat} (h : RowW ws) (i : Nat) : wd ws i < 4294967296 := by
  unfold wd
  rw [List.getD_eq_getElem?_getD]
  cases e : ws[i]? with
  | none => decide
  | some x => exact h.lt x (List.mem_of_getElem? e)
theorem gNe_w {p : Nat} {ws : List Nat} (h : p < ws.length) (s : Sto) : gIx (.tup (iN ws)) (.int (p : Nat)) s = .ok (.int (wd ws p : Nat)) s := by
  have e : (iN ws)[p]? = some (.int (wd ws p : Nat)) := by
    show (ws.map _)[p]? = _
    rw [List.getElem?_map]
    unfold wd
    rw [List.getD_eq_getElem?_getD, List.getElem?_eq_getElem h]
    rfl
  exact gIx_seq (xs := iN ws) rfl (show L2.atI _ ((p : Nat) : Int) = _ from L2.atI_nat e)
abbrev MB : Int := 115792089237316195423570985008687907853269984665640564039457584007913129639936
theorem leMB {n : Nat} (h : n ≤ 2 ^ 256) : ((n : Nat) : Int) ≤ MB := by
  have e : (2 : Nat) ^ 256 = 115792089237316195423570985008687907853269984665640564039457584007913129639936 := by decide +kernel
  rw [e] at h
  show ((n : Nat) : Int) ≤ 115792089237316195423570985008687907853269984665640564039457584007913129639936
  omega
theorem range_ok {lo hi : Int} (s : Sto) (h1 : -MB ≤ lo) (h2 : hi ≤ MB) (h3 : lo ≤ hi) (h4 : hi - lo < MB) : F_need_range [.int lo, .int hi] s = .ok .non s := by
  refine gc0 ?_ (by simp)
  refine res_ok ?_
  simp! [B_need_range, z2]
  refine for_A (fun i σ s' => s' = s ∧ ∃ x2, σ = [some (.int lo), some (.int hi), x2]) ⟨rfl, _, rfl⟩ ?_ ?_
  · rintro i x σ s' hx ⟨rfl, x2, rfl⟩
    refine ⟨trivial, ?_⟩
    obtain ⟨j, rfl, j1, j2⟩ : ∃ j : Int, x = .int j ∧ -MB ≤ j ∧ j ≤ MB := by
      have hm := List.mem_of_getElem? hx
      simp only [List.mem_cons, List.not_mem_nil, or_false] at hm
      rcases hm with rfl | rfl
      · exact ⟨_, rfl, h1, by omega⟩
      · exact ⟨_, rfl, by omega, h2⟩
    have nd := fun s => need5_t (i := j) (lo := -MB) (hi := MB) s j1 j2
    simp! [nd]
    exact ⟨_, rfl⟩
  · rintro σ s' ⟨rfl, x2, rfl⟩
    refine ⟨trivial, ?_⟩
    have d1 : decide (hi < lo) = false := decide_eq_false (by omega)
    have d2 : decide (MB ≤ hi - lo) = false := decide_eq_false (by omega)
    simp! [d1, gGe_int, d2]
theorem share_ok {a n : Nat} (s : Sto) (h1 : a ≤ n) (h2 : 1 ≤ n) (h3 : n ≤ 2 ^ 256) : F_need_share [.int (a : Nat), .int (n : Nat)] s = .ok .non s := by
  refine gc0 ?_ (by simp)
  have hM := leMB h3
  have n1 := need5_t (i := (a : Nat)) (lo := 0) (hi := MB) s (by omega) (by omega)
  have n2 := need5_t (i := (n : Nat)) (lo := if ((a : Nat) : Int) > 1 then ((a : Nat) : Int) else 1) (hi := MB) s (by split <;> omega) hM
  simp! only [B_need_share, n1, n2]
def StepW (z : Str) (n : Nat) : Prop := (z = "bits" ∧ n = 2) ∨ (z = "below" ∧ n = 2) ∨ (z = "between" ∧ n = 3) ∨ (z = "choice" ∧ n = 2) ∨ (z = "coin" ∧ n = 3) ∨ (z = "fraction" ∧ n = 2)
theorem step_ok {z : Str} {xs : List AV} (s : Sto) (h : StepW z (xs.length + 1)) : F_need_step [.tup (.str z :: xs)] s = .ok .non s := by
  refine gc0 ?_ (by simp)
  have i1 := isi_ty (x := .tup (.str z :: xs)) (a := "tuple") (n := "tuple") (r := true) (s := s) rfl (by decide) (by decide)
  have i2 := isi_ty (x := .str z) (a := "str") (n := "str") (r := true) (s := s) rfl (by decide) (by decide)
  have i0 : gIx (.tup (.str z :: xs)) (.int 0) s = .ok (.str z) s := gIx_seq (xs := .str z :: xs) rfl (show L2.atI _ ((0 : Nat) : Int) = _ from L2.atI_nat rfl)
  have kg : ∃ n : Nat, kgetN KV_SIZES (.str z) s = .ok (.int (n : Nat)) s ∧ n = (AV.str z :: xs).length := by
    rw [List.length_cons]
    rcases h with ⟨rfl, h⟩ | ⟨rfl, h⟩ | ⟨rfl, h⟩ | ⟨rfl, h⟩ | ⟨rfl, h⟩ | ⟨rfl, h⟩
    · exact ⟨2, (kgetN_ok rfl).trans (by rfl), h.symm⟩
    · exact ⟨2, (kgetN_ok rfl).trans (by rfl), h.symm⟩
    · exact ⟨3, (kgetN_ok rfl).trans (by rfl), h.symm⟩
    · exact ⟨2, (kgetN_ok rfl).trans (by rfl), h.symm⟩
    · exact ⟨3, (kgetN_ok rfl).trans (by rfl), h.symm⟩
    · exact ⟨2, (kgetN_ok rfl).trans (by rfl), h.symm⟩
  obtain ⟨n, kg, hn⟩ := kg
  have dn : decide (((n : Nat) : Int) = (((AV.str z :: xs).length : Nat) : Int)) = true := decide_eq_true (by rw [hn])
  have ln : gLen [.tup (.str z :: xs)] s = .ok (.int ((AV.str z :: xs).length : Nat)) s := gLen_tup
  generalize (AV.str z :: xs).length = N at *
  have g : gcT (aTest (aOp gNe (aUn (kgetN KV_SIZES) (aOp gIx (aVar 0) (aC (.int 0)))) (aCB gLen (aCons (aVar 0) aNil)))) [some (.tup (.str z :: xs))] s = .ok false s := gcT_f (by simp! only [i0, kg, ln, dn, -gLen_tup])
  simp! only [B_need_step, i1, i0, i2, g, gEq0_tup]
end Pf
set_option Elab.async false
set_option linter.all false
set_option maxRecDepth 100000
set_option maxHeartbeats 1000000
set_option exponentiation.threshold 3000
namespace Pf
open PySem Ab
local macro_rules | `(tactic| simp! [$xs,*]) => `(tactic| try simp (config := {maxSteps := 1000000}) only [k_bind, k_Kb, k_st, k_Kst, k_Rst, k_thn, k_loop, k_fn, k_forget, k_clr, k_noX, k_try, k_stuck, k_Astuck, d_thn_nx, d_thn_bk, d_thn_ct, d_thn_rt, d_thn_er, d_lp_nx, d_lp_bk, d_lp_ct, d_lp_rt, d_lp_er, d_fg_nx, d_fg_bk, d_fg_ct, d_fg_rt, d_fg_er, d_cl_nx, d_cl_bk, d_cl_ct, d_cl_rt, d_cl_er, d_tr_nx, d_tr_bk, d_tr_ct, d_tr_rt, d_tr_er, d_nX_nx, d_nX_bk, d_nX_ct, d_nX_rt, d_nX_er, d_fn_nx, d_fn_bk, d_fn_ct, d_fn_rt, d_fn_er, A_nx, A_bk, A_ct, A_rt, A_err, post_ok, post_err, post_noErr, e_op, e_opK, e_un, e_cb, e_nil, e_c, e_cons, e_consK, e_consK2, e_and, e_or, e_andK, e_orK, e_not, e_notK, e_test, e_testK, e_tand, e_tandK, e_tor, e_torK, e_tnot, e_tnotK, e_yes, e_if, e_ifK, e_ch, e_chK1, e_chK2, e_chK3, e_tup, e_tupK, e_lst, e_lstK, e_newL, e_call, e_callK, e_meth, e_methK, e_methK2, e_prop, e_propK, e_make, e_makeK, e_makeK2, e_makeV, e_sm, e_smK, e_smK2, e_cm, e_cmK, e_cmK2, e_sl, e_slK1, e_slK2, e_slK3, e_part, e_partK, e_nopart, e_rev, e_bm, e_bmK, e_pr, e_pr0, e_prK1, e_prK2, e_prK3, e_disp, e_dnew, e_own, e_ownK, e_lc, e_lcK, e_iter, e_rng1, e_rng1K, e_rng2, e_rng2K, e_enum, s_drop, s_dropK, s_ret, s_retK, s_retN, s_next, s_break, s_cont, s_seq, s_if, s_ifK, s_asg, s_asgK, s_name, s_par, s_parK, s_par3, s_parK3, s_gnil, s_gcons, s_gtup, s_for, s_forK, s_raise, s_raiseK, s_sf, s_sfK1, s_sfK2, s_dp, s_dpK1, s_dpK2, s_dpK3, s_forget, s_def, s_fld, e_enumU, e_enumUT, e_match, e_mcase, e_mcase2, e_many, e_mnil, e_lcX, e_lcXK, e_get2, e_methS, e_methS1, e_methS2, s_augS, s_augS1, gEqS_int, gEqS_str, gEqS_bl, gEqS_tup, e_fmt, e_js, e_jsC, e_jsN, e_join, e_joinK, eq_self, beq_self_eq_true, k_grd, k_grdS, k_ite, k_Aite, true_implies, false_implies, implies_true, List.map_cons, List.map_nil, List.nil_append, List.cons_append, List.append_nil, List.replicate_succ, List.replicate_zero, List.getElem?_cons_zero, List.getElem?_cons_succ, List.length_cons, List.length_nil, List.set_cons_zero, List.set_cons_succ, ↓reduceIte, ↓reduceDIte, Nat.reduceAdd, Nat.reduceLeDiff, Nat.reduceEqDiff, Nat.zero_add, if_true, if_false, aVar, gMinus_int, gLt_int, gLe_int, gGt_int, gGe_int, gEq_int, gNe_int, gEq_str, gNe_str, gEq_bl, gNe_bl, gXor_int, gAnd_int, gOr_int, gAdd_int, gIsN_non, gNotN_non, gIsB_bl, gNotB_bl, gNeg_int, gLen_tup, gLen_scr, gMax2_int, gMin2_int, gBits_int, gSl_tup, gSl_scr, Bool.not_true, Bool.not_false, Bool.true_eq_false, Bool.false_eq_true, Bool.true_and, Bool.false_and, Bool.and_true, Bool.and_false, Bool.true_or, Bool.false_or, decide_true, decide_false, and_self, and_true, true_and, and_false, false_and, not_true_eq_false, not_false_eq_true, reduceCtorEq, kz, z1, z2, z3, z4, z5, z6, z7, z8, z9, z10, z11, z12, z13, z14, z15, z16, isCls, isNon, aForget, aHand, toKey, keysA, iterOf_tup, iterOf_scr, oNx_some, noErr_ok, decide_eq_true_eq, decide_eq_false_iff_not, Sto.new_n, Sto.set_n, Sto.set_at, Sto.new_at, Nat.zero_le, aMakeV, Cl_non, Cl_bl, Cl_int, Cl_str, Cl_cls, Cl_obj, Cl_tup, ClL_nil, ClL_cons, $xs,*])
local macro_rules | `(tactic| simp! only [$xs,*]) => `(tactic| simp only [e_op, e_opK, e_un, e_cb, e_nil, e_c, e_cons, e_consK, e_consK2, e_and, e_or, e_andK, e_orK, e_not, e_notK, e_test, e_testK, e_tand, e_tandK, e_tor, e_torK, e_tnot, e_tnotK, e_yes, e_if, e_ifK, e_ch, e_chK1, e_chK2, e_chK3, e_tup, e_tupK, e_lst, e_lstK, e_newL, e_call, e_callK, e_meth, e_methK, e_methK2, e_prop, e_propK, e_make, e_makeK, e_makeK2, e_makeV, e_sm, e_smK, e_smK2, e_cm, e_cmK, e_cmK2, e_sl, e_slK1, e_slK2, e_slK3, e_part, e_partK, e_nopart, e_rev, e_bm, e_bmK, e_pr, e_pr0, e_prK1, e_prK2, e_prK3, e_disp, e_dnew, e_own, e_ownK, e_lc, e_lcK, e_iter, e_rng1, e_rng1K, e_rng2, e_rng2K, e_enum, s_drop, s_dropK, s_ret, s_retK, s_retN, s_next, s_break, s_cont, s_seq, s_if, s_ifK, s_asg, s_asgK, s_name, s_par, s_parK, s_par3, s_parK3, s_gnil, s_gcons, s_gtup, s_for, s_forK, s_raise, s_raiseK, s_sf, s_sfK1, s_sfK2, s_dp, s_dpK1, s_dpK2, s_dpK3, s_forget, s_def, s_fld, e_enumU, e_enumUT, e_match, e_mcase, e_mcase2, e_many, e_mnil, e_lcX, e_lcXK, e_get2, e_methS, e_methS1, e_methS2, s_augS, s_augS1, gEqS_int, gEqS_str, gEqS_bl, gEqS_tup, e_fmt, e_js, e_jsC, e_jsN, e_join, e_joinK, eq_self, beq_self_eq_true, true_implies, false_implies, implies_true, List.map_cons, List.map_nil, List.nil_append, List.cons_append, List.append_nil, List.replicate_succ, List.replicate_zero, List.getElem?_cons_zero, List.getElem?_cons_succ, List.length_cons, List.length_nil, List.set_cons_zero, List.set_cons_succ, ↓reduceIte, ↓reduceDIte, Nat.reduceAdd, Nat.reduceLeDiff, Nat.reduceEqDiff, Nat.zero_add, if_true, if_false, aVar, gMinus_int, gLt_int, gLe_int, gGt_int, gGe_int, gEq_int, gNe_int, gEq_str, gNe_str, gEq_bl, gNe_bl, gXor_int, gAnd_int, gOr_int, gAdd_int, gIsN_non, gNotN_non, gIsB_bl, gNotB_bl, gNeg_int, gLen_tup, gLen_scr, gMax2_int, gMin2_int, gBits_int, gSl_tup, gSl_scr, Bool.not_true, Bool.not_false, Bool.true_eq_false, Bool.false_eq_true, Bool.true_and, Bool.false_and, Bool.and_true, Bool.and_false, Bool.true_or, Bool.false_or, decide_true, decide_false, and_self, and_true, true_and, and_false, false_and, not_true_eq_false, not_false_eq_true, reduceCtorEq, kz, z1, z2, z3, z4, z5, z6, z7, z8, z9, z10, z11, z12, z13, z14, z15, z16, isCls, isNon, aForget, aHand, toKey, keysA, iterOf_tup, iterOf_scr, oNx_some, noErr_ok, decide_eq_true_eq, decide_eq_false_iff_not, Sto.new_n, Sto.set_n, Sto.set_at, Sto.new_at, Nat.zero_le, aMakeV, Cl_non, Cl_bl, Cl_int, Cl_str, Cl_cls, Cl_obj, Cl_tup, ClL_nil, ClL_cons, grd_pos, grdS_pos, Res.bind_ok, Res.bind_err, Res.st_ok, Res.st_err, SRes.thn_nx, SRes.thn_rt, SRes.thn_err, SRes.fn_rt, SRes.fn_nx, SRes.fn_err, SRes.loop_nx, SRes.loop_rt, SRes.loop_err, SRes.loop_ct, SRes.loop_bk, SRes.forget_nx, SRes.forget_rt, SRes.forget_err, SRes.clr_nx, SRes.clr_rt, SRes.noX_nx, SRes.noX_rt, aTry, sizeLine_ge, $xs,*])
abbrev dwC (o u : Nat) : Cell := .ins "Draws" [("s5_source", .obj o), ("s5_used", .int (u : Nat))]
abbrev pdC (o u z v : Nat) : Cell := .ins "PooledDraws" [("s5_source", .obj o), ("s5_used", .int (u : Nat)), ("s5_size", .int (z : Nat)), ("s5_value", .int (v : Nat))]
theorem pd_cl {o u z v n : Nat} (h : o < n) : ClC n (pdC o u z v) := by simp [ClC]; exact h
theorem dw_cl {o u n : Nat} (h : o < n) : ClC n (dwC o u) := by simp [ClC]; exact h
def VW (W : List Nat) : Nat → Nat
  | 0 => 0
  | n + 1 => VW W n + wd W n * 2 ^ (32 * n)
theorem VW_next (W : List Nat) {n t : Nat} (h : t ≤ 32 * n) : VW W (n + 1) / 2 ^ t = VW W n / 2 ^ t + wd W n * 2 ^ (32 * n - t) := by
  show (VW W n + wd W n * 2 ^ (32 * n)) / 2 ^ t = _
  have e : 2 ^ (32 * n) = 2 ^ (32 * n - t) * 2 ^ t := by rw [← Nat.pow_add]; congr 1; omega
  rw [e, ← Nat.mul_assoc, Nat.add_mul_div_right _ _ (Nat.two_pow_pos t)]
def wf (t : Nat) : Nat := (t + 31) / 32
theorem wf_le (t : Nat) : t ≤ 32 * wf t ∧ 32 * wf t < t + 32 := by unfold wf; omega
def st2 (s : Sto) (o : Nat) (X : Cell) (w : Nat) (Y : Cell) : Sto := (s.set o X).set w Y
section
variable {s : Sto} {o w : Nat} {X Y X' Y' : Cell}
theorem Sto.set_self {s : Sto} {i : Nat} {x : Cell} (h : s.c i = x) : s.set i x = s := by
  subst h
  unfold Sto.set
  cases s
  simp only [Sto.mk.injEq, true_and]
  funext j
  by_cases e : j = i
  · rw [if_pos e, e]
  · rw [if_neg e]
theorem st2_self (h1 : s.c o = X) (h2 : s.c w = Y) : st2 s o X w Y = s := by
  unfold st2
  rw [Sto.set_self h1, Sto.set_self h2]
theorem st2_o (ne : o ≠ w) : (st2 s o X w Y).c o = X := (Sto.set_ne ne).trans Sto.set_at
theorem st2_w : (st2 s o X w Y).c w = Y := Sto.set_at
theorem st2_ne {i : Nat} (h1 : i ≠ o) (h2 : i ≠ w) : (st2 s o X w Y).c i = s.c i := (Sto.set_ne h2).trans (Sto.set_ne h1)
theorem st2_st2 (ne : o ≠ w) : st2 (st2 s o X w Y) o X' w Y' = st2 s o X' w Y' := by
  unfold st2 Sto.set
  simp only [Sto.mk.injEq, true_and]
  funext j
  by_cases h1 : j = w
  · simp [h1]
  · by_cases h2 : j = o
    · simp [h1, h2, ne]
    · simp [h1, h2]
theorem st2_setw : (st2 s o X w Y).set w Y' = st2 s o X w Y' := by
  unfold st2 Sto.set
  simp only [Sto.mk.injEq, true_and]
  funext j
  by_cases h1 : j = w <;> simp [h1]
theorem st2_clean (hX : ClC s.n X) (hY : ClC s.n Y) : Clean s (st2 s o X w Y) := ((Clean.refl s).set (.inr hX)).set (.inr hY)
theorem st2_cut (ho : o < s.n) (hw : w < s.n) : (st2 s o X w Y).cut s = st2 s o X w Y := by
  unfold st2
  rw [cut_set_old hw, cut_set_old ho, cut_self]
theorem gc_st2 {F : List AV → Sto → Res AV} {args : List AV} {v : AV} (ho : o < s.n) (hw : w < s.n) (hX : ClC s.n X) (hY : ClC s.n Y) (hv : Cl s.n v) (h : (F args s).Post (fun v' t => v' = v ∧ t = st2 s o X w Y) (fun _ _ _ _ => False)) : gcF F args s = .ok v (st2 s o X w Y) := by
  rw [gcF_eq (res_ok h) hv (st2_clean hX hY), st2_cut ho hw]
end
/-- a method of one of several classes -/
theorem v_dr {tbl : VTab} {m : Str} {n w : Nat} {c : String} {fs : List (Str × AV)} {fo : AE} {fr : AA} {σ : ASt} {s s1 s2 : Sto} {xs : List AV} {F : List AV → Sto → Res AV} (h : s1.c w = .ins c fs) (hm : lookA m fs = none) (ht : tabAt tbl c = some F) (e : fo σ s = .ok (.obj w) s1)
    (er : fr σ s1 = .ok xs s2) (hl : xs.length + 1 = n) : aVirt m n tbl fo fr σ s = F (.obj w :: xs) s2 := by
  rw [e_virt e (insAt_obj h) ht]
  show (fo σ s).bind _ = _
  rw [e, Res.bind_ok, if_pos (clsIs_obj h hm), er, Res.bind_ok, List.append_nil, if_pos (by rw [List.length_cons]; exact hl)]
section
variable {s : Sto} {o w p u z v : Nat} {W : List Nat}
theorem next_w (h : s.c o = scC W p) (ho : o < s.n) (hp : p < W.length) : F_Scripted_next_word [.obj o] s = .ok (.int (wd W p : Nat)) (s.set o (scC W (p + 1))) := by
  have a1 : gFld ["Scripted"] "s1_script" (.obj o) s = .ok (.tup (iN W)) s := gFld_obj h (by simp) lookA_hd
  have a2 : gFld ["Scripted"] "s1_place" (.obj o) s = .ok (.int (p : Nat)) s := gFld_obj h (by simp) ((lookA_tl (by decide)).trans lookA_hd)
  have sa : F_script_after [.tup (iN W), .int (p : Nat), .int 1] s = .ok (.int ((p + 1 : Nat) : Int)) s := by
    refine gc0 ?_ (by simp)
    have c : ((p : Nat) : Int) + 1 = ((p + 1 : Nat) : Int) := by omega
    have d : decide ((((iN W).length : Nat) : Int) < ((p + 1 : Nat) : Int)) = false := decide_eq_false (by rw [iN_len]; omega)
    simp! only [B_script_after, c, gGt_int, d]
  have f1 : setF ["Scripted"] "s1_place" (.obj o) (.int ((p + 1 : Nat) : Int)) s = some (s.set o (scC W (p + 1))) := by
    rw [setF_obj h (by simp) (by simp)]
    rfl
  have a3 : gFld ["Scripted"] "s1_script" (.obj o) (s.set o (scC W (p + 1))) = .ok (.tup (iN W)) (s.set o (scC W (p + 1))) := gFld_obj Sto.set_at (by simp) lookA_hd
  have c2 : ((p + 1 : Nat) : Int) - 1 = ((p : Nat) : Int) := by omega
  have ix := gNe_w hp (s.set o (scC W (p + 1)))
  have k : aDef 1 B_Scripted_next_word [.obj o] s = .ok (.int (wd W p : Nat)) (s.set o (scC W (p + 1))) := by
    simp! only [B_Scripted_next_word, a1, a2, sa, f1, a3, c2, ix]
  have := gcF_eq k (by simp) ((Clean.refl s).set (.inr (sc_cl _ _ _)))
  rw [cut_set_old ho, cut_self] at this
  exact this
theorem sc_kc {s : Sto} {o p : Nat} {W : List Nat} (h : s.c o = scC W p) {m : Str} (h1 : m ≠ "s1_script") (h2 : m ≠ "s1_place") : Ab.clsIs s (.obj o) "Scripted" m = true := clsIs_obj h (by rw [lookA_tl (Ne.symm h1), lookA_tl (Ne.symm h2)]; rfl)
theorem dw_no {o u : Nat} {m : Str} (h1 : m ≠ "s5_source") (h2 : m ≠ "s5_used") : lookA m [(("s5_source" : Str), AV.obj o), ("s5_used", .int (u : Nat))] = none := by
  rw [lookA_tl (Ne.symm h1), lookA_tl (Ne.symm h2)]; rfl
theorem pd_no {o u z v : Nat} {m : Str} (h1 : m ≠ "s5_source") (h2 : m ≠ "s5_used") (h3 : m ≠ "s5_size") (h4 : m ≠ "s5_value") : lookA m [(("s5_source" : Str), AV.obj o), ("s5_used", .int (u : Nat)), ("s5_size", .int (z : Nat)), ("s5_value", .int (v : Nat))] = none := by
  rw [lookA_tl (Ne.symm h1), lookA_tl (Ne.symm h2), lookA_tl (Ne.symm h3), lookA_tl (Ne.symm h4)]; rfl
theorem word_d (h : s.c o = scC W p) (h2 : s.c w = dwC o u) (ne : o ≠ w) (ho : o < s.n) (hw : w < s.n) (hp : p < W.length) : F_Draws_s5_word [.obj w] s = .ok (.int (wd W p : Nat)) (st2 s o (scC W (p + 1)) w (dwC o (u + 1))) := by
  have a1 : gFld ["Draws", "PooledDraws"] "s5_source" (.obj w) s = .ok (.obj o) s := gFld_obj h2 (by simp) lookA_hd
  have kc := sc_kc h (m := "next_word") (by decide) (by decide)
  have e := next_w h ho hp
  have w2 : (s.set o (scC W (p + 1))).c w = dwC o u := (Sto.set_ne (Ne.symm ne)).trans h2
  have fa : ∀ (fv : AE) (σ : ASt), faug1 ["Draws", "PooledDraws"] "s5_used" (gI0 fun i j => .int (i + j)) fv σ (.obj w) (s.set o (scC W (p + 1))) = (fv σ (s.set o (scC W (p + 1)))).st σ (faug2 "Draws" "s5_used" (gI0 fun i j => .int (i + j)) σ (.obj w) (.int (u : Nat))) := fun fv σ => faug1_obj w2 (by simp) ((lookA_tl (by decide)).trans lookA_hd)
  have f1 : setF ["Draws"] "s5_used" (.obj w) (.int (((u : Nat) : Int) + 1)) (s.set o (scC W (p + 1))) = some (st2 s o (scC W (p + 1)) w (dwC o (u + 1))) := by
    rw [setF_obj w2 (by simp) (by simp)]
    rfl
  refine gc_st2 ho hw (sc_cl _ _ _) (dw_cl ho) (by simp) ?_
  simp! [B_Draws_s5_word, a1, kc, e, aFAug, fa, faug2, faug3, gI0, f1, oNx]
theorem word_p (h : s.c o = scC W p) (h2 : s.c w = pdC o u z v) (ne : o ≠ w) (ho : o < s.n) (hw : w < s.n) (hp : p < W.length) : F_Draws_s5_word [.obj w] s = .ok (.int (wd W p : Nat)) (st2 s o (scC W (p + 1)) w (pdC o (u + 1) z v)) := by
  have a1 : gFld ["Draws", "PooledDraws"] "s5_source" (.obj w) s = .ok (.obj o) s := gFld_obj h2 (by simp) lookA_hd
  have kc := sc_kc h (m := "next_word") (by decide) (by decide)
  have e := next_w h ho hp
  have w2 : (s.set o (scC W (p + 1))).c w = pdC o u z v := (Sto.set_ne (Ne.symm ne)).trans h2
  have fa : ∀ (fv : AE) (σ : ASt), faug1 ["Draws", "PooledDraws"] "s5_used" (gI0 fun i j => .int (i + j)) fv σ (.obj w) (s.set o (scC W (p + 1))) = (fv σ (s.set o (scC W (p + 1)))).st σ (faug2 "PooledDraws" "s5_used" (gI0 fun i j => .int (i + j)) σ (.obj w) (.int (u : Nat))) := fun fv σ => faug1_obj w2 (by simp) ((lookA_tl (by decide)).trans lookA_hd)
  have f1 : setF ["PooledDraws"] "s5_used" (.obj w) (.int (((u : Nat) : Int) + 1)) (s.set o (scC W (p + 1))) = some (st2 s o (scC W (p + 1)) w (pdC o (u + 1) z v)) := by
    rw [setF_obj w2 (by simp) (by simp)]
    rfl
  refine gc_st2 ho hw (sc_cl _ _ _) (pd_cl ho) (by simp) ?_
  simp! [B_Draws_s5_word, a1, kc, e, aFAug, fa, faug2, faug3, gI0, f1, oNx]
end
/-- how many words are drawn at a place -/
def wx : Bool → Nat → Nat
  | true, x => wf x
  | false, x => x
def nx : Bool → Nat → Nat → Nat
  | true, x, k => x + k
  | false, x, k => x + wf k
def dC : Bool → Nat → List Nat → Nat → Cell
  | true, o, W, x => pdC o (wf x) (32 * wf x - x) (VW W (wf x) / 2 ^ x)
  | false, o, _, x => dwC o x
/-- the bits of whole words from a place on -/
def pvL (W : List Nat) (x k : Nat) : Nat → Nat
  | 0 => 0
  | i + 1 => pvL W x k i + (if 32 * (i + 1) ≤ k then wd W (x + i) else wd W (x + i) / 2 ^ (32 * (i + 1) - k)) * 2 ^ (32 * i)
def bv : Bool → List Nat → Nat → Nat → Nat
  | true, W, x, k => VW W (wf (x + k)) / 2 ^ x % 2 ^ k
  | false, W, x, k => pvL W x k (wf k)
def stA (s : Sto) (o w : Nat) (pl : Bool) (W : List Nat) (x : Nat) : Sto := st2 s o (scC W (wx pl x)) w (dC pl o W x)
structure At (s : Sto) (o w : Nat) (pl : Bool) (W : List Nat) (x : Nat) : Prop where
  ho : s.c o = scC W (wx pl x)
  hw : s.c w = dC pl o W x
  ne : o ≠ w
  lo : o < s.n
  lw : w < s.n
  row : RowW W
def dcls : Bool → String
  | true => "PooledDraws"
  | false => "Draws"
theorem dC_cl {pl : Bool} {o x n : Nat} {W : List Nat} (h : o < n) : ClC n (dC pl o W x) := by
  cases pl
  · exact dw_cl h
  · exact pd_cl h
section
variable {s : Sto} {o w x k : Nat} {pl : Bool} {W : List Nat}
theorem At.st (D : At s o w pl W x) (y : Nat) : At (stA s o w pl W y) o w pl W y := ⟨st2_o D.ne, st2_w, D.ne, D.lo, D.lw, D.row⟩
theorem At.self (D : At s o w pl W x) : stA s o w pl W x = s := st2_self D.ho D.hw
theorem stA_stA (D : At s o w pl W x) (y z : Nat) : stA (stA s o w pl W y) o w pl W z = stA s o w pl W z := st2_st2 D.ne
theorem gc_A {F : List AV → Sto → Res AV} {args : List AV} {v : AV} {y : Nat} (D : At s o w pl W x) (hv : Cl s.n v) (h : (F args s).Post (fun v' t => v' = v ∧ t = stA s o w pl W y) (fun _ _ _ _ => False)) : gcF F args s = .ok v (stA s o w pl W y) :=
  gc_st2 D.lo D.lw (sc_cl _ _ _) (dC_cl D.lo) hv h
theorem At.cell (D : At s o w pl W x) : ∃ fs, s.c w = .ins (dcls pl) fs ∧ ∀ m : Str, m ≠ "s5_source" → m ≠ "s5_used" → m ≠ "s5_size" → m ≠ "s5_value" → lookA m fs = none := by
  cases pl
  · exact ⟨_, D.hw, fun m h1 h2 _ _ => dw_no h1 h2⟩
  · exact ⟨_, D.hw, fun m h1 h2 h3 h4 => pd_no h1 h2 h3 h4⟩
end
end Pf
set_option Elab.async false
set_option linter.all false
set_option maxRecDepth 100000
set_option maxHeartbeats 1000000
set_option exponentiation.threshold 3000
namespace Pf
open PySem Ab
local macro_rules | `(tactic| simp! [$xs,*]) => `(tactic| try simp (config := {maxSteps := 1000000}) only [k_bind, k_Kb, k_st, k_Kst, k_Rst, k_thn, k_loop, k_fn, k_forget, k_clr, k_noX, k_try, k_stuck, k_Astuck, d_thn_nx, d_thn_bk, d_thn_ct, d_thn_rt, d_thn_er, d_lp_nx, d_lp_bk, d_lp_ct, d_lp_rt, d_lp_er, d_fg_nx, d_fg_bk, d_fg_ct, d_fg_rt, d_fg_er, d_cl_nx, d_cl_bk, d_cl_ct, d_cl_rt, d_cl_er, d_tr_nx, d_tr_bk, d_tr_ct, d_tr_rt, d_tr_er, d_nX_nx, d_nX_bk, d_nX_ct, d_nX_rt, d_nX_er, d_fn_nx, d_fn_bk, d_fn_ct, d_fn_rt, d_fn_er, A_nx, A_bk, A_ct, A_rt, A_err, post_ok, post_err, post_noErr, e_op, e_opK, e_un, e_cb, e_nil, e_c, e_cons, e_consK, e_consK2, e_and, e_or, e_andK, e_orK, e_not, e_notK, e_test, e_testK, e_tand, e_tandK, e_tor, e_torK, e_tnot, e_tnotK, e_yes, e_if, e_ifK, e_ch, e_chK1, e_chK2, e_chK3, e_tup, e_tupK, e_lst, e_lstK, e_newL, e_call, e_callK, e_meth, e_methK, e_methK2, e_prop, e_propK, e_make, e_makeK, e_makeK2, e_makeV, e_sm, e_smK, e_smK2, e_cm, e_cmK, e_cmK2, e_sl, e_slK1, e_slK2, e_slK3, e_part, e_partK, e_nopart, e_rev, e_bm, e_bmK, e_pr, e_pr0, e_prK1, e_prK2, e_prK3, e_disp, e_dnew, e_own, e_ownK, e_lc, e_lcK, e_iter, e_rng1, e_rng1K, e_rng2, e_rng2K, e_enum, s_drop, s_dropK, s_ret, s_retK, s_retN, s_next, s_break, s_cont, s_seq, s_if, s_ifK, s_asg, s_asgK, s_name, s_par, s_parK, s_par3, s_parK3, s_gnil, s_gcons, s_gtup, s_for, s_forK, s_raise, s_raiseK, s_sf, s_sfK1, s_sfK2, s_dp, s_dpK1, s_dpK2, s_dpK3, s_forget, s_def, s_fld, e_enumU, e_enumUT, e_match, e_mcase, e_mcase2, e_many, e_mnil, e_lcX, e_lcXK, e_get2, e_methS, e_methS1, e_methS2, s_augS, s_augS1, gEqS_int, gEqS_str, gEqS_bl, gEqS_tup, e_fmt, e_js, e_jsC, e_jsN, e_join, e_joinK, eq_self, beq_self_eq_true, k_grd, k_grdS, k_ite, k_Aite, true_implies, false_implies, implies_true, List.map_cons, List.map_nil, List.nil_append, List.cons_append, List.append_nil, List.replicate_succ, List.replicate_zero, List.getElem?_cons_zero, List.getElem?_cons_succ, List.length_cons, List.length_nil, List.set_cons_zero, List.set_cons_succ, ↓reduceIte, ↓reduceDIte, Nat.reduceAdd, Nat.reduceLeDiff, Nat.reduceEqDiff, Nat.zero_add, if_true, if_false, aVar, gMinus_int, gLt_int, gLe_int, gGt_int, gGe_int, gEq_int, gNe_int, gEq_str, gNe_str, gEq_bl, gNe_bl, gXor_int, gAnd_int, gOr_int, gAdd_int, gIsN_non, gNotN_non, gIsB_bl, gNotB_bl, gNeg_int, gLen_tup, gLen_scr, gMax2_int, gMin2_int, gBits_int, gSl_tup, gSl_scr, Bool.not_true, Bool.not_false, Bool.true_eq_false, Bool.false_eq_true, Bool.true_and, Bool.false_and, Bool.and_true, Bool.and_false, Bool.true_or, Bool.false_or, decide_true, decide_false, and_self, and_true, true_and, and_false, false_and, not_true_eq_false, not_false_eq_true, reduceCtorEq, kz, z1, z2, z3, z4, z5, z6, z7, z8, z9, z10, z11, z12, z13, z14, z15, z16, isCls, isNon, aForget, aHand, toKey, keysA, iterOf_tup, iterOf_scr, oNx_some, noErr_ok, decide_eq_true_eq, decide_eq_false_iff_not, Sto.new_n, Sto.set_n, Sto.set_at, Sto.new_at, Nat.zero_le, aMakeV, Cl_non, Cl_bl, Cl_int, Cl_str, Cl_cls, Cl_obj, Cl_tup, ClL_nil, ClL_cons, $xs,*])
section
variable {s : Sto} {o w u z v : Nat}
theorem pf1 (h : s.c w = pdC o u z v) {cs : List String} (hc : "PooledDraws" ∈ cs) : gFld cs "s5_source" (.obj w) s = .ok (.obj o) s := gFld_obj h hc lookA_hd
theorem pf2 (h : s.c w = pdC o u z v) {cs : List String} (hc : "PooledDraws" ∈ cs) : gFld cs "s5_used" (.obj w) s = .ok (.int (u : Nat)) s := gFld_obj h hc ((lookA_tl (by decide)).trans lookA_hd)
theorem pf3 (h : s.c w = pdC o u z v) {cs : List String} (hc : "PooledDraws" ∈ cs) : gFld cs "s5_size" (.obj w) s = .ok (.int (z : Nat)) s := gFld_obj h hc ((lookA_tl (by decide)).trans ((lookA_tl (by decide)).trans lookA_hd))
theorem pf4 (h : s.c w = pdC o u z v) {cs : List String} (hc : "PooledDraws" ∈ cs) : gFld cs "s5_value" (.obj w) s = .ok (.int (v : Nat)) s := gFld_obj h hc ((lookA_tl (by decide)).trans ((lookA_tl (by decide)).trans ((lookA_tl (by decide)).trans lookA_hd)))
end
theorem shrNp {a i : Nat} (s : Sto) : gShr (.int (a : Nat)) (.int (i : Nat)) s = .ok (.int ((a / 2 ^ i : Nat) : Int)) s := by
  rw [gShr_int (by omega)]
  congr 2
theorem modNp {a k : Nat} (s : Sto) : gMod (.int (a : Nat)) (.int ((2 ^ k : Nat) : Int)) s = .ok (.int ((a % 2 ^ k : Nat) : Int)) s := by
  rw [gMod_int (by have := Nat.two_pow_pos k; omega)]
  congr 2
section
variable {s : Sto} {o w t x k : Nat} {W : List Nat}
theorem bits_p (D : At s o w true W t) (hk : k ≤ 512) (hr : wf (t + k) ≤ W.length) : F_PooledDraws_s5_bits [.obj w, .int (k : Nat)] s = .ok (.int (bv true W t k : Nat)) (stA s o w true W (t + k)) := by
  obtain ⟨n, hn⟩ : ∃ n, n = wf t := ⟨_, rfl⟩
  obtain ⟨N, hN⟩ : ∃ N, N = wf (t + k) := ⟨_, rfl⟩
  have w1 := wf_le t
  have w2 := wf_le (t + k)
  have hw := D.hw
  have ho := D.ho
  obtain ⟨u, hu⟩ : ∃ u, u = n := ⟨_, rfl⟩
  have eU : u + (N - n) = wf (t + k) := by omega
  show _ = Res.ok (AV.int ((VW W (wf (t + k)) / 2 ^ t % 2 ^ k : Nat) : Int)) (st2 s o (scC W (wf (t + k))) w (pdC o (wf (t + k)) (32 * wf (t + k) - (t + k)) (VW W (wf (t + k)) / 2 ^ (t + k))))
  rw [show pdC o (wf (t + k)) (32 * wf (t + k) - (t + k)) (VW W (wf (t + k)) / 2 ^ (t + k)) = pdC o (u + (N - n)) (32 * wf (t + k) - (t + k)) (VW W (wf (t + k)) / 2 ^ (t + k)) by rw [eU]]
  have hw : s.c w = pdC o (wf t) (32 * wf t - t) (VW W (wf t) / 2 ^ t) := hw
  have ho : s.c o = scC W (wf t) := ho
  rw [← hN]
  rw [← hn] at hw ho w1
  rw [← hN] at w2 hr
  have hw : s.c w = pdC o u (32 * n - t) (VW W n / 2 ^ t) := by rw [hu]; exact hw
  have nN : n ≤ N := by rw [hn, hN]; unfold wf; omega
  refine gc_st2 D.lo D.lw (sc_cl _ _ _) (pd_cl D.lo) (by simp) ?_
  simp! [B_PooledDraws_s5_bits]
  refine while_A (fun r σ s' => ∃ m, n ≤ m ∧ m + r = N ∧ s' = st2 s o (scC W m) w (pdC o (u + (m - n)) (32 * m - t) (VW W m / 2 ^ t)) ∧ σ = [some (.obj w), some (.int (k : Nat)), none]) (N - n) ⟨n, Nat.le_refl _, by omega, by rw [Nat.sub_self]; exact (st2_self ho hw).symm, rfl⟩ ?_
  rintro r σ s' ⟨m, hm1, hm2, rfl, rfl⟩
  have q1 := st2_w (s := s) (o := o) (X := (scC W m)) (w := w) (Y := pdC o (u + (m - n)) (32 * m - t) (VW W m / 2 ^ t))
  have q2 := st2_o (s := s) (o := o) (X := (scC W m)) (w := w) (Y := pdC o (u + (m - n)) (32 * m - t) (VW W m / 2 ^ t)) D.ne
  have a3 := pf3 (cs := ["PooledDraws"]) q1 (by simp)
  have a4 := pf4 (cs := ["PooledDraws"]) q1 (by simp)
  by_cases hlt : 32 * m - t < k
  · have d1 : decide (((32 * m - t : Nat) : Int) < ((k : Nat) : Int)) = true := decide_eq_true (by omega)
    have wo := word_p q2 q1 D.ne D.lo D.lw (by omega)
    rw [st2_st2 D.ne] at wo
    have kc : Ab.clsIs _ (.obj w) "PooledDraws" "s5_word" = true := clsIs_obj q1 (pd_no (by decide) (by decide) (by decide) (by decide))
    have q3 := st2_w (s := s) (o := o) (X := (scC W (m + 1))) (w := w) (Y := pdC o (u + (m - n) + 1) (32 * m - t) (VW W m / 2 ^ t))
    have b3 := pf3 (cs := ["PooledDraws"]) q3 (by simp)
    have fa : ∀ (fv : AE) (σ : ASt), faug1 ["PooledDraws"] "s5_value" (gI0 fun i j => .int (i + j)) fv σ (.obj w) (st2 s o (scC W m) w (pdC o (u + (m - n)) (32 * m - t) (VW W m / 2 ^ t))) = (fv σ (st2 s o (scC W m) w (pdC o (u + (m - n)) (32 * m - t) (VW W m / 2 ^ t)))).st σ (faug2 "PooledDraws" "s5_value" (gI0 fun i j => .int (i + j)) σ (.obj w) (.int ((VW W m / 2 ^ t : Nat) : Int))) := fun fv σ => faug1_obj q1 (by simp) ((lookA_tl (by decide)).trans ((lookA_tl (by decide)).trans ((lookA_tl (by decide)).trans lookA_hd)))
    have sh := fun s => shl_ok (a := wd W m) (j := 32 * m - t) (k := 32) (s := s) (wd_lt D.row m) (by omega)
    have f1 : setF ["PooledDraws"] "s5_value" (.obj w) (.int (((VW W m / 2 ^ t : Nat) : Int) + ((wd W m * 2 ^ (32 * m - t) : Nat) : Int))) (st2 s o (scC W (m + 1)) w (pdC o (u + (m - n) + 1) (32 * m - t) (VW W m / 2 ^ t))) = some (st2 s o (scC W (m + 1)) w (pdC o (u + (m - n) + 1) (32 * m - t) (VW W (m + 1) / 2 ^ t))) := by
      rw [setF_obj q3 (by simp) (by simp), VW_next W (show t ≤ 32 * m by omega), Int.natCast_add]
      exact congrArg some st2_setw
    have q4 := st2_w (s := s) (o := o) (X := (scC W (m + 1))) (w := w) (Y := pdC o (u + (m - n) + 1) (32 * m - t) (VW W (m + 1) / 2 ^ t))
    have fb : ∀ (fv : AE) (σ : ASt), faug1 ["PooledDraws"] "s5_size" (gI0 fun i j => .int (i + j)) fv σ (.obj w) (st2 s o (scC W (m + 1)) w (pdC o (u + (m - n) + 1) (32 * m - t) (VW W (m + 1) / 2 ^ t))) = (fv σ (st2 s o (scC W (m + 1)) w (pdC o (u + (m - n) + 1) (32 * m - t) (VW W (m + 1) / 2 ^ t)))).st σ (faug2 "PooledDraws" "s5_size" (gI0 fun i j => .int (i + j)) σ (.obj w) (.int ((32 * m - t : Nat) : Int))) := fun fv σ => faug1_obj q4 (by simp) ((lookA_tl (by decide)).trans ((lookA_tl (by decide)).trans lookA_hd))
    have f2 : setF ["PooledDraws"] "s5_size" (.obj w) (.int (((32 * m - t : Nat) : Int) + 32)) (st2 s o (scC W (m + 1)) w (pdC o (u + (m - n) + 1) (32 * m - t) (VW W (m + 1) / 2 ^ t))) = some (st2 s o (scC W (m + 1)) w (pdC o (u + (m + 1 - n)) (32 * (m + 1) - t) (VW W (m + 1) / 2 ^ t))) := by
      rw [setF_obj q4 (by simp) (by simp), show ((32 * m - t : Nat) : Int) + 32 = ((32 * (m + 1) - t : Nat) : Int) by omega, show u + (m + 1 - n) = u + (m - n) + 1 by omega]
      exact congrArg some st2_setw
    simp! [a3, d1, aFAug, fa, kc, wo, b3, sh, faug2, faug3, gI0, f1, oNx, fb, f2]
    exact ⟨r - 1, by omega, m + 1, by omega, by omega, rfl⟩
  · have d1 : decide (((32 * m - t : Nat) : Int) < ((k : Nat) : Int)) = false := decide_eq_false (by omega)
    have ie : m = N := by omega
    subst ie
    have s1 : ∀ s, gShl (.int 1) (.int (k : Nat)) s = .ok (.int ((2 ^ k : Nat) : Int)) s := fun s => (shl_ok (a := 1) (j := k) (k := 1) (s := s) (by decide) (by omega)).trans (by rw [Nat.one_mul])
    have md := fun s => modNp (a := VW W m / 2 ^ t) (k := k) s
    have sr := fun s => shrNp (a := VW W m / 2 ^ t) (i := k) s
    have f1 : setF ["PooledDraws"] "s5_value" (.obj w) (.int ((VW W m / 2 ^ t / 2 ^ k : Nat) : Int)) (st2 s o (scC W m) w (pdC o (u + (m - n)) (32 * m - t) (VW W m / 2 ^ t))) = some (st2 s o (scC W m) w (pdC o (u + (m - n)) (32 * m - t) (VW W m / 2 ^ (t + k)))) := by
      rw [setF_obj q1 (by simp) (by simp), Nat.div_div_eq_div_mul, ← Nat.pow_add]
      exact congrArg some st2_setw
    have q4 := st2_w (s := s) (o := o) (X := (scC W m)) (w := w) (Y := pdC o (u + (m - n)) (32 * m - t) (VW W m / 2 ^ (t + k)))
    have fb : ∀ (fv : AE) (σ : ASt), faug1 ["PooledDraws"] "s5_size" (gI0 fun i j => .int (i - j)) fv σ (.obj w) (st2 s o (scC W m) w (pdC o (u + (m - n)) (32 * m - t) (VW W m / 2 ^ (t + k)))) = (fv σ (st2 s o (scC W m) w (pdC o (u + (m - n)) (32 * m - t) (VW W m / 2 ^ (t + k))))).st σ (faug2 "PooledDraws" "s5_size" (gI0 fun i j => .int (i - j)) σ (.obj w) (.int ((32 * m - t : Nat) : Int))) := fun fv σ => faug1_obj q4 (by simp) ((lookA_tl (by decide)).trans ((lookA_tl (by decide)).trans lookA_hd))
    have f2 : setF ["PooledDraws"] "s5_size" (.obj w) (.int (((32 * m - t : Nat) : Int) - ((k : Nat) : Int))) (st2 s o (scC W m) w (pdC o (u + (m - n)) (32 * m - t) (VW W m / 2 ^ (t + k)))) = some (st2 s o (scC W m) w (pdC o (u + (m - n)) (32 * m - (t + k)) (VW W m / 2 ^ (t + k)))) := by
      rw [setF_obj q4 (by simp) (by simp), show ((32 * m - t : Nat) : Int) - ((k : Nat) : Int) = ((32 * m - (t + k) : Nat) : Int) by omega]
      exact congrArg some st2_setw
    simp! [a3, d1, a4, s1, md, sr, aFAug, faug2, faug3, gI0, f1, oNx, fb, f2]
noncomputable abbrev tWord : VTab := [("Draws", F_Draws_s5_word), ("PooledDraws", F_Draws_s5_word)]
theorem bits_d (D : At s o w false W x) (hk : k ≤ 512) (hr : x + wf k ≤ W.length) : F_Draws_s5_bits [.obj w, .int (k : Nat)] s = .ok (.int (bv false W x k : Nat)) (stA s o w false W (x + wf k)) := by
  obtain ⟨n, hn⟩ : ∃ n, n = wf k := ⟨_, rfl⟩
  have wl := wf_le k
  show _ = Res.ok (AV.int ((pvL W x k (wf k) : Nat) : Int)) _
  rw [← hn] at hr wl ⊢
  refine gc_A D (by simp) ?_
  simp! [B_Draws_s5_bits, z2]
  refine while_A (fun m σ s' => ∃ (i : Nat) (x4 x5 : Option AV), i + m = n ∧ s' = stA s o w false W (x + i) ∧ σ = [some (.obj w), some (.int (k : Nat)), some (.int ((pvL W x k i : Nat) : Int)), some (.int ((32 * i : Nat) : Int)), x4, x5]) n ⟨0, none, none, by omega, D.self.symm, rfl⟩ ?_
  rintro m σ s' ⟨i, x4, x5, hi, rfl, rfl⟩
  have Di := D.st (x + i)
  by_cases hlt : 32 * i < k
  · have d1 : decide (((32 * i : Nat) : Int) < ((k : Nat) : Int)) = true := decide_eq_true (by omega)
    have i1 : i < n := by omega
    have wo := word_d (s := stA s o w false W (x + i)) Di.ho Di.hw D.ne D.lo D.lw (show x + i < W.length by omega)
    have wo : F_Draws_s5_word [.obj w] (stA s o w false W (x + i)) = .ok (.int (wd W (x + i) : Nat)) (stA s o w false W (x + (i + 1))) := wo.trans (congrArg (Res.ok _) (st2_st2 D.ne))
    have vw := v_dr (tbl := tWord) (m := "s5_word") (n := 1) (F := F_Draws_s5_word) (fo := aVar 0) (fr := aNil) (σ := [some (.obj w), some (.int (k : Nat)), some (.int ((pvL W x k i : Nat) : Int)), some (.int ((32 * i : Nat) : Int)), x4, x5]) (s1 := stA s o w false W (x + i)) (s2 := stA s o w false W (x + i)) (xs := []) Di.hw (dw_no (by decide) (by decide)) rfl rfl rfl rfl
    rw [wo] at vw
    have cr : ((k : Nat) : Int) - ((32 * i : Nat) : Int) = ((k - 32 * i : Nat) : Int) := by omega
    have cp : ((32 * i : Nat) : Int) + 32 = ((32 * (i + 1) : Nat) : Int) := by omega
    obtain ⟨q, hq⟩ : ∃ q, q = (if 32 * (i + 1) ≤ k then wd W (x + i) else wd W (x + i) / 2 ^ (32 * (i + 1) - k)) := ⟨_, rfl⟩
    have q32 : q < 2 ^ 32 := by
      have := wd_lt D.row (x + i)
      rw [hq]
      split
      · omega
      · exact Nat.lt_of_le_of_lt (Nat.div_le_self _ _) (by omega)
    have sh : ∀ s, gShl (.int (q : Nat)) (.int ((32 * i : Nat) : Int)) s = .ok (.int ((q * 2 ^ (32 * i) : Nat) : Int)) s := fun s => shl_ok (k := 32) q32 (by omega)
    have ce : ((pvL W x k i : Nat) : Int) + ((q * 2 ^ (32 * i) : Nat) : Int) = ((pvL W x k (i + 1) : Nat) : Int) := by
      show _ = ((pvL W x k i + _ * 2 ^ (32 * i) : Nat) : Int)
      rw [← hq]
      omega
    by_cases hf : 32 * (i + 1) ≤ k
    · have d2 : decide (((k - 32 * i : Nat) : Int) < 32) = false := decide_eq_false (by omega)
      rw [if_pos hf] at hq
      rw [← hq] at vw
      simp! [d1, vw, cr, d2, sh, ce, cp]
      exact ⟨m - 1, by omega, i + 1, _, _, by omega, rfl, rfl⟩
    · have d2 : decide (((k - 32 * i : Nat) : Int) < 32) = true := decide_eq_true (by omega)
      rw [if_neg hf] at hq
      have c3 : (32 : Int) - ((k - 32 * i : Nat) : Int) = ((32 * (i + 1) - k : Nat) : Int) := by omega
      have sr := fun s => shrNp (a := wd W (x + i)) (i := 32 * (i + 1) - k) s
      rw [← hq] at sr
      simp! [d1, vw, cr, d2, c3, sr, sh, ce, cp]
      exact ⟨m - 1, by omega, i + 1, _, _, by omega, rfl, rfl⟩
  · have d1 : decide (((32 * i : Nat) : Int) < ((k : Nat) : Int)) = false := decide_eq_false (by omega)
    have ie : i = n := by omega
    subst ie
    simp! [d1]
noncomputable def fB : Bool → List AV → Sto → Res AV
  | true => F_PooledDraws_s5_bits
  | false => F_Draws_s5_bits
noncomputable abbrev tBits : VTab := [("Draws", F_Draws_s5_bits), ("PooledDraws", F_PooledDraws_s5_bits)]
theorem tBits_at (pl : Bool) : tabAt tBits (dcls pl) = some (fB pl) := by cases pl <;> rfl
/-- there are words enough -/
abbrev Room (pl : Bool) (W : List Nat) (x k : Nat) : Prop := wx pl (nx pl x k) ≤ W.length
theorem s5_ok {pl : Bool} (D : At s o w pl W x) (hk : k ≤ 512) (hr : Room pl W x k) : fB pl [.obj w, .int (k : Nat)] s = .ok (.int (bv pl W x k : Nat)) (stA s o w pl W (nx pl x k)) := by
  cases pl
  · exact bits_d D hk hr
  · exact bits_p D hk hr
/-- bits by one of both classes -/
theorem s5_v {pl : Bool} (D : At s o w pl W x) (hk : k ≤ 512) (hr : Room pl W x k) {i : Nat} {fr : AA} {σ : ASt} (e : aVar i σ s = .ok (.obj w) s) (er : fr σ s = .ok [.int (k : Nat)] s) : aVirt "s5_bits" 2 tBits (aVar i) fr σ s = .ok (.int (bv pl W x k : Nat)) (stA s o w pl W (nx pl x k)) := by
  obtain ⟨fs, hc, hm⟩ := D.cell
  exact (v_dr hc (hm _ (by decide) (by decide) (by decide) (by decide)) (tBits_at pl) e er rfl).trans (s5_ok D hk hr)
end
end Pf
set_option Elab.async false
set_option linter.all false
set_option maxRecDepth 100000
set_option maxHeartbeats 1000000
set_option exponentiation.threshold 3000
namespace Pf
open PySem Ab
local macro_rules | `(tactic| simp! [$xs,*]) => `(tactic| try simp (config := {maxSteps := 1000000}) only [k_bind, k_Kb, k_st, k_Kst, k_Rst, k_thn, k_loop, k_fn, k_forget, k_clr, k_noX, k_try, k_stuck, k_Astuck, d_thn_nx, d_thn_bk, d_thn_ct, d_thn_rt, d_thn_er, d_lp_nx, d_lp_bk, d_lp_ct, d_lp_rt, d_lp_er, d_fg_nx, d_fg_bk, d_fg_ct, d_fg_rt, d_fg_er, d_cl_nx, d_cl_bk, d_cl_ct, d_cl_rt, d_cl_er, d_tr_nx, d_tr_bk, d_tr_ct, d_tr_rt, d_tr_er, d_nX_nx, d_nX_bk, d_nX_ct, d_nX_rt, d_nX_er, d_fn_nx, d_fn_bk, d_fn_ct, d_fn_rt, d_fn_er, A_nx, A_bk, A_ct, A_rt, A_err, post_ok, post_err, post_noErr, e_op, e_opK, e_un, e_cb, e_nil, e_c, e_cons, e_consK, e_consK2, e_and, e_or, e_andK, e_orK, e_not, e_notK, e_test, e_testK, e_tand, e_tandK, e_tor, e_torK, e_tnot, e_tnotK, e_yes, e_if, e_ifK, e_ch, e_chK1, e_chK2, e_chK3, e_tup, e_tupK, e_lst, e_lstK, e_newL, e_call, e_callK, e_meth, e_methK, e_methK2, e_prop, e_propK, e_make, e_makeK, e_makeK2, e_makeV, e_sm, e_smK, e_smK2, e_cm, e_cmK, e_cmK2, e_sl, e_slK1, e_slK2, e_slK3, e_part, e_partK, e_nopart, e_rev, e_bm, e_bmK, e_pr, e_pr0, e_prK1, e_prK2, e_prK3, e_disp, e_dnew, e_own, e_ownK, e_lc, e_lcK, e_iter, e_rng1, e_rng1K, e_rng2, e_rng2K, e_enum, s_drop, s_dropK, s_ret, s_retK, s_retN, s_next, s_break, s_cont, s_seq, s_if, s_ifK, s_asg, s_asgK, s_name, s_par, s_parK, s_par3, s_parK3, s_gnil, s_gcons, s_gtup, s_for, s_forK, s_raise, s_raiseK, s_sf, s_sfK1, s_sfK2, s_dp, s_dpK1, s_dpK2, s_dpK3, s_forget, s_def, s_fld, e_enumU, e_enumUT, e_match, e_mcase, e_mcase2, e_many, e_mnil, e_lcX, e_lcXK, e_get2, e_methS, e_methS1, e_methS2, s_augS, s_augS1, gEqS_int, gEqS_str, gEqS_bl, gEqS_tup, e_fmt, e_js, e_jsC, e_jsN, e_join, e_joinK, eq_self, beq_self_eq_true, k_grd, k_grdS, k_ite, k_Aite, true_implies, false_implies, implies_true, List.map_cons, List.map_nil, List.nil_append, List.cons_append, List.append_nil, List.replicate_succ, List.replicate_zero, List.getElem?_cons_zero, List.getElem?_cons_succ, List.length_cons, List.length_nil, List.set_cons_zero, List.set_cons_succ, ↓reduceIte, ↓reduceDIte, Nat.reduceAdd, Nat.reduceLeDiff, Nat.reduceEqDiff, Nat.zero_add, if_true, if_false, aVar, gMinus_int, gLt_int, gLe_int, gGt_int, gGe_int, gEq_int, gNe_int, gEq_str, gNe_str, gEq_bl, gNe_bl, gXor_int, gAnd_int, gOr_int, gAdd_int, gIsN_non, gNotN_non, gIsB_bl, gNotB_bl, gNeg_int, gLen_tup, gLen_scr, gMax2_int, gMin2_int, gBits_int, gSl_tup, gSl_scr, Bool.not_true, Bool.not_false, Bool.true_eq_false, Bool.false_eq_true, Bool.true_and, Bool.false_and, Bool.and_true, Bool.and_false, Bool.true_or, Bool.false_or, decide_true, decide_false, and_self, and_true, true_and, and_false, false_and, not_true_eq_false, not_false_eq_true, reduceCtorEq, kz, z1, z2, z3, z4, z5, z6, z7, z8, z9, z10, z11, z12, z13, z14, z15, z16, isCls, isNon, aForget, aHand, toKey, keysA, iterOf_tup, iterOf_scr, oNx_some, noErr_ok, decide_eq_true_eq, decide_eq_false_iff_not, Sto.new_n, Sto.set_n, Sto.set_at, Sto.new_at, Nat.zero_le, aMakeV, Cl_non, Cl_bl, Cl_int, Cl_str, Cl_cls, Cl_obj, Cl_tup, ClL_nil, ClL_cons, $xs,*])
local macro_rules | `(tactic| simp! only [$xs,*]) => `(tactic| simp only [e_op, e_opK, e_un, e_cb, e_nil, e_c, e_cons, e_consK, e_consK2, e_and, e_or, e_andK, e_orK, e_not, e_notK, e_test, e_testK, e_tand, e_tandK, e_tor, e_torK, e_tnot, e_tnotK, e_yes, e_if, e_ifK, e_ch, e_chK1, e_chK2, e_chK3, e_tup, e_tupK, e_lst, e_lstK, e_newL, e_call, e_callK, e_meth, e_methK, e_methK2, e_prop, e_propK, e_make, e_makeK, e_makeK2, e_makeV, e_sm, e_smK, e_smK2, e_cm, e_cmK, e_cmK2, e_sl, e_slK1, e_slK2, e_slK3, e_part, e_partK, e_nopart, e_rev, e_bm, e_bmK, e_pr, e_pr0, e_prK1, e_prK2, e_prK3, e_disp, e_dnew, e_own, e_ownK, e_lc, e_lcK, e_iter, e_rng1, e_rng1K, e_rng2, e_rng2K, e_enum, s_drop, s_dropK, s_ret, s_retK, s_retN, s_next, s_break, s_cont, s_seq, s_if, s_ifK, s_asg, s_asgK, s_name, s_par, s_parK, s_par3, s_parK3, s_gnil, s_gcons, s_gtup, s_for, s_forK, s_raise, s_raiseK, s_sf, s_sfK1, s_sfK2, s_dp, s_dpK1, s_dpK2, s_dpK3, s_forget, s_def, s_fld, e_enumU, e_enumUT, e_match, e_mcase, e_mcase2, e_many, e_mnil, e_lcX, e_lcXK, e_get2, e_methS, e_methS1, e_methS2, s_augS, s_augS1, gEqS_int, gEqS_str, gEqS_bl, gEqS_tup, e_fmt, e_js, e_jsC, e_jsN, e_join, e_joinK, eq_self, beq_self_eq_true, true_implies, false_implies, implies_true, List.map_cons, List.map_nil, List.nil_append, List.cons_append, List.append_nil, List.replicate_succ, List.replicate_zero, List.getElem?_cons_zero, List.getElem?_cons_succ, List.length_cons, List.length_nil, List.set_cons_zero, List.set_cons_succ, ↓reduceIte, ↓reduceDIte, Nat.reduceAdd, Nat.reduceLeDiff, Nat.reduceEqDiff, Nat.zero_add, if_true, if_false, aVar, gMinus_int, gLt_int, gLe_int, gGt_int, gGe_int, gEq_int, gNe_int, gEq_str, gNe_str, gEq_bl, gNe_bl, gXor_int, gAnd_int, gOr_int, gAdd_int, gIsN_non, gNotN_non, gIsB_bl, gNotB_bl, gNeg_int, gLen_tup, gLen_scr, gMax2_int, gMin2_int, gBits_int, gSl_tup, gSl_scr, Bool.not_true, Bool.not_false, Bool.true_eq_false, Bool.false_eq_true, Bool.true_and, Bool.false_and, Bool.and_true, Bool.and_false, Bool.true_or, Bool.false_or, decide_true, decide_false, and_self, and_true, true_and, and_false, false_and, not_true_eq_false, not_false_eq_true, reduceCtorEq, kz, z1, z2, z3, z4, z5, z6, z7, z8, z9, z10, z11, z12, z13, z14, z15, z16, isCls, isNon, aForget, aHand, toKey, keysA, iterOf_tup, iterOf_scr, oNx_some, noErr_ok, decide_eq_true_eq, decide_eq_false_iff_not, Sto.new_n, Sto.set_n, Sto.set_at, Sto.new_at, Nat.zero_le, aMakeV, Cl_non, Cl_bl, Cl_int, Cl_str, Cl_cls, Cl_obj, Cl_tup, ClL_nil, ClL_cons, grd_pos, grdS_pos, Res.bind_ok, Res.bind_err, Res.st_ok, Res.st_err, SRes.thn_nx, SRes.thn_rt, SRes.thn_err, SRes.fn_rt, SRes.fn_nx, SRes.fn_err, SRes.loop_nx, SRes.loop_rt, SRes.loop_err, SRes.loop_ct, SRes.loop_bk, SRes.forget_nx, SRes.forget_rt, SRes.forget_err, SRes.clr_nx, SRes.clr_rt, SRes.noX_nx, SRes.noX_rt, aTry, sizeLine_ge, $xs,*])
def fb (pl : Bool) (W : List Nat) (k b : Nat) : Nat → Nat → Nat × Nat
  | 0, x => (0, x)
  | n + 1, x => if bv pl W x k < b then (bv pl W x k, nx pl x k) else fb pl W k b n (nx pl x k)
def Good (pl : Bool) (W : List Nat) (k b : Nat) : Nat → Nat → Prop
  | 0, _ => False
  | n + 1, x => Room pl W x k ∧ (bv pl W x k < b ∨ Good pl W k b n (nx pl x k))
section
variable {s : Sto} {o w x k b n : Nat} {pl : Bool} {W : List Nat}
/-- a method of the base, called by one of both classes -/
theorem same_v (D : At s o w pl W x) {F : List AV → Sto → Res AV} {m : Str} {N i : Nat} {fr : AA} {σ : ASt} {xs : List AV} (h1 : m ≠ "s5_source") (h2 : m ≠ "s5_used") (h3 : m ≠ "s5_size") (h4 : m ≠ "s5_value") (e : aVar i σ s = .ok (.obj w) s) (er : fr σ s = .ok xs s) (hl : xs.length + 1 = N) : aVirt m N [("Draws", F), ("PooledDraws", F)] (aVar i) fr σ s = F (.obj w :: xs) s := by
  obtain ⟨fs, hc, hm⟩ := D.cell
  exact v_dr hc (hm _ h1 h2 h3 h4) (by cases pl <;> rfl) e er hl
theorem below_A (D : At s o w pl W x) (hb : 1 ≤ b) (hk : TW.len (b - 1) ≤ 512) (G : Good pl W (TW.len (b - 1)) b n x) : F_Draws_s5_below [.obj w, .int (b : Nat)] s = .ok (.int ((fb pl W (TW.len (b - 1)) b n x).1 : Nat)) (stA s o w pl W (fb pl W (TW.len (b - 1)) b n x).2) := by
  have dg := digits_okN (n := b - 1)
  obtain ⟨K, hK⟩ : ∃ K, K = TW.len (b - 1) := ⟨_, rfl⟩
  rw [← hK] at hk G ⊢
  have dg : ∀ s, F_s5_digits [.int ((b - 1 : Nat) : Int)] s = .ok (.int (K : Nat)) s := fun s => by rw [hK]; exact digits_okN s
  have c : ((b : Nat) : Int) - 1 = ((b - 1 : Nat) : Int) := by omega
  refine gc_A D (by simp) ?_
  cases n with
  | zero => exact G.elim
  | succ n =>
    have v0 := s5_v D hk G.1 (i := 0) (fr := aCons (aVar 2) aNil) (σ := [some (.obj w), some (.int (b : Nat)), some (.int (K : Nat)), none]) rfl rfl
    simp! [B_Draws_s5_below, c, dg, v0]
    refine while_A (fun m σ s' => ∃ y, Good pl W K b (m + 1) y ∧ fb pl W K b (m + 1) y = fb pl W K b (n + 1) x ∧ s' = stA s o w pl W (nx pl y K) ∧ σ = [some (.obj w), some (.int (b : Nat)), some (.int (K : Nat)), some (.int (bv pl W y K : Nat))]) n ⟨x, G, rfl, rfl, rfl⟩ ?_
    rintro m σ s' ⟨y, Gy, e, rfl, rfl⟩
    by_cases h : bv pl W y K < b
    · have d : decide (((b : Nat) : Int) ≤ ((bv pl W y K : Nat) : Int)) = false := decide_eq_false (by omega)
      have e2 : fb pl W K b (m + 1) y = (bv pl W y K, nx pl y K) := if_pos h
      rw [e2] at e
      rw [← e]
      simp! [gGe_int, d]
    · have d : decide (((b : Nat) : Int) ≤ ((bv pl W y K : Nat) : Int)) = true := decide_eq_true (by omega)
      have G2 := Gy.2.resolve_left h
      cases m with
      | zero => exact G2.elim
      | succ m =>
        have v1 := s5_v (D.st (nx pl y K)) hk G2.1 (i := 0) (fr := aCons (aVar 2) aNil) (σ := [some (.obj w), some (.int (b : Nat)), some (.int (K : Nat)), some (.int (bv pl W y K : Nat))]) rfl rfl
        rw [stA_stA D] at v1
        simp! [gGe_int, d, v1]
        exact ⟨m, by omega, nx pl y K, G2, (if_neg h).symm.trans e, rfl, rfl⟩
theorem bitsf_A (D : At s o w pl W x) (hk : k ≤ 512) (hr : Room pl W x k) : F_Draws_bits [.obj w, .int (k : Nat)] s = .ok (.int (bv pl W x k : Nat)) (stA s o w pl W (nx pl x k)) := by
  have nd := need5_t (i := (k : Nat)) (lo := 0) (hi := 512) s (by omega) (by omega)
  have v0 := s5_v D hk hr (i := 0) (fr := aCons (aVar 1) aNil) (σ := [some (.obj w), some (.int (k : Nat))]) rfl rfl
  refine gc_A D (by simp) ?_
  simp! [B_Draws_bits, nd, v0]
theorem first_A (D : At s o w pl W x) (hb : 1 ≤ b) (hk : TW.len (b - 1) ≤ 512) (hb2 : b - 1 < 2 ^ 512) (G : Good pl W (TW.len (b - 1)) b n x) : F__law_first [.obj w, .int (b : Nat)] s = .ok (.int ((fb pl W (TW.len (b - 1)) b n x).1 : Nat)) (stA s o w pl W (fb pl W (TW.len (b - 1)) b n x).2) := by
  obtain ⟨K, hK⟩ : ∃ K, K = TW.len (b - 1) := ⟨_, rfl⟩
  rw [← hK] at hk G ⊢
  have big : (2 : Nat) ^ 512 = 13407807929942597099574024998205846127479365820592393377723561443721764030073546976801874298166903427690031858186486050853753882811946569946433649006084096 := by decide +kernel
  have dg : ∀ s, F_digits_of [.int ((b - 1 : Nat) : Int)] s = .ok (.int (K : Nat)) s := fun s => by
    have nd := need5_t (i := (b - 1 : Nat)) (lo := 0) (hi := 13407807929942597099574024998205846127479365820592393377723561443721764030073546976801874298166903427690031858186486050853753882811946569946433649006084096) s (by omega) (by omega)
    have dg := digits_okN (n := b - 1) s
    rw [← hK] at dg
    refine gc0 ?_ (by simp)
    simp! only [B_digits_of, nd, dg]
  clear big hb2
  have c : ((b : Nat) : Int) - 1 = ((b - 1 : Nat) : Int) := by omega
  refine gc_A D (by simp) ?_
  cases n with
  | zero => exact G.elim
  | succ n =>
    have v0 := same_v D (F := F_Draws_bits) (m := "bits") (N := 2) (i := 0) (fr := aCons (aVar 2) aNil) (σ := [some (.obj w), some (.int (b : Nat)), some (.int (K : Nat)), none]) (xs := [.int (K : Nat)]) (by decide) (by decide) (by decide) (by decide) rfl rfl rfl
    rw [bitsf_A D hk G.1] at v0
    simp! [B__law_first, c, dg, v0]
    refine while_A (fun m σ s' => ∃ y, Good pl W K b (m + 1) y ∧ fb pl W K b (m + 1) y = fb pl W K b (n + 1) x ∧ s' = stA s o w pl W (nx pl y K) ∧ σ = [some (.obj w), some (.int (b : Nat)), some (.int (K : Nat)), some (.int (bv pl W y K : Nat))]) n ⟨x, G, rfl, rfl, rfl⟩ ?_
    rintro m σ s' ⟨y, Gy, e, rfl, rfl⟩
    by_cases h : bv pl W y K < b
    · have d : decide (((b : Nat) : Int) ≤ ((bv pl W y K : Nat) : Int)) = false := decide_eq_false (by omega)
      have e2 : fb pl W K b (m + 1) y = (bv pl W y K, nx pl y K) := if_pos h
      rw [e2] at e
      rw [← e]
      simp! [gGe_int, d]
    · have d : decide (((b : Nat) : Int) ≤ ((bv pl W y K : Nat) : Int)) = true := decide_eq_true (by omega)
      have G2 := Gy.2.resolve_left h
      cases m with
      | zero => exact G2.elim
      | succ m =>
        have v1 := same_v (D.st (nx pl y K)) (F := F_Draws_bits) (m := "bits") (N := 2) (i := 0) (fr := aCons (aVar 2) aNil) (σ := [some (.obj w), some (.int (b : Nat)), some (.int (K : Nat)), some (.int (bv pl W y K : Nat))]) (xs := [.int (K : Nat)]) (by decide) (by decide) (by decide) (by decide) rfl rfl rfl
        rw [bitsf_A (D.st (nx pl y K)) hk G2.1, stA_stA D] at v1
        simp! [gGe_int, d, v1]
        exact ⟨m, by omega, nx pl y K, G2, (if_neg h).symm.trans e, rfl, rfl⟩
abbrev lb (b : Nat) : Nat := TW.len (b - 1)
theorem lb_le (h : b ≤ 2 ^ 256) (h1 : 1 ≤ b) : TW.len (b - 1) ≤ 257 := TW.len_le (Nat.lt_of_lt_of_le (show b - 1 < 2 ^ 256 by omega) (Nat.pow_le_pow_right (by decide) (by decide)))
/-- a number below a bound by one of both classes -/
theorem bel_v (D : At s o w pl W x) (h1 : 1 ≤ b) (hb : b ≤ 2 ^ 256) (G : Good pl W (TW.len (b - 1)) b n x) {i : Nat} {fr : AA} {σ : ASt} (e : aVar i σ s = .ok (.obj w) s) (er : fr σ s = .ok [.int (b : Nat)] s) : aVirt "s5_below" 2 [("Draws", F_Draws_s5_below), ("PooledDraws", F_Draws_s5_below)] (aVar i) fr σ s = .ok (.int ((fb pl W (TW.len (b - 1)) b n x).1 : Nat)) (stA s o w pl W (fb pl W (TW.len (b - 1)) b n x).2) := by
  exact (same_v D (by decide) (by decide) (by decide) (by decide) e er rfl).trans (below_A D h1 (by have := lb_le hb h1; omega) G)
theorem belowf_A (D : At s o w pl W x) (h1 : 1 ≤ b) (hb : b ≤ 2 ^ 256) (G : Good pl W (TW.len (b - 1)) b n x) : F_Draws_below [.obj w, .int (b : Nat)] s = .ok (.int ((fb pl W (TW.len (b - 1)) b n x).1 : Nat)) (stA s o w pl W (fb pl W (TW.len (b - 1)) b n x).2) := by
  have nd : F_s5_need [.int (b : Nat), .int 1, .int MB] s = .ok .non s := need5_t (i := (b : Nat)) (lo := 1) (hi := MB) s (by omega) (leMB hb)
  have v0 := bel_v D h1 hb G (i := 0) (fr := aCons (aVar 1) aNil) (σ := [some (.obj w), some (.int (b : Nat))]) rfl rfl
  refine gc_A D (by simp) ?_
  simp! [B_Draws_below, nd, v0]
theorem between_A {lo : Int} (D : At s o w pl W x) (h1 : 1 ≤ b) (hb : b ≤ 2 ^ 256) (G : Good pl W (TW.len (b - 1)) b n x) (l1 : -MB ≤ lo) (l2 : lo + b - 1 ≤ MB) : F_Draws_between [.obj w, .int lo, .int (lo + (b : Nat) - 1)] s = .ok (.int (lo + ((fb pl W (TW.len (b - 1)) b n x).1 : Nat))) (stA s o w pl W (fb pl W (TW.len (b - 1)) b n x).2) := by
  have hM := leMB hb
  have nd := range_ok (lo := lo) (hi := lo + (b : Nat) - 1) s l1 l2 (by omega) (by omega)
  have c : lo + ((b : Nat) : Int) - 1 - lo + 1 = ((b : Nat) : Int) := by omega
  have v0 := bel_v D h1 hb G (i := 0) (fr := aCons (aOp gAdd (aOp gMinus (aVar 2) (aVar 1)) (aC (.int 1))) aNil) (σ := [some (.obj w), some (.int lo), some (.int (lo + (b : Nat) - 1))]) rfl (by simp! only [c])
  refine gc_A D (by simp) ?_
  simp! [B_Draws_between, nd, v0]
theorem coin_A {a : Nat} (D : At s o w pl W x) (h1 : 1 ≤ b) (hb : b ≤ 2 ^ 256) (G : Good pl W (TW.len (b - 1)) b n x) (ha : a ≤ b) : F_Draws_coin [.obj w, .int (a : Nat), .int (b : Nat)] s = .ok (.bl (decide ((((fb pl W (TW.len (b - 1)) b n x).1 : Nat) : Int) < ((a : Nat) : Int)))) (stA s o w pl W (fb pl W (TW.len (b - 1)) b n x).2) := by
  have nd := share_ok (a := a) (n := b) s ha (by omega) hb
  have v0 := bel_v D h1 hb G (i := 0) (fr := aCons (aVar 2) aNil) (σ := [some (.obj w), some (.int (a : Nat)), some (.int (b : Nat))]) rfl rfl
  refine gc_A D (by simp) ?_
  simp! [B_Draws_coin, nd, v0]
theorem frac_A (D : At s o w pl W x) (hk : k ≤ 512) (hr : Room pl W x k) : F_Draws_fraction [.obj w, .int (k : Nat)] s = .ok (.tup (iN [bv pl W x k / Nat.gcd (bv pl W x k) (2 ^ k), 2 ^ k / Nat.gcd (bv pl W x k) (2 ^ k)])) (stA s o w pl W (nx pl x k)) := by
  have nd := need5_t (i := (k : Nat)) (lo := 0) (hi := 512) s (by omega) (by omega)
  have v0 := s5_v D hk hr (i := 0) (fr := aCons (aVar 1) aNil) (σ := [some (.obj w), some (.int (k : Nat))]) rfl rfl
  have sl := fun s => shl_one (k := k) s (by omega)
  have rd := fun s => red_ok (a := bv pl W x k) (b := 2 ^ k) s (Nat.two_pow_pos _) (Nat.pow_lt_pow_right (by decide) (by omega))
  refine gc_A D (by rw [Cl_tup]; exact iNcl2 _ _) ?_
  simp! [B_Draws_fraction, nd, v0, sl, rd]
theorem dobits_A (D : At s o w pl W x) (hk : k ≤ 512) (hr : Room pl W x k) : F_Draws_do [.obj w, .tup [.str "bits", .int (k : Nat)]] s = .ok (.int (bv pl W x k : Nat)) (stA s o w pl W (nx pl x k)) := by
  have st := step_ok (z := "bits") (xs := [.int (k : Nat)]) s (.inl ⟨rfl, rfl⟩)
  have i0 : ∀ s, gIx (.tup [.str "bits", .int (k : Nat)]) (.int 0) s = .ok (.str "bits") s := fun s => gIx_tup rfl
  have i1 : ∀ s, gIx (.tup [.str "bits", .int (k : Nat)]) (.int 1) s = .ok (.int (k : Nat)) s := fun s => gIx_tup rfl
  have v0 := same_v D (F := F_Draws_bits) (m := "bits") (N := 2) (i := 0) (fr := aCons (aOp gIx (aVar 1) (aC (.int 1))) aNil) (σ := [some (.obj w), some (.tup [.str "bits", .int (k : Nat)])]) (xs := [.int (k : Nat)]) (by decide) (by decide) (by decide) (by decide) rfl (by simp! only [i1]) rfl
  rw [bitsf_A D hk hr] at v0
  refine gc_A D (by simp) ?_
  simp! [B_Draws_do, st, i0, v0]
theorem choice_A {L v : Nat} {xs : List AV} {y : AV} (D : At s o w pl W x) (hL : s.c L = .lst xs) (lo : L ≠ o) (lw : L ≠ w) (h1 : 1 ≤ xs.length) (hx : xs.length ≤ 100000) (G : Good pl W (TW.len (xs.length - 1)) xs.length n x) (hv : v = (fb pl W (TW.len (xs.length - 1)) xs.length n x).1) (hy : xs[v]? = some y) (cy : Cl s.n y) : F_Draws_choice [.obj w, .obj L] s = .ok y (stA s o w pl W (fb pl W (TW.len (xs.length - 1)) xs.length n x).2) := by
  have it := gIsiT_ok (bs := ["list", "tuple"]) (x := .obj L) (a := "list") (r := true) (s := s) (by simp [tyN, hL]) (by decide)
  have ln := gLen_seq (seqOf_obj hL)
  have d0 : decide (((xs.length : Nat) : Int) = 0) = false := decide_eq_false (by omega)
  have v0 := bel_v D h1 (Nat.le_trans hx (by decide +kernel)) G (i := 0) (fr := aCons (aCB gLen (aCons (aVar 1) aNil)) aNil) (σ := [some (.obj w), some (.obj L)]) rfl (by simp! only [ln])
  have hL2 : (stA s o w pl W (fb pl W (TW.len (xs.length - 1)) xs.length n x).2).c L = .lst xs := (st2_ne lo lw).trans hL
  rw [← hv] at v0
  have ix := gIx_seq (i := ((v : Nat) : Int)) (seqOf_obj hL2) (show L2.atI _ ((v : Nat) : Int) = _ from L2.atI_nat hy)
  refine gc_A D cy ?_
  simp! [B_Draws_choice, it, ln, d0, v0, ix]
end
end Pf
set_option Elab.async false
set_option linter.all false
set_option maxRecDepth 100000
set_option maxHeartbeats 1000000
set_option exponentiation.threshold 3000
namespace Pf
open PySem Ab
def pos : Bool → Nat → Nat
  | true, x => x
  | false, x => 32 * x
/-- sixty words and forty zeros -/
structure Zr (W : List Nat) : Prop where
  row : RowW W
  len : W.length = 100
  z : ∀ i, 60 ≤ i → wd W i = 0
theorem VW_lt {W : List Nat} (h : RowW W) : ∀ n, VW W n < 2 ^ (32 * n)
  | 0 => Nat.two_pow_pos _
  | n + 1 => by
    have ih := VW_lt h n
    have w := wd_lt h n
    show VW W n + wd W n * 2 ^ (32 * n) < _
    rw [show 32 * (n + 1) = 32 * n + 32 by omega, Nat.pow_add]
    have : wd W n * 2 ^ (32 * n) ≤ (2 ^ 32 - 1) * 2 ^ (32 * n) := Nat.mul_le_mul_right _ (by omega)
    have e : 2 ^ (32 * n) * 2 ^ 32 = (2 ^ 32 - 1) * 2 ^ (32 * n) + 2 ^ (32 * n) := by
      rw [Nat.mul_comm, ← Nat.succ_mul]
    omega
theorem VW_z {W : List Nat} (h : Zr W) : ∀ n, VW W n < 2 ^ 1920
  | 0 => Nat.two_pow_pos _
  | n + 1 => by
    by_cases e : n + 1 ≤ 60
    · exact Nat.lt_of_lt_of_le (VW_lt h.row _) (Nat.pow_le_pow_right (by decide) (by omega))
    · show VW W n + wd W n * 2 ^ (32 * n) < _
      rw [h.z n (by omega), Nat.zero_mul, Nat.add_zero]
      exact VW_z h n
theorem pvL_lt {W : List Nat} (h : RowW W) (x k : Nat) : ∀ i, pvL W x k i < 2 ^ (min (32 * i) k)
  | 0 => Nat.two_pow_pos _
  | i + 1 => by
    have ih := pvL_lt h x k i
    have w := wd_lt h (x + i)
    show pvL W x k i + (if 32 * (i + 1) ≤ k then wd W (x + i) else wd W (x + i) / 2 ^ (32 * (i + 1) - k)) * 2 ^ (32 * i) < _
    by_cases hk : 32 * i < k
    · rw [Nat.min_eq_left (by omega)] at ih
      obtain ⟨j, hj⟩ : ∃ j, j = min (32 * (i + 1)) k - 32 * i := ⟨_, rfl⟩
      have q : (if 32 * (i + 1) ≤ k then wd W (x + i) else wd W (x + i) / 2 ^ (32 * (i + 1) - k)) < 2 ^ j := by
        split
        · rw [show j = 32 by omega]
          exact w
        · rw [Nat.div_lt_iff_lt_mul (Nat.two_pow_pos _), ← Nat.pow_add, show j + (32 * (i + 1) - k) = 32 by omega]
          exact w
      rw [show min (32 * (i + 1)) k = 32 * i + j by omega, Nat.pow_add]
      generalize (if 32 * (i + 1) ≤ k then wd W (x + i) else wd W (x + i) / 2 ^ (32 * (i + 1) - k)) = Q at *
      have : Q * 2 ^ (32 * i) ≤ (2 ^ j - 1) * 2 ^ (32 * i) := Nat.mul_le_mul_right _ (by omega)
      have e : 2 ^ (32 * i) * 2 ^ j = (2 ^ j - 1) * 2 ^ (32 * i) + 2 ^ (32 * i) := by
        have := Nat.two_pow_pos j
        rw [Nat.mul_comm, ← Nat.succ_mul]
        congr 1
        omega
      omega
    · rw [Nat.min_eq_right (by omega)] at ih ⊢
      rw [if_neg (by omega)]
      have : wd W (x + i) / 2 ^ (32 * (i + 1) - k) = 0 := Nat.div_eq_of_lt (Nat.lt_of_lt_of_le w (by
        rw [show (4294967296 : Nat) = 2 ^ 32 from rfl]
        exact Nat.pow_le_pow_right (by decide) (by omega)))
      rw [this]
      omega
theorem bv_lt {W : List Nat} (h : RowW W) (pl : Bool) (x k : Nat) : bv pl W x k < 2 ^ k := by
  cases pl
  · have w := wf_le k
    have := pvL_lt h x k (wf k)
    rw [Nat.min_eq_right (by omega)] at this
    exact this
  · exact Nat.mod_lt _ (Nat.two_pow_pos _)
theorem bv_zero {W : List Nat} (h : Zr W) {pl : Bool} {x k : Nat} (hp : 1920 ≤ pos pl x) : bv pl W x k = 0 := by
  cases pl
  · have hp : 1920 ≤ 32 * x := hp
    show pvL W x k (wf k) = 0
    have : ∀ i, pvL W x k i = 0 := by
      intro i
      induction i with
      | zero => rfl
      | succ i ih =>
        show pvL W x k i + (if 32 * (i + 1) ≤ k then wd W (x + i) else wd W (x + i) / 2 ^ (32 * (i + 1) - k)) * 2 ^ (32 * i) = 0
        rw [ih, h.z (x + i) (by omega)]
        simp
    exact this _
  · have hp : 1920 ≤ x := hp
    show VW W (wf (x + k)) / 2 ^ x % 2 ^ k = 0
    rw [Nat.div_eq_of_lt (Nat.lt_of_lt_of_le (VW_z h _) (Nat.pow_le_pow_right (by decide) hp)), Nat.zero_mod]
theorem pos_nx (pl : Bool) (x : Nat) {k : Nat} (hk : k ≤ 160) : pos pl x + k ≤ pos pl (nx pl x k) ∧ pos pl (nx pl x k) ≤ pos pl x + 160 := by
  cases pl
  · have w := wf_le k
    have : wf k ≤ 5 := by unfold wf; omega
    show 32 * x + k ≤ 32 * (x + wf k) ∧ 32 * (x + wf k) ≤ 32 * x + 160
    omega
  · show x + k ≤ x + k ∧ x + k ≤ x + 160
    omega
theorem room_of {W : List Nat} (h : W.length = 100) {pl : Bool} {x k : Nat} (hp : pos pl (nx pl x k) ≤ 3200) : Room pl W x k := by
  show wx pl (nx pl x k) ≤ _
  rw [h]
  generalize nx pl x k = y at *
  cases pl
  · have hp : 32 * y ≤ 3200 := hp
    show y ≤ 100
    omega
  · have hp : y ≤ 3200 := hp
    show wf y ≤ 100
    unfold wf
    omega
theorem good_n {W : List Nat} (h : Zr W) {pl : Bool} {k b P : Nat} (hk : k ≤ 160) (hb : 1 ≤ b) (hP : 2080 ≤ P) (hP2 : P ≤ 3040) : ∀ n x, 1920 ≤ pos pl x + n → pos pl x ≤ P → Good pl W k b (n + 1) x ∧ pos pl (fb pl W k b (n + 1) x).2 ≤ P + 160
  | n, x, hn, hx => by
    have p := pos_nx pl x hk
    have r : Room pl W x k := room_of h.len (by omega)
    by_cases c : bv pl W x k < b
    · have e : fb pl W k b (n + 1) x = (bv pl W x k, nx pl x k) := if_pos c
      rw [e]
      exact ⟨⟨r, .inl c⟩, by show pos pl (nx pl x k) ≤ _; omega⟩
    · have e : fb pl W k b (n + 1) x = fb pl W k b n (nx pl x k) := if_neg c
      have hx2 : pos pl x < 1920 := Nat.lt_of_not_le fun z => c (by rw [bv_zero h z]; omega)
      have k1 : 1 ≤ k := Nat.pos_of_ne_zero fun z => c (by
        have := bv_lt h.row pl x k
        rw [z] at this ⊢
        have : bv pl W x 0 < 1 := this
        omega)
      match n, hn with
      | 0, hn => omega
      | m + 1, hn =>
        have ih := good_n h (pl := pl) (b := b) hk hb hP hP2 m (nx pl x k) (by omega) (by omega)
        rw [e]
        exact ⟨⟨r, .inr ih.1⟩, ih.2⟩
/-- enough tries -/
abbrev FU : Nat := 1920
theorem good {W : List Nat} (h : Zr W) {pl : Bool} {k b P x : Nat} (hk : k ≤ 160) (hb : 1 ≤ b) (hP : 2080 ≤ P) (hP2 : P ≤ 3040) (hx : pos pl x ≤ P) : Good pl W k b (FU + 1) x ∧ pos pl (fb pl W k b (FU + 1) x).2 ≤ P + 160 := good_n h hk hb hP hP2 FU x (by show 1920 ≤ pos pl x + 1920; omega) hx
theorem fb_lt {pl : Bool} {W : List Nat} {k b : Nat} (hb : 1 ≤ b) : ∀ n x, (fb pl W k b n x).1 < b
  | 0, x => hb
  | n + 1, x => by
    by_cases c : bv pl W x k < b
    · have e : fb pl W k b (n + 1) x = (bv pl W x k, nx pl x k) := if_pos c
      rw [e]
      exact c
    · have e : fb pl W k b (n + 1) x = fb pl W k b n (nx pl x k) := if_neg c
      rw [e]
      exact fb_lt hb n _
end Pf
set_option Elab.async false
set_option linter.all false
set_option maxRecDepth 100000
set_option maxHeartbeats 1000000
set_option exponentiation.threshold 3000
namespace Pf
open PySem Ab
local macro_rules | `(tactic| simp! only [$xs,*]) => `(tactic| simp only [e_op, e_opK, e_un, e_cb, e_nil, e_c, e_cons, e_consK, e_consK2, e_and, e_or, e_andK, e_orK, e_not, e_notK, e_test, e_testK, e_tand, e_tandK, e_tor, e_torK, e_tnot, e_tnotK, e_yes, e_if, e_ifK, e_ch, e_chK1, e_chK2, e_chK3, e_tup, e_tupK, e_lst, e_lstK, e_newL, e_call, e_callK, e_meth, e_methK, e_methK2, e_prop, e_propK, e_make, e_makeK, e_makeK2, e_makeV, e_sm, e_smK, e_smK2, e_cm, e_cmK, e_cmK2, e_sl, e_slK1, e_slK2, e_slK3, e_part, e_partK, e_nopart, e_rev, e_bm, e_bmK, e_pr, e_pr0, e_prK1, e_prK2, e_prK3, e_disp, e_dnew, e_own, e_ownK, e_lc, e_lcK, e_iter, e_rng1, e_rng1K, e_rng2, e_rng2K, e_enum, s_drop, s_dropK, s_ret, s_retK, s_retN, s_next, s_break, s_cont, s_seq, s_if, s_ifK, s_asg, s_asgK, s_name, s_par, s_parK, s_par3, s_parK3, s_gnil, s_gcons, s_gtup, s_for, s_forK, s_raise, s_raiseK, s_sf, s_sfK1, s_sfK2, s_dp, s_dpK1, s_dpK2, s_dpK3, s_forget, s_def, s_fld, e_enumU, e_enumUT, e_match, e_mcase, e_mcase2, e_many, e_mnil, e_lcX, e_lcXK, e_get2, e_methS, e_methS1, e_methS2, s_augS, s_augS1, gEqS_int, gEqS_str, gEqS_bl, gEqS_tup, e_fmt, e_js, e_jsC, e_jsN, e_join, e_joinK, eq_self, beq_self_eq_true, true_implies, false_implies, implies_true, List.map_cons, List.map_nil, List.nil_append, List.cons_append, List.append_nil, List.replicate_succ, List.replicate_zero, List.getElem?_cons_zero, List.getElem?_cons_succ, List.length_cons, List.length_nil, List.set_cons_zero, List.set_cons_succ, ↓reduceIte, ↓reduceDIte, Nat.reduceAdd, Nat.reduceLeDiff, Nat.reduceEqDiff, Nat.zero_add, if_true, if_false, aVar, gMinus_int, gLt_int, gLe_int, gGt_int, gGe_int, gEq_int, gNe_int, gEq_str, gNe_str, gEq_bl, gNe_bl, gXor_int, gAnd_int, gOr_int, gAdd_int, gIsN_non, gNotN_non, gIsB_bl, gNotB_bl, gNeg_int, gLen_tup, gLen_scr, gMax2_int, gMin2_int, gBits_int, gSl_tup, gSl_scr, Bool.not_true, Bool.not_false, Bool.true_eq_false, Bool.false_eq_true, Bool.true_and, Bool.false_and, Bool.and_true, Bool.and_false, Bool.true_or, Bool.false_or, decide_true, decide_false, and_self, and_true, true_and, and_false, false_and, not_true_eq_false, not_false_eq_true, reduceCtorEq, kz, z1, z2, z3, z4, z5, z6, z7, z8, z9, z10, z11, z12, z13, z14, z15, z16, isCls, isNon, aForget, aHand, toKey, keysA, iterOf_tup, iterOf_scr, oNx_some, noErr_ok, decide_eq_true_eq, decide_eq_false_iff_not, Sto.new_n, Sto.set_n, Sto.set_at, Sto.new_at, Nat.zero_le, aMakeV, Cl_non, Cl_bl, Cl_int, Cl_str, Cl_cls, Cl_obj, Cl_tup, ClL_nil, ClL_cons, grd_pos, grdS_pos, Res.bind_ok, Res.bind_err, Res.st_ok, Res.st_err, SRes.thn_nx, SRes.thn_rt, SRes.thn_err, SRes.fn_rt, SRes.fn_nx, SRes.fn_err, SRes.loop_nx, SRes.loop_rt, SRes.loop_err, SRes.loop_ct, SRes.loop_bk, SRes.forget_nx, SRes.forget_rt, SRes.forget_err, SRes.clr_nx, SRes.clr_rt, SRes.noX_nx, SRes.noX_rt, aTry, sizeLine_ge, $xs,*])
/-- only some cells may have changed -/
structure Ch (L : List Nat) (s s' : Sto) : Prop where
  n : s.n ≤ s'.n
  c : ∀ i, i < s.n → i ∉ L → s'.c i = s.c i
section
variable {L M : List Nat} {s s' s'' : Sto} {x : Cell} {i : Nat}
theorem Ch.refl (L : List Nat) (s : Sto) : Ch L s s := ⟨Nat.le_refl _, fun _ _ _ => rfl⟩
theorem Ch.trans (a : Ch L s s') (b : Ch L s' s'') : Ch L s s'' := ⟨Nat.le_trans a.n b.n, fun i h e => (b.c i (Nat.lt_of_lt_of_le h a.n) e).trans (a.c i h e)⟩
theorem Ch.mono (a : Ch L s s') (h : ∀ x ∈ L, x ∈ M) : Ch M s s' := ⟨a.n, fun i hi e => a.c i hi fun z => e (h i z)⟩
theorem Ch.new (a : Ch L s s') : Ch L s (s'.new x) := ⟨Nat.le_succ_of_le a.n, fun i h e => (at_new (Nat.lt_of_lt_of_le h a.n)).trans (a.c i h e)⟩
theorem Ch.setn (a : Ch L s s') (h : s.n ≤ i) : Ch L s (s'.set i x) := ⟨a.n, fun j hj e => (Sto.set_ne (by omega)).trans (a.c j hj e)⟩
theorem Ch.setL (a : Ch L s s') (h : i ∈ L) : Ch L s (s'.set i x) := ⟨a.n, fun j hj e => (Sto.set_ne (fun z => e (by rw [z]; exact h))).trans (a.c j hj e)⟩
theorem Ch.cutc (h : i < s.n) : (s'.cut s).c i = s'.c i := if_pos h
theorem Ch.cut (a : Ch L s s') : Ch L s (s'.cut s) := ⟨Nat.le_refl _, fun i h e => (Ch.cutc h).trans (a.c i h e)⟩
theorem Ch.clean (a : Ch L s s') (h : ∀ i ∈ L, i < s.n → ClC s.n (s'.c i)) : Clean s s' := ⟨a.n, fun i hi => by
  by_cases e : i ∈ L
  · exact .inr (h i e hi)
  · exact .inl (a.c i hi e)⟩
theorem Ch.gd2 {d g : Nat} (a : Gd2 d g s s') (h1 : d ∈ L) (h2 : g ∈ L) : Ch L s s' := ⟨a.n, fun i hi e => a.c i hi (fun z => e (z ▸ h1)) fun z => e (z ▸ h2)⟩
end
theorem Ch.wk {L M : List Nat} {s s' s'' : Sto} (a : Ch L s s') (b : Ch M s' s'') (h : ∀ x ∈ M, x ∈ L ∨ s.n ≤ x) : Ch L s s'' := ⟨Nat.le_trans a.n b.n, fun i hi e => (b.c i (Nat.lt_of_lt_of_le hi a.n) fun z => (h i z).elim e (by omega)).trans (a.c i hi e)⟩
theorem Ch.to2 {d g : Nat} {s s' : Sto} (a : Ch [d, g] s s') : Gd2 d g s s' := ⟨a.n, fun i h e f => a.c i h (by simp [e, f])⟩
theorem opt_d {n m : Nat} {s : Sto} : ∀ l : List AV, (∀ x ∈ l, ∃ d, dat n s x = some d ∧ PyData.canLay0 d = true ∧ d.depth ≤ m) → ∃ ds, optL (dat n s) l = some ds ∧ PyData.canLayAll0 ds = true ∧ PyData.depthAll ds ≤ m
  | [], _ => ⟨[], rfl, by simp [PyData.canLayAll0], by simp [PyData.depthAll]⟩
  | x :: l, h => by
    obtain ⟨d, h1, h2, h3⟩ := h x List.mem_cons_self
    obtain ⟨ds, k1, k2, k3⟩ := opt_d l fun y hy => h y (List.mem_cons_of_mem _ hy)
    refine ⟨d :: ds, ?_, by simp [PyData.canLayAll0, h2, k2], by simp only [PyData.depthAll]; omega⟩
    show (match dat n s x, optL (dat n s) l with | some d, some ds => some (d :: ds) | _, _ => none) = _
    rw [h1, k1]
theorem tup_d {n m : Nat} {s : Sto} {l : List AV} (h : ∀ x ∈ l, ∃ d, dat n s x = some d ∧ PyData.canLay0 d = true ∧ d.depth ≤ m) : ∃ d, dat (n + 1) s (.tup l) = some d ∧ PyData.canLay0 d = true ∧ d.depth ≤ m + 1 := by
  obtain ⟨ds, k1, k2, k3⟩ := opt_d l h
  refine ⟨.tuple ds, ?_, by simp [PyData.canLay0, k2], by simp only [PyData.depth]; omega⟩
  show (optL (dat n s) l).map PyData.tuple = _
  rw [k1]
  rfl
theorem int_d {n m : Nat} {s : Sto} (i : Int) : ∃ d, dat (n + 1) s (.int i) = some d ∧ PyData.canLay0 d = true ∧ d.depth ≤ m := ⟨.int i, rfl, by simp [PyData.canLay0], by simp [PyData.depth]⟩
theorem eqB_tup {s : Sto} {xs : List AV} (h : ∃ d, dat 12 s (.tup xs) = some d ∧ PyData.canLay0 d = true ∧ d.depth ≤ 3) : eqB (.tup xs) (.tup xs) s = some true := by
  obtain ⟨d, h1, h2, h3⟩ := h
  have sh : SeqAt.shaped d = true := by
    simp [SeqAt.shaped, h2]
    omega
  rw [eqB_dat rfl h1 h1 sh sh, PySem.SeqAt.eqv_refl _ (SeqAt.canLay_of_shaped sh)]
theorem At.of {s s' : Sto} {o w x : Nat} {pl : Bool} {W : List Nat} (D : At s o w pl W x) (h1 : s'.c w = s.c w) (h2 : s'.c o = s.c o) (hn : s.n ≤ s'.n) : At s' o w pl W x := ⟨h2.trans D.ho, h1.trans D.hw, D.ne, Nat.lt_of_lt_of_le D.lo hn, Nat.lt_of_lt_of_le D.lw hn, D.row⟩
theorem At.ch {s s' : Sto} {o w x : Nat} {pl : Bool} {W L : List Nat} (D : At s o w pl W x) (a : Ch L s s') (h1 : w ∉ L) (h2 : o ∉ L) : At s' o w pl W x := D.of (a.c w D.lw h1) (a.c o D.lo h2) a.n
theorem At.cut {s s' : Sto} {o w x : Nat} {pl : Bool} {W : List Nat} (D : At s' o w pl W x) (l1 : w < s.n) (l2 : o < s.n) : At (s'.cut s) o w pl W x := ⟨(Ch.cutc l2).trans D.ho, (Ch.cutc l1).trans D.hw, D.ne, l2, l1, D.row⟩
theorem At.clw {s : Sto} {o w x : Nat} {pl : Bool} {W : List Nat} (D : At s o w pl W x) {n : Nat} (h : o < n) : ClC n (s.c w) := by rw [D.hw]; exact dC_cl h
theorem At.clo {s : Sto} {o w x : Nat} {pl : Bool} {W : List Nat} (D : At s o w pl W x) (n : Nat) : ClC n (s.c o) := by rw [D.ho]; exact sc_cl _ _ _
theorem ch_A {s : Sto} {o w y : Nat} {pl : Bool} {W : List Nat} : Ch [w, o] s (stA s o w pl W y) := ((Ch.refl _ s).setL (by simp)).setL (by simp)
theorem set_new2 {s : Sto} {X Y : Cell} : (s.new X).set s.n Y = s.new Y := by
  unfold Sto.new Sto.set
  simp only [Sto.mk.injEq, true_and]
  funext j
  by_cases e : j = s.n <;> simp [e]
theorem gc_new1 {s : Sto} {F : List AV → Sto → Res AV} {args : List AV} {X Y : Cell} (hY : ClC (s.n + 1) Y) (k : F args (s.new X) = .ok .non (s.new Y)) : gcF F args (s.new X) = .ok .non (s.new Y) := by
  have e : s.new Y = (s.new X).set s.n Y := set_new2.symm
  rw [e] at k ⊢
  have := gcF_eq k (by simp) ((Clean.refl _).set (.inr hY))
  rw [this, cut_set_old (Nat.lt_succ_self _), cut_self]
theorem sup_ok {s : Sto} {c : String} {F : List AV → Sto → Res AV} {a : Nat} {y : AV} {fs : List (Str × AV)} (h : s.c a = .ins c fs) : aSuper c F [some (.obj a), some y] s = F [.obj a, y] s := by
  show (if isI s (.obj a) c = true then F [.obj a, y] s else .stuck) = _
  rw [if_pos (isI_obj h)]
section
variable {s : Sto} {o p : Nat} {W : List Nat}
theorem dr_base {c : String} (hc : c ∈ ["Draws", "PooledDraws"]) (h : s.c o = scC W p) (lo : o < s.n) : F_Draws___init__ [.obj s.n, .obj o] (s.new (.ins c [])) = .ok .non (s.new (.ins c [("s5_source", .obj o), ("s5_used", .int 0)])) := by
  have h1 : (s.new (.ins c [])).c o = scC W p := at_old lo h
  have hn := need_src h1
  have e1 : setF ["Draws", "PooledDraws"] "s5_source" (.obj s.n) (.obj o) (s.new (.ins c [])) = some (s.new (.ins c [("s5_source", .obj o)])) := by
    rw [setF_obj Sto.new_at hc (by simp), set_new2]
    rfl
  have e2 : setF ["Draws", "PooledDraws"] "s5_used" (.obj s.n) (.int 0) (s.new (.ins c [("s5_source", .obj o)])) = some (s.new (.ins c [("s5_source", .obj o), ("s5_used", .int 0)])) := by
    rw [setF_obj Sto.new_at hc (by simp), set_new2]
    rfl
  have k : aDef 0 B_Draws___init__ [.obj s.n, .obj o] (s.new (.ins c [])) = .ok .non (s.new (.ins c [("s5_source", .obj o), ("s5_used", .int 0)])) := by
    simp! only [B_Draws___init__, hn, e1, e2]
  exact gc_new1 (by simp [ClC]; exact Nat.lt_succ_of_lt lo) k
theorem pd_init (h : s.c o = scC W p) (lo : o < s.n) : F_PooledDraws___init__ [.obj s.n, .obj o] (s.new (.ins "PooledDraws" [])) = .ok .non (s.new (pdC o 0 0 0)) := by
  have b := dr_base (c := "PooledDraws") (by simp) h lo
  have e3 : setF ["PooledDraws"] "s5_size" (.obj s.n) (.int 0) (s.new (.ins "PooledDraws" [("s5_source", .obj o), ("s5_used", .int 0)])) = some (s.new (.ins "PooledDraws" [("s5_source", .obj o), ("s5_used", .int 0), ("s5_size", .int 0)])) := by
    rw [setF_obj Sto.new_at (by simp) (by simp), set_new2]
    rfl
  have e4 : setF ["PooledDraws"] "s5_value" (.obj s.n) (.int 0) (s.new (.ins "PooledDraws" [("s5_source", .obj o), ("s5_used", .int 0), ("s5_size", .int 0)])) = some (s.new (pdC o 0 0 0)) := by
    rw [setF_obj Sto.new_at (by simp) (by simp), set_new2]
    rfl
  have su := sup_ok (s := s.new (.ins "PooledDraws" [])) (c := "PooledDraws") (F := F_Draws___init__) (a := s.n) (y := .obj o) (fs := []) Sto.new_at
  rw [b] at su
  have k : aDef 0 B_PooledDraws___init__ [.obj s.n, .obj o] (s.new (.ins "PooledDraws" [])) = .ok .non (s.new (pdC o 0 0 0)) := by
    simp! only [B_PooledDraws___init__, su, e3, e4, agFld]
  exact gc_new1 (pd_cl (Nat.lt_succ_of_lt lo)) k
end
noncomputable def fI : Bool → List AV → Sto → Res AV
  | true => F_PooledDraws___init__
  | false => F_Draws___init__
/-- new draws over a new script -/
theorem mk_ok {W : List Nat} (hr : RowW W) (pl : Bool) (s : Sto) : ∃ s', F_Scripted___init__ [.obj s.n, .tup (iN W), .int 0] (s.new (.ins "Scripted" [])) = .ok .non (s.new (scC W 0)) ∧ fI pl [.obj (s.n + 1), .obj s.n] ((s.new (scC W 0)).new (.ins (dcls pl) [])) = .ok .non s' ∧ At s' s.n (s.n + 1) pl W 0 ∧ s'.n = s.n + 2 ∧ Ch [] s s' := by
  have h : (s.new (scC W 0)).c s.n = scC W 0 := Sto.new_at
  have key : ∀ X : Cell, X = dC pl s.n W 0 → At ((s.new (scC W 0)).new X) s.n (s.n + 1) pl W 0 := fun X hX => ⟨by
    have e : wx pl 0 = 0 := by cases pl <;> rfl
    rw [e]
    exact at_old (Nat.lt_succ_self _) h, by rw [hX]; exact Sto.new_at, by omega, Nat.lt_succ_of_lt (Nat.lt_succ_self _), Nat.lt_succ_self _, hr⟩
  cases pl with
  | false => exact ⟨_, sc_init hr s, dr_base (c := "Draws") (by simp) h (Nat.lt_succ_self _), key _ rfl, rfl, ((Ch.refl _ _).new).new⟩
  | true => exact ⟨_, sc_init hr s, pd_init h (Nat.lt_succ_self _), key _ (by
      show pdC s.n 0 0 0 = pdC s.n (wf 0) (32 * wf 0 - 0) (VW W (wf 0) / 2 ^ 0)
      rw [show wf 0 = 0 from rfl, show VW W 0 = 0 from rfl, Nat.zero_div]), rfl, ((Ch.refl _ _).new).new⟩
end Pf
set_option Elab.async false
set_option linter.all false
set_option maxRecDepth 100000
set_option maxHeartbeats 1000000
set_option exponentiation.threshold 3000
namespace Pf
open PySem Ab
local macro_rules | `(tactic| simp! only [$xs,*]) => `(tactic| simp only [e_op, e_opK, e_un, e_cb, e_nil, e_c, e_cons, e_consK, e_consK2, e_and, e_or, e_andK, e_orK, e_not, e_notK, e_test, e_testK, e_tand, e_tandK, e_tor, e_torK, e_tnot, e_tnotK, e_yes, e_if, e_ifK, e_ch, e_chK1, e_chK2, e_chK3, e_tup, e_tupK, e_lst, e_lstK, e_newL, e_call, e_callK, e_meth, e_methK, e_methK2, e_prop, e_propK, e_make, e_makeK, e_makeK2, e_makeV, e_sm, e_smK, e_smK2, e_cm, e_cmK, e_cmK2, e_sl, e_slK1, e_slK2, e_slK3, e_part, e_partK, e_nopart, e_rev, e_bm, e_bmK, e_pr, e_pr0, e_prK1, e_prK2, e_prK3, e_disp, e_dnew, e_own, e_ownK, e_lc, e_lcK, e_iter, e_rng1, e_rng1K, e_rng2, e_rng2K, e_enum, s_drop, s_dropK, s_ret, s_retK, s_retN, s_next, s_break, s_cont, s_seq, s_if, s_ifK, s_asg, s_asgK, s_name, s_par, s_parK, s_par3, s_parK3, s_gnil, s_gcons, s_gtup, s_for, s_forK, s_raise, s_raiseK, s_sf, s_sfK1, s_sfK2, s_dp, s_dpK1, s_dpK2, s_dpK3, s_forget, s_def, s_fld, e_enumU, e_enumUT, e_match, e_mcase, e_mcase2, e_many, e_mnil, e_lcX, e_lcXK, e_get2, e_methS, e_methS1, e_methS2, s_augS, s_augS1, gEqS_int, gEqS_str, gEqS_bl, gEqS_tup, e_fmt, e_js, e_jsC, e_jsN, e_join, e_joinK, eq_self, beq_self_eq_true, true_implies, false_implies, implies_true, List.map_cons, List.map_nil, List.nil_append, List.cons_append, List.append_nil, List.replicate_succ, List.replicate_zero, List.getElem?_cons_zero, List.getElem?_cons_succ, List.length_cons, List.length_nil, List.set_cons_zero, List.set_cons_succ, ↓reduceIte, ↓reduceDIte, Nat.reduceAdd, Nat.reduceLeDiff, Nat.reduceEqDiff, Nat.zero_add, if_true, if_false, aVar, gMinus_int, gLt_int, gLe_int, gGt_int, gGe_int, gEq_int, gNe_int, gEq_str, gNe_str, gEq_bl, gNe_bl, gXor_int, gAnd_int, gOr_int, gAdd_int, gIsN_non, gNotN_non, gIsB_bl, gNotB_bl, gNeg_int, gLen_tup, gLen_scr, gMax2_int, gMin2_int, gBits_int, gSl_tup, gSl_scr, Bool.not_true, Bool.not_false, Bool.true_eq_false, Bool.false_eq_true, Bool.true_and, Bool.false_and, Bool.and_true, Bool.and_false, Bool.true_or, Bool.false_or, decide_true, decide_false, and_self, and_true, true_and, and_false, false_and, not_true_eq_false, not_false_eq_true, reduceCtorEq, kz, z1, z2, z3, z4, z5, z6, z7, z8, z9, z10, z11, z12, z13, z14, z15, z16, isCls, isNon, aForget, aHand, toKey, keysA, iterOf_tup, iterOf_scr, oNx_some, noErr_ok, decide_eq_true_eq, decide_eq_false_iff_not, Sto.new_n, Sto.set_n, Sto.set_at, Sto.new_at, Nat.zero_le, aMakeV, Cl_non, Cl_bl, Cl_int, Cl_str, Cl_cls, Cl_obj, Cl_tup, ClL_nil, ClL_cons, grd_pos, grdS_pos, Res.bind_ok, Res.bind_err, Res.st_ok, Res.st_err, SRes.thn_nx, SRes.thn_rt, SRes.thn_err, SRes.fn_rt, SRes.fn_nx, SRes.fn_err, SRes.loop_nx, SRes.loop_rt, SRes.loop_err, SRes.loop_ct, SRes.loop_bk, SRes.forget_nx, SRes.forget_rt, SRes.forget_err, SRes.clr_nx, SRes.clr_rt, SRes.noX_nx, SRes.noX_rt, aTry, sizeLine_ge, $xs,*])
def svA : Bool → List Nat → Nat → AV
  | true, W, x => .tup [.tup [.tup (iN W), .int (wf x : Nat)], .int (wf x : Nat), .int ((32 * wf x - x : Nat) : Int), .int ((VW W (wf x) / 2 ^ x : Nat) : Int)]
  | false, W, x => .tup [.tup [.tup (iN W), .int (x : Nat)], .int (x : Nat)]
theorem svA_cl (pl : Bool) (W : List Nat) (x n : Nat) : Cl n (svA pl W x) := by
  cases pl <;> simp [svA, iNcl2]
section
variable {s : Sto} {o w x p : Nat} {pl : Bool} {W : List Nat}
theorem scst_ok (h : s.c o = scC W p) : F_Scripted_state [.obj o] s = .ok (.tup [.tup (iN W), .int (p : Nat)]) s := by
  refine gc0 ?_ (by simp [iNcl2])
  have a1 : gFld ["Scripted"] "s1_script" (.obj o) s = .ok (.tup (iN W)) s := gFld_obj h (by simp) lookA_hd
  have a2 : gFld ["Scripted"] "s1_place" (.obj o) s = .ok (.int (p : Nat)) s := gFld_obj h (by simp) ((lookA_tl (by decide)).trans lookA_hd)
  simp! only [B_Scripted_state, a1, a2]
noncomputable def fSv : Bool → List AV → Sto → Res AV
  | true => F_PooledDraws_saved
  | false => F_Draws_saved
theorem saved_ok (D : At s o w pl W x) : fSv pl [.obj w] s = .ok (svA pl W x) s := by
  cases pl with
  | false =>
    refine gc0 ?_ (svA_cl false W x _)
    have st := scst_ok (o := o) (W := W) (p := x) D.ho
    have ii : isI s (.obj o) "Scripted" = true := isI_obj D.ho
    have hw : s.c w = dwC o x := D.hw
    have a1 : gFld ["Draws", "PooledDraws"] "s5_source" (.obj w) s = .ok (.obj o) s := gFld_obj hw (by simp) lookA_hd
    have a2 : gFld ["Draws", "PooledDraws"] "s5_used" (.obj w) s = .ok (.int (x : Nat)) s := gFld_obj hw (by simp) ((lookA_tl (by decide)).trans lookA_hd)
    simp! only [B_Draws_saved, a1, a2, ii, st, svA]
  | true =>
    refine gc0 ?_ (svA_cl true W x _)
    have st := scst_ok (o := o) (W := W) (p := wf x) D.ho
    have ii : isI s (.obj o) "Scripted" = true := isI_obj D.ho
    have hw : s.c w = pdC o (wf x) (32 * wf x - x) (VW W (wf x) / 2 ^ x) := D.hw
    have a1 := pf1 (cs := ["PooledDraws"]) hw (by simp)
    have a2 := pf2 (cs := ["PooledDraws"]) hw (by simp)
    have a3 := pf3 (cs := ["PooledDraws"]) hw (by simp)
    have a4 := pf4 (cs := ["PooledDraws"]) hw (by simp)
    simp! only [B_PooledDraws_saved, a1, a2, a3, a4, ii, st, svA]
theorem saved_v (D : At s o w pl W x) {i : Nat} {σ : ASt} (e : aVar i σ s = .ok (.obj w) s) : aVirt "saved" 1 [("Draws", F_Draws_saved), ("PooledDraws", F_PooledDraws_saved)] (aVar i) aNil σ s = .ok (svA pl W x) s := by
  obtain ⟨fs, hc, hm⟩ := D.cell
  exact (v_dr hc (hm _ (by decide) (by decide) (by decide) (by decide)) (by cases pl <;> rfl) e rfl rfl).trans (saved_ok D)
theorem ne_sv : gNe (svA pl W x) (svA pl W x) s = .ok (.bl false) s := by
  have row : ∃ d, dat 10 s (.tup (iN W)) = some d ∧ PyData.canLay0 d = true ∧ d.depth ≤ 1 := tup_d (n := 9) (m := 0) fun y hy => by
    obtain ⟨n, _, rfl⟩ := List.mem_map.mp hy
    exact int_d (n := 8) _
  have st : ∀ p : Nat, ∃ d, dat 11 s (.tup [.tup (iN W), .int (p : Nat)]) = some d ∧ PyData.canLay0 d = true ∧ d.depth ≤ 2 := fun p => tup_d (n := 10) (m := 1) fun y hy => by
    simp only [List.mem_cons, List.not_mem_nil, or_false] at hy
    rcases hy with rfl | rfl
    · exact row
    · exact int_d (n := 9) _
  cases pl with
  | false => exact gNe_b (eqB_tup (tup_d (n := 11) (m := 2) fun y hy => by
      simp only [List.mem_cons, List.not_mem_nil, or_false] at hy
      rcases hy with rfl | rfl
      · exact st x
      · exact int_d (n := 10) _))
  | true => exact gNe_b (eqB_tup (tup_d (n := 11) (m := 2) fun y hy => by
      simp only [List.mem_cons, List.not_mem_nil, or_false] at hy
      rcases hy with rfl | rfl | rfl | rfl
      · exact st (wf x)
      · exact int_d (n := 10) _
      · exact int_d (n := 10) _
      · exact int_d (n := 10) _))
end
theorem frac_right {v k : Nat} (s : Sto) (hv : v < 2 ^ k) (hk : k ≤ 160) : F__law_fraction_right [.tup (iN [v / Nat.gcd v (2 ^ k), 2 ^ k / Nat.gcd v (2 ^ k)]), .int (v : Nat), .int (k : Nat)] s = .ok (.bl true) s := by
  have p := Nat.two_pow_pos k
  have g0 : 0 < Nat.gcd v (2 ^ k) := Nat.gcd_pos_of_pos_right _ p
  have cop : Nat.Coprime (v / Nat.gcd v (2 ^ k)) (2 ^ k / Nat.gcd v (2 ^ k)) := Nat.coprime_div_gcd_div_gcd g0
  have ea : v / Nat.gcd v (2 ^ k) * Nat.gcd v (2 ^ k) = v := Nat.div_mul_cancel (Nat.gcd_dvd_left _ _)
  have eb : 2 ^ k / Nat.gcd v (2 ^ k) * Nat.gcd v (2 ^ k) = 2 ^ k := Nat.div_mul_cancel (Nat.gcd_dvd_right _ _)
  generalize Nat.gcd v (2 ^ k) = g at *
  generalize v / g = a at *
  generalize 2 ^ k / g = b at *
  have b0 : 0 < b := Nat.pos_of_ne_zero fun z => by rw [z, Nat.zero_mul] at eb; omega
  have a1 : a ≤ v := by rw [← ea]; exact Nat.le_mul_of_pos_right _ g0
  have b1 : b ≤ 2 ^ k := by rw [← eb]; exact Nat.le_mul_of_pos_right _ g0
  have big : 2 ^ k ≤ 2 ^ 160 := Nat.pow_le_pow_right (by decide) hk
  have big2 : (2 : Nat) ^ 160 < 2 ^ 161 := Nat.pow_lt_pow_right (by decide) (by decide)
  have low : b = 1 ∨ a % 2 = 1 := by
    by_cases h : a % 2 = 1
    · exact .inr h
    · have hb : b % 2 = 1 := by
        by_cases h2 : b % 2 = 1
        · exact h2
        · have : 2 ∣ Nat.gcd a b := Nat.dvd_gcd (Nat.dvd_of_mod_eq_zero (by omega)) (Nat.dvd_of_mod_eq_zero (by omega))
          rw [cop] at this
          have := Nat.le_of_dvd (by decide) this
          omega
      have c2 : Nat.Coprime b 2 := by
        show Nat.gcd b 2 = 1
        rw [Nat.gcd_comm, Nat.gcd_rec, hb]
        rfl
      exact .inl (Nat.Coprime.eq_one_of_dvd (Nat.Coprime.pow_right k c2) ⟨g, eb.symm⟩)
  have e1 : a * 2 ^ k = v * b := by rw [← ea, ← eb, Nat.mul_right_comm, Nat.mul_assoc]
  have e2 : 2 ^ k % b = 0 := by rw [← eb]; exact Nat.mul_mod_right _ _
  have sh : ∀ s, gShl (.int (a : Nat)) (.int (k : Nat)) s = .ok (.int ((a * 2 ^ k : Nat) : Int)) s := fun s => shl_ok (k := 161) (by omega) (by omega)
  have sh1 : ∀ s, gShl (.int 1) (.int (k : Nat)) s = .ok (.int ((2 ^ k : Nat) : Int)) s := fun s => shl_one (k := k) s (by omega)
  have mu : ∀ s, gMul (.int (v : Nat)) (.int (b : Nat)) s = .ok (.int ((v * b : Nat) : Int)) s := fun s => (gMul_ok (m := 161) (n := 161) (by omega) (by omega) (by decide)).trans (by rw [Int.natCast_mul])
  have md : ∀ s, gMod (.int ((2 ^ k : Nat) : Int)) (.int (b : Nat)) s = .ok (.int 0) s := fun s => (gMod_int (by omega)).trans (by
    rw [show (((2 ^ k : Nat) : Int) % ((b : Nat) : Int)) = ((2 ^ k % b : Nat) : Int) from rfl, e2]
    rfl)
  have m2 : ∀ s, gMod (.int (a : Nat)) (.int 2) s = .ok (.int ((a % 2 : Nat) : Int)) s := fun s => gMod_int (by decide)
  have d1 : decide (((a * 2 ^ k : Nat) : Int) = ((v * b : Nat) : Int)) = true := decide_eq_true (by rw [e1])
  have d2 : decide ((0 : Int) < ((b : Nat) : Int)) = true := decide_eq_true (by omega)
  refine gc0 ?_ (by simp)
  show aDef 3 B__law_fraction_right [.tup [.int (a : Nat), .int (b : Nat)], .int (v : Nat), .int (k : Nat)] s = _
  generalize 2 ^ k = M at *
  by_cases h : b = 1
  · have d0 : decide (((b : Nat) : Int) = 1) = true := decide_eq_true (by omega)
    simp! only [B__law_fraction_right, d0, sh, sh1, mu, md, d1, gGt_int, d2]
  · have d0 : decide (((b : Nat) : Int) = 1) = false := decide_eq_false (by omega)
    have d3 : decide (((a % 2 : Nat) : Int) = 1) = true := decide_eq_true (by have := low.resolve_left h; omega)
    simp! only [B__law_fraction_right, d0, m2, d3, sh, sh1, mu, md, d1, gGt_int, d2]
end Pf
set_option Elab.async false
set_option linter.all false
set_option maxRecDepth 100000
set_option maxHeartbeats 1000000
set_option exponentiation.threshold 3000
namespace Pf
open PySem Ab
local macro_rules | `(tactic| simp! [$xs,*]) => `(tactic| try simp (config := {maxSteps := 1000000}) only [k_bind, k_Kb, k_st, k_Kst, k_Rst, k_thn, k_loop, k_fn, k_forget, k_clr, k_noX, k_try, k_stuck, k_Astuck, d_thn_nx, d_thn_bk, d_thn_ct, d_thn_rt, d_thn_er, d_lp_nx, d_lp_bk, d_lp_ct, d_lp_rt, d_lp_er, d_fg_nx, d_fg_bk, d_fg_ct, d_fg_rt, d_fg_er, d_cl_nx, d_cl_bk, d_cl_ct, d_cl_rt, d_cl_er, d_tr_nx, d_tr_bk, d_tr_ct, d_tr_rt, d_tr_er, d_nX_nx, d_nX_bk, d_nX_ct, d_nX_rt, d_nX_er, d_fn_nx, d_fn_bk, d_fn_ct, d_fn_rt, d_fn_er, A_nx, A_bk, A_ct, A_rt, A_err, post_ok, post_err, post_noErr, e_op, e_opK, e_un, e_cb, e_nil, e_c, e_cons, e_consK, e_consK2, e_and, e_or, e_andK, e_orK, e_not, e_notK, e_test, e_testK, e_tand, e_tandK, e_tor, e_torK, e_tnot, e_tnotK, e_yes, e_if, e_ifK, e_ch, e_chK1, e_chK2, e_chK3, e_tup, e_tupK, e_lst, e_lstK, e_newL, e_call, e_callK, e_meth, e_methK, e_methK2, e_prop, e_propK, e_make, e_makeK, e_makeK2, e_makeV, e_sm, e_smK, e_smK2, e_cm, e_cmK, e_cmK2, e_sl, e_slK1, e_slK2, e_slK3, e_part, e_partK, e_nopart, e_rev, e_bm, e_bmK, e_pr, e_pr0, e_prK1, e_prK2, e_prK3, e_disp, e_dnew, e_own, e_ownK, e_lc, e_lcK, e_iter, e_rng1, e_rng1K, e_rng2, e_rng2K, e_enum, s_drop, s_dropK, s_ret, s_retK, s_retN, s_next, s_break, s_cont, s_seq, s_if, s_ifK, s_asg, s_asgK, s_name, s_par, s_parK, s_par3, s_parK3, s_gnil, s_gcons, s_gtup, s_for, s_forK, s_raise, s_raiseK, s_sf, s_sfK1, s_sfK2, s_dp, s_dpK1, s_dpK2, s_dpK3, s_forget, s_def, s_fld, e_enumU, e_enumUT, e_match, e_mcase, e_mcase2, e_many, e_mnil, e_lcX, e_lcXK, e_get2, e_methS, e_methS1, e_methS2, s_augS, s_augS1, gEqS_int, gEqS_str, gEqS_bl, gEqS_tup, e_fmt, e_js, e_jsC, e_jsN, e_join, e_joinK, eq_self, beq_self_eq_true, k_grd, k_grdS, k_ite, k_Aite, true_implies, false_implies, implies_true, List.map_cons, List.map_nil, List.nil_append, List.cons_append, List.append_nil, List.replicate_succ, List.replicate_zero, List.getElem?_cons_zero, List.getElem?_cons_succ, List.length_cons, List.length_nil, List.set_cons_zero, List.set_cons_succ, ↓reduceIte, ↓reduceDIte, Nat.reduceAdd, Nat.reduceLeDiff, Nat.reduceEqDiff, Nat.zero_add, if_true, if_false, aVar, gMinus_int, gLt_int, gLe_int, gGt_int, gGe_int, gEq_int, gNe_int, gEq_str, gNe_str, gEq_bl, gNe_bl, gXor_int, gAnd_int, gOr_int, gAdd_int, gIsN_non, gNotN_non, gIsB_bl, gNotB_bl, gNeg_int, gLen_tup, gLen_scr, gMax2_int, gMin2_int, gBits_int, gSl_tup, gSl_scr, Bool.not_true, Bool.not_false, Bool.true_eq_false, Bool.false_eq_true, Bool.true_and, Bool.false_and, Bool.and_true, Bool.and_false, Bool.true_or, Bool.false_or, decide_true, decide_false, and_self, and_true, true_and, and_false, false_and, not_true_eq_false, not_false_eq_true, reduceCtorEq, kz, z1, z2, z3, z4, z5, z6, z7, z8, z9, z10, z11, z12, z13, z14, z15, z16, isCls, isNon, aForget, aHand, toKey, keysA, iterOf_tup, iterOf_scr, oNx_some, noErr_ok, decide_eq_true_eq, decide_eq_false_iff_not, Sto.new_n, Sto.set_n, Sto.set_at, Sto.new_at, Nat.zero_le, aMakeV, Cl_non, Cl_bl, Cl_int, Cl_str, Cl_cls, Cl_obj, Cl_tup, ClL_nil, ClL_cons, $xs,*])
local macro_rules | `(tactic| simp! only [$xs,*]) => `(tactic| simp only [e_op, e_opK, e_un, e_cb, e_nil, e_c, e_cons, e_consK, e_consK2, e_and, e_or, e_andK, e_orK, e_not, e_notK, e_test, e_testK, e_tand, e_tandK, e_tor, e_torK, e_tnot, e_tnotK, e_yes, e_if, e_ifK, e_ch, e_chK1, e_chK2, e_chK3, e_tup, e_tupK, e_lst, e_lstK, e_newL, e_call, e_callK, e_meth, e_methK, e_methK2, e_prop, e_propK, e_make, e_makeK, e_makeK2, e_makeV, e_sm, e_smK, e_smK2, e_cm, e_cmK, e_cmK2, e_sl, e_slK1, e_slK2, e_slK3, e_part, e_partK, e_nopart, e_rev, e_bm, e_bmK, e_pr, e_pr0, e_prK1, e_prK2, e_prK3, e_disp, e_dnew, e_own, e_ownK, e_lc, e_lcK, e_iter, e_rng1, e_rng1K, e_rng2, e_rng2K, e_enum, s_drop, s_dropK, s_ret, s_retK, s_retN, s_next, s_break, s_cont, s_seq, s_if, s_ifK, s_asg, s_asgK, s_name, s_par, s_parK, s_par3, s_parK3, s_gnil, s_gcons, s_gtup, s_for, s_forK, s_raise, s_raiseK, s_sf, s_sfK1, s_sfK2, s_dp, s_dpK1, s_dpK2, s_dpK3, s_forget, s_def, s_fld, e_enumU, e_enumUT, e_match, e_mcase, e_mcase2, e_many, e_mnil, e_lcX, e_lcXK, e_get2, e_methS, e_methS1, e_methS2, s_augS, s_augS1, gEqS_int, gEqS_str, gEqS_bl, gEqS_tup, e_fmt, e_js, e_jsC, e_jsN, e_join, e_joinK, eq_self, beq_self_eq_true, true_implies, false_implies, implies_true, List.map_cons, List.map_nil, List.nil_append, List.cons_append, List.append_nil, List.replicate_succ, List.replicate_zero, List.getElem?_cons_zero, List.getElem?_cons_succ, List.length_cons, List.length_nil, List.set_cons_zero, List.set_cons_succ, ↓reduceIte, ↓reduceDIte, Nat.reduceAdd, Nat.reduceLeDiff, Nat.reduceEqDiff, Nat.zero_add, if_true, if_false, aVar, gMinus_int, gLt_int, gLe_int, gGt_int, gGe_int, gEq_int, gNe_int, gEq_str, gNe_str, gEq_bl, gNe_bl, gXor_int, gAnd_int, gOr_int, gAdd_int, gIsN_non, gNotN_non, gIsB_bl, gNotB_bl, gNeg_int, gLen_tup, gLen_scr, gMax2_int, gMin2_int, gBits_int, gSl_tup, gSl_scr, Bool.not_true, Bool.not_false, Bool.true_eq_false, Bool.false_eq_true, Bool.true_and, Bool.false_and, Bool.and_true, Bool.and_false, Bool.true_or, Bool.false_or, decide_true, decide_false, and_self, and_true, true_and, and_false, false_and, not_true_eq_false, not_false_eq_true, reduceCtorEq, kz, z1, z2, z3, z4, z5, z6, z7, z8, z9, z10, z11, z12, z13, z14, z15, z16, isCls, isNon, aForget, aHand, toKey, keysA, iterOf_tup, iterOf_scr, oNx_some, noErr_ok, decide_eq_true_eq, decide_eq_false_iff_not, Sto.new_n, Sto.set_n, Sto.set_at, Sto.new_at, Nat.zero_le, aMakeV, Cl_non, Cl_bl, Cl_int, Cl_str, Cl_cls, Cl_obj, Cl_tup, ClL_nil, ClL_cons, grd_pos, grdS_pos, Res.bind_ok, Res.bind_err, Res.st_ok, Res.st_err, SRes.thn_nx, SRes.thn_rt, SRes.thn_err, SRes.fn_rt, SRes.fn_nx, SRes.fn_err, SRes.loop_nx, SRes.loop_rt, SRes.loop_err, SRes.loop_ct, SRes.loop_bk, SRes.forget_nx, SRes.forget_rt, SRes.forget_err, SRes.clr_nx, SRes.clr_rt, SRes.noX_nx, SRes.noX_rt, aTry, sizeLine_ge, $xs,*])
section
variable {P : AV → Sto → Prop} {R : String → List Str → List AV → Sto → Prop} {d g B : Nat} {s t : Sto}
theorem wi2_pick {L : Nat} {xs : List AV} (S : Inv2 d g B t s) (hB : B ≤ 20000000) (hL : s.c L = .lst xs) (ng : L ≠ g) (h0 : 0 < xs.length) (h1 : xs.length ≤ 100) (hc : ClL s.n xs) (q : ∀ y s', y ∈ xs → Inv2 d g (B + 1) t s' → Gd2 d g s s' → P y s') (hl : L < s.n) : (F__law_pick [.obj d, .obj L] s).Post P R := by
  unfold F__law_pick
  refine gcF_d2 S.lsd S.lsg ?_
  have ln := gLen_seq (seqOf_obj hL)
  obtain ⟨b1, t1, gs, hd, _⟩ := S.ok.ex
  have nd : L ≠ d := by rintro rfl; rw [hd] at hL; cases hL
  simp! [B__law_pick, ln]
  refine wi_next S (by omega) (by omega) (by
    rw [Int.natAbs_natCast]
    exact Nat.lt_of_le_of_lt (Nat.log2_le_self _) (by omega)) fun v1 s1 a1 b1 S1 g1 => ?_
  refine post_ix (seqOf_obj ((g1.c _ hl nd ng).trans hL)) a1 b1 fun y hy => ?_
  exact ⟨ClL_all.mp hc y hy, g1, S1.ok.cl S.lsg, q y _ hy (S.back S1.ok) (Gd2.back d g s)⟩
end
theorem len_two : ∀ k : Nat, TW.len (2 ^ k - 1) = k
  | 0 => rfl
  | k + 1 => by
    have p := Nat.two_pow_pos k
    have e : 2 ^ (k + 1) = 2 * 2 ^ k := by rw [Nat.pow_succ, Nat.mul_comm]
    rw [len_half (by omega), show (2 ^ (k + 1) - 1) / 2 = 2 ^ k - 1 by omega, len_two k]
theorem cutTo (xs : List AV) (k : Nat) : cutA xs none (some ((k : Nat) : Int)) = xs.take k := by
  unfold cutA
  rw [HT.sIx_none, HT.sIx_nat, List.drop_zero, Nat.sub_zero]
  rcases Nat.le_total k xs.length with h | h
  · rw [Nat.min_eq_left h]
  · rw [Nat.min_eq_right h, List.take_length, List.take_of_length_le h]
theorem lg_ok {m : Nat} (h0 : 0 < m) (h : m ≤ 2 ^ 150 + 1) : (((m : Nat) : Int).natAbs).log2 < 9000 := by
  rw [Int.natAbs_natCast]
  have : m.log2 < 151 := (Nat.log2_lt (by omega)).mpr (by omega)
  omega
theorem fb_two {W : List Nat} (h : RowW W) (pl : Bool) (k x n : Nat) : fb pl W k (2 ^ k) (n + 1) x = (bv pl W x k, nx pl x k) := if_pos (bv_lt h pl x k)
section
variable {P : AV → Sto → Prop} {R : String → List Str → List AV → Sto → Prop} {d g B : Nat} {s t0 : Sto} {w1 o1 w2 o2 x Q : Nat} {pl : Bool} {W : List Nat}
/-- two draws in one state -/
structure Two (s : Sto) (w1 o1 w2 o2 : Nat) (pl : Bool) (W : List Nat) (x : Nat) : Prop where
  a : At s o1 w1 pl W x
  b : At s o2 w2 pl W x
  ww : w1 ≠ w2
  wo : w1 ≠ o2
  ow : o1 ≠ w2
  oo : o1 ≠ o2
theorem Two.ch {L : List Nat} {s' : Sto} (T : Two s w1 o1 w2 o2 pl W x) (c : Ch L s s') (h1 : w1 ∉ L) (h2 : o1 ∉ L) (h3 : w2 ∉ L) (h4 : o2 ∉ L) : Two s' w1 o1 w2 o2 pl W x := ⟨T.a.ch c h1 h2, T.b.ch c h3 h4, T.ww, T.wo, T.ow, T.oo⟩
theorem Two.go (T : Two s w1 o1 w2 o2 pl W x) (y : Nat) : At (stA s o1 w1 pl W y) o2 w2 pl W x := by
  have h1 := T.ww
  have h2 := T.wo
  have h3 := T.ow
  have h4 := T.oo
  exact T.b.ch ch_A (by simp only [List.mem_cons, List.not_mem_nil, or_false, not_or]; omega) (by simp only [List.mem_cons, List.not_mem_nil, or_false, not_or]; omega)
theorem Two.end {s' : Sto} (T : Two s w1 o1 w2 o2 pl W x) {y : Nat} (A1 : At s' o1 w1 pl W y) (A2 : At s' o2 w2 pl W x) (z : Nat) (e : z = y) : Two (stA s' o2 w2 pl W z) w1 o1 w2 o2 pl W y := by
  have h1 := T.ww
  have h2 := T.wo
  have h3 := T.ow
  have h4 := T.oo
  subst e
  exact ⟨A1.ch ch_A (by simp only [List.mem_cons, List.not_mem_nil, or_false, not_or]; omega) (by simp only [List.mem_cons, List.not_mem_nil, or_false, not_or]; omega), A2.st z, h1, h2, h3, h4⟩
theorem alike_ok (S0 : Inv2 d g B t0 s) (hB : B ≤ 10000000) (T : Two s w1 o1 w2 o2 pl W x) (Z : Zr W) (hP : 2080 ≤ Q) (hP2 : Q ≤ 3040) (hx : pos pl x ≤ Q) (e1 : w1 ≠ d) (e2 : w1 ≠ g) (e3 : o1 ≠ d) (e4 : o1 ≠ g) (e5 : w2 ≠ d) (e6 : w2 ≠ g) (e7 : o2 ≠ d) (e8 : o2 ≠ g)
    (q : ∀ s' y, Two s' w1 o1 w2 o2 pl W y → pos pl y ≤ Q + 160 → Dg d g (B + 7) s' → Ch [d, g, w1, o1, w2, o2] s s' → P (.bl true) s') : (F__law_alike [.obj d, .obj w1, .obj w2] s).Post P R := by
  have ld := S0.lsd
  have lg := S0.lsg
  have dn := S0.ok.ne
  have main : (aDef 6 B__law_alike [.obj d, .obj w1, .obj w2] s).Post (fun v s' => v = .bl true ∧ (∃ y, Two s' w1 o1 w2 o2 pl W y ∧ pos pl y ≤ Q + 160) ∧ Dg d g (B + 7) s' ∧ Ch [d, g, w1, o1, w2, o2] s s') (fun _ _ _ _ => False) := by
    have z6 : ((6 : Nat) ≤ sizeLine) = True := eq_true (by decide)
    have z1 : ((1 : Nat) ≤ sizeLine) = True := eq_true (by decide)
    have s32 : ∀ s, gShl (.int 1) (.int 32) s = .ok (.int ((2 ^ 32 : Nat) : Int)) s := fun s => shl_one (k := 32) s (by decide)
    have s64 : ∀ s, gShl (.int 1) (.int 64) s = .ok (.int ((2 ^ 64 : Nat) : Int)) s := fun s => shl_one (k := 64) s (by decide)
    have s150 : ∀ s, gShl (.int 1) (.int 150) s = .ok (.int ((2 ^ 150 : Nat) : Int)) s := fun s => shl_one (k := 150) s (by decide)
    obtain ⟨N32, h32⟩ : ∃ n : Nat, n = 2 ^ 32 := ⟨_, rfl⟩
    obtain ⟨N64, h64⟩ : ∃ n : Nat, n = 2 ^ 64 := ⟨_, rfl⟩
    obtain ⟨N150, h150⟩ : ∃ n : Nat, n = 2 ^ 150 := ⟨_, rfl⟩
    rw [← h32] at s32
    rw [← h64] at s64
    rw [← h150] at s150
    have m32 : 2 ≤ N32 ∧ N32 ≤ 2 ^ 150 := by rw [h32]; decide +kernel
    have m64 : 2 ≤ N64 ∧ N64 ≤ 2 ^ 150 := by rw [h64]; decide +kernel
    have m150 : 2 ≤ N150 ∧ N150 ≤ 2 ^ 150 := by rw [h150]; decide +kernel
    clear h32 h64 h150
    simp! [B__law_alike]
    refine wi_next S0 (by omega) (by decide) (by decide) fun k0 s1 a1 b1 S1 g1 => ?_
    obtain ⟨k0, rfl⟩ := Int.eq_ofNat_of_zero_le a1
    simp! [s32, s64, s150, z6]
    refine wi2_pick (S1.new (x := .lst _)) (by omega) Sto.new_at (by have := S1.lsg; omega) (by simp) (by simp) (by simp) (fun y s2 hy S2 g2 => ?_) (Nat.lt_succ_self _)
    obtain ⟨m, rfl, m1, m2⟩ : ∃ m : Nat, y = .int (m : Nat) ∧ 2 ≤ m ∧ m ≤ 2 ^ 150 := by
      simp only [List.mem_cons, List.not_mem_nil, or_false] at hy
      rcases hy with rfl | rfl | rfl | rfl | rfl | rfl
      · exact ⟨2, rfl, by decide, by decide +kernel⟩
      · exact ⟨7, rfl, by decide, by decide +kernel⟩
      · exact ⟨60, rfl, by decide, by decide +kernel⟩
      · exact ⟨_, rfl, m32.1, m32.2⟩
      · exact ⟨_, rfl, m64.1, m64.2⟩
      · exact ⟨_, rfl, m150.1, m150.2⟩
    clear m32 m64 m150 s32 s64 s150 hy
    simp! [eq_self]
    refine wi_next S2 (by omega) (by omega) (lg_ok (by omega) (by omega)) fun r s3 a3 b3 S3 g3 => ?_
    obtain ⟨r, rfl⟩ := Int.eq_ofNat_of_zero_le a3
    obtain ⟨b, hb⟩ : ∃ b, b = r + 1 := ⟨_, rfl⟩
    have eb : (1 : Int) + ((r : Nat) : Int) = ((b : Nat) : Int) := by omega
    have eb2 : ((b : Nat) : Int) + 1 = ((b + 1 : Nat) : Int) := by omega
    have hb1 : 1 ≤ b := by omega
    have hb2 : b ≤ 2 ^ 150 := by omega
    simp! [eb, eb2]
    refine wi_next S3 (by omega) (by omega) (lg_ok (by omega) (by omega)) fun a s4 a4 b4 S4 g4 => ?_
    obtain ⟨a, rfl⟩ := Int.eq_ofNat_of_zero_le a4
    simp! [eq_self]
    refine wi_next S4 (by omega) (by decide) (by decide) fun lo s5 a5 b5 S5 g5 => ?_
    obtain ⟨lo', hlo⟩ : ∃ l : Int, l = lo - 100 := ⟨_, rfl⟩
    simp! [← hlo]
    refine wi_next S5 (by omega) (by decide) (by decide) fun k s6 a6 b6 S6 g6 => ?_
    obtain ⟨k, rfl⟩ := Int.eq_ofNat_of_zero_le a6
    have g16 : Gd2 d g s s6 := ((((g1.new.trans g2).trans g3).trans g4).trans g5).trans g6
    have q6 : Ch [d, g] s s6 := Ch.gd2 g16 (by simp) (by simp)
    have T6 := T.ch q6 (by simp only [List.mem_cons, List.not_mem_nil, or_false, not_or]; omega) (by simp only [List.mem_cons, List.not_mem_nil, or_false, not_or]; omega) (by simp only [List.mem_cons, List.not_mem_nil, or_false, not_or]; omega) (by simp only [List.mem_cons, List.not_mem_nil, or_false, not_or]; omega)
    have dg6 := S6.ok
    have n6 := q6.n
    have lo1 : -100 ≤ lo' := by omega
    have lo2 : lo' ≤ 100 := by omega
    clear S1 S2 S3 S4 S5 S6 g1 g2 g3 g4 g5 g6 g16 hlo a4 a5 a6 T
    obtain ⟨lo, rfl⟩ : ∃ l, l = lo' := ⟨_, rfl⟩
    have big : (2 : Nat) ^ 150 ≤ 2 ^ 256 := Nat.pow_le_pow_right (by decide) (by decide)
    have hb3 : b ≤ 2 ^ 256 := by omega
    have hK : TW.len (b - 1) ≤ 150 := TW.len_le (by omega)
    have G := good Z (pl := pl) (k := TW.len (b - 1)) (b := b) (P := Q) (x := x) (by omega) hb1 hP hP2 hx
    have fin : ∀ s' y, Two s' w1 o1 w2 o2 pl W y → pos pl y ≤ Q + 160 → Ch [w1, o1, w2, o2] s6 s' → ((∃ y, Two s' w1 o1 w2 o2 pl W y ∧ pos pl y ≤ Q + 160) ∧ Dg d g (B + 7) s' ∧ Ch [d, g, w1, o1, w2, o2] s s') := fun s' y h1 h2 h3 =>
      ⟨⟨y, h1, h2⟩, (dg6.mono (by omega)).of (h3.c d (by omega) (by simp only [List.mem_cons, List.not_mem_nil, or_false, not_or]; omega)) (h3.c g (by omega) (by simp only [List.mem_cons, List.not_mem_nil, or_false, not_or]; omega)), (q6.mono (by simp)).trans (h3.mono (by simp))⟩
    have hk : k ≤ 160 := by omega
    have pk := pos_nx pl x hk
    have rk : Room pl W x k := room_of Z.len (by omega)
    have MBv : MB = 115792089237316195423570985008687907853269984665640564039457584007913129639936 := rfl
    have bM : ((b : Nat) : Int) ≤ 1427247692705959881058285969449495136382746624 := by
      have : (2 : Nat) ^ 150 = 1427247692705959881058285969449495136382746624 := by decide +kernel
      omega
    by_cases c0 : k0 = 0
    · have d0 : decide (((k0 : Nat) : Int) = 0) = true := decide_eq_true (by omega)
      have vn := same_v T6.a (F := F_Draws_between) (m := "between") (N := 3) (i := 1) (fr := aCons (aVar 6) (aCons (aOp gMinus (aOp gAdd (aVar 6) (aVar 4)) (aC (.int 1))) aNil)) (σ := [some (.obj d), some (.obj w1), some (.obj w2), some (.int (k0 : Nat)), some (.int (b : Nat)), some (.int (a : Nat)), some (.int lo), some (.int (k : Nat)), none]) (xs := [.int lo, .int (lo + (b : Nat) - 1)]) (by decide) (by decide) (by decide) (by decide) rfl (by simp! only [eq_self]) rfl
      rw [between_A T6.a hb1 hb3 G.1 (by omega) (by omega)] at vn
      have T7 := T6.go (fb pl W (TW.len (b - 1)) b (FU + 1) x).2
      have vf := same_v T7 (F := F_Draws_below) (m := "below") (N := 2) (i := 2) (fr := aCons (aVar 4) aNil) (σ := [some (.obj d), some (.obj w1), some (.obj w2), some (.int (k0 : Nat)), some (.int (b : Nat)), some (.int (a : Nat)), some (.int lo), some (.int (k : Nat)), none]) (xs := [.int (b : Nat)]) (by decide) (by decide) (by decide) (by decide) rfl (rfl) rfl
      rw [belowf_A T7 hb1 hb3 G.1] at vf
      simp! [d0, vn, vf]
      exact fin _ _ (T6.end (T6.a.st _) T7 _ rfl) G.2 ((ch_A.mono (by simp)).trans (ch_A.mono (by simp)))
    by_cases c1 : k0 = 1
    · have d0 : decide (((k0 : Nat) : Int) = 0) = false := decide_eq_false (by omega)
      have d1 : decide (((k0 : Nat) : Int) = 1) = true := decide_eq_true (by omega)
      have vn := same_v T6.a (F := F_Draws_coin) (m := "coin") (N := 3) (i := 1) (fr := aCons (aVar 5) (aCons (aVar 4) aNil)) (σ := [some (.obj d), some (.obj w1), some (.obj w2), some (.int (k0 : Nat)), some (.int (b : Nat)), some (.int (a : Nat)), some (.int lo), some (.int (k : Nat)), none]) (xs := [.int (a : Nat), .int (b : Nat)]) (by decide) (by decide) (by decide) (by decide) rfl (rfl) rfl
      rw [coin_A T6.a hb1 hb3 G.1 (by omega)] at vn
      obtain ⟨cb, hcb⟩ : ∃ cb, decide ((((fb pl W (TW.len (b - 1)) b (FU + 1) x).1 : Nat) : Int) < ((a : Nat) : Int)) = cb := ⟨_, rfl⟩
      rw [hcb] at vn
      have cn : Ch [] (stA s6 o1 w1 pl W (fb pl W (TW.len (b - 1)) b (FU + 1) x).2) ((stA s6 o1 w1 pl W (fb pl W (TW.len (b - 1)) b (FU + 1) x).2).new (.lst [.bl cb])) := (Ch.refl [] _).new
      have T7 := (T6.go (fb pl W (TW.len (b - 1)) b (FU + 1) x).2).ch cn (by simp) (by simp)
      have vf := same_v T7 (F := F_Draws_below) (m := "below") (N := 2) (i := 2) (fr := aCons (aVar 4) aNil) (σ := [some (.obj d), some (.obj w1), some (.obj w2), some (.int (k0 : Nat)), some (.int (b : Nat)), some (.int (a : Nat)), some (.int lo), some (.int (k : Nat)), none]) (xs := [.int (b : Nat)]) (by decide) (by decide) (by decide) (by decide) rfl (rfl) rfl
      rw [belowf_A T7 hb1 hb3 G.1] at vf
      have T8 := T6.end ((T6.a.st _).ch cn (by simp) (by simp)) T7 (fb pl W (TW.len (b - 1)) b (FU + 1) x).2 rfl
      have cM : Ch [w1, o1, w2, o2] s6 (stA ((stA s6 o1 w1 pl W (fb pl W (TW.len (b - 1)) b (FU + 1) x).2).new (.lst [.bl cb])) o2 w2 pl W (fb pl W (TW.len (b - 1)) b (FU + 1) x).2) := ((ch_A.mono (by simp)).trans (cn.mono (by simp))).trans (ch_A.mono (by simp))
      have hc : (stA ((stA s6 o1 w1 pl W (fb pl W (TW.len (b - 1)) b (FU + 1) x).2).new (.lst [.bl cb])) o2 w2 pl W (fb pl W (TW.len (b - 1)) b (FU + 1) x).2).c (stA s6 o1 w1 pl W (fb pl W (TW.len (b - 1)) b (FU + 1) x).2).n = .lst [.bl cb] := (st2_ne (by have := T6.b.lo; show s6.n ≠ _; omega) (by have := T6.b.lw; show s6.n ≠ _; omega)).trans Sto.new_at
      have ee : gEq (.obj (stA s6 o1 w1 pl W (fb pl W (TW.len (b - 1)) b (FU + 1) x).2).n) (.obj (stA ((stA s6 o1 w1 pl W (fb pl W (TW.len (b - 1)) b (FU + 1) x).2).new (.lst [.bl cb])) o2 w2 pl W (fb pl W (TW.len (b - 1)) b (FU + 1) x).2).n) ((stA ((stA s6 o1 w1 pl W (fb pl W (TW.len (b - 1)) b (FU + 1) x).2).new (.lst [.bl cb])) o2 w2 pl W (fb pl W (TW.len (b - 1)) b (FU + 1) x).2).new (.lst [.bl cb])) = .ok (.bl true) _ := gEq_b (list_same (at_old (Nat.lt_succ_self _) hc) Sto.new_at fun y hy => by
        rw [List.mem_singleton.mp hy]
        exact ⟨.bool cb, rfl, by simp [PyData.canLay0], by simp [PyData.depth]⟩)
      simp! [d0, d1, vn, vf, hcb, z1, ee]
      exact fin _ _ (T8.ch ((Ch.refl [] _).new) (by simp) (by simp) (by simp) (by simp)) G.2 cM.new
    by_cases c2 : k0 = 2
    · have d0 : decide (((k0 : Nat) : Int) = 0) = false := decide_eq_false (by omega)
      have d1 : decide (((k0 : Nat) : Int) = 1) = false := decide_eq_false (by omega)
      have d2 : decide (((k0 : Nat) : Int) = 2) = true := decide_eq_true (by omega)
      obtain ⟨c, hc⟩ : ∃ c : Nat, c = 1 + a % 7 := ⟨_, rfl⟩
      have md : gMod (.int (a : Nat)) (.int 7) (s6.new (.lst (sgA "abcdefg"))) = .ok (.int ((a % 7 : Nat) : Int)) (s6.new (.lst (sgA "abcdefg"))) := gMod_int (by decide)
      have ec : (1 : Int) + ((a % 7 : Nat) : Int) = ((c : Nat) : Int) := by omega
      have ls : gListS [.str "abcdefg"] s6 = .ok (.obj s6.n) (s6.new (.lst (sgA "abcdefg"))) := gListS_str (by decide)
      obtain ⟨xs, hxs⟩ : ∃ xs, xs = (sgA "abcdefg").take c := ⟨_, rfl⟩
      have sl : gSl (.obj s6.n) none (some ((c : Nat) : Int)) (s6.new (.lst (sgA "abcdefg"))) = .ok (.obj (s6.n + 1)) ((s6.new (.lst (sgA "abcdefg"))).new (.lst xs)) := (gSl_lst Sto.new_at).trans (by rw [cutTo, hxs]; rfl)
      have xl : xs.length = c := by
        rw [hxs, List.length_take, show (sgA "abcdefg").length = 7 by decide]
        omega
      have xm : ∀ y ∈ xs, ∃ z : Str, y = .str z := fun y hy => by
        rw [hxs] at hy
        obtain ⟨n, _, rfl⟩ := List.mem_map.mp (List.mem_of_mem_take hy)
        exact ⟨_, rfl⟩
      have cu : Ch [] s6 ((s6.new (.lst (sgA "abcdefg"))).new (.lst xs)) := ((Ch.refl [] _).new).new
      have hL : ((s6.new (.lst (sgA "abcdefg"))).new (.lst xs)).c (s6.n + 1) = .lst xs := Sto.new_at
      generalize s6.new (.lst (sgA "abcdefg")) = u0 at *
      obtain ⟨u, hu⟩ : ∃ u, u = u0.new (.lst xs) := ⟨_, rfl⟩
      rw [← hu] at sl cu hL
      clear hu hxs
      have T7 := T6.ch cu (by simp) (by simp) (by simp) (by simp)
      have xk : TW.len (xs.length - 1) ≤ 3 := TW.len_le (by omega)
      have G2 := good Z (pl := pl) (k := TW.len (xs.length - 1)) (b := xs.length) (P := Q) (x := x) (by omega) (by omega) hP hP2 hx
      have vlt : (fb pl W (TW.len (xs.length - 1)) xs.length (FU + 1) x).1 < xs.length := fb_lt (by omega) _ _
      obtain ⟨y, hy⟩ : ∃ y, xs[(fb pl W (TW.len (xs.length - 1)) xs.length (FU + 1) x).1]? = some y := ⟨xs[(fb pl W (TW.len (xs.length - 1)) xs.length (FU + 1) x).1], List.getElem?_eq_getElem vlt⟩
      obtain ⟨z, rfl⟩ := xm y (List.mem_of_getElem? hy)
      have la := T6.a.lo
      have lb := T6.a.lw
      have lc := T6.b.lo
      have le := T6.b.lw
      have vn := same_v T7.a (F := F_Draws_choice) (m := "choice") (N := 2) (i := 1) (fr := aCons (aVar 8) aNil) (σ := [some (.obj d), some (.obj w1), some (.obj w2), some (.int (k0 : Nat)), some (.int (b : Nat)), some (.int (a : Nat)), some (.int lo), some (.int (k : Nat)), some (.obj (s6.n + 1))]) (xs := [.obj (s6.n + 1)]) (by decide) (by decide) (by decide) (by decide) rfl (rfl) rfl
      rw [choice_A T7.a hL (by omega) (by omega) (by omega) (by omega) G2.1 rfl hy (by simp)] at vn
      have T8 := T7.go (fb pl W (TW.len (xs.length - 1)) xs.length (FU + 1) x).2
      have hL2 : (stA u o1 w1 pl W (fb pl W (TW.len (xs.length - 1)) xs.length (FU + 1) x).2).c (s6.n + 1) = .lst xs := (st2_ne (by omega) (by omega)).trans hL
      have ln := gLen_seq (seqOf_obj hL2)
      have vf := same_v T8 (F := F_Draws_below) (m := "below") (N := 2) (i := 2) (fr := aCons (aCB gLen (aCons (aVar 8) aNil)) aNil) (σ := [some (.obj d), some (.obj w1), some (.obj w2), some (.int (k0 : Nat)), some (.int (b : Nat)), some (.int (a : Nat)), some (.int lo), some (.int (k : Nat)), some (.obj (s6.n + 1))]) (xs := [.int (xs.length : Nat)]) (by decide) (by decide) (by decide) (by decide) rfl (by simp! only [ln]) rfl
      rw [belowf_A T8 (by omega) (by omega) G2.1] at vf
      have hL3 : (stA (stA u o1 w1 pl W (fb pl W (TW.len (xs.length - 1)) xs.length (FU + 1) x).2) o2 w2 pl W (fb pl W (TW.len (xs.length - 1)) xs.length (FU + 1) x).2).c (s6.n + 1) = .lst xs := (st2_ne (by omega) (by omega)).trans hL2
      have ix := gIx_seq (i := (((fb pl W (TW.len (xs.length - 1)) xs.length (FU + 1) x).1 : Nat) : Int)) (seqOf_obj hL3) (show L2.atI _ (((fb pl W (TW.len (xs.length - 1)) xs.length (FU + 1) x).1 : Nat) : Int) = _ from L2.atI_nat hy)
      simp! [d0, d1, d2, ls, md, ec, sl, vn, vf, ix]
      exact fin _ _ (T7.end (T7.a.st _) T8 _ rfl) G2.2 (((cu.mono (by simp)).trans (ch_A.mono (by simp))).trans (ch_A.mono (by simp)))
    by_cases c3 : k0 = 3
    · have d0 : decide (((k0 : Nat) : Int) = 0) = false := decide_eq_false (by omega)
      have d1 : decide (((k0 : Nat) : Int) = 1) = false := decide_eq_false (by omega)
      have d2 : decide (((k0 : Nat) : Int) = 2) = false := decide_eq_false (by omega)
      have d3 : decide (((k0 : Nat) : Int) = 3) = true := decide_eq_true (by omega)
      have vn := same_v T6.a (F := F_Draws_fraction) (m := "fraction") (N := 2) (i := 1) (fr := aCons (aVar 7) aNil) (σ := [some (.obj d), some (.obj w1), some (.obj w2), some (.int (k0 : Nat)), some (.int (b : Nat)), some (.int (a : Nat)), some (.int lo), some (.int (k : Nat)), none]) (xs := [.int (k : Nat)]) (by decide) (by decide) (by decide) (by decide) rfl (rfl) rfl
      rw [frac_A T6.a (by omega) rk] at vn
      have T7 := T6.go (nx pl x k)
      have vf := same_v T7 (F := F_Draws_bits) (m := "bits") (N := 2) (i := 2) (fr := aCons (aVar 7) aNil) (σ := [some (.obj d), some (.obj w1), some (.obj w2), some (.int (k0 : Nat)), some (.int (b : Nat)), some (.int (a : Nat)), some (.int lo), some (.int (k : Nat)), none]) (xs := [.int (k : Nat)]) (by decide) (by decide) (by decide) (by decide) rfl (rfl) rfl
      rw [bitsf_A T7 (by omega) rk] at vf
      have fr := frac_right (stA (stA s6 o1 w1 pl W (nx pl x k)) o2 w2 pl W (nx pl x k)) (bv_lt Z.row pl x k) hk
      generalize AV.tup (iN [bv pl W x k / Nat.gcd (bv pl W x k) (2 ^ k), 2 ^ k / Nat.gcd (bv pl W x k) (2 ^ k)]) = X at *
      simp! [d0, d1, d2, d3, vn, vf, fr]
      exact fin _ _ (T6.end (T6.a.st _) T7 _ rfl) (by omega) ((ch_A.mono (by simp)).trans (ch_A.mono (by simp)))
    by_cases c4 : k0 = 4
    · have d0 : decide (((k0 : Nat) : Int) = 0) = false := decide_eq_false (by omega)
      have d1 : decide (((k0 : Nat) : Int) = 1) = false := decide_eq_false (by omega)
      have d2 : decide (((k0 : Nat) : Int) = 2) = false := decide_eq_false (by omega)
      have d3 : decide (((k0 : Nat) : Int) = 3) = false := decide_eq_false (by omega)
      have d4 : decide (((k0 : Nat) : Int) = 4) = true := decide_eq_true (by omega)
      have sh : ∀ s, gShl (.int 1) (.int (k : Nat)) s = .ok (.int ((2 ^ k : Nat) : Int)) s := fun s => shl_one (k := k) s (by omega)
      have G4 : Good pl W (TW.len (2 ^ k - 1)) (2 ^ k) (0 + 1) x := by
        rw [len_two]
        exact ⟨rk, .inl (bv_lt Z.row pl x k)⟩
      have vn := same_v T6.a (F := F_Draws_below) (m := "below") (N := 2) (i := 1) (fr := aCons (aOp gShl (aC (.int 1)) (aVar 7)) aNil) (σ := [some (.obj d), some (.obj w1), some (.obj w2), some (.int (k0 : Nat)), some (.int (b : Nat)), some (.int (a : Nat)), some (.int lo), some (.int (k : Nat)), none]) (xs := [.int ((2 ^ k : Nat) : Int)]) (by decide) (by decide) (by decide) (by decide) rfl (by simp! only [sh]) rfl
      rw [belowf_A T6.a (Nat.two_pow_pos k) (Nat.pow_le_pow_right (by decide) (by omega)) G4, len_two, fb_two Z.row] at vn
      have T7 := T6.go (nx pl x k)
      have vf := same_v T7 (F := F_Draws_bits) (m := "bits") (N := 2) (i := 2) (fr := aCons (aVar 7) aNil) (σ := [some (.obj d), some (.obj w1), some (.obj w2), some (.int (k0 : Nat)), some (.int (b : Nat)), some (.int (a : Nat)), some (.int lo), some (.int (k : Nat)), none]) (xs := [.int (k : Nat)]) (by decide) (by decide) (by decide) (by decide) rfl (rfl) rfl
      rw [bitsf_A T7 (by omega) rk] at vf
      simp! [d0, d1, d2, d3, d4, vn, vf]
      exact fin _ _ (T6.end (T6.a.st _) T7 _ rfl) (by omega) ((ch_A.mono (by simp)).trans (ch_A.mono (by simp)))
    by_cases c5 : k0 = 5
    · have d0 : decide (((k0 : Nat) : Int) = 0) = false := decide_eq_false (by omega)
      have d1 : decide (((k0 : Nat) : Int) = 1) = false := decide_eq_false (by omega)
      have d2 : decide (((k0 : Nat) : Int) = 2) = false := decide_eq_false (by omega)
      have d3 : decide (((k0 : Nat) : Int) = 3) = false := decide_eq_false (by omega)
      have d4 : decide (((k0 : Nat) : Int) = 4) = false := decide_eq_false (by omega)
      have d5 : decide (((k0 : Nat) : Int) = 5) = true := decide_eq_true (by omega)
      have vn := same_v T6.a (F := F_Draws_below) (m := "below") (N := 2) (i := 1) (fr := aCons (aVar 4) aNil) (σ := [some (.obj d), some (.obj w1), some (.obj w2), some (.int (k0 : Nat)), some (.int (b : Nat)), some (.int (a : Nat)), some (.int lo), some (.int (k : Nat)), none]) (xs := [.int (b : Nat)]) (by decide) (by decide) (by decide) (by decide) rfl (rfl) rfl
      rw [belowf_A T6.a hb1 hb3 G.1] at vn
      have T7 := T6.go (fb pl W (TW.len (b - 1)) b (FU + 1) x).2
      have vf := first_A T7 hb1 (by omega) (Nat.lt_of_lt_of_le (show b - 1 < 2 ^ 150 by omega) (Nat.pow_le_pow_right (by decide) (by decide))) G.1
      simp! [d0, d1, d2, d3, d4, d5, vn, vf]
      exact fin _ _ (T6.end (T6.a.st _) T7 _ rfl) G.2 ((ch_A.mono (by simp)).trans (ch_A.mono (by simp)))
    have d0 : decide (((k0 : Nat) : Int) = 0) = false := decide_eq_false (by omega)
    have d1 : decide (((k0 : Nat) : Int) = 1) = false := decide_eq_false (by omega)
    have d2 : decide (((k0 : Nat) : Int) = 2) = false := decide_eq_false (by omega)
    have d3 : decide (((k0 : Nat) : Int) = 3) = false := decide_eq_false (by omega)
    have d4 : decide (((k0 : Nat) : Int) = 4) = false := decide_eq_false (by omega)
    have d5 : decide (((k0 : Nat) : Int) = 5) = false := decide_eq_false (by omega)
    have vn := same_v T6.a (F := F_Draws_bits) (m := "bits") (N := 2) (i := 1) (fr := aCons (aVar 7) aNil) (σ := [some (.obj d), some (.obj w1), some (.obj w2), some (.int (k0 : Nat)), some (.int (b : Nat)), some (.int (a : Nat)), some (.int lo), some (.int (k : Nat)), none]) (xs := [.int (k : Nat)]) (by decide) (by decide) (by decide) (by decide) rfl (rfl) rfl
    rw [bitsf_A T6.a (by omega) rk] at vn
    have T7 := T6.go (nx pl x k)
    have vf := same_v T7 (F := F_Draws_do) (m := "do") (N := 2) (i := 2) (fr := aCons (aTup (aCons (aC (.str "bits")) (aCons (aVar 7) aNil))) aNil) (σ := [some (.obj d), some (.obj w1), some (.obj w2), some (.int (k0 : Nat)), some (.int (b : Nat)), some (.int (a : Nat)), some (.int lo), some (.int (k : Nat)), none]) (xs := [.tup [.str "bits", .int (k : Nat)]]) (by decide) (by decide) (by decide) (by decide) rfl (rfl) rfl
    rw [dobits_A T7 (by omega) rk] at vf
    simp! [d0, d1, d2, d3, d4, d5, vn, vf]
    exact fin _ _ (T6.end (T6.a.st _) T7 _ rfl) (by omega) ((ch_A.mono (by simp)).trans (ch_A.mono (by simp)))
  refine post_gcF.mpr (main.mono ?_ fun _ _ _ _ z => z.elim)
  rintro v s' ⟨rfl, ⟨y, T', hy⟩, dg', ch⟩
  have cl : Clean s s' := ch.clean fun i hi hn => by
    simp only [List.mem_cons, List.not_mem_nil, or_false] at hi
    rcases hi with rfl | rfl | rfl | rfl | rfl | rfl
    · exact (dg'.cl lg).1
    · exact (dg'.cl lg).2
    · exact T'.a.clw T.a.lo
    · exact T'.a.clo _
    · exact T'.b.clw T.b.lo
    · exact T'.b.clo _
  rw [if_pos ⟨by simp, cl⟩]
  exact q _ y ⟨T'.a.cut T.a.lw T.a.lo, T'.b.cut T.b.lw T.b.lo, T.ww, T.wo, T.ow, T.oo⟩ hy (dg'.of (Ch.cutc ld) (Ch.cutc lg)) ch.cut
end
end Pf
set_option Elab.async false
set_option linter.all false
set_option maxRecDepth 100000
set_option maxHeartbeats 1000000
set_option exponentiation.threshold 3000
namespace Pf
open PySem Ab
local macro_rules | `(tactic| simp! [$xs,*]) => `(tactic| try simp (config := {maxSteps := 1000000}) only [k_bind, k_Kb, k_st, k_Kst, k_Rst, k_thn, k_loop, k_fn, k_forget, k_clr, k_noX, k_try, k_stuck, k_Astuck, d_thn_nx, d_thn_bk, d_thn_ct, d_thn_rt, d_thn_er, d_lp_nx, d_lp_bk, d_lp_ct, d_lp_rt, d_lp_er, d_fg_nx, d_fg_bk, d_fg_ct, d_fg_rt, d_fg_er, d_cl_nx, d_cl_bk, d_cl_ct, d_cl_rt, d_cl_er, d_tr_nx, d_tr_bk, d_tr_ct, d_tr_rt, d_tr_er, d_nX_nx, d_nX_bk, d_nX_ct, d_nX_rt, d_nX_er, d_fn_nx, d_fn_bk, d_fn_ct, d_fn_rt, d_fn_er, A_nx, A_bk, A_ct, A_rt, A_err, post_ok, post_err, post_noErr, e_op, e_opK, e_un, e_cb, e_nil, e_c, e_cons, e_consK, e_consK2, e_and, e_or, e_andK, e_orK, e_not, e_notK, e_test, e_testK, e_tand, e_tandK, e_tor, e_torK, e_tnot, e_tnotK, e_yes, e_if, e_ifK, e_ch, e_chK1, e_chK2, e_chK3, e_tup, e_tupK, e_lst, e_lstK, e_newL, e_call, e_callK, e_meth, e_methK, e_methK2, e_prop, e_propK, e_make, e_makeK, e_makeK2, e_makeV, e_sm, e_smK, e_smK2, e_cm, e_cmK, e_cmK2, e_sl, e_slK1, e_slK2, e_slK3, e_part, e_partK, e_nopart, e_rev, e_bm, e_bmK, e_pr, e_pr0, e_prK1, e_prK2, e_prK3, e_disp, e_dnew, e_own, e_ownK, e_lc, e_lcK, e_iter, e_rng1, e_rng1K, e_rng2, e_rng2K, e_enum, s_drop, s_dropK, s_ret, s_retK, s_retN, s_next, s_break, s_cont, s_seq, s_if, s_ifK, s_asg, s_asgK, s_name, s_par, s_parK, s_par3, s_parK3, s_gnil, s_gcons, s_gtup, s_for, s_forK, s_raise, s_raiseK, s_sf, s_sfK1, s_sfK2, s_dp, s_dpK1, s_dpK2, s_dpK3, s_forget, s_def, s_fld, e_enumU, e_enumUT, e_match, e_mcase, e_mcase2, e_many, e_mnil, e_lcX, e_lcXK, e_get2, e_methS, e_methS1, e_methS2, s_augS, s_augS1, gEqS_int, gEqS_str, gEqS_bl, gEqS_tup, e_fmt, e_js, e_jsC, e_jsN, e_join, e_joinK, eq_self, beq_self_eq_true, k_grd, k_grdS, k_ite, k_Aite, true_implies, false_implies, implies_true, List.map_cons, List.map_nil, List.nil_append, List.cons_append, List.append_nil, List.replicate_succ, List.replicate_zero, List.getElem?_cons_zero, List.getElem?_cons_succ, List.length_cons, List.length_nil, List.set_cons_zero, List.set_cons_succ, ↓reduceIte, ↓reduceDIte, Nat.reduceAdd, Nat.reduceLeDiff, Nat.reduceEqDiff, Nat.zero_add, if_true, if_false, aVar, gMinus_int, gLt_int, gLe_int, gGt_int, gGe_int, gEq_int, gNe_int, gEq_str, gNe_str, gEq_bl, gNe_bl, gXor_int, gAnd_int, gOr_int, gAdd_int, gIsN_non, gNotN_non, gIsB_bl, gNotB_bl, gNeg_int, gLen_tup, gLen_scr, gMax2_int, gMin2_int, gBits_int, gSl_tup, gSl_scr, Bool.not_true, Bool.not_false, Bool.true_eq_false, Bool.false_eq_true, Bool.true_and, Bool.false_and, Bool.and_true, Bool.and_false, Bool.true_or, Bool.false_or, decide_true, decide_false, and_self, and_true, true_and, and_false, false_and, not_true_eq_false, not_false_eq_true, reduceCtorEq, kz, z1, z2, z3, z4, z5, z6, z7, z8, z9, z10, z11, z12, z13, z14, z15, z16, isCls, isNon, aForget, aHand, toKey, keysA, iterOf_tup, iterOf_scr, oNx_some, noErr_ok, decide_eq_true_eq, decide_eq_false_iff_not, Sto.new_n, Sto.set_n, Sto.set_at, Sto.new_at, Nat.zero_le, aMakeV, Cl_non, Cl_bl, Cl_int, Cl_str, Cl_cls, Cl_obj, Cl_tup, ClL_nil, ClL_cons, $xs,*])
theorem atI_neg {α : Type} {xs : List α} {j : Nat} {v : α} (h1 : 1 ≤ j) (h2 : j ≤ xs.length) (h : xs[xs.length - j]? = some v) : L2.atI xs (-((j : Nat) : Int)) = some v := by
  unfold L2.atI L2.ixN
  rw [if_neg (by omega), if_pos (by omega)]
  show xs[((-((j : Nat) : Int)) + (xs.length : Int)).toNat]? = _
  rw [show ((-((j : Nat) : Int)) + (xs.length : Int)).toNat = xs.length - j by omega]
  exact h
theorem iN_app (l : List Nat) (n : Nat) : iN l ++ [AV.int (n : Nat)] = iN (l ++ [n]) := by unfold iN; simp
theorem iN_at {l : List Nat} {i : Nat} (h : i < l.length) : (iN l)[i]? = some (.int (l[i] : Nat)) := by
  show (l.map _)[i]? = _
  rw [List.getElem?_map, List.getElem?_eq_getElem h]
  rfl
theorem rep40 : (List.replicate (40 : Int).toNat [AV.int 0]).flatten = iN (List.replicate 40 0) := by rfl
theorem zr_of {l : List Nat} (h1 : l.length = 60) (h2 : ∀ n ∈ l, n < 4294967296) : Zr (l ++ List.replicate 40 0) := by
  refine ⟨⟨fun x hx => ?_, by rw [List.length_append, List.length_replicate, h1]; decide⟩, by rw [List.length_append, List.length_replicate, h1], fun i hi => ?_⟩
  · rcases List.mem_append.mp hx with h | h
    · exact h2 x h
    · rw [List.eq_of_mem_replicate h]; decide
  · unfold wd
    rw [List.getD_eq_getElem?_getD, List.getElem?_append_right (by omega), List.getElem?_replicate]
    split <;> rfl
section
variable {P : AV → Sto → Prop} {R : String → List Str → List AV → Sto → Prop} {d g B : Nat} {s t : Sto}
theorem wi_words (S : Inv2 d g B t s) (hB : B ≤ 10000000) (q : ∀ W s', Zr W → Inv2 d g (B + 8) t s' → Gd2 d g s s' → P (.tup (iN W)) s') : (F__law_words [.obj d] s).Post P R := by
  unfold F__law_words
  refine gcF_d2 S.lsd S.lsg ?_
  have z1 : ((1 : Nat) ≤ sizeLine) = True := eq_true (by decide)
  have big : (1000 : Nat) ≤ sizeLine := by decide
  have ld := S.lsd
  have lg := S.lsg
  have tn : t.n ≤ s.n := S.gd.n
  simp! [B__law_words, show -(2 ^ 62) ≤ (8 : Int) ∧ (8 : Int) < 2 ^ 62 from by decide]
  refine lc_P (fun i acc s' => ∃ l : List Nat, acc = iN l ∧ l.length = i ∧ (∀ n ∈ l, n < 4294967296) ∧ Inv2 d g (B + i) t s' ∧ Gd2 d g s s' ∧ s.n < s'.n) ⟨[], rfl, rfl, (fun n h => by cases h), S.new, (Gd2.refl d g s).new, Nat.lt_succ_self _⟩ Sto.new_at (by rw [rngA_len]; decide) ?_ ?_
  · rintro i x acc s1 hx ⟨l, rfl, hl, hk, S1, g1, n1⟩ hc
    refine ⟨trivial, ?_⟩
    simp! [wipeA]
    refine wi_next S1 (by
      obtain ⟨hi, _⟩ := rngA_get hx
      have hi : i < 8 := hi
      omega) (by decide) (by decide) fun m s2 a2 b2 S2 g2 => ?_
    obtain ⟨m, rfl⟩ := Int.eq_ofNat_of_zero_le a2
    refine ⟨(g2.c _ n1 (by omega) (by omega)).trans hc, l ++ [m], iN_app l m, by simp [hl], fun n h => ?_, S2.set_new tn, (g1.trans g2).setn (Nat.le_refl _), Nat.lt_of_lt_of_le n1 g2.n⟩
    rcases List.mem_append.mp h with h | h
    · exact hk n h
    · rw [List.mem_singleton.mp h]; omega
  rintro acc s1 ⟨l, rfl, hl, hk, S1, g1, n1⟩ hc1
  rw [rngA_len] at hl S1
  refine ⟨trivial, ?_⟩
  simp! [show -(2 ^ 62) ≤ (52 : Int) ∧ (52 : Int) < 2 ^ 62 from by decide]
  refine for_rng (n := 52) (fun i σ s' => ∃ (r : List Nat) (x2 : Option AV), s'.c s.n = .lst (iN r) ∧ r.length = 8 + i ∧ (∀ n ∈ r, n < 4294967296) ∧ s.n < s'.n ∧ Inv2 d g (B + 8) t s' ∧ Gd2 d g s s' ∧ σ = [some (.obj d), some (.obj s.n), x2]) ⟨l, none, hc1, hl, hk, n1, S1, g1, rfl⟩ ?_ ?_
  · rintro i σ s2 hi ⟨r, x2, c2, hr, hk2, n2, S2, g2, rfl⟩
    refine ⟨trivial, ?_⟩
    have ng1 : ∀ s, gNeg (.int 1) s = .ok (.int (-1)) s := fun s => rfl
    have ng3 : ∀ s, gNeg (.int 3) s = .ok (.int (-3)) s := fun s => rfl
    obtain ⟨p, hp⟩ : ∃ p, p = r[r.length - 1]'(by omega) := ⟨_, rfl⟩
    obtain ⟨w, hw⟩ : ∃ w, w = r[r.length - 3]'(by omega) := ⟨_, rfl⟩
    have p1 : p < 4294967296 := hk2 p (by rw [hp]; exact List.getElem_mem _)
    have w1 : w < 4294967296 := hk2 w (by rw [hw]; exact List.getElem_mem _)
    have ix1 : gIx (.obj s.n) (.int (-1)) s2 = .ok (.int (p : Nat)) s2 := gIx_seq (seqOf_obj c2) (atI_neg (j := 1) (by decide) (by rw [iN_len]; omega) (by rw [iN_len, hp]; exact iN_at (by omega)))
    have ix3 : gIx (.obj s.n) (.int (-3)) s2 = .ok (.int (w : Nat)) s2 := gIx_seq (seqOf_obj c2) (atI_neg (j := 3) (by decide) (by rw [iN_len]; omega) (by rw [iN_len, hw]; exact iN_at (by omega)))
    have m1 : gMul (.int (p : Nat)) (.int 1664525) s2 = .ok (.int ((p : Nat) * 1664525)) s2 := gMul_ok (m := 32) (n := 25) (by omega) (by decide) (by decide)
    have m3 : gMul (.int (w : Nat)) (.int 69069) s2 = .ok (.int ((w : Nat) * 69069)) s2 := gMul_ok (m := 32) (n := 25) (by omega) (by decide) (by decide)
    have mi : gMul (.int 1013904223) (.int ((i : Nat) : Int)) s2 = .ok (.int (1013904223 * ((i : Nat) : Int))) s2 := gMul_ok (m := 32) (n := 10) (by decide) (by omega) (by decide)
    obtain ⟨X, hX⟩ : ∃ X : Int, X = ((p : Nat) : Int) * 1664525 + ((w : Nat) : Int) * 69069 + 1013904223 * ((i : Nat) : Int) + 7 := ⟨_, rfl⟩
    obtain ⟨m, hm⟩ := Int.eq_ofNat_of_zero_le (Int.emod_nonneg X (show (4294967296 : Int) ≠ 0 by decide))
    have ml : m < 4294967296 := by
      have := Int.emod_lt_of_pos X (show (0 : Int) < 4294967296 by decide)
      omega
    have md : gMod (.int X) (.int 4294967296) s2 = .ok (.int (m : Nat)) s2 := by rw [gMod_int (by decide), hm]
    have sq := isSeqL_obj c2
    have ap := gAppend_obj (y := .int (m : Nat)) c2 (by rw [iN_len]; omega)
    rw [iN_app] at ap
    simp! [show (0 : Int) + ((i : Nat) : Int) = ((i : Nat) : Int) from by omega, ng1, ng3, ix1, ix3, m1, m3, mi, ← hX, md, sq, ap]
    refine ⟨r ++ [m], _, rfl, by rw [List.length_append, hr]; rfl, fun n h => ?_, n2, S2.set_new tn, g2.setn (Nat.le_refl _), rfl⟩
    rcases List.mem_append.mp h with h | h
    · exact hk2 n h
    · rw [List.mem_singleton.mp h]; exact ml
  rintro σ s2 ⟨r, x2, c2, hr, hk2, n2, S2, g2, rfl⟩
  refine ⟨trivial, ?_⟩
  have mu : gMul (.obj s2.n) (.int 40) (s2.new (.lst [.int 0])) = .ok (.obj (s2.n + 1)) ((s2.new (.lst [.int 0])).new (.lst (iN (List.replicate 40 0)))) := (gMul_lst Sto.new_at ⟨by decide, by decide, by decide⟩).trans (by rw [rep40]; rfl)
  have ad : gAdd (.obj s.n) (.obj (s2.n + 1)) ((s2.new (.lst [.int 0])).new (.lst (iN (List.replicate 40 0)))) = .ok (.obj (s2.n + 2)) (((s2.new (.lst [.int 0])).new (.lst (iN (List.replicate 40 0)))).new (.lst (iN r ++ iN (List.replicate 40 0)))) := (gAdd_lst (at_old (Nat.lt_succ_of_lt n2) (at_old n2 c2)) Sto.new_at (by rw [iN_len, iN_len, List.length_replicate]; omega)).trans rfl
  have tu : gTuple [.obj (s2.n + 2)] (((s2.new (.lst [.int 0])).new (.lst (iN (List.replicate 40 0)))).new (.lst (iN r ++ iN (List.replicate 40 0)))) = .ok (.tup (iN (r ++ List.replicate 40 0))) (((s2.new (.lst [.int 0])).new (.lst (iN (List.replicate 40 0)))).new (.lst (iN r ++ iN (List.replicate 40 0)))) := gTuple_seq ((seqOf_obj Sto.new_at).trans (congrArg some (by unfold iN; rw [List.map_append])))
  have zr := zr_of (l := r) (by omega) hk2
  generalize List.replicate 40 0 = Z at *
  simp! [z1, mu, ad, tu]
  have S3 : Inv2 d g (B + 8) t (((s2.new (.lst [.int 0])).new (.lst (iN Z))).new (.lst (iN r ++ iN Z))) := S2.new.new.new
  exact ⟨iNcl2 _ _, g2.new.new.new, S3.ok.cl lg, q _ _ zr (S.back S3.ok) (Gd2.back d g s)⟩
end
end Pf
set_option Elab.async false
set_option linter.all false
set_option maxRecDepth 100000
set_option maxHeartbeats 1000000
set_option exponentiation.threshold 3000
namespace Pf
open PySem Ab
local macro_rules | `(tactic| simp! [$xs,*]) => `(tactic| try simp (config := {maxSteps := 1000000}) only [k_bind, k_Kb, k_st, k_Kst, k_Rst, k_thn, k_loop, k_fn, k_forget, k_clr, k_noX, k_try, k_stuck, k_Astuck, d_thn_nx, d_thn_bk, d_thn_ct, d_thn_rt, d_thn_er, d_lp_nx, d_lp_bk, d_lp_ct, d_lp_rt, d_lp_er, d_fg_nx, d_fg_bk, d_fg_ct, d_fg_rt, d_fg_er, d_cl_nx, d_cl_bk, d_cl_ct, d_cl_rt, d_cl_er, d_tr_nx, d_tr_bk, d_tr_ct, d_tr_rt, d_tr_er, d_nX_nx, d_nX_bk, d_nX_ct, d_nX_rt, d_nX_er, d_fn_nx, d_fn_bk, d_fn_ct, d_fn_rt, d_fn_er, A_nx, A_bk, A_ct, A_rt, A_err, post_ok, post_err, post_noErr, e_op, e_opK, e_un, e_cb, e_nil, e_c, e_cons, e_consK, e_consK2, e_and, e_or, e_andK, e_orK, e_not, e_notK, e_test, e_testK, e_tand, e_tandK, e_tor, e_torK, e_tnot, e_tnotK, e_yes, e_if, e_ifK, e_ch, e_chK1, e_chK2, e_chK3, e_tup, e_tupK, e_lst, e_lstK, e_newL, e_call, e_callK, e_meth, e_methK, e_methK2, e_prop, e_propK, e_make, e_makeK, e_makeK2, e_makeV, e_sm, e_smK, e_smK2, e_cm, e_cmK, e_cmK2, e_sl, e_slK1, e_slK2, e_slK3, e_part, e_partK, e_nopart, e_rev, e_bm, e_bmK, e_pr, e_pr0, e_prK1, e_prK2, e_prK3, e_disp, e_dnew, e_own, e_ownK, e_lc, e_lcK, e_iter, e_rng1, e_rng1K, e_rng2, e_rng2K, e_enum, s_drop, s_dropK, s_ret, s_retK, s_retN, s_next, s_break, s_cont, s_seq, s_if, s_ifK, s_asg, s_asgK, s_name, s_par, s_parK, s_par3, s_parK3, s_gnil, s_gcons, s_gtup, s_for, s_forK, s_raise, s_raiseK, s_sf, s_sfK1, s_sfK2, s_dp, s_dpK1, s_dpK2, s_dpK3, s_forget, s_def, s_fld, e_enumU, e_enumUT, e_match, e_mcase, e_mcase2, e_many, e_mnil, e_lcX, e_lcXK, e_get2, e_methS, e_methS1, e_methS2, s_augS, s_augS1, gEqS_int, gEqS_str, gEqS_bl, gEqS_tup, e_fmt, e_js, e_jsC, e_jsN, e_join, e_joinK, eq_self, beq_self_eq_true, k_grd, k_grdS, k_ite, k_Aite, true_implies, false_implies, implies_true, List.map_cons, List.map_nil, List.nil_append, List.cons_append, List.append_nil, List.replicate_succ, List.replicate_zero, List.getElem?_cons_zero, List.getElem?_cons_succ, List.length_cons, List.length_nil, List.set_cons_zero, List.set_cons_succ, ↓reduceIte, ↓reduceDIte, Nat.reduceAdd, Nat.reduceLeDiff, Nat.reduceEqDiff, Nat.zero_add, if_true, if_false, aVar, gMinus_int, gLt_int, gLe_int, gGt_int, gGe_int, gEq_int, gNe_int, gEq_str, gNe_str, gEq_bl, gNe_bl, gXor_int, gAnd_int, gOr_int, gAdd_int, gIsN_non, gNotN_non, gIsB_bl, gNotB_bl, gNeg_int, gLen_tup, gLen_scr, gMax2_int, gMin2_int, gBits_int, gSl_tup, gSl_scr, Bool.not_true, Bool.not_false, Bool.true_eq_false, Bool.false_eq_true, Bool.true_and, Bool.false_and, Bool.and_true, Bool.and_false, Bool.true_or, Bool.false_or, decide_true, decide_false, and_self, and_true, true_and, and_false, false_and, not_true_eq_false, not_false_eq_true, reduceCtorEq, kz, z1, z2, z3, z4, z5, z6, z7, z8, z9, z10, z11, z12, z13, z14, z15, z16, isCls, isNon, aForget, aHand, toKey, keysA, iterOf_tup, iterOf_scr, oNx_some, noErr_ok, decide_eq_true_eq, decide_eq_false_iff_not, Sto.new_n, Sto.set_n, Sto.set_at, Sto.new_at, Nat.zero_le, aMakeV, Cl_non, Cl_bl, Cl_int, Cl_str, Cl_cls, Cl_obj, Cl_tup, ClL_nil, ClL_cons, $xs,*])
local macro_rules | `(tactic| simp! only [$xs,*]) => `(tactic| simp only [e_op, e_opK, e_un, e_cb, e_nil, e_c, e_cons, e_consK, e_consK2, e_and, e_or, e_andK, e_orK, e_not, e_notK, e_test, e_testK, e_tand, e_tandK, e_tor, e_torK, e_tnot, e_tnotK, e_yes, e_if, e_ifK, e_ch, e_chK1, e_chK2, e_chK3, e_tup, e_tupK, e_lst, e_lstK, e_newL, e_call, e_callK, e_meth, e_methK, e_methK2, e_prop, e_propK, e_make, e_makeK, e_makeK2, e_makeV, e_sm, e_smK, e_smK2, e_cm, e_cmK, e_cmK2, e_sl, e_slK1, e_slK2, e_slK3, e_part, e_partK, e_nopart, e_rev, e_bm, e_bmK, e_pr, e_pr0, e_prK1, e_prK2, e_prK3, e_disp, e_dnew, e_own, e_ownK, e_lc, e_lcK, e_iter, e_rng1, e_rng1K, e_rng2, e_rng2K, e_enum, s_drop, s_dropK, s_ret, s_retK, s_retN, s_next, s_break, s_cont, s_seq, s_if, s_ifK, s_asg, s_asgK, s_name, s_par, s_parK, s_par3, s_parK3, s_gnil, s_gcons, s_gtup, s_for, s_forK, s_raise, s_raiseK, s_sf, s_sfK1, s_sfK2, s_dp, s_dpK1, s_dpK2, s_dpK3, s_forget, s_def, s_fld, e_enumU, e_enumUT, e_match, e_mcase, e_mcase2, e_many, e_mnil, e_lcX, e_lcXK, e_get2, e_methS, e_methS1, e_methS2, s_augS, s_augS1, gEqS_int, gEqS_str, gEqS_bl, gEqS_tup, e_fmt, e_js, e_jsC, e_jsN, e_join, e_joinK, eq_self, beq_self_eq_true, true_implies, false_implies, implies_true, List.map_cons, List.map_nil, List.nil_append, List.cons_append, List.append_nil, List.replicate_succ, List.replicate_zero, List.getElem?_cons_zero, List.getElem?_cons_succ, List.length_cons, List.length_nil, List.set_cons_zero, List.set_cons_succ, ↓reduceIte, ↓reduceDIte, Nat.reduceAdd, Nat.reduceLeDiff, Nat.reduceEqDiff, Nat.zero_add, if_true, if_false, aVar, gMinus_int, gLt_int, gLe_int, gGt_int, gGe_int, gEq_int, gNe_int, gEq_str, gNe_str, gEq_bl, gNe_bl, gXor_int, gAnd_int, gOr_int, gAdd_int, gIsN_non, gNotN_non, gIsB_bl, gNotB_bl, gNeg_int, gLen_tup, gLen_scr, gMax2_int, gMin2_int, gBits_int, gSl_tup, gSl_scr, Bool.not_true, Bool.not_false, Bool.true_eq_false, Bool.false_eq_true, Bool.true_and, Bool.false_and, Bool.and_true, Bool.and_false, Bool.true_or, Bool.false_or, decide_true, decide_false, and_self, and_true, true_and, and_false, false_and, not_true_eq_false, not_false_eq_true, reduceCtorEq, kz, z1, z2, z3, z4, z5, z6, z7, z8, z9, z10, z11, z12, z13, z14, z15, z16, isCls, isNon, aForget, aHand, toKey, keysA, iterOf_tup, iterOf_scr, oNx_some, noErr_ok, decide_eq_true_eq, decide_eq_false_iff_not, Sto.new_n, Sto.set_n, Sto.set_at, Sto.new_at, Nat.zero_le, aMakeV, Cl_non, Cl_bl, Cl_int, Cl_str, Cl_cls, Cl_obj, Cl_tup, ClL_nil, ClL_cons, grd_pos, grdS_pos, Res.bind_ok, Res.bind_err, Res.st_ok, Res.st_err, SRes.thn_nx, SRes.thn_rt, SRes.thn_err, SRes.fn_rt, SRes.fn_nx, SRes.fn_err, SRes.loop_nx, SRes.loop_rt, SRes.loop_err, SRes.loop_ct, SRes.loop_bk, SRes.forget_nx, SRes.forget_rt, SRes.forget_err, SRes.clr_nx, SRes.clr_rt, SRes.noX_nx, SRes.noX_rt, aTry, sizeLine_ge, $xs,*])
theorem gcT_c {f : AT} {Q : Bool → Sto → Prop} {R : String → List Str → List AV → Sto → Prop} {σ : ASt} {s : Sto} (h : (f σ s).Post (fun v s' => Clean s s' ∧ Q v (s'.cut s)) R) : (gcT f σ s).Post Q R :=
  post_gcT.mpr (h.mono (fun v s' z => by rw [if_pos z.1]; exact z.2) fun _ _ _ _ z => z)
theorem pair_ok {W : List Nat} (hr : RowW W) (pl : Bool) (s : Sto) : ∃ s', F__law_pair [.tup (iN W), .bl pl] s = .ok (.obj (s.n + 4)) s' ∧ s'.c (s.n + 4) = .lst [.obj (s.n + 1), .obj (s.n + 3)] ∧ Two s' (s.n + 1) s.n (s.n + 3) (s.n + 2) pl W 0 ∧ s'.n = s.n + 5 ∧ Ch [] s s' := by
  cases pl with
  | true =>
    obtain ⟨s1, i1, j1, A1, n1, c1⟩ := mk_ok hr true s
    obtain ⟨s2, i2, j2, A2, n2, c2⟩ := mk_ok hr true s1
    have j1 : F_PooledDraws___init__ [.obj (s.n + 1), .obj s.n] ((s.new (scC W 0)).new (.ins "PooledDraws" [])) = .ok .non s1 := j1
    have j2 : F_PooledDraws___init__ [.obj (s1.n + 1), .obj s1.n] ((s1.new (scC W 0)).new (.ins "PooledDraws" [])) = .ok .non s2 := j2
    have A1' := A1.ch c2 (by simp) (by simp)
    refine ⟨s2.new (.lst [.obj (s.n + 1), .obj (s1.n + 1)]), ?_, ?_, ?_, ?_, (c1.trans c2).new⟩
    · refine gcF_raw ?_ (by simp)
      rw [show AV.obj (s.n + 4) = AV.obj s2.n by rw [n2, n1]]
      simp! only [B__law_pair, i1, j1, i2, j2, z2, isNon]
    · rw [show s.n + 4 = s2.n by omega, show s.n + 3 = s1.n + 1 by omega]
      exact Sto.new_at
    · rw [show s.n + 3 = s1.n + 1 by omega, show s.n + 2 = s1.n by omega]
      have cn : Ch [] s2 (s2.new (.lst [.obj (s.n + 1), .obj (s1.n + 1)])) := (Ch.refl [] _).new
      exact ⟨A1'.ch cn (by simp) (by simp), A2.ch cn (by simp) (by simp), by omega, by omega, by omega, by omega⟩
    · show s2.n + 1 = _
      omega
  | false =>
    obtain ⟨s1, i1, j1, A1, n1, c1⟩ := mk_ok hr false s
    obtain ⟨s2, i2, j2, A2, n2, c2⟩ := mk_ok hr false s1
    have j1 : F_Draws___init__ [.obj (s.n + 1), .obj s.n] ((s.new (scC W 0)).new (.ins "Draws" [])) = .ok .non s1 := j1
    have j2 : F_Draws___init__ [.obj (s1.n + 1), .obj s1.n] ((s1.new (scC W 0)).new (.ins "Draws" [])) = .ok .non s2 := j2
    have A1' := A1.ch c2 (by simp) (by simp)
    refine ⟨s2.new (.lst [.obj (s.n + 1), .obj (s1.n + 1)]), ?_, ?_, ?_, ?_, (c1.trans c2).new⟩
    · refine gcF_raw ?_ (by simp)
      rw [show AV.obj (s.n + 4) = AV.obj s2.n by rw [n2, n1]]
      simp! only [B__law_pair, i1, j1, i2, j2, z2, isNon]
    · rw [show s.n + 4 = s2.n by omega, show s.n + 3 = s1.n + 1 by omega]
      exact Sto.new_at
    · rw [show s.n + 3 = s1.n + 1 by omega, show s.n + 2 = s1.n by omega]
      have cn : Ch [] s2 (s2.new (.lst [.obj (s.n + 1), .obj (s1.n + 1)])) := (Ch.refl [] _).new
      exact ⟨A1'.ch cn (by simp) (by simp), A2.ch cn (by simp) (by simp), by omega, by omega, by omega, by omega⟩
    · show s2.n + 1 = _
      omega
section
variable {P : AV → Sto → Prop} {R : String → List Str → List AV → Sto → Prop} {d g B : Nat} {s t0 : Sto}
theorem wi_pair (pl : Bool) (S0 : Inv2 d g B t0 s) (hB : B ≤ 9000000) (q : ∀ s', Inv2 d g (B + 100) t0 s' → Gd2 d g s s' → P (.bl true) s') : (F__law_pair_right [.obj d, .bl pl] s).Post P R := by
  unfold F__law_pair_right
  have ld := S0.lsd
  have lg := S0.lsg
  have dn := S0.ok.ne
  refine gcF_d2 ld lg ?_
  simp! [B__law_pair_right]
  refine wi_words S0 (by omega) fun W s1 Z S1 g1 => ?_
  obtain ⟨s2, e2, L2, T2, n2, c2⟩ := pair_ok Z.row pl s1
  have n1 := g1.n
  have S2 : Inv2 d g (B + 8) t0 s2 := ⟨S1.ld, S1.lg, S1.gd.trans (Ch.to2 (c2.mono (M := [d, g]) (fun _ h => by cases h))), S1.ok.of (c2.c d (by omega) (by simp)) (c2.c g (by omega) (by simp))⟩
  have q2 : Ch [d, g] s s2 := (Ch.gd2 g1 (by simp) (by simp)).wk c2 (fun _ h => by cases h)
  have un := fun n g σ => s_gtupL (n := n) (g := g) (σ := σ) (lstOf_obj L2)
  simp! [e2, un]
  refine wi_next S2 (by omega) (by decide) (by decide) fun k0 s3 a3 b3 S3 g3 => ?_
  obtain ⟨k0, rfl⟩ := Int.eq_ofNat_of_zero_le a3
  have n3 := g3.n
  have c3 : Ch [d, g] s2 s3 := Ch.gd2 g3 (by simp) (by simp)
  have T3 := T2.ch c3 (by simp only [List.mem_cons, List.not_mem_nil, or_false, not_or]; omega) (by simp only [List.mem_cons, List.not_mem_nil, or_false, not_or]; omega) (by simp only [List.mem_cons, List.not_mem_nil, or_false, not_or]; omega) (by simp only [List.mem_cons, List.not_mem_nil, or_false, not_or]; omega)
  have q3 := q2.trans c3
  have ek : (3 : Int) + ((k0 : Nat) : Int) = ((k0 + 3 : Nat) : Int) := by omega
  simp! [ek, show -(2 ^ 62) ≤ ((k0 + 3 : Nat) : Int) ∧ ((k0 + 3 : Nat) : Int) < 2 ^ 62 from by omega]
  refine for_rng (n := k0 + 3) (fun i σ s' => ∃ (y : Nat) (x4 : Option AV), Two s' (s1.n + 1) s1.n (s1.n + 3) (s1.n + 2) pl W y ∧ pos pl y ≤ 2080 + 160 * i ∧ Dg d g (B + 9 + 7 * i) s' ∧ Ch [d, g] s s' ∧ s1.n + 5 ≤ s'.n ∧ σ = [some (.obj d), some (.bl pl), some (.obj (s1.n + 1)), some (.obj (s1.n + 3)), x4]) ⟨0, none, T3, by cases pl <;> simp [pos], S3.ok, q3, by omega, rfl⟩ ?_ ?_
  · rintro i σ s4 hi ⟨y, x4, T4, hy, dg4, q4, n4, rfl⟩
    refine ⟨trivial, ?_⟩
    have S4 : Inv2 d g (B + 9 + 7 * i) t0 s4 := ⟨S0.ld, S0.lg, S0.gd.trans q4.to2, dg4⟩
    obtain ⟨x4', hx4⟩ : ∃ x4' : Option AV, x4' = some (AV.int (0 + ((i : Nat) : Int))) := ⟨_, rfl⟩
    simp! [← hx4]
    refine gcT_c ?_
    simp! [eq_self]
    refine alike_ok S4 (by omega) T4 Z (by omega) (by omega) hy (by omega) (by omega) (by omega) (by omega) (by omega) (by omega) (by omega) (by omega) fun s5 y5 T5 hy5 dg5 c5 => ?_
    have v1 := saved_v T5.a (i := 2) (σ := [some (.obj d), some (.bl pl), some (.obj (s1.n + 1)), some (.obj (s1.n + 3)), x4']) rfl
    have v2 := saved_v T5.b (i := 3) (σ := [some (.obj d), some (.bl pl), some (.obj (s1.n + 1)), some (.obj (s1.n + 3)), x4']) rfl
    have nn := ne_sv (s := s5) (pl := pl) (x := y5) (W := W)
    simp! [v1, v2, nn]
    refine ⟨c5.clean fun j hj hn => ?_, ?_⟩
    · simp only [List.mem_cons, List.not_mem_nil, or_false] at hj
      rcases hj with rfl | rfl | rfl | rfl | rfl | rfl
      · exact (dg5.cl (by omega)).1
      · exact (dg5.cl (by omega)).2
      · exact T5.a.clw (by omega)
      · exact T5.a.clo _
      · exact T5.b.clw (by omega)
      · exact T5.b.clo _
    have c6 := c5.cut
    have l1 : d < s4.n := by omega
    have l2 : g < s4.n := by omega
    exact ⟨y5, _, ⟨T5.a.cut (by omega) (by omega), T5.b.cut (by omega) (by omega), T5.ww, T5.wo, T5.ow, T5.oo⟩, by omega, (dg5.of (Ch.cutc l1) (Ch.cutc l2)).mono (by omega), q4.wk c6 (fun j hj => by
      simp only [List.mem_cons, List.not_mem_nil, or_false] at hj ⊢
      omega), n4, rfl⟩
  · rintro σ s4 ⟨y, x4, T4, hy, dg4, q4, n4, rfl⟩
    refine ⟨trivial, ?_⟩
    simp! [eq_self]
    exact ⟨q4.to2, dg4.cl lg, q _ ((S0.back dg4).mono (by omega)) (Gd2.back d g s)⟩
end
end Pf
set_option Elab.async false
set_option linter.all false
set_option maxRecDepth 100000
set_option maxHeartbeats 1000000
set_option exponentiation.threshold 3000
namespace Pf
open PySem Ab
local macro_rules | `(tactic| simp! [$xs,*]) => `(tactic| try simp (config := {maxSteps := 1000000}) only [k_bind, k_Kb, k_st, k_Kst, k_Rst, k_thn, k_loop, k_fn, k_forget, k_clr, k_noX, k_try, k_stuck, k_Astuck, d_thn_nx, d_thn_bk, d_thn_ct, d_thn_rt, d_thn_er, d_lp_nx, d_lp_bk, d_lp_ct, d_lp_rt, d_lp_er, d_fg_nx, d_fg_bk, d_fg_ct, d_fg_rt, d_fg_er, d_cl_nx, d_cl_bk, d_cl_ct, d_cl_rt, d_cl_er, d_tr_nx, d_tr_bk, d_tr_ct, d_tr_rt, d_tr_er, d_nX_nx, d_nX_bk, d_nX_ct, d_nX_rt, d_nX_er, d_fn_nx, d_fn_bk, d_fn_ct, d_fn_rt, d_fn_er, A_nx, A_bk, A_ct, A_rt, A_err, post_ok, post_err, post_noErr, e_op, e_opK, e_un, e_cb, e_nil, e_c, e_cons, e_consK, e_consK2, e_and, e_or, e_andK, e_orK, e_not, e_notK, e_test, e_testK, e_tand, e_tandK, e_tor, e_torK, e_tnot, e_tnotK, e_yes, e_if, e_ifK, e_ch, e_chK1, e_chK2, e_chK3, e_tup, e_tupK, e_lst, e_lstK, e_newL, e_call, e_callK, e_meth, e_methK, e_methK2, e_prop, e_propK, e_make, e_makeK, e_makeK2, e_makeV, e_sm, e_smK, e_smK2, e_cm, e_cmK, e_cmK2, e_sl, e_slK1, e_slK2, e_slK3, e_part, e_partK, e_nopart, e_rev, e_bm, e_bmK, e_pr, e_pr0, e_prK1, e_prK2, e_prK3, e_disp, e_dnew, e_own, e_ownK, e_lc, e_lcK, e_iter, e_rng1, e_rng1K, e_rng2, e_rng2K, e_enum, s_drop, s_dropK, s_ret, s_retK, s_retN, s_next, s_break, s_cont, s_seq, s_if, s_ifK, s_asg, s_asgK, s_name, s_par, s_parK, s_par3, s_parK3, s_gnil, s_gcons, s_gtup, s_for, s_forK, s_raise, s_raiseK, s_sf, s_sfK1, s_sfK2, s_dp, s_dpK1, s_dpK2, s_dpK3, s_forget, s_def, s_fld, e_enumU, e_enumUT, e_match, e_mcase, e_mcase2, e_many, e_mnil, e_lcX, e_lcXK, e_get2, e_methS, e_methS1, e_methS2, s_augS, s_augS1, gEqS_int, gEqS_str, gEqS_bl, gEqS_tup, e_fmt, e_js, e_jsC, e_jsN, e_join, e_joinK, eq_self, beq_self_eq_true, k_grd, k_grdS, k_ite, k_Aite, true_implies, false_implies, implies_true, List.map_cons, List.map_nil, List.nil_append, List.cons_append, List.append_nil, List.replicate_succ, List.replicate_zero, List.getElem?_cons_zero, List.getElem?_cons_succ, List.length_cons, List.length_nil, List.set_cons_zero, List.set_cons_succ, ↓reduceIte, ↓reduceDIte, Nat.reduceAdd, Nat.reduceLeDiff, Nat.reduceEqDiff, Nat.zero_add, if_true, if_false, aVar, gMinus_int, gLt_int, gLe_int, gGt_int, gGe_int, gEq_int, gNe_int, gEq_str, gNe_str, gEq_bl, gNe_bl, gXor_int, gAnd_int, gOr_int, gAdd_int, gIsN_non, gNotN_non, gIsB_bl, gNotB_bl, gNeg_int, gLen_tup, gLen_scr, gMax2_int, gMin2_int, gBits_int, gSl_tup, gSl_scr, Bool.not_true, Bool.not_false, Bool.true_eq_false, Bool.false_eq_true, Bool.true_and, Bool.false_and, Bool.and_true, Bool.and_false, Bool.true_or, Bool.false_or, decide_true, decide_false, and_self, and_true, true_and, and_false, false_and, not_true_eq_false, not_false_eq_true, reduceCtorEq, kz, z1, z2, z3, z4, z5, z6, z7, z8, z9, z10, z11, z12, z13, z14, z15, z16, isCls, isNon, aForget, aHand, toKey, keysA, iterOf_tup, iterOf_scr, oNx_some, noErr_ok, decide_eq_true_eq, decide_eq_false_iff_not, Sto.new_n, Sto.set_n, Sto.set_at, Sto.new_at, Nat.zero_le, aMakeV, Cl_non, Cl_bl, Cl_int, Cl_str, Cl_cls, Cl_obj, Cl_tup, ClL_nil, ClL_cons, $xs,*])
local macro_rules | `(tactic| simp! only [$xs,*]) => `(tactic| simp only [e_op, e_opK, e_un, e_cb, e_nil, e_c, e_cons, e_consK, e_consK2, e_and, e_or, e_andK, e_orK, e_not, e_notK, e_test, e_testK, e_tand, e_tandK, e_tor, e_torK, e_tnot, e_tnotK, e_yes, e_if, e_ifK, e_ch, e_chK1, e_chK2, e_chK3, e_tup, e_tupK, e_lst, e_lstK, e_newL, e_call, e_callK, e_meth, e_methK, e_methK2, e_prop, e_propK, e_make, e_makeK, e_makeK2, e_makeV, e_sm, e_smK, e_smK2, e_cm, e_cmK, e_cmK2, e_sl, e_slK1, e_slK2, e_slK3, e_part, e_partK, e_nopart, e_rev, e_bm, e_bmK, e_pr, e_pr0, e_prK1, e_prK2, e_prK3, e_disp, e_dnew, e_own, e_ownK, e_lc, e_lcK, e_iter, e_rng1, e_rng1K, e_rng2, e_rng2K, e_enum, s_drop, s_dropK, s_ret, s_retK, s_retN, s_next, s_break, s_cont, s_seq, s_if, s_ifK, s_asg, s_asgK, s_name, s_par, s_parK, s_par3, s_parK3, s_gnil, s_gcons, s_gtup, s_for, s_forK, s_raise, s_raiseK, s_sf, s_sfK1, s_sfK2, s_dp, s_dpK1, s_dpK2, s_dpK3, s_forget, s_def, s_fld, e_enumU, e_enumUT, e_match, e_mcase, e_mcase2, e_many, e_mnil, e_lcX, e_lcXK, e_get2, e_methS, e_methS1, e_methS2, s_augS, s_augS1, gEqS_int, gEqS_str, gEqS_bl, gEqS_tup, e_fmt, e_js, e_jsC, e_jsN, e_join, e_joinK, eq_self, beq_self_eq_true, true_implies, false_implies, implies_true, List.map_cons, List.map_nil, List.nil_append, List.cons_append, List.append_nil, List.replicate_succ, List.replicate_zero, List.getElem?_cons_zero, List.getElem?_cons_succ, List.length_cons, List.length_nil, List.set_cons_zero, List.set_cons_succ, ↓reduceIte, ↓reduceDIte, Nat.reduceAdd, Nat.reduceLeDiff, Nat.reduceEqDiff, Nat.zero_add, if_true, if_false, aVar, gMinus_int, gLt_int, gLe_int, gGt_int, gGe_int, gEq_int, gNe_int, gEq_str, gNe_str, gEq_bl, gNe_bl, gXor_int, gAnd_int, gOr_int, gAdd_int, gIsN_non, gNotN_non, gIsB_bl, gNotB_bl, gNeg_int, gLen_tup, gLen_scr, gMax2_int, gMin2_int, gBits_int, gSl_tup, gSl_scr, Bool.not_true, Bool.not_false, Bool.true_eq_false, Bool.false_eq_true, Bool.true_and, Bool.false_and, Bool.and_true, Bool.and_false, Bool.true_or, Bool.false_or, decide_true, decide_false, and_self, and_true, true_and, and_false, false_and, not_true_eq_false, not_false_eq_true, reduceCtorEq, kz, z1, z2, z3, z4, z5, z6, z7, z8, z9, z10, z11, z12, z13, z14, z15, z16, isCls, isNon, aForget, aHand, toKey, keysA, iterOf_tup, iterOf_scr, oNx_some, noErr_ok, decide_eq_true_eq, decide_eq_false_iff_not, Sto.new_n, Sto.set_n, Sto.set_at, Sto.new_at, Nat.zero_le, aMakeV, Cl_non, Cl_bl, Cl_int, Cl_str, Cl_cls, Cl_obj, Cl_tup, ClL_nil, ClL_cons, grd_pos, grdS_pos, Res.bind_ok, Res.bind_err, Res.st_ok, Res.st_err, SRes.thn_nx, SRes.thn_rt, SRes.thn_err, SRes.fn_rt, SRes.fn_nx, SRes.fn_err, SRes.loop_nx, SRes.loop_rt, SRes.loop_err, SRes.loop_ct, SRes.loop_bk, SRes.forget_nx, SRes.forget_rt, SRes.forget_err, SRes.clr_nx, SRes.clr_rt, SRes.noX_nx, SRes.noX_rt, aTry, sizeLine_ge, $xs,*])
theorem ints_d {s : Sto} (l : List Nat) : ∀ x ∈ iN l, ∃ d, dat 11 s x = some d ∧ PyData.canLay0 d = true ∧ d.depth ≤ 3 := fun x hx => by
  obtain ⟨n, hn, rfl⟩ := List.mem_map.mp hx
  exact int_d (n := 10) _
theorem eq_ints {s : Sto} {l : List Nat} {a b : Nat} (ha : s.c a = .lst (iN l)) (hb : s.c b = .lst (iN l)) : gEq (.obj a) (.obj b) s = .ok (.bl true) s := gEq_b (list_same ha hb (ints_d l))
theorem VW_at (W : List Nat) (t k : Nat) : ∀ N, wf (t + k) ≤ N → VW W N / 2 ^ t % 2 ^ k = VW W (wf (t + k)) / 2 ^ t % 2 ^ k
  | 0, h => by rw [show wf (t + k) = 0 by omega]
  | N + 1, h => by
    by_cases e : wf (t + k) = N + 1
    · rw [e]
    · have w := wf_le (t + k)
      rw [← VW_at W t k N (by omega), VW_next W (show t ≤ 32 * N by omega)]
      rw [show 2 ^ (32 * N - t) = 2 ^ (32 * N - t - k) * 2 ^ k by rw [← Nat.pow_add]; congr 1; omega, ← Nat.mul_assoc, Nat.add_mul_mod_self_right]
theorem pvL_shift (W : List Nat) (m k : Nat) : ∀ i, 32 * i ≤ k → VW W (m + i) = VW W m + pvL W m k i * 2 ^ (32 * m)
  | 0, _ => by show VW W m = VW W m + 0 * _; rw [Nat.zero_mul, Nat.add_zero]
  | i + 1, h => by
    show VW W (m + i) + wd W (m + i) * 2 ^ (32 * (m + i)) = VW W m + (pvL W m k i + (if 32 * (i + 1) ≤ k then wd W (m + i) else wd W (m + i) / 2 ^ (32 * (i + 1) - k)) * 2 ^ (32 * i)) * 2 ^ (32 * m)
    rw [if_pos h, pvL_shift W m k i (by omega), Nat.add_mul, Nat.mul_assoc, ← Nat.pow_add, show 32 * i + 32 * m = 32 * (m + i) by omega, Nat.add_assoc]
theorem bv_full (W : List Nat) (m n : Nat) : VW W (m + n) = VW W m + bv false W m (32 * n) * 2 ^ (32 * m) := by
  have w : wf (32 * n) = n := by unfold wf; omega
  show _ = VW W m + pvL W m (32 * n) (wf (32 * n)) * _
  rw [w]
  exact pvL_shift W m (32 * n) n (Nat.le_refl _)
theorem VW_sum (W : List Nat) : ∀ n, ((List.range n).map fun j => wd W j * 2 ^ (32 * j)).sum = VW W n
  | 0 => rfl
  | n + 1 => by
    rw [List.range_succ, List.map_append, List.sum_append, VW_sum W n]
    simp [VW]
theorem iN_app' (a b : List Nat) : iN a ++ iN b = iN (a ++ b) := by unfold iN; rw [List.map_append]
theorem and1K (a : Nat) : Builtin.bitAnd ((a : Nat) : Int) 1 = ((a % 2 : Nat) : Int) := by
  have := PySem.W.kbt_mask ((a : Nat) : Int) 1
  exact this
theorem pool_A {s : Sto} {o w x z v : Nat} {W : List Nat} (D : At s o w true W x) (hz : 32 * wf x - x = z) (hv : VW W (wf x) / 2 ^ x = v) : F_PooledDraws_pool [.obj w] s = .ok (.tup [.int (z : Nat), .int (v : Nat)]) s := by
  refine gc0 ?_ (by simp)
  have hw : s.c w = pdC o (wf x) (32 * wf x - x) (VW W (wf x) / 2 ^ x) := D.hw
  rw [hz, hv] at hw
  have a3 := pf3 (cs := ["PooledDraws"]) hw (by simp)
  have a4 := pf4 (cs := ["PooledDraws"]) hw (by simp)
  simp! only [B_PooledDraws_pool, a3, a4]
theorem used_A {s : Sto} {o w x : Nat} {W : List Nat} (D : At s o w true W x) : F_Draws_words_used [.obj w] s = .ok (.int (wf x : Nat)) s := by
  refine gc0 ?_ (by simp)
  have hw : s.c w = pdC o (wf x) (32 * wf x - x) (VW W (wf x) / 2 ^ x) := D.hw
  have a := pf2 (cs := ["Draws", "PooledDraws"]) hw (by simp)
  simp! only [B_Draws_words_used, a]
theorem ne_00 (s : Sto) : gNe (.tup [.int 0, .int 0]) (.tup [.int 0, .int 0]) s = .ok (.bl false) s := gNe_b (eqB_tup (tup_d (n := 11) (m := 2) fun y hy => by
  simp only [List.mem_cons, List.not_mem_nil, or_false, or_self] at hy
  rw [hy]
  exact int_d (n := 10) _))
section
variable {P : AV → Sto → Prop} {R : String → List Str → List AV → Sto → Prop} {d g B : Nat} {s t0 : Sto}
theorem wi_digits (S0 : Inv2 d g B t0 s) (hB : B ≤ 9000000) (q : ∀ s', Inv2 d g (B + 100) t0 s' → Gd2 d g s s' → P (.bl true) s') : (F__law_digits_right [.obj d] s).Post P R := by
  unfold F__law_digits_right
  have ld := S0.lsd
  have lg := S0.lsg
  have dn := S0.ok.ne
  have tn : t0.n ≤ s.n := S0.gd.n
  refine gcF_d2 ld lg ?_
  simp! [B__law_digits_right, show -(2 ^ 62) ≤ (5 : Int) ∧ (5 : Int) < 2 ^ 62 from by decide]
  refine lc_P (fun i acc s' => ∃ l : List Nat, acc = iN l ∧ l.length = i ∧ (∀ n ∈ l, n < 4294967296) ∧ Inv2 d g (B + i) t0 s' ∧ Gd2 d g s s' ∧ s.n < s'.n) ⟨[], rfl, rfl, (fun n h => by cases h), S0.new, (Gd2.refl d g s).new, Nat.lt_succ_self _⟩ Sto.new_at (by rw [rngA_len]; decide) ?_ ?_
  · rintro i x acc s1 hx ⟨l, rfl, hl, hk, S1, g1, n1⟩ hc
    refine ⟨trivial, ?_⟩
    simp! [wipeA]
    refine wi_next S1 (by
      obtain ⟨hi, _⟩ := rngA_get hx
      have hi : i < 5 := hi
      omega) (by decide) (by decide) fun m s2 a2 b2 S2 g2 => ?_
    obtain ⟨m, rfl⟩ := Int.eq_ofNat_of_zero_le a2
    refine ⟨(g2.c _ n1 (by omega) (by omega)).trans hc, l ++ [m], iN_app l m, by simp [hl], fun n h => ?_, S2.set_new tn, (g1.trans g2).setn (Nat.le_refl _), Nat.lt_of_lt_of_le n1 g2.n⟩
    rcases List.mem_append.mp h with h | h
    · exact hk n h
    · rw [List.mem_singleton.mp h]; omega
  rintro acc s1 ⟨W, rfl, hl, hk, S1, g1, n1⟩ hc1
  rw [rngA_len] at hl S1
  have hl : W.length = 5 := hl
  have S1 : Inv2 d g (B + 5) t0 s1 := S1
  have hr : RowW W := ⟨hk, by omega⟩
  have tu := gTuple_seq (seqOf_obj hc1)
  have q1 : Ch [d, g] s s1 := Ch.gd2 g1 (by simp) (by simp)
  have dg1 := S1.ok
  clear hc1
  obtain ⟨s2, i1, j1, A1, n2, c2⟩ := mk_ok hr false s1
  obtain ⟨s3, i2, j2, A2, n3, c3⟩ := mk_ok hr true s2
  have j1 : F_Draws___init__ [.obj (s1.n + 1), .obj s1.n] ((s1.new (scC W 0)).new (.ins "Draws" [])) = .ok .non s2 := j1
  have j2 : F_PooledDraws___init__ [.obj (s2.n + 1), .obj s2.n] ((s2.new (scC W 0)).new (.ins "PooledDraws" [])) = .ok .non s3 := j2
  refine ⟨trivial, ?_⟩
  simp! [tu, i1, j1, i2, j2]
  have c13 : Ch [] s1 s3 := c2.trans c3
  have q3 : Ch [d, g] s s3 := q1.wk c13 (fun _ h => by cases h)
  have S3 : Inv2 d g (B + 5) t0 s3 := ⟨S0.ld, S0.lg, S0.gd.trans q3.to2, dg1.of (c13.c d (by omega) (by simp)) (c13.c g (by omega) (by simp))⟩
  refine wi_next S3 (by omega) (by decide) (by decide) fun m s4 a4 b4 S4 g4 => ?_
  obtain ⟨m, rfl⟩ := Int.eq_ofNat_of_zero_le a4
  have n4 := g4.n
  have c34 : Ch [d, g] s3 s4 := Ch.gd2 g4 (by simp) (by simp)
  have q4 := q3.trans c34
  have A4 := (A1.ch c3 (by simp) (by simp)).ch c34 (by simp only [List.mem_cons, List.not_mem_nil, or_false, not_or]; omega) (by simp only [List.mem_cons, List.not_mem_nil, or_false, not_or]; omega)
  have B4 := A2.ch c34 (by simp only [List.mem_cons, List.not_mem_nil, or_false, not_or]; omega) (by simp only [List.mem_cons, List.not_mem_nil, or_false, not_or]; omega)
  have dg4 := S4.ok
  clear S1 S3 S4 g1 g4 i1 i2 j1 j2 A1 A2 tu dg1
  simp! [eq_self]
  refine lc_P (fun i acc s' => acc = iN ((List.range i).map fun j => wd W j * 2 ^ (32 * j)) ∧ Ch [] s4 s' ∧ s4.n < s'.n) ⟨rfl, (Ch.refl _ _).new, Nat.lt_succ_self _⟩ Sto.new_at (by rw [show (enumA (iN W)).length = W.length by simp [enumA]]; omega) ?_ ?_
  · rintro i x acc s5 hx ⟨rfl, c5, n5⟩ hc
    refine ⟨trivial, ?_⟩
    obtain ⟨y, hy, rfl⟩ := enumA_get hx
    obtain ⟨w, hw, rfl⟩ : ∃ w, W[i]? = some w ∧ y = .int (w : Nat) := by
      rw [List.getElem?_map] at hy
      cases h : W[i]? with
      | none => rw [h] at hy; cases hy
      | some w => rw [h] at hy; cases hy; exact ⟨w, rfl, rfl⟩
    have ww : wd W i = w := by
      unfold wd
      rw [List.getD_eq_getElem?_getD, hw]
      rfl
    have wl := wd_lt hr i
    have hi : i < 5 := by rw [← hl]; exact (List.getElem?_eq_some_iff.mp hw).1
    rw [ww] at wl
    have mu : gMul (.int 32) (.int (i : Nat)) s5 = .ok (.int ((32 * i : Nat) : Int)) s5 := (gMul_ok (m := 6) (n := 20) (by decide) (by omega) (by decide)).trans (by rw [Int.natCast_mul]; rfl)
    have sh : gShl (.int (w : Nat)) (.int ((32 * i : Nat) : Int)) s5 = .ok (.int ((w * 2 ^ (32 * i) : Nat) : Int)) s5 := shl_ok (k := 32) wl (by omega)
    simp! [wipeA, mu, sh]
    refine ⟨hc, ?_, c5.setn (Nat.le_refl _), n5⟩
    rw [List.range_succ, List.map_append, ← iN_app']
    show _ = iN _ ++ iN [wd W i * 2 ^ (32 * i)]
    rw [ww]
    rfl
  rintro acc s5 ⟨rfl, c5, n5⟩ hc5
  rw [show (enumA (iN W)).length = 5 by simp [enumA, hl]] at hc5
  refine ⟨trivial, ?_⟩
  have su := sumN hc5
  rw [VW_sum] at su
  simp! [su]
  have A5 := A4.ch c5 (by simp) (by simp)
  have B5 := B4.ch c5 (by simp) (by simp)
  have q5 : Ch [d, g] s s5 := q4.wk c5 (fun _ h => by cases h)
  have dg5 := dg4.of (c5.c d (by omega) (by simp)) (c5.c g (by omega) (by simp))
  clear su hc5
  have V5 : bv false W 0 160 = VW W 5 := by
    have := bv_full W 0 5
    rw [show 32 * 0 = 0 from rfl, Nat.pow_zero, Nat.mul_one, Nat.zero_add] at this
    rw [this]
    show _ = 0 + _
    rw [Nat.zero_add]
  have V5' : bv true W 0 160 = VW W 5 := by
    show VW W (wf (0 + 160)) / 2 ^ 0 % 2 ^ 160 = _
    rw [show wf (0 + 160) = 5 from rfl, Nat.pow_zero, Nat.div_one]
    exact Nat.mod_eq_of_lt (VW_lt hr 5)
  have v1 := same_v A5 (F := F_Draws_bits) (m := "bits") (N := 2) (i := 3) (fr := aCons (aC (.int 160)) aNil) (σ := [some (.obj d), some (.tup (iN W)), none, some (.obj (s1.n + 1)), some (.obj (s2.n + 1)), some (.int (m : Nat)), some (.int (VW W 5 : Nat)), none, none, none, none]) (xs := [.int ((160 : Nat) : Int)]) (by decide) (by decide) (by decide) (by decide) rfl (rfl) rfl
  rw [bitsf_A A5 (k := 160) (by decide) (by show 0 + wf 160 ≤ W.length; rw [hl]; decide), V5] at v1
  have B6 := B5.ch (ch_A (s := s5) (o := s1.n) (w := s1.n + 1) (pl := false) (W := W) (y := nx false 0 160)) (by simp only [List.mem_cons, List.not_mem_nil, or_false, not_or]; omega) (by simp only [List.mem_cons, List.not_mem_nil, or_false, not_or]; omega)
  have v2 := same_v B6 (F := F_Draws_bits) (m := "bits") (N := 2) (i := 4) (fr := aCons (aC (.int 160)) aNil) (σ := [some (.obj d), some (.tup (iN W)), none, some (.obj (s1.n + 1)), some (.obj (s2.n + 1)), some (.int (m : Nat)), some (.int (VW W 5 : Nat)), none, none, none, none]) (xs := [.int ((160 : Nat) : Int)]) (by decide) (by decide) (by decide) (by decide) rfl (rfl) rfl
  rw [bitsf_A B6 (k := 160) (by decide) (by show wf (0 + 160) ≤ W.length; rw [hl]; decide), V5'] at v2
  have A7 := (A5.st (nx false 0 160)).ch (ch_A (o := s2.n) (w := s2.n + 1) (pl := true) (W := W) (y := nx true 0 160)) (by simp only [List.mem_cons, List.not_mem_nil, or_false, not_or]; omega) (by simp only [List.mem_cons, List.not_mem_nil, or_false, not_or]; omega)
  have B7 := B6.st (nx true 0 160)
  have c7 : Ch [s1.n + 1, s1.n, s2.n + 1, s2.n] s5 (stA (stA s5 s1.n (s1.n + 1) false W (nx false 0 160)) s2.n (s2.n + 1) true W (nx true 0 160)) := (ch_A.mono (by simp)).trans (ch_A.mono (by simp))
  have n7 : (stA (stA s5 s1.n (s1.n + 1) false W (nx false 0 160)) s2.n (s2.n + 1) true W (nx true 0 160)).n = s5.n := rfl
  have ip := isI_obj B7.hw
  have po := pool_A B7 (z := 0) (v := 0) (by decide) (by
    show VW W (wf (0 + 160)) / 2 ^ (0 + 160) = 0
    exact Nat.div_eq_of_lt (VW_lt hr 5))
  have ip : isI _ (.obj (s2.n + 1)) "PooledDraws" = true := ip
  generalize stA (stA s5 s1.n (s1.n + 1) false W (nx false 0 160)) s2.n (s2.n + 1) true W (nx true 0 160) = s7 at *
  have po : F_PooledDraws_pool [.obj (s2.n + 1)] s7 = .ok (.tup [.int 0, .int 0]) s7 := po
  refine gcT_c ?_
  simp! [v1, v2, ip, po, ne_00 s7]
  refine ⟨c7.clean fun j hj hn => ?_, ?_⟩
  · simp only [List.mem_cons, List.not_mem_nil, or_false] at hj
    rcases hj with rfl | rfl | rfl | rfl
    · exact A7.clw (by omega)
    · exact A7.clo _
    · exact B7.clw (by omega)
    · exact B7.clo _
  have c8 := c7.cut
  have n8 : (s7.cut s5).n = s5.n := rfl
  generalize s7.cut s5 = s8 at *
  have q8 : Ch [d, g] s s8 := q5.wk c8 (fun j hj => .inr (by simp only [List.mem_cons, List.not_mem_nil, or_false] at hj; omega))
  have dg8 := dg5.of (c8.c d (by omega) (by simp only [List.mem_cons, List.not_mem_nil, or_false, not_or]; omega)) (c8.c g (by omega) (by simp only [List.mem_cons, List.not_mem_nil, or_false, not_or]; omega))
  clear v1 v2 A4 A5 A7 B4 B5 B6 B7 c7 c8 ip po n7
  obtain ⟨s9, i1, j1, A1, n9, c9⟩ := mk_ok hr false s8
  obtain ⟨sa, i2, j2, A2, na, ca⟩ := mk_ok hr true s9
  have j1 : F_Draws___init__ [.obj (s8.n + 1), .obj s8.n] ((s8.new (scC W 0)).new (.ins "Draws" [])) = .ok .non s9 := j1
  have j2 : F_PooledDraws___init__ [.obj (s9.n + 1), .obj s9.n] ((s9.new (scC W 0)).new (.ins "PooledDraws" [])) = .ok .non sa := j2
  simp! [i1, j1, i2, j2]
  clear i1 j1 i2 j2
  have A3 := A1.ch ca (by simp) (by simp)
  have c8a : Ch [] s8 sa := c9.trans ca
  have qa : Ch [d, g] s sa := q8.wk c8a (fun _ h => by cases h)
  have dga := dg8.of (c8a.c d (by omega) (by simp)) (c8a.c g (by omega) (by simp))
  have mu : ∀ s, gMul (.int 32) (.int (m : Nat)) s = .ok (.int ((32 * m : Nat) : Int)) s := fun s => (gMul_ok (m := 6) (n := 20) (by decide) (by omega) (by decide)).trans (by rw [Int.natCast_mul]; rfl)
  have sb : (160 : Int) - ((32 * m : Nat) : Int) = ((160 - 32 * m : Nat) : Int) := by omega
  have v1 := same_v A3 (F := F_Draws_bits) (m := "bits") (N := 2) (i := 3) (fr := aCons (aOp gMul (aC (.int 32)) (aVar 5)) aNil) (σ := [some (.obj d), some (.tup (iN W)), none, some (.obj (s8.n + 1)), some (.obj (s9.n + 1)), some (.int (m : Nat)), some (.int (VW W 5 : Nat)), none, none, none, none]) (xs := [.int ((32 * m : Nat) : Int)]) (by decide) (by decide) (by decide) (by decide) rfl (by simp! only [mu]) rfl
  rw [bitsf_A A3 (k := 32 * m) (by omega) (by show 0 + wf (32 * m) ≤ W.length; unfold wf; omega)] at v1
  have xm : nx false 0 (32 * m) = m := by show 0 + wf (32 * m) = m; unfold wf; omega
  rw [xm] at v1
  have v2 := same_v (A3.st m) (F := F_Draws_bits) (m := "bits") (N := 2) (i := 3) (fr := aCons (aOp gMinus (aC (.int 160)) (aOp gMul (aC (.int 32)) (aVar 5))) aNil) (σ := [some (.obj d), some (.tup (iN W)), none, some (.obj (s8.n + 1)), some (.obj (s9.n + 1)), some (.int (m : Nat)), some (.int (VW W 5 : Nat)), none, none, none, none]) (xs := [.int ((160 - 32 * m : Nat) : Int)]) (by decide) (by decide) (by decide) (by decide) rfl (by simp! only [mu, sb]) rfl
  rw [bitsf_A (A3.st m) (k := 160 - 32 * m) (by omega) (by show m + wf (160 - 32 * m) ≤ W.length; unfold wf; omega), stA_stA A3] at v2
  have e0 : VW W m = bv false W 0 (32 * m) := by
    have := bv_full W 0 m
    rw [show 32 * 0 = 0 from rfl, Nat.pow_zero, Nat.mul_one, Nat.zero_add] at this
    rw [this]
    show 0 + _ = _
    rw [Nat.zero_add]
  have e1 : VW W 5 = bv false W 0 (32 * m) + bv false W m (160 - 32 * m) * 2 ^ (32 * m) := by
    have := bv_full W m (5 - m)
    rw [show m + (5 - m) = 5 by omega, show 32 * (5 - m) = 160 - 32 * m by omega, e0] at this
    exact this
  have bl := bv_lt hr false m (160 - 32 * m)
  have bl : bv false W m (160 - 32 * m) < 2 ^ 160 := Nat.lt_of_lt_of_le bl (Nat.pow_le_pow_right (by decide) (by omega))
  obtain ⟨b1, hb1⟩ : ∃ b1, b1 = bv false W 0 (32 * m) := ⟨_, rfl⟩
  obtain ⟨b2, hb2⟩ : ∃ b2, b2 = bv false W m (160 - 32 * m) := ⟨_, rfl⟩
  rw [← hb1] at v1 e1
  rw [← hb2] at v2 e1 bl
  have sh : ∀ s, gShl (.int (b2 : Nat)) (.int ((32 * m : Nat) : Int)) s = .ok (.int ((b2 * 2 ^ (32 * m) : Nat) : Int)) s := fun s => shl_ok (k := 160) bl (by omega)
  have de : decide (((b1 : Nat) : Int) + ((b2 * 2 ^ (32 * m) : Nat) : Int) = ((VW W 5 : Nat) : Int)) = true := decide_eq_true (by rw [e1]; omega)
  have cb : Ch [s8.n + 1, s8.n] sa (stA sa s8.n (s8.n + 1) false W (nx false m (160 - 32 * m))) := ch_A
  have A4 := A3.st (nx false m (160 - 32 * m))
  have B4 := A2.ch cb (by simp only [List.mem_cons, List.not_mem_nil, or_false, not_or]; omega) (by simp only [List.mem_cons, List.not_mem_nil, or_false, not_or]; omega)
  have nb : (stA sa s8.n (s8.n + 1) false W (nx false m (160 - 32 * m))).n = sa.n := rfl
  generalize nx false m (160 - 32 * m) = xx at *
  generalize hsb : stA sa s8.n (s8.n + 1) false W xx = sB at *
  refine gcT_c ?_
  simp! [v1, v2, mu, sh, de]
  refine ⟨cb.clean fun j hj hn => ?_, ?_⟩
  · simp only [List.mem_cons, List.not_mem_nil, or_false] at hj
    rcases hj with rfl | rfl
    · exact A4.clw (by omega)
    · exact A4.clo _
  have cc := cb.cut
  have nc : (sB.cut sa).n = sa.n := rfl
  have Bc := B4.cut (s := sa) (by omega) (by omega)
  generalize sB.cut sa = sC at *
  have qc : Ch [d, g] s sC := qa.wk cc (fun j hj => .inr (by simp only [List.mem_cons, List.not_mem_nil, or_false] at hj; omega))
  have dgc := dga.of (cc.c d (by omega) (by simp only [List.mem_cons, List.not_mem_nil, or_false, not_or]; omega)) (cc.c g (by omega) (by simp only [List.mem_cons, List.not_mem_nil, or_false, not_or]; omega))
  clear v1 v2 mu sh de e0 e1 hb1 hb2 bl A1 A2 A3 A4 B4 cb cc hsb
  have SC : Inv2 d g (B + 6) t0 sC := ⟨S0.ld, S0.lg, S0.gd.trans qc.to2, dgc⟩
  simp! [eq_self]
  refine wi_next SC (by omega) (by decide) (by decide) fun c sD aD bD SD gD => ?_
  obtain ⟨c, rfl⟩ := Int.eq_ofNat_of_zero_le aD
  have nD := gD.n
  have cD : Ch [d, g] sC sD := Ch.gd2 gD (by simp) (by simp)
  have BD := Bc.ch cD (by simp only [List.mem_cons, List.not_mem_nil, or_false, not_or]; omega) (by simp only [List.mem_cons, List.not_mem_nil, or_false, not_or]; omega)
  have qD := qc.trans cD
  have dgD := SD.ok
  clear SC SD gD Bc
  simp! [show -(2 ^ 62) ≤ ((c : Nat) : Int) ∧ ((c : Nat) : Int) < 2 ^ 62 from by omega]
  refine lc_P (fun i acc s' => acc = iN ((List.range i).map fun j => VW W 5 / 2 ^ j % 2) ∧ At s' s9.n (s9.n + 1) true W i ∧ Ch [s9.n + 1, s9.n] sD s' ∧ sD.n < s'.n) ⟨rfl, BD.ch ((Ch.refl [] sD).new) (by simp) (by simp), (Ch.refl _ _).new, Nat.lt_succ_self _⟩ Sto.new_at (by rw [rngA_len]; show (c : Nat) ≤ 1000; omega) ?_ ?_
  · rintro i x acc sE hx ⟨rfl, BE, cE, nE⟩ hc
    refine ⟨trivial, ?_⟩
    obtain ⟨hi, rfl⟩ := rngA_get hx
    have hi : i < c := hi
    have v := same_v BE (F := F_Draws_bits) (m := "bits") (N := 2) (i := 4) (fr := aCons (aC (.int 1)) aNil) (σ := [some (.obj d), some (.tup (iN W)), some (.int (0 + ((i : Nat) : Int))), some (.obj (s8.n + 1)), some (.obj (s9.n + 1)), some (.int (m : Nat)), some (.int (VW W 5 : Nat)), none, none, some (.int (c : Nat)), none]) (xs := [.int ((1 : Nat) : Int)]) (by decide) (by decide) (by decide) (by decide) rfl (rfl) rfl
    rw [bitsf_A BE (k := 1) (by decide) (by show wf (i + 1) ≤ W.length; unfold wf; omega)] at v
    have bb : bv true W i 1 = VW W 5 / 2 ^ i % 2 := (VW_at W i 1 5 (by unfold wf; omega)).symm
    rw [bb] at v
    obtain ⟨x2, hx2⟩ : ∃ x2 : Option AV, x2 = some (.int (0 + ((i : Nat) : Int))) := ⟨_, rfl⟩
    rw [← hx2] at v
    simp! [wipeA, ← hx2, v]
    have ce : Ch [s9.n + 1, s9.n] sE (stA sE s9.n (s9.n + 1) true W (nx true i 1)) := ch_A
    refine ⟨(ce.c _ nE (by simp only [List.mem_cons, List.not_mem_nil, or_false, not_or]; omega)).trans hc, ?_, (BE.st (i + 1)).of (Sto.set_ne (by omega)) (Sto.set_ne (by omega)) (Nat.le_refl _), (cE.trans ce).setn (Nat.le_refl _), nE⟩
    rw [List.range_succ, List.map_append, ← iN_app']
    rfl
  rintro acc sE ⟨rfl, BE, cE, nE⟩ hcE
  have hlen : (rngA 0 (Int.toNat ((c : Nat) : Int))).length = c := by rw [rngA_len]; rfl
  rw [hlen] at BE hcE
  refine ⟨trivial, ?_⟩
  simp! [show -(2 ^ 62) ≤ ((c : Nat) : Int) ∧ ((c : Nat) : Int) < 2 ^ 62 from by omega]
  refine lc_P (fun i acc s' => acc = iN ((List.range i).map fun j => VW W 5 / 2 ^ j % 2) ∧ Ch [] sE s' ∧ sE.n < s'.n) ⟨rfl, (Ch.refl _ _).new, Nat.lt_succ_self _⟩ Sto.new_at (by rw [hlen]; omega) ?_ ?_
  · rintro i x acc sF hx ⟨rfl, cF, nF⟩ hc
    refine ⟨trivial, ?_⟩
    obtain ⟨hi, rfl⟩ := rngA_get hx
    have sr := shrNp (a := VW W 5) (i := i) sF
    simp! [wipeA, show (0 : Int) + ((i : Nat) : Int) = ((i : Nat) : Int) from by omega, sr, and1K]
    refine ⟨hc, ?_, cF.setn (Nat.le_refl _), nF⟩
    rw [List.range_succ, List.map_append, ← iN_app']
    rfl
  rintro acc sF ⟨rfl, cF, nF⟩ hcF
  rw [hlen] at hcF
  refine ⟨trivial, ?_⟩
  have BF := BE.ch cF (by simp) (by simp)
  have us := used_A BF
  have uv : ∀ σ, aVar 4 σ sF = .ok (.obj (s9.n + 1)) sF → aVirtP [("Draws", F_Draws_words_used), ("PooledDraws", F_Draws_words_used)] (aVar 4) σ sF = .ok (.int (wf c : Nat)) sF := fun σ e => by
    obtain ⟨fs, hc, hm⟩ := BF.cell
    rw [e_virtP (F := F_Draws_words_used) e (insAt_obj hc) rfl, us]
    rfl
  have uv := uv [some (.obj d), some (.tup (iN W)), none, some (.obj (s8.n + 1)), some (.obj (s9.n + 1)), some (.int (m : Nat)), some (.int (VW W 5 : Nat)), none, none, some (.int (c : Nat)), some (.obj sD.n)] rfl
  have fd : gFdiv (.int (((c : Nat) : Int) + 31)) (.int 32) sF = .ok (.int (wf c : Nat)) sF := by
    rw [gFdiv_int ⟨by omega, by decide⟩]
    congr 2
  have ee := eq_ints ((cF.c _ nE (by simp)).trans hcE) hcF
  simp! [ee, uv, fd]
  have lF : d < sF.n ∧ g < sF.n := by
    have := cF.n
    have := cE.n
    omega
  have qE : Ch [d, g] s sE := qD.wk cE (fun j hj => .inr (by simp only [List.mem_cons, List.not_mem_nil, or_false] at hj; omega))
  have qF : Ch [d, g] s sF := qE.wk cF (fun _ h => by cases h)
  have dgE := dgD.of (cE.c d (by omega) (by simp only [List.mem_cons, List.not_mem_nil, or_false, not_or]; omega)) (cE.c g (by omega) (by simp only [List.mem_cons, List.not_mem_nil, or_false, not_or]; omega))
  have dgF := dgE.of (cF.c d (by have := cE.n; omega) (by simp)) (cF.c g (by have := cE.n; omega) (by simp))
  exact ⟨qF.to2, dgF.cl lg, q _ ((S0.back dgF).mono (by omega)) (Gd2.back d g s)⟩
end
end Pf
set_option Elab.async false
set_option linter.all false
set_option maxRecDepth 100000
set_option maxHeartbeats 1000000
set_option exponentiation.threshold 3000
namespace Pf
open PySem Ab
local macro_rules | `(tactic| simp! [$xs,*]) => `(tactic| try simp (config := {maxSteps := 1000000}) only [k_bind, k_Kb, k_st, k_Kst, k_Rst, k_thn, k_loop, k_fn, k_forget, k_clr, k_noX, k_try, k_stuck, k_Astuck, d_thn_nx, d_thn_bk, d_thn_ct, d_thn_rt, d_thn_er, d_lp_nx, d_lp_bk, d_lp_ct, d_lp_rt, d_lp_er, d_fg_nx, d_fg_bk, d_fg_ct, d_fg_rt, d_fg_er, d_cl_nx, d_cl_bk, d_cl_ct, d_cl_rt, d_cl_er, d_tr_nx, d_tr_bk, d_tr_ct, d_tr_rt, d_tr_er, d_nX_nx, d_nX_bk, d_nX_ct, d_nX_rt, d_nX_er, d_fn_nx, d_fn_bk, d_fn_ct, d_fn_rt, d_fn_er, A_nx, A_bk, A_ct, A_rt, A_err, post_ok, post_err, post_noErr, e_op, e_opK, e_un, e_cb, e_nil, e_c, e_cons, e_consK, e_consK2, e_and, e_or, e_andK, e_orK, e_not, e_notK, e_test, e_testK, e_tand, e_tandK, e_tor, e_torK, e_tnot, e_tnotK, e_yes, e_if, e_ifK, e_ch, e_chK1, e_chK2, e_chK3, e_tup, e_tupK, e_lst, e_lstK, e_newL, e_call, e_callK, e_meth, e_methK, e_methK2, e_prop, e_propK, e_make, e_makeK, e_makeK2, e_makeV, e_sm, e_smK, e_smK2, e_cm, e_cmK, e_cmK2, e_sl, e_slK1, e_slK2, e_slK3, e_part, e_partK, e_nopart, e_rev, e_bm, e_bmK, e_pr, e_pr0, e_prK1, e_prK2, e_prK3, e_disp, e_dnew, e_own, e_ownK, e_lc, e_lcK, e_iter, e_rng1, e_rng1K, e_rng2, e_rng2K, e_enum, s_drop, s_dropK, s_ret, s_retK, s_retN, s_next, s_break, s_cont, s_seq, s_if, s_ifK, s_asg, s_asgK, s_name, s_par, s_parK, s_par3, s_parK3, s_gnil, s_gcons, s_gtup, s_for, s_forK, s_raise, s_raiseK, s_sf, s_sfK1, s_sfK2, s_dp, s_dpK1, s_dpK2, s_dpK3, s_forget, s_def, s_fld, e_enumU, e_enumUT, e_match, e_mcase, e_mcase2, e_many, e_mnil, e_lcX, e_lcXK, e_get2, e_methS, e_methS1, e_methS2, s_augS, s_augS1, gEqS_int, gEqS_str, gEqS_bl, gEqS_tup, e_fmt, e_js, e_jsC, e_jsN, e_join, e_joinK, eq_self, beq_self_eq_true, k_grd, k_grdS, k_ite, k_Aite, true_implies, false_implies, implies_true, List.map_cons, List.map_nil, List.nil_append, List.cons_append, List.append_nil, List.replicate_succ, List.replicate_zero, List.getElem?_cons_zero, List.getElem?_cons_succ, List.length_cons, List.length_nil, List.set_cons_zero, List.set_cons_succ, ↓reduceIte, ↓reduceDIte, Nat.reduceAdd, Nat.reduceLeDiff, Nat.reduceEqDiff, Nat.zero_add, if_true, if_false, aVar, gMinus_int, gLt_int, gLe_int, gGt_int, gGe_int, gEq_int, gNe_int, gEq_str, gNe_str, gEq_bl, gNe_bl, gXor_int, gAnd_int, gOr_int, gAdd_int, gIsN_non, gNotN_non, gIsB_bl, gNotB_bl, gNeg_int, gLen_tup, gLen_scr, gMax2_int, gMin2_int, gBits_int, gSl_tup, gSl_scr, Bool.not_true, Bool.not_false, Bool.true_eq_false, Bool.false_eq_true, Bool.true_and, Bool.false_and, Bool.and_true, Bool.and_false, Bool.true_or, Bool.false_or, decide_true, decide_false, and_self, and_true, true_and, and_false, false_and, not_true_eq_false, not_false_eq_true, reduceCtorEq, kz, z1, z2, z3, z4, z5, z6, z7, z8, z9, z10, z11, z12, z13, z14, z15, z16, isCls, isNon, aForget, aHand, toKey, keysA, iterOf_tup, iterOf_scr, oNx_some, noErr_ok, decide_eq_true_eq, decide_eq_false_iff_not, Sto.new_n, Sto.set_n, Sto.set_at, Sto.new_at, Nat.zero_le, aMakeV, Cl_non, Cl_bl, Cl_int, Cl_str, Cl_cls, Cl_obj, Cl_tup, ClL_nil, ClL_cons, $xs,*])
theorem law_true (ns : List Int) (hl : ns.length ≤ 63) (hbit : ∀ z ∈ ns, Builtin.Int.intBits z ≤ 1048576) : ∃ s', F_law [.scr (ns.map .int)] s0 = .ok (.bl true) s' := by
  refine ok_of_post ?_
  unfold F_law
  have ln : ∀ s, gLen [.scr (ns.map .int)] s = .ok (.int (ns.length : Nat)) s := fun s => by rw [gLen_scr, List.length_map]
  have mn : ∀ s, gMin2 [.int 4, .int (ns.length : Nat)] s = .ok (.int ((min 4 ns.length : Nat) : Int)) s := fun s => by
    rw [gMin2_int]
    congr 2
    split <;> omega
  obtain ⟨K, hK⟩ : ∃ K : Nat, K = 2 + min 4 ns.length := ⟨_, rfl⟩
  have eK : (2 : Int) + ((min 4 ns.length : Nat) : Int) = ((K : Nat) : Int) := by omega
  have rg : -(2 ^ 62) ≤ ((K : Nat) : Int) ∧ ((K : Nat) : Int) < 2 ^ 62 := by omega
  have tn : ((K : Nat) : Int).toNat = K := by omega
  simp! [B_law]
  refine begun_post (by omega) fun d g s1 g1 d0 d1 g0 gg D => ?_
  have S0 : Inv2 d g 0 s1 s1 := Inv2.start d1 gg D
  simp! [ln, mn, eK, rg, tn]
  refine for_rng (n := K) (fun i σ s' => Inv2 d g (300 * i) s1 s' ∧ ∃ x2, σ = [some (.scr (ns.map .int)), some (.obj d), x2]) ⟨S0, _, rfl⟩ ?_ ?_
  · rintro i σ s' hi ⟨S1, x2, rfl⟩
    refine ⟨trivial, ?_⟩
    simp! [eq_self]
    refine gcT_d2 S1.lsd S1.lsg ?_
    simp! [eq_self]
    refine wi_pair true S1 (by omega) fun s2 S2 g2 => ?_
    simp! [eq_self]
    refine wi_pair false S2 (by omega) fun s3 S3 g3 => ?_
    simp! [eq_self]
    refine wi_digits S3 (by omega) fun s4 S4 g4 => ?_
    simp! [eq_self]
    exact ⟨(g2.trans g3).trans g4, S4.ok.cl S1.lsg, (S1.back S4.ok).mono (by omega), _, rfl⟩
  · rintro σ s' ⟨S1, x2, rfl⟩
    refine ⟨trivial, ?_⟩
    simp! [eq_self]
end Pf
set_option Elab.async false
set_option linter.all false
set_option maxRecDepth 100000
set_option maxHeartbeats 4000000
set_option exponentiation.threshold 3000
namespace Pf
open PySem PySem.Spec PyProof.Rows L2 Ab
def kap (C_Source C_Scripted C_Draws C_PooledDraws : Addr) : String → Addr := fun n => if n = "Source" then C_Source else if n = "Scripted" then C_Scripted else if n = "Draws" then C_Draws else if n = "PooledDraws" then C_PooledDraws else 0
theorem txt_kap {P : Program} {w : World} {K : PySem.W.Frag} {mg : Str → Option Value} {C_Source C_Scripted C_Draws C_PooledDraws R_SIZES : Addr} (T : Txt K mg P w C_Source C_Scripted C_Draws C_PooledDraws R_SIZES) : Txt K mg P w ((kap C_Source C_Scripted C_Draws C_PooledDraws) "Source") ((kap C_Source C_Scripted C_Draws C_PooledDraws) "Scripted") ((kap C_Source C_Scripted C_Draws C_PooledDraws) "Draws") ((kap C_Source C_Scripted C_Draws C_PooledDraws) "PooledDraws") R_SIZES := by
  have e0 : (kap C_Source C_Scripted C_Draws C_PooledDraws) "Source" = C_Source := by unfold kap; simp
  have e1 : (kap C_Source C_Scripted C_Draws C_PooledDraws) "Scripted" = C_Scripted := by unfold kap; simp
  have e2 : (kap C_Source C_Scripted C_Draws C_PooledDraws) "Draws" = C_Draws := by unfold kap; simp
  have e3 : (kap C_Source C_Scripted C_Draws C_PooledDraws) "PooledDraws" = C_PooledDraws := by unfold kap; simp
  rw [e0, e1, e2, e3]
  exact T
theorem law_mk {l : PySem.W.OpenLaw} {w : World} {K : PySem.W.Frag} {mg : Str → Option Value} {fa C_Source C_Scripted C_Draws C_PooledDraws R_SIZES  : Addr} {h : Heap} (hmg : mg "law" = some (.ref fa)) (T : Txt K mg l.prog w C_Source C_Scripted C_Draws C_PooledDraws R_SIZES) : Gx.LawF l w K 10 "_law_script" mg fa h := by
  have T := txt_kap T
  obtain ⟨f, fd, F, b, hb⟩ := T.d_law
  have e := hmg.symm.trans F.mgf
  cases e
  exact ⟨fd, [], spLaw K, fun p hp => (nomatch hp), fun p hp => (nomatch hp), fun p hp => (nomatch hp), hb, fun H a ns hl hbit _ hS => ⟨a, ns, rfl, hS, fun p hp => (nomatch hp), law_true ns hl hbit, fun _ => rfl⟩, fun base _ _ _ => fn_law T F⟩
set_option maxHeartbeats 4000000 in
theorem txt_mk {K : PySem.W.Frag} {h : Heap} {mg : Str → Option Value} {cc_PooledDraws___init__ f_is_integer f_is_word f_need_source f_is_script f_need_script_state f_script_after f_Scripted___init__ f_Scripted_next_word f_Scripted_state f_s5_need f_s5_digits f_digits_of f_s5_reduced f_need_step f_need_range f_need_share f_Draws___init__ f_Draws_words_used f_Draws_s5_word f_Draws_s5_bits f_Draws_s5_below f_Draws_bits f_Draws_below f_Draws_between f_Draws_choice f_Draws_coin f_Draws_fraction f_Draws_do f_Draws_saved f_PooledDraws___init__ f_PooledDraws_pool f_PooledDraws_s5_bits f_PooledDraws_saved f__law_begun f__law_next f__law_pick f__law_words f__law_pair f__law_first f__law_fraction_right f__law_alike f__law_pair_right f__law_digits_right f_law p_Scripted_state p_Draws_words_used p_PooledDraws_pool C_Source C_Scripted C_Draws C_PooledDraws R_SIZES : Addr} {od_is_integer an_is_integer od_is_word an_is_word od_need_source an_need_source od_is_script an_is_script od_need_script_state an_need_script_state od_script_after an_script_after od_Scripted___init__ an_Scripted___init__ od_Scripted_next_word an_Scripted_next_word od_Scripted_state an_Scripted_state od_s5_need an_s5_need od_s5_digits an_s5_digits od_digits_of an_digits_of od_s5_reduced an_s5_reduced od_need_step an_need_step od_need_range an_need_range od_need_share an_need_share od_Draws___init__ an_Draws___init__ od_Draws_words_used an_Draws_words_used od_Draws_s5_word an_Draws_s5_word od_Draws_s5_bits an_Draws_s5_bits od_Draws_s5_below an_Draws_s5_below od_Draws_bits an_Draws_bits od_Draws_below an_Draws_below od_Draws_between an_Draws_between od_Draws_choice an_Draws_choice od_Draws_coin an_Draws_coin od_Draws_fraction an_Draws_fraction od_Draws_do an_Draws_do od_Draws_saved an_Draws_saved od_PooledDraws___init__ an_PooledDraws___init__ od_PooledDraws_pool an_PooledDraws_pool od_PooledDraws_s5_bits an_PooledDraws_s5_bits od_PooledDraws_saved an_PooledDraws_saved od__law_begun an__law_begun od__law_next an__law_next od__law_pick an__law_pick od__law_words an__law_words od__law_pair an__law_pair od__law_first an__law_first od__law_fraction_right an__law_fraction_right od__law_alike an__law_alike od__law_pair_right an__law_pair_right od__law_digits_right an__law_digits_right od_law an_law : Option Addr} {sl_is_integer sl_is_word sl_need_source sl_is_script sl_need_script_state sl_script_after sl_Scripted___init__ sl_Scripted_next_word sl_Scripted_state sl_s5_need sl_s5_digits sl_digits_of sl_s5_reduced sl_need_step sl_need_range sl_need_share sl_Draws___init__ sl_Draws_words_used sl_Draws_s5_word sl_Draws_s5_bits sl_Draws_s5_below sl_Draws_bits sl_Draws_below sl_Draws_between sl_Draws_choice sl_Draws_coin sl_Draws_fraction sl_Draws_do sl_Draws_saved sl_PooledDraws___init__ sl_PooledDraws_pool sl_PooledDraws_s5_bits sl_PooledDraws_saved sl__law_begun sl__law_next sl__law_pick sl__law_words sl__law_pair sl__law_first sl__law_fraction_right sl__law_alike sl__law_pair_right sl__law_digits_right sl_law : Array (Option Value)} {oc_is_integer kV_is_integer dc_is_integer pm_is_integer cd_is_integer ct_is_integer oc_is_word kV_is_word dc_is_word pm_is_word cd_is_word ct_is_word oc_need_source kV_need_source dc_need_source pm_need_source cd_need_source ct_need_source oc_is_script kV_is_script dc_is_script pm_is_script cd_is_script ct_is_script oc_need_script_state kV_need_script_state dc_need_script_state pm_need_script_state cd_need_script_state ct_need_script_state oc_script_after kV_script_after dc_script_after pm_script_after cd_script_after ct_script_after oc_Scripted___init__ kV_Scripted___init__ dc_Scripted___init__ pm_Scripted___init__ cd_Scripted___init__ ct_Scripted___init__ oc_Scripted_next_word kV_Scripted_next_word dc_Scripted_next_word pm_Scripted_next_word cd_Scripted_next_word ct_Scripted_next_word oc_Scripted_state kV_Scripted_state dc_Scripted_state pm_Scripted_state cd_Scripted_state ct_Scripted_state oc_s5_need kV_s5_need dc_s5_need pm_s5_need cd_s5_need ct_s5_need oc_s5_digits kV_s5_digits dc_s5_digits pm_s5_digits cd_s5_digits ct_s5_digits oc_digits_of kV_digits_of dc_digits_of pm_digits_of cd_digits_of ct_digits_of oc_s5_reduced kV_s5_reduced dc_s5_reduced pm_s5_reduced cd_s5_reduced ct_s5_reduced oc_need_step kV_need_step dc_need_step pm_need_step cd_need_step ct_need_step oc_need_range kV_need_range dc_need_range pm_need_range cd_need_range ct_need_range oc_need_share kV_need_share dc_need_share pm_need_share cd_need_share ct_need_share oc_Draws___init__ kV_Draws___init__ dc_Draws___init__ pm_Draws___init__ cd_Draws___init__ ct_Draws___init__ oc_Draws_words_used kV_Draws_words_used dc_Draws_words_used pm_Draws_words_used cd_Draws_words_used ct_Draws_words_used oc_Draws_s5_word kV_Draws_s5_word dc_Draws_s5_word pm_Draws_s5_word cd_Draws_s5_word ct_Draws_s5_word oc_Draws_s5_bits kV_Draws_s5_bits dc_Draws_s5_bits pm_Draws_s5_bits cd_Draws_s5_bits ct_Draws_s5_bits oc_Draws_s5_below kV_Draws_s5_below dc_Draws_s5_below pm_Draws_s5_below cd_Draws_s5_below ct_Draws_s5_below oc_Draws_bits kV_Draws_bits dc_Draws_bits pm_Draws_bits cd_Draws_bits ct_Draws_bits oc_Draws_below kV_Draws_below dc_Draws_below pm_Draws_below cd_Draws_below ct_Draws_below oc_Draws_between kV_Draws_between dc_Draws_between pm_Draws_between cd_Draws_between ct_Draws_between oc_Draws_choice kV_Draws_choice dc_Draws_choice pm_Draws_choice cd_Draws_choice ct_Draws_choice oc_Draws_coin kV_Draws_coin dc_Draws_coin pm_Draws_coin cd_Draws_coin ct_Draws_coin oc_Draws_fraction kV_Draws_fraction dc_Draws_fraction pm_Draws_fraction cd_Draws_fraction ct_Draws_fraction oc_Draws_do kV_Draws_do dc_Draws_do pm_Draws_do cd_Draws_do ct_Draws_do oc_Draws_saved kV_Draws_saved dc_Draws_saved pm_Draws_saved cd_Draws_saved ct_Draws_saved oc_PooledDraws___init__ kV_PooledDraws___init__ dc_PooledDraws___init__ pm_PooledDraws___init__ cd_PooledDraws___init__ ct_PooledDraws___init__ oc_PooledDraws_pool kV_PooledDraws_pool dc_PooledDraws_pool pm_PooledDraws_pool cd_PooledDraws_pool ct_PooledDraws_pool oc_PooledDraws_s5_bits kV_PooledDraws_s5_bits dc_PooledDraws_s5_bits pm_PooledDraws_s5_bits cd_PooledDraws_s5_bits ct_PooledDraws_s5_bits oc_PooledDraws_saved kV_PooledDraws_saved dc_PooledDraws_saved pm_PooledDraws_saved cd_PooledDraws_saved ct_PooledDraws_saved oc__law_begun kV__law_begun dc__law_begun pm__law_begun cd__law_begun ct__law_begun oc__law_next kV__law_next dc__law_next pm__law_next cd__law_next ct__law_next oc__law_pick kV__law_pick dc__law_pick pm__law_pick cd__law_pick ct__law_pick oc__law_words kV__law_words dc__law_words pm__law_words cd__law_words ct__law_words oc__law_pair kV__law_pair dc__law_pair pm__law_pair cd__law_pair ct__law_pair oc__law_first kV__law_first dc__law_first pm__law_first cd__law_first ct__law_first oc__law_fraction_right kV__law_fraction_right dc__law_fraction_right pm__law_fraction_right cd__law_fraction_right ct__law_fraction_right oc__law_alike kV__law_alike dc__law_alike pm__law_alike cd__law_alike ct__law_alike oc__law_pair_right kV__law_pair_right dc__law_pair_right pm__law_pair_right cd__law_pair_right ct__law_pair_right oc__law_digits_right kV__law_digits_right dc__law_digits_right pm__law_digits_right cd__law_digits_right ct__law_digits_right oc_law kV_law dc_law pm_law cd_law ct_law : Value} {rs_Scripted_state rs_Draws_words_used rs_PooledDraws_pool : List Value} {tk_WORDS tk_MOST_SCRIPT tk_WORD_BITS tk_MOST_BITS tk_MOST_BOUND tk_MOST_WIDE oT_SIZES_0 oT_SIZES_1 oT_SIZES_2 oT_SIZES_3 oT_SIZES_4 oT_SIZES_5 oK_SIZES_0 oK_SIZES_1 oK_SIZES_2 oK_SIZES_3 oK_SIZES_4 oK_SIZES_5 : Tok} {oN_SIZES : Nat} {hh_SIZES_0 hh_SIZES_1 hh_SIZES_2 hh_SIZES_3 hh_SIZES_4 hh_SIZES_5 : Int} {D_Scripted___init__ : Addr} {dO_Scripted___init__ : Value} {dP_Scripted___init__ : Option Addr} {dN_Scripted___init__ : Nat} {dS_Scripted___init__ : Array (Option Value)} {dT_Scripted___init___0 : Tok} {vt_Scripted_KIND : Tok} {w : World} {P : Program} (X : K.In h) (G : h.Ns mainGlobals mg)
    (a_is_integer : PySem.W.nsIn K mainGlobals "is_integer" = some (some (.ref f_is_integer)))
    (l_is_integer : K.lookup f_is_integer = some ⟨oc_is_integer, od_is_integer, .func (PySem.W.fnOf "is_integer" "is_integer" (C8.fnArgs s_is_integer) (C8.fnBody s_is_integer) (C8.fnScope s_is_integer) .none kV_is_integer dc_is_integer pm_is_integer an_is_integer cd_is_integer ct_is_integer), sl_is_integer⟩)
    (c_is_integer : PySem.W.codeIn K cd_is_integer "is_integer" = true)
    (k_is_integer : PySem.W.keepIn K (.ref f_is_integer) = true)
    (a_is_word : PySem.W.nsIn K mainGlobals "is_word" = some (some (.ref f_is_word)))
    (l_is_word : K.lookup f_is_word = some ⟨oc_is_word, od_is_word, .func (PySem.W.fnOf "is_word" "is_word" (C8.fnArgs s_is_word) (C8.fnBody s_is_word) (C8.fnScope s_is_word) .none kV_is_word dc_is_word pm_is_word an_is_word cd_is_word ct_is_word), sl_is_word⟩)
    (c_is_word : PySem.W.codeIn K cd_is_word "is_word" = true)
    (k_is_word : PySem.W.keepIn K (.ref f_is_word) = true)
    (a_need_source : PySem.W.nsIn K mainGlobals "need_source" = some (some (.ref f_need_source)))
    (l_need_source : K.lookup f_need_source = some ⟨oc_need_source, od_need_source, .func (PySem.W.fnOf "need_source" "need_source" (C8.fnArgs s_need_source) (C8.fnBody s_need_source) (C8.fnScope s_need_source) .none kV_need_source dc_need_source pm_need_source an_need_source cd_need_source ct_need_source), sl_need_source⟩)
    (c_need_source : PySem.W.codeIn K cd_need_source "need_source" = true)
    (k_need_source : PySem.W.keepIn K (.ref f_need_source) = true)
    (a_is_script : PySem.W.nsIn K mainGlobals "is_script" = some (some (.ref f_is_script)))
    (l_is_script : K.lookup f_is_script = some ⟨oc_is_script, od_is_script, .func (PySem.W.fnOf "is_script" "is_script" (C8.fnArgs s_is_script) (C8.fnBody s_is_script) (C8.fnScope s_is_script) .none kV_is_script dc_is_script pm_is_script an_is_script cd_is_script ct_is_script), sl_is_script⟩)
    (c_is_script : PySem.W.codeIn K cd_is_script "is_script" = true)
    (k_is_script : PySem.W.keepIn K (.ref f_is_script) = true)
    (a_need_script_state : PySem.W.nsIn K mainGlobals "need_script_state" = some (some (.ref f_need_script_state)))
    (l_need_script_state : K.lookup f_need_script_state = some ⟨oc_need_script_state, od_need_script_state, .func (PySem.W.fnOf "need_script_state" "need_script_state" (C8.fnArgs s_need_script_state) (C8.fnBody s_need_script_state) (C8.fnScope s_need_script_state) .none kV_need_script_state dc_need_script_state pm_need_script_state an_need_script_state cd_need_script_state ct_need_script_state), sl_need_script_state⟩)
    (c_need_script_state : PySem.W.codeIn K cd_need_script_state "need_script_state" = true)
    (k_need_script_state : PySem.W.keepIn K (.ref f_need_script_state) = true)
    (a_script_after : PySem.W.nsIn K mainGlobals "script_after" = some (some (.ref f_script_after)))
    (l_script_after : K.lookup f_script_after = some ⟨oc_script_after, od_script_after, .func (PySem.W.fnOf "script_after" "script_after" (C8.fnArgs s_script_after) (C8.fnBody s_script_after) (C8.fnScope s_script_after) .none kV_script_after dc_script_after pm_script_after an_script_after cd_script_after ct_script_after), sl_script_after⟩)
    (c_script_after : PySem.W.codeIn K cd_script_after "script_after" = true)
    (k_script_after : PySem.W.keepIn K (.ref f_script_after) = true)
    (a_Scripted___init__ : PySem.W.findIn K (.ref C_Scripted) "__init__" = some (some (.ref f_Scripted___init__)))
    (i_Scripted___init__ : PySem.W.isFn K (.ref f_Scripted___init__) = true)
    (l_Scripted___init__ : K.lookup f_Scripted___init__ = some ⟨oc_Scripted___init__, od_Scripted___init__, .func (PySem.W.fnOf "__init__" "Scripted.__init__" (C8.fnArgs s_Scripted___init__) (C8.fnBody s_Scripted___init__) (C8.fnScope s_Scripted___init__) (.ref D_Scripted___init__) kV_Scripted___init__ dc_Scripted___init__ pm_Scripted___init__ an_Scripted___init__ cd_Scripted___init__ ct_Scripted___init__), sl_Scripted___init__⟩)
    (c_Scripted___init__ : PySem.W.codeIn K cd_Scripted___init__ "Scripted.__init__" = true)
    (k_Scripted___init__ : PySem.W.keepIn K (.ref f_Scripted___init__) = true)
    (dl_Scripted___init__ : K.lookup D_Scripted___init__ = some ⟨dO_Scripted___init__, dP_Scripted___init__, .seq #[.int 0 dT_Scripted___init___0] dN_Scripted___init__, dS_Scripted___init__⟩)
    (mk_Scripted___init__ : PySem.W.makesIn K C_Scripted = true)
    (kc_Scripted___init__ : PySem.W.keepIn K (.ref C_Scripted) = true)
    (a_Scripted_next_word : PySem.W.findIn K (.ref C_Scripted) "next_word" = some (some (.ref f_Scripted_next_word)))
    (i_Scripted_next_word : PySem.W.isFn K (.ref f_Scripted_next_word) = true)
    (l_Scripted_next_word : K.lookup f_Scripted_next_word = some ⟨oc_Scripted_next_word, od_Scripted_next_word, .func (PySem.W.fnOf "next_word" "Scripted.next_word" (C8.fnArgs s_Scripted_next_word) (C8.fnBody s_Scripted_next_word) (C8.fnScope s_Scripted_next_word) .none kV_Scripted_next_word dc_Scripted_next_word pm_Scripted_next_word an_Scripted_next_word cd_Scripted_next_word ct_Scripted_next_word), sl_Scripted_next_word⟩)
    (c_Scripted_next_word : PySem.W.codeIn K cd_Scripted_next_word "Scripted.next_word" = true)
    (k_Scripted_next_word : PySem.W.keepIn K (.ref f_Scripted_next_word) = true)
    (a_Scripted_state : PySem.W.findIn K (.ref C_Scripted) "state" = some (some (.ref p_Scripted_state)))
    (g_Scripted_state : PySem.W.specialIn K (.ref p_Scripted_state) "__get__" = some (some (.builtin "property.__get__")))
    (t_Scripted_state : PySem.W.takesIn K (.ref p_Scripted_state) = some true)
    (r_Scripted_state : PySem.W.recIn K p_Scripted_state "property" = some (.ref f_Scripted_state :: rs_Scripted_state))
    (l_Scripted_state : K.lookup f_Scripted_state = some ⟨oc_Scripted_state, od_Scripted_state, .func (PySem.W.fnOf "state" "Scripted.state" (C8.fnArgs s_Scripted_state) (C8.fnBody s_Scripted_state) (C8.fnScope s_Scripted_state) .none kV_Scripted_state dc_Scripted_state pm_Scripted_state an_Scripted_state cd_Scripted_state ct_Scripted_state), sl_Scripted_state⟩)
    (c_Scripted_state : PySem.W.codeIn K cd_Scripted_state "Scripted.state" = true)
    (k_Scripted_state : PySem.W.keepIn K (.ref f_Scripted_state) = true)
    (a_s5_need : PySem.W.nsIn K mainGlobals "s5_need" = some (some (.ref f_s5_need)))
    (l_s5_need : K.lookup f_s5_need = some ⟨oc_s5_need, od_s5_need, .func (PySem.W.fnOf "s5_need" "s5_need" (C8.fnArgs s_s5_need) (C8.fnBody s_s5_need) (C8.fnScope s_s5_need) .none kV_s5_need dc_s5_need pm_s5_need an_s5_need cd_s5_need ct_s5_need), sl_s5_need⟩)
    (c_s5_need : PySem.W.codeIn K cd_s5_need "s5_need" = true)
    (k_s5_need : PySem.W.keepIn K (.ref f_s5_need) = true)
    (a_s5_digits : PySem.W.nsIn K mainGlobals "s5_digits" = some (some (.ref f_s5_digits)))
    (l_s5_digits : K.lookup f_s5_digits = some ⟨oc_s5_digits, od_s5_digits, .func (PySem.W.fnOf "s5_digits" "s5_digits" (C8.fnArgs s_s5_digits) (C8.fnBody s_s5_digits) (C8.fnScope s_s5_digits) .none kV_s5_digits dc_s5_digits pm_s5_digits an_s5_digits cd_s5_digits ct_s5_digits), sl_s5_digits⟩)
    (c_s5_digits : PySem.W.codeIn K cd_s5_digits "s5_digits" = true)
    (k_s5_digits : PySem.W.keepIn K (.ref f_s5_digits) = true)
    (a_digits_of : PySem.W.nsIn K mainGlobals "digits_of" = some (some (.ref f_digits_of)))
    (l_digits_of : K.lookup f_digits_of = some ⟨oc_digits_of, od_digits_of, .func (PySem.W.fnOf "digits_of" "digits_of" (C8.fnArgs s_digits_of) (C8.fnBody s_digits_of) (C8.fnScope s_digits_of) .none kV_digits_of dc_digits_of pm_digits_of an_digits_of cd_digits_of ct_digits_of), sl_digits_of⟩)
    (c_digits_of : PySem.W.codeIn K cd_digits_of "digits_of" = true)
    (k_digits_of : PySem.W.keepIn K (.ref f_digits_of) = true)
    (a_s5_reduced : PySem.W.nsIn K mainGlobals "s5_reduced" = some (some (.ref f_s5_reduced)))
    (l_s5_reduced : K.lookup f_s5_reduced = some ⟨oc_s5_reduced, od_s5_reduced, .func (PySem.W.fnOf "s5_reduced" "s5_reduced" (C8.fnArgs s_s5_reduced) (C8.fnBody s_s5_reduced) (C8.fnScope s_s5_reduced) .none kV_s5_reduced dc_s5_reduced pm_s5_reduced an_s5_reduced cd_s5_reduced ct_s5_reduced), sl_s5_reduced⟩)
    (c_s5_reduced : PySem.W.codeIn K cd_s5_reduced "s5_reduced" = true)
    (k_s5_reduced : PySem.W.keepIn K (.ref f_s5_reduced) = true)
    (a_need_step : PySem.W.nsIn K mainGlobals "need_step" = some (some (.ref f_need_step)))
    (l_need_step : K.lookup f_need_step = some ⟨oc_need_step, od_need_step, .func (PySem.W.fnOf "need_step" "need_step" (C8.fnArgs s_need_step) (C8.fnBody s_need_step) (C8.fnScope s_need_step) .none kV_need_step dc_need_step pm_need_step an_need_step cd_need_step ct_need_step), sl_need_step⟩)
    (c_need_step : PySem.W.codeIn K cd_need_step "need_step" = true)
    (k_need_step : PySem.W.keepIn K (.ref f_need_step) = true)
    (a_need_range : PySem.W.nsIn K mainGlobals "need_range" = some (some (.ref f_need_range)))
    (l_need_range : K.lookup f_need_range = some ⟨oc_need_range, od_need_range, .func (PySem.W.fnOf "need_range" "need_range" (C8.fnArgs s_need_range) (C8.fnBody s_need_range) (C8.fnScope s_need_range) .none kV_need_range dc_need_range pm_need_range an_need_range cd_need_range ct_need_range), sl_need_range⟩)
    (c_need_range : PySem.W.codeIn K cd_need_range "need_range" = true)
    (k_need_range : PySem.W.keepIn K (.ref f_need_range) = true)
    (a_need_share : PySem.W.nsIn K mainGlobals "need_share" = some (some (.ref f_need_share)))
    (l_need_share : K.lookup f_need_share = some ⟨oc_need_share, od_need_share, .func (PySem.W.fnOf "need_share" "need_share" (C8.fnArgs s_need_share) (C8.fnBody s_need_share) (C8.fnScope s_need_share) .none kV_need_share dc_need_share pm_need_share an_need_share cd_need_share ct_need_share), sl_need_share⟩)
    (c_need_share : PySem.W.codeIn K cd_need_share "need_share" = true)
    (k_need_share : PySem.W.keepIn K (.ref f_need_share) = true)
    (a_Draws___init__ : PySem.W.findIn K (.ref C_Draws) "__init__" = some (some (.ref f_Draws___init__)))
    (i_Draws___init__ : PySem.W.isFn K (.ref f_Draws___init__) = true)
    (l_Draws___init__ : K.lookup f_Draws___init__ = some ⟨oc_Draws___init__, od_Draws___init__, .func (PySem.W.fnOf "__init__" "Draws.__init__" (C8.fnArgs s_Draws___init__) (C8.fnBody s_Draws___init__) (C8.fnScope s_Draws___init__) .none kV_Draws___init__ dc_Draws___init__ pm_Draws___init__ an_Draws___init__ cd_Draws___init__ ct_Draws___init__), sl_Draws___init__⟩)
    (c_Draws___init__ : PySem.W.codeIn K cd_Draws___init__ "Draws.__init__" = true)
    (k_Draws___init__ : PySem.W.keepIn K (.ref f_Draws___init__) = true)
    (mk_Draws___init__ : PySem.W.makesIn K C_Draws = true)
    (kc_Draws___init__ : PySem.W.keepIn K (.ref C_Draws) = true)
    (a_Draws_words_used : PySem.W.findIn K (.ref C_Draws) "words_used" = some (some (.ref p_Draws_words_used)))
    (g_Draws_words_used : PySem.W.specialIn K (.ref p_Draws_words_used) "__get__" = some (some (.builtin "property.__get__")))
    (t_Draws_words_used : PySem.W.takesIn K (.ref p_Draws_words_used) = some true)
    (r_Draws_words_used : PySem.W.recIn K p_Draws_words_used "property" = some (.ref f_Draws_words_used :: rs_Draws_words_used))
    (l_Draws_words_used : K.lookup f_Draws_words_used = some ⟨oc_Draws_words_used, od_Draws_words_used, .func (PySem.W.fnOf "words_used" "Draws.words_used" (C8.fnArgs s_Draws_words_used) (C8.fnBody s_Draws_words_used) (C8.fnScope s_Draws_words_used) .none kV_Draws_words_used dc_Draws_words_used pm_Draws_words_used an_Draws_words_used cd_Draws_words_used ct_Draws_words_used), sl_Draws_words_used⟩)
    (c_Draws_words_used : PySem.W.codeIn K cd_Draws_words_used "Draws.words_used" = true)
    (k_Draws_words_used : PySem.W.keepIn K (.ref f_Draws_words_used) = true)
    (a_Draws_words_used_of_PooledDraws : PySem.W.findIn K (.ref C_PooledDraws) "words_used" = some (some (.ref p_Draws_words_used)))
    (a_Draws_s5_word : PySem.W.findIn K (.ref C_Draws) "s5_word" = some (some (.ref f_Draws_s5_word)))
    (i_Draws_s5_word : PySem.W.isFn K (.ref f_Draws_s5_word) = true)
    (l_Draws_s5_word : K.lookup f_Draws_s5_word = some ⟨oc_Draws_s5_word, od_Draws_s5_word, .func (PySem.W.fnOf "s5_word" "Draws.s5_word" (C8.fnArgs s_Draws_s5_word) (C8.fnBody s_Draws_s5_word) (C8.fnScope s_Draws_s5_word) .none kV_Draws_s5_word dc_Draws_s5_word pm_Draws_s5_word an_Draws_s5_word cd_Draws_s5_word ct_Draws_s5_word), sl_Draws_s5_word⟩)
    (c_Draws_s5_word : PySem.W.codeIn K cd_Draws_s5_word "Draws.s5_word" = true)
    (k_Draws_s5_word : PySem.W.keepIn K (.ref f_Draws_s5_word) = true)
    (a_Draws_s5_word_of_PooledDraws : PySem.W.findIn K (.ref C_PooledDraws) "s5_word" = some (some (.ref f_Draws_s5_word)))
    (a_Draws_s5_bits : PySem.W.findIn K (.ref C_Draws) "s5_bits" = some (some (.ref f_Draws_s5_bits)))
    (i_Draws_s5_bits : PySem.W.isFn K (.ref f_Draws_s5_bits) = true)
    (l_Draws_s5_bits : K.lookup f_Draws_s5_bits = some ⟨oc_Draws_s5_bits, od_Draws_s5_bits, .func (PySem.W.fnOf "s5_bits" "Draws.s5_bits" (C8.fnArgs s_Draws_s5_bits) (C8.fnBody s_Draws_s5_bits) (C8.fnScope s_Draws_s5_bits) .none kV_Draws_s5_bits dc_Draws_s5_bits pm_Draws_s5_bits an_Draws_s5_bits cd_Draws_s5_bits ct_Draws_s5_bits), sl_Draws_s5_bits⟩)
    (c_Draws_s5_bits : PySem.W.codeIn K cd_Draws_s5_bits "Draws.s5_bits" = true)
    (k_Draws_s5_bits : PySem.W.keepIn K (.ref f_Draws_s5_bits) = true)
    (a_Draws_s5_below : PySem.W.findIn K (.ref C_Draws) "s5_below" = some (some (.ref f_Draws_s5_below)))
    (i_Draws_s5_below : PySem.W.isFn K (.ref f_Draws_s5_below) = true)
    (l_Draws_s5_below : K.lookup f_Draws_s5_below = some ⟨oc_Draws_s5_below, od_Draws_s5_below, .func (PySem.W.fnOf "s5_below" "Draws.s5_below" (C8.fnArgs s_Draws_s5_below) (C8.fnBody s_Draws_s5_below) (C8.fnScope s_Draws_s5_below) .none kV_Draws_s5_below dc_Draws_s5_below pm_Draws_s5_below an_Draws_s5_below cd_Draws_s5_below ct_Draws_s5_below), sl_Draws_s5_below⟩)
    (c_Draws_s5_below : PySem.W.codeIn K cd_Draws_s5_below "Draws.s5_below" = true)
    (k_Draws_s5_below : PySem.W.keepIn K (.ref f_Draws_s5_below) = true)
    (a_Draws_s5_below_of_PooledDraws : PySem.W.findIn K (.ref C_PooledDraws) "s5_below" = some (some (.ref f_Draws_s5_below)))
    (a_Draws_bits : PySem.W.findIn K (.ref C_Draws) "bits" = some (some (.ref f_Draws_bits)))
    (i_Draws_bits : PySem.W.isFn K (.ref f_Draws_bits) = true)
    (l_Draws_bits : K.lookup f_Draws_bits = some ⟨oc_Draws_bits, od_Draws_bits, .func (PySem.W.fnOf "bits" "Draws.bits" (C8.fnArgs s_Draws_bits) (C8.fnBody s_Draws_bits) (C8.fnScope s_Draws_bits) .none kV_Draws_bits dc_Draws_bits pm_Draws_bits an_Draws_bits cd_Draws_bits ct_Draws_bits), sl_Draws_bits⟩)
    (c_Draws_bits : PySem.W.codeIn K cd_Draws_bits "Draws.bits" = true)
    (k_Draws_bits : PySem.W.keepIn K (.ref f_Draws_bits) = true)
    (a_Draws_bits_of_PooledDraws : PySem.W.findIn K (.ref C_PooledDraws) "bits" = some (some (.ref f_Draws_bits)))
    (a_Draws_below : PySem.W.findIn K (.ref C_Draws) "below" = some (some (.ref f_Draws_below)))
    (i_Draws_below : PySem.W.isFn K (.ref f_Draws_below) = true)
    (l_Draws_below : K.lookup f_Draws_below = some ⟨oc_Draws_below, od_Draws_below, .func (PySem.W.fnOf "below" "Draws.below" (C8.fnArgs s_Draws_below) (C8.fnBody s_Draws_below) (C8.fnScope s_Draws_below) .none kV_Draws_below dc_Draws_below pm_Draws_below an_Draws_below cd_Draws_below ct_Draws_below), sl_Draws_below⟩)
    (c_Draws_below : PySem.W.codeIn K cd_Draws_below "Draws.below" = true)
    (k_Draws_below : PySem.W.keepIn K (.ref f_Draws_below) = true)
    (a_Draws_below_of_PooledDraws : PySem.W.findIn K (.ref C_PooledDraws) "below" = some (some (.ref f_Draws_below)))
    (a_Draws_between : PySem.W.findIn K (.ref C_Draws) "between" = some (some (.ref f_Draws_between)))
    (i_Draws_between : PySem.W.isFn K (.ref f_Draws_between) = true)
    (l_Draws_between : K.lookup f_Draws_between = some ⟨oc_Draws_between, od_Draws_between, .func (PySem.W.fnOf "between" "Draws.between" (C8.fnArgs s_Draws_between) (C8.fnBody s_Draws_between) (C8.fnScope s_Draws_between) .none kV_Draws_between dc_Draws_between pm_Draws_between an_Draws_between cd_Draws_between ct_Draws_between), sl_Draws_between⟩)
    (c_Draws_between : PySem.W.codeIn K cd_Draws_between "Draws.between" = true)
    (k_Draws_between : PySem.W.keepIn K (.ref f_Draws_between) = true)
    (a_Draws_between_of_PooledDraws : PySem.W.findIn K (.ref C_PooledDraws) "between" = some (some (.ref f_Draws_between)))
    (a_Draws_choice : PySem.W.findIn K (.ref C_Draws) "choice" = some (some (.ref f_Draws_choice)))
    (i_Draws_choice : PySem.W.isFn K (.ref f_Draws_choice) = true)
    (l_Draws_choice : K.lookup f_Draws_choice = some ⟨oc_Draws_choice, od_Draws_choice, .func (PySem.W.fnOf "choice" "Draws.choice" (C8.fnArgs s_Draws_choice) (C8.fnBody s_Draws_choice) (C8.fnScope s_Draws_choice) .none kV_Draws_choice dc_Draws_choice pm_Draws_choice an_Draws_choice cd_Draws_choice ct_Draws_choice), sl_Draws_choice⟩)
    (c_Draws_choice : PySem.W.codeIn K cd_Draws_choice "Draws.choice" = true)
    (k_Draws_choice : PySem.W.keepIn K (.ref f_Draws_choice) = true)
    (a_Draws_choice_of_PooledDraws : PySem.W.findIn K (.ref C_PooledDraws) "choice" = some (some (.ref f_Draws_choice)))
    (a_Draws_coin : PySem.W.findIn K (.ref C_Draws) "coin" = some (some (.ref f_Draws_coin)))
    (i_Draws_coin : PySem.W.isFn K (.ref f_Draws_coin) = true)
    (l_Draws_coin : K.lookup f_Draws_coin = some ⟨oc_Draws_coin, od_Draws_coin, .func (PySem.W.fnOf "coin" "Draws.coin" (C8.fnArgs s_Draws_coin) (C8.fnBody s_Draws_coin) (C8.fnScope s_Draws_coin) .none kV_Draws_coin dc_Draws_coin pm_Draws_coin an_Draws_coin cd_Draws_coin ct_Draws_coin), sl_Draws_coin⟩)
    (c_Draws_coin : PySem.W.codeIn K cd_Draws_coin "Draws.coin" = true)
    (k_Draws_coin : PySem.W.keepIn K (.ref f_Draws_coin) = true)
    (a_Draws_coin_of_PooledDraws : PySem.W.findIn K (.ref C_PooledDraws) "coin" = some (some (.ref f_Draws_coin)))
    (a_Draws_fraction : PySem.W.findIn K (.ref C_Draws) "fraction" = some (some (.ref f_Draws_fraction)))
    (i_Draws_fraction : PySem.W.isFn K (.ref f_Draws_fraction) = true)
    (l_Draws_fraction : K.lookup f_Draws_fraction = some ⟨oc_Draws_fraction, od_Draws_fraction, .func (PySem.W.fnOf "fraction" "Draws.fraction" (C8.fnArgs s_Draws_fraction) (C8.fnBody s_Draws_fraction) (C8.fnScope s_Draws_fraction) .none kV_Draws_fraction dc_Draws_fraction pm_Draws_fraction an_Draws_fraction cd_Draws_fraction ct_Draws_fraction), sl_Draws_fraction⟩)
    (c_Draws_fraction : PySem.W.codeIn K cd_Draws_fraction "Draws.fraction" = true)
    (k_Draws_fraction : PySem.W.keepIn K (.ref f_Draws_fraction) = true)
    (a_Draws_fraction_of_PooledDraws : PySem.W.findIn K (.ref C_PooledDraws) "fraction" = some (some (.ref f_Draws_fraction)))
    (a_Draws_do : PySem.W.findIn K (.ref C_Draws) "do" = some (some (.ref f_Draws_do)))
    (i_Draws_do : PySem.W.isFn K (.ref f_Draws_do) = true)
    (l_Draws_do : K.lookup f_Draws_do = some ⟨oc_Draws_do, od_Draws_do, .func (PySem.W.fnOf "do" "Draws.do" (C8.fnArgs s_Draws_do) (C8.fnBody s_Draws_do) (C8.fnScope s_Draws_do) .none kV_Draws_do dc_Draws_do pm_Draws_do an_Draws_do cd_Draws_do ct_Draws_do), sl_Draws_do⟩)
    (c_Draws_do : PySem.W.codeIn K cd_Draws_do "Draws.do" = true)
    (k_Draws_do : PySem.W.keepIn K (.ref f_Draws_do) = true)
    (a_Draws_do_of_PooledDraws : PySem.W.findIn K (.ref C_PooledDraws) "do" = some (some (.ref f_Draws_do)))
    (a_Draws_saved : PySem.W.findIn K (.ref C_Draws) "saved" = some (some (.ref f_Draws_saved)))
    (i_Draws_saved : PySem.W.isFn K (.ref f_Draws_saved) = true)
    (l_Draws_saved : K.lookup f_Draws_saved = some ⟨oc_Draws_saved, od_Draws_saved, .func (PySem.W.fnOf "saved" "Draws.saved" (C8.fnArgs s_Draws_saved) (C8.fnBody s_Draws_saved) (C8.fnScope s_Draws_saved) .none kV_Draws_saved dc_Draws_saved pm_Draws_saved an_Draws_saved cd_Draws_saved ct_Draws_saved), sl_Draws_saved⟩)
    (c_Draws_saved : PySem.W.codeIn K cd_Draws_saved "Draws.saved" = true)
    (k_Draws_saved : PySem.W.keepIn K (.ref f_Draws_saved) = true)
    (a_PooledDraws___init__ : PySem.W.findIn K (.ref C_PooledDraws) "__init__" = some (some (.ref f_PooledDraws___init__)))
    (i_PooledDraws___init__ : PySem.W.isFn K (.ref f_PooledDraws___init__) = true)
    (l_PooledDraws___init__ : K.lookup f_PooledDraws___init__ = some ⟨oc_PooledDraws___init__, od_PooledDraws___init__, .func (PySem.W.ksFn "__init__" "PooledDraws.__init__" (C8.fnArgs s_PooledDraws___init__) (C8.fnBody s_PooledDraws___init__) (C8.fnScope s_PooledDraws___init__) .none kV_PooledDraws___init__ dc_PooledDraws___init__ pm_PooledDraws___init__ an_PooledDraws___init__ cd_PooledDraws___init__ ct_PooledDraws___init__ cc_PooledDraws___init__), sl_PooledDraws___init__⟩)
    (c_PooledDraws___init__ : PySem.W.codeIn K cd_PooledDraws___init__ "PooledDraws.__init__" = true)
    (k_PooledDraws___init__ : PySem.W.keepIn K (.ref f_PooledDraws___init__) = true)
    (mk_PooledDraws___init__ : PySem.W.makesIn K C_PooledDraws = true)
    (kc_PooledDraws___init__ : PySem.W.keepIn K (.ref C_PooledDraws) = true)
    (ob_fi_PooledDraws___init__ : Gx.fileIn K cd_PooledDraws___init__ "/claim/cut.py" = true)
    (ob_ce_PooledDraws___init__ : Gx.cellIn K cc_PooledDraws___init__ C_PooledDraws = true)
    (ob_cs_PooledDraws___init__ : (PySem.W.clsIn K C_PooledDraws).isSome = true)
    (ob_su_PooledDraws___init__ : PySem.W.subIn K (.ref C_PooledDraws) (.ref C_PooledDraws) = some true)
    (ob_sp_PooledDraws___init__ : PySem.W.ks_superIn K C_PooledDraws C_PooledDraws "__init__" = some (some (.ref f_Draws___init__)))
    (ob_sg_PooledDraws___init__ : PySem.W.typeIn K (.ref f_Draws___init__) = some (.type "function"))
    (ob_sf_PooledDraws___init__ : PySem.W.fnIn K f_Draws___init__ = true)
    (ob_op_PooledDraws___init__ : PySem.W.nsIn K cStatics "thirdparty.any" = some none)
    (a_PooledDraws_pool : PySem.W.findIn K (.ref C_PooledDraws) "pool" = some (some (.ref p_PooledDraws_pool)))
    (g_PooledDraws_pool : PySem.W.specialIn K (.ref p_PooledDraws_pool) "__get__" = some (some (.builtin "property.__get__")))
    (t_PooledDraws_pool : PySem.W.takesIn K (.ref p_PooledDraws_pool) = some true)
    (r_PooledDraws_pool : PySem.W.recIn K p_PooledDraws_pool "property" = some (.ref f_PooledDraws_pool :: rs_PooledDraws_pool))
    (l_PooledDraws_pool : K.lookup f_PooledDraws_pool = some ⟨oc_PooledDraws_pool, od_PooledDraws_pool, .func (PySem.W.fnOf "pool" "PooledDraws.pool" (C8.fnArgs s_PooledDraws_pool) (C8.fnBody s_PooledDraws_pool) (C8.fnScope s_PooledDraws_pool) .none kV_PooledDraws_pool dc_PooledDraws_pool pm_PooledDraws_pool an_PooledDraws_pool cd_PooledDraws_pool ct_PooledDraws_pool), sl_PooledDraws_pool⟩)
    (c_PooledDraws_pool : PySem.W.codeIn K cd_PooledDraws_pool "PooledDraws.pool" = true)
    (k_PooledDraws_pool : PySem.W.keepIn K (.ref f_PooledDraws_pool) = true)
    (a_PooledDraws_s5_bits : PySem.W.findIn K (.ref C_PooledDraws) "s5_bits" = some (some (.ref f_PooledDraws_s5_bits)))
    (i_PooledDraws_s5_bits : PySem.W.isFn K (.ref f_PooledDraws_s5_bits) = true)
    (l_PooledDraws_s5_bits : K.lookup f_PooledDraws_s5_bits = some ⟨oc_PooledDraws_s5_bits, od_PooledDraws_s5_bits, .func (PySem.W.fnOf "s5_bits" "PooledDraws.s5_bits" (C8.fnArgs s_PooledDraws_s5_bits) (C8.fnBody s_PooledDraws_s5_bits) (C8.fnScope s_PooledDraws_s5_bits) .none kV_PooledDraws_s5_bits dc_PooledDraws_s5_bits pm_PooledDraws_s5_bits an_PooledDraws_s5_bits cd_PooledDraws_s5_bits ct_PooledDraws_s5_bits), sl_PooledDraws_s5_bits⟩)
    (c_PooledDraws_s5_bits : PySem.W.codeIn K cd_PooledDraws_s5_bits "PooledDraws.s5_bits" = true)
    (k_PooledDraws_s5_bits : PySem.W.keepIn K (.ref f_PooledDraws_s5_bits) = true)
    (a_PooledDraws_saved : PySem.W.findIn K (.ref C_PooledDraws) "saved" = some (some (.ref f_PooledDraws_saved)))
    (i_PooledDraws_saved : PySem.W.isFn K (.ref f_PooledDraws_saved) = true)
    (l_PooledDraws_saved : K.lookup f_PooledDraws_saved = some ⟨oc_PooledDraws_saved, od_PooledDraws_saved, .func (PySem.W.fnOf "saved" "PooledDraws.saved" (C8.fnArgs s_PooledDraws_saved) (C8.fnBody s_PooledDraws_saved) (C8.fnScope s_PooledDraws_saved) .none kV_PooledDraws_saved dc_PooledDraws_saved pm_PooledDraws_saved an_PooledDraws_saved cd_PooledDraws_saved ct_PooledDraws_saved), sl_PooledDraws_saved⟩)
    (c_PooledDraws_saved : PySem.W.codeIn K cd_PooledDraws_saved "PooledDraws.saved" = true)
    (k_PooledDraws_saved : PySem.W.keepIn K (.ref f_PooledDraws_saved) = true)
    (a__law_begun : PySem.W.nsIn K mainGlobals "_law_begun" = some (some (.ref f__law_begun)))
    (l__law_begun : K.lookup f__law_begun = some ⟨oc__law_begun, od__law_begun, .func (PySem.W.fnOf "_law_begun" "_law_begun" (C8.fnArgs s__law_begun) (C8.fnBody s__law_begun) (C8.fnScope s__law_begun) .none kV__law_begun dc__law_begun pm__law_begun an__law_begun cd__law_begun ct__law_begun), sl__law_begun⟩)
    (c__law_begun : PySem.W.codeIn K cd__law_begun "_law_begun" = true)
    (k__law_begun : PySem.W.keepIn K (.ref f__law_begun) = true)
    (a__law_next : PySem.W.nsIn K mainGlobals "_law_next" = some (some (.ref f__law_next)))
    (l__law_next : K.lookup f__law_next = some ⟨oc__law_next, od__law_next, .func (PySem.W.fnOf "_law_next" "_law_next" (C8.fnArgs s__law_next) (C8.fnBody s__law_next) (C8.fnScope s__law_next) .none kV__law_next dc__law_next pm__law_next an__law_next cd__law_next ct__law_next), sl__law_next⟩)
    (c__law_next : PySem.W.codeIn K cd__law_next "_law_next" = true)
    (k__law_next : PySem.W.keepIn K (.ref f__law_next) = true)
    (a__law_pick : PySem.W.nsIn K mainGlobals "_law_pick" = some (some (.ref f__law_pick)))
    (l__law_pick : K.lookup f__law_pick = some ⟨oc__law_pick, od__law_pick, .func (PySem.W.fnOf "_law_pick" "_law_pick" (C8.fnArgs s__law_pick) (C8.fnBody s__law_pick) (C8.fnScope s__law_pick) .none kV__law_pick dc__law_pick pm__law_pick an__law_pick cd__law_pick ct__law_pick), sl__law_pick⟩)
    (c__law_pick : PySem.W.codeIn K cd__law_pick "_law_pick" = true)
    (k__law_pick : PySem.W.keepIn K (.ref f__law_pick) = true)
    (a__law_words : PySem.W.nsIn K mainGlobals "_law_words" = some (some (.ref f__law_words)))
    (l__law_words : K.lookup f__law_words = some ⟨oc__law_words, od__law_words, .func (PySem.W.fnOf "_law_words" "_law_words" (C8.fnArgs s__law_words) (C8.fnBody s__law_words) (C8.fnScope s__law_words) .none kV__law_words dc__law_words pm__law_words an__law_words cd__law_words ct__law_words), sl__law_words⟩)
    (c__law_words : PySem.W.codeIn K cd__law_words "_law_words" = true)
    (k__law_words : PySem.W.keepIn K (.ref f__law_words) = true)
    (a__law_pair : PySem.W.nsIn K mainGlobals "_law_pair" = some (some (.ref f__law_pair)))
    (l__law_pair : K.lookup f__law_pair = some ⟨oc__law_pair, od__law_pair, .func (PySem.W.fnOf "_law_pair" "_law_pair" (C8.fnArgs s__law_pair) (C8.fnBody s__law_pair) (C8.fnScope s__law_pair) .none kV__law_pair dc__law_pair pm__law_pair an__law_pair cd__law_pair ct__law_pair), sl__law_pair⟩)
    (c__law_pair : PySem.W.codeIn K cd__law_pair "_law_pair" = true)
    (k__law_pair : PySem.W.keepIn K (.ref f__law_pair) = true)
    (a__law_first : PySem.W.nsIn K mainGlobals "_law_first" = some (some (.ref f__law_first)))
    (l__law_first : K.lookup f__law_first = some ⟨oc__law_first, od__law_first, .func (PySem.W.fnOf "_law_first" "_law_first" (C8.fnArgs s__law_first) (C8.fnBody s__law_first) (C8.fnScope s__law_first) .none kV__law_first dc__law_first pm__law_first an__law_first cd__law_first ct__law_first), sl__law_first⟩)
    (c__law_first : PySem.W.codeIn K cd__law_first "_law_first" = true)
    (k__law_first : PySem.W.keepIn K (.ref f__law_first) = true)
    (a__law_fraction_right : PySem.W.nsIn K mainGlobals "_law_fraction_right" = some (some (.ref f__law_fraction_right)))
    (l__law_fraction_right : K.lookup f__law_fraction_right = some ⟨oc__law_fraction_right, od__law_fraction_right, .func (PySem.W.fnOf "_law_fraction_right" "_law_fraction_right" (C8.fnArgs s__law_fraction_right) (C8.fnBody s__law_fraction_right) (C8.fnScope s__law_fraction_right) .none kV__law_fraction_right dc__law_fraction_right pm__law_fraction_right an__law_fraction_right cd__law_fraction_right ct__law_fraction_right), sl__law_fraction_right⟩)
    (c__law_fraction_right : PySem.W.codeIn K cd__law_fraction_right "_law_fraction_right" = true)
    (k__law_fraction_right : PySem.W.keepIn K (.ref f__law_fraction_right) = true)
    (a__law_alike : PySem.W.nsIn K mainGlobals "_law_alike" = some (some (.ref f__law_alike)))
    (l__law_alike : K.lookup f__law_alike = some ⟨oc__law_alike, od__law_alike, .func (PySem.W.fnOf "_law_alike" "_law_alike" (C8.fnArgs s__law_alike) (C8.fnBody s__law_alike) (C8.fnScope s__law_alike) .none kV__law_alike dc__law_alike pm__law_alike an__law_alike cd__law_alike ct__law_alike), sl__law_alike⟩)
    (c__law_alike : PySem.W.codeIn K cd__law_alike "_law_alike" = true)
    (k__law_alike : PySem.W.keepIn K (.ref f__law_alike) = true)
    (a__law_pair_right : PySem.W.nsIn K mainGlobals "_law_pair_right" = some (some (.ref f__law_pair_right)))
    (l__law_pair_right : K.lookup f__law_pair_right = some ⟨oc__law_pair_right, od__law_pair_right, .func (PySem.W.fnOf "_law_pair_right" "_law_pair_right" (C8.fnArgs s__law_pair_right) (C8.fnBody s__law_pair_right) (C8.fnScope s__law_pair_right) .none kV__law_pair_right dc__law_pair_right pm__law_pair_right an__law_pair_right cd__law_pair_right ct__law_pair_right), sl__law_pair_right⟩)
    (c__law_pair_right : PySem.W.codeIn K cd__law_pair_right "_law_pair_right" = true)
    (k__law_pair_right : PySem.W.keepIn K (.ref f__law_pair_right) = true)
    (a__law_digits_right : PySem.W.nsIn K mainGlobals "_law_digits_right" = some (some (.ref f__law_digits_right)))
    (l__law_digits_right : K.lookup f__law_digits_right = some ⟨oc__law_digits_right, od__law_digits_right, .func (PySem.W.fnOf "_law_digits_right" "_law_digits_right" (C8.fnArgs s__law_digits_right) (C8.fnBody s__law_digits_right) (C8.fnScope s__law_digits_right) .none kV__law_digits_right dc__law_digits_right pm__law_digits_right an__law_digits_right cd__law_digits_right ct__law_digits_right), sl__law_digits_right⟩)
    (c__law_digits_right : PySem.W.codeIn K cd__law_digits_right "_law_digits_right" = true)
    (k__law_digits_right : PySem.W.keepIn K (.ref f__law_digits_right) = true)
    (a_law : PySem.W.nsIn K mainGlobals "law" = some (some (.ref f_law)))
    (l_law : K.lookup f_law = some ⟨oc_law, od_law, .func (PySem.W.fnOf "law" "law" (C8.fnArgs s_law) (C8.fnBody s_law) (C8.fnScope s_law) .none kV_law dc_law pm_law an_law cd_law ct_law), sl_law⟩)
    (c_law : PySem.W.codeIn K cd_law "law" = true)
    (k_law : PySem.W.keepIn K (.ref f_law) = true)
    (ob_pf : (P.main.file == ("/claim/cut.py" : Str)) = true)
    (ob_pn : (List.lookup ("super" : Str) P.main.scope.names).isSome = false)
    (e_WORDS : PySem.W.nsIn K mainGlobals "WORDS" = some (some (.int 4294967296 tk_WORDS)))
    (e_MOST_SCRIPT : PySem.W.nsIn K mainGlobals "MOST_SCRIPT" = some (some (.int 10000 tk_MOST_SCRIPT)))
    (e_WORD_BITS : PySem.W.nsIn K mainGlobals "WORD_BITS" = some (some (.int 32 tk_WORD_BITS)))
    (e_MOST_BITS : PySem.W.nsIn K mainGlobals "MOST_BITS" = some (some (.int 512 tk_MOST_BITS)))
    (e_MOST_BOUND : PySem.W.nsIn K mainGlobals "MOST_BOUND" = some (some (.int 115792089237316195423570985008687907853269984665640564039457584007913129639936 tk_MOST_BOUND)))
    (e_MOST_WIDE : PySem.W.nsIn K mainGlobals "MOST_WIDE" = some (some (.int 13407807929942597099574024998205846127479365820592393377723561443721764030073546976801874298166903427690031858186486050853753882811946569946433649006084096 tk_MOST_WIDE)))
    (e_SIZES : PySem.W.nsIn K mainGlobals "SIZES" = some (some (.ref R_SIZES)))
    (g_SIZES : K.lookup R_SIZES = some ⟨.type "dict", none, .dict #[⟨hh_SIZES_0, .str "bits" oK_SIZES_0, .int 2 oT_SIZES_0⟩, ⟨hh_SIZES_1, .str "below" oK_SIZES_1, .int 2 oT_SIZES_1⟩, ⟨hh_SIZES_2, .str "between" oK_SIZES_2, .int 3 oT_SIZES_2⟩, ⟨hh_SIZES_3, .str "choice" oK_SIZES_3, .int 2 oT_SIZES_3⟩, ⟨hh_SIZES_4, .str "coin" oK_SIZES_4, .int 3 oT_SIZES_4⟩, ⟨hh_SIZES_5, .str "fraction" oK_SIZES_5, .int 2 oT_SIZES_5⟩] oN_SIZES, #[]⟩)
    (rv_SIZES_0 : hh_SIZES_0 = hashStr w "bits")
    (rv_SIZES_1 : hh_SIZES_1 = hashStr w "below")
    (rv_SIZES_2 : hh_SIZES_2 = hashStr w "between")
    (rv_SIZES_3 : hh_SIZES_3 = hashStr w "choice")
    (rv_SIZES_4 : hh_SIZES_4 = hashStr w "coin")
    (rv_SIZES_5 : hh_SIZES_5 = hashStr w "fraction")
    (rv_SIZES : (R_SIZES == sysModules) = false)
    (q_Source : PySem.W.nsIn K mainGlobals "Source" = some (some (.ref C_Source)))
    (pg_Source : PySem.W.plainGet K C_Source Str.empty = true)
    (hd_Source : PySem.W.hasDictIn K C_Source = true)
    (po_Source : PySem.W.plainOver K C_Source = true)
    (sa_Source : PySem.W.findIn K (.ref C_Source) "__setattr__" = some (some (.builtin "object.__setattr__")))
    (ha_Source : PySem.W.findIn K (.ref C_Source) "__class__" = some (some (.builtin "object.__class__")))
    (hn_Source : PySem.W.specialIn K (.builtin "object.__class__") "__get__" = some (some (.builtin "getset_descriptor.__get__")))
    (ht_Source : PySem.W.takesIn K (.builtin "object.__class__") = some true)
    (hm_Source : PySem.W.mroIn K C_Source (.type "object") = some true)
    (q_Scripted : PySem.W.nsIn K mainGlobals "Scripted" = some (some (.ref C_Scripted)))
    (pg_Scripted : PySem.W.plainGet K C_Scripted Str.empty = true)
    (hd_Scripted : PySem.W.hasDictIn K C_Scripted = true)
    (po_Scripted : PySem.W.plainOver K C_Scripted = true)
    (sa_Scripted : PySem.W.findIn K (.ref C_Scripted) "__setattr__" = some (some (.builtin "object.__setattr__")))
    (ha_Scripted : PySem.W.findIn K (.ref C_Scripted) "__class__" = some (some (.builtin "object.__class__")))
    (hn_Scripted : PySem.W.specialIn K (.builtin "object.__class__") "__get__" = some (some (.builtin "getset_descriptor.__get__")))
    (ht_Scripted : PySem.W.takesIn K (.builtin "object.__class__") = some true)
    (hm_Scripted : PySem.W.mroIn K C_Scripted (.type "object") = some true)
    (na_Scripted_s1_script : PySem.W.findIn K (.ref C_Scripted) "s1_script" = some none)
    (na_Scripted_s1_place : PySem.W.findIn K (.ref C_Scripted) "s1_place" = some none)
    (q_Draws : PySem.W.nsIn K mainGlobals "Draws" = some (some (.ref C_Draws)))
    (pg_Draws : PySem.W.plainGet K C_Draws Str.empty = true)
    (hd_Draws : PySem.W.hasDictIn K C_Draws = true)
    (po_Draws : PySem.W.plainOver K C_Draws = true)
    (sa_Draws : PySem.W.findIn K (.ref C_Draws) "__setattr__" = some (some (.builtin "object.__setattr__")))
    (ha_Draws : PySem.W.findIn K (.ref C_Draws) "__class__" = some (some (.builtin "object.__class__")))
    (hn_Draws : PySem.W.specialIn K (.builtin "object.__class__") "__get__" = some (some (.builtin "getset_descriptor.__get__")))
    (ht_Draws : PySem.W.takesIn K (.builtin "object.__class__") = some true)
    (hm_Draws : PySem.W.mroIn K C_Draws (.type "object") = some true)
    (na_Draws_s5_source : PySem.W.findIn K (.ref C_Draws) "s5_source" = some none)
    (na_Draws_s5_used : PySem.W.findIn K (.ref C_Draws) "s5_used" = some none)
    (q_PooledDraws : PySem.W.nsIn K mainGlobals "PooledDraws" = some (some (.ref C_PooledDraws)))
    (pg_PooledDraws : PySem.W.plainGet K C_PooledDraws Str.empty = true)
    (hd_PooledDraws : PySem.W.hasDictIn K C_PooledDraws = true)
    (po_PooledDraws : PySem.W.plainOver K C_PooledDraws = true)
    (sa_PooledDraws : PySem.W.findIn K (.ref C_PooledDraws) "__setattr__" = some (some (.builtin "object.__setattr__")))
    (ha_PooledDraws : PySem.W.findIn K (.ref C_PooledDraws) "__class__" = some (some (.builtin "object.__class__")))
    (hn_PooledDraws : PySem.W.specialIn K (.builtin "object.__class__") "__get__" = some (some (.builtin "getset_descriptor.__get__")))
    (ht_PooledDraws : PySem.W.takesIn K (.builtin "object.__class__") = some true)
    (hm_PooledDraws : PySem.W.mroIn K C_PooledDraws (.type "object") = some true)
    (na_PooledDraws_s5_size : PySem.W.findIn K (.ref C_PooledDraws) "s5_size" = some none)
    (na_PooledDraws_s5_value : PySem.W.findIn K (.ref C_PooledDraws) "s5_value" = some none)
    (na_PooledDraws_s5_source : PySem.W.findIn K (.ref C_PooledDraws) "s5_source" = some none)
    (na_PooledDraws_s5_used : PySem.W.findIn K (.ref C_PooledDraws) "s5_used" = some none)
    (vf_Scripted_KIND : PySem.W.findIn K (.ref C_Scripted) "KIND" = some (some (.str "script" vt_Scripted_KIND)))
    (vs_Scripted_KIND : PySem.W.specialIn K (.str "script" vt_Scripted_KIND) "__get__" = some none)
    (z_all : PySem.W.nsIn K mainGlobals "all" = some none)
    (z_bool : PySem.W.nsIn K mainGlobals "bool" = some none)
    (z_enumerate : PySem.W.nsIn K mainGlobals "enumerate" = some none)
    (z_int : PySem.W.nsIn K mainGlobals "int" = some none)
    (z_isinstance : PySem.W.nsIn K mainGlobals "isinstance" = some none)
    (z_len : PySem.W.nsIn K mainGlobals "len" = some none)
    (z_list : PySem.W.nsIn K mainGlobals "list" = some none)
    (z_max : PySem.W.nsIn K mainGlobals "max" = some none)
    (z_min : PySem.W.nsIn K mainGlobals "min" = some none)
    (z_range : PySem.W.nsIn K mainGlobals "range" = some none)
    (z_str : PySem.W.nsIn K mainGlobals "str" = some none)
    (z_sum : PySem.W.nsIn K mainGlobals "sum" = some none)
    (z_super : PySem.W.nsIn K mainGlobals "super" = some none)
    (z_tuple : PySem.W.nsIn K mainGlobals "tuple" = some none)
    (ob_kt_Source_int : PySem.W.kitOne K (.ref C_Source) (.type "int") = some false)
    (ob_kt_Scripted_int : PySem.W.kitOne K (.ref C_Scripted) (.type "int") = some false)
    (ob_kt_Draws_int : PySem.W.kitOne K (.ref C_Draws) (.type "int") = some false)
    (ob_kt_PooledDraws_int : PySem.W.kitOne K (.ref C_PooledDraws) (.type "int") = some false)
    (ob_kt_Source_bool : PySem.W.kitOne K (.ref C_Source) (.type "bool") = some false)
    (ob_kt_Scripted_bool : PySem.W.kitOne K (.ref C_Scripted) (.type "bool") = some false)
    (ob_kt_Draws_bool : PySem.W.kitOne K (.ref C_Draws) (.type "bool") = some false)
    (ob_kt_PooledDraws_bool : PySem.W.kitOne K (.ref C_PooledDraws) (.type "bool") = some false)
    (ob_kt_NoneType_Source : PySem.W.kitOne K (.type "NoneType") (.ref C_Source) = some false)
    (ob_kt_bool_Source : PySem.W.kitOne K (.type "bool") (.ref C_Source) = some false)
    (ob_kt_int_Source : PySem.W.kitOne K (.type "int") (.ref C_Source) = some false)
    (ob_kt_str_Source : PySem.W.kitOne K (.type "str") (.ref C_Source) = some false)
    (ob_kt_tuple_Source : PySem.W.kitOne K (.type "tuple") (.ref C_Source) = some false)
    (ob_kt_list_Source : PySem.W.kitOne K (.type "list") (.ref C_Source) = some false)
    (ob_kt_dict_Source : PySem.W.kitOne K (.type "dict") (.ref C_Source) = some false)
    (ob_kt_Scripted_Source : PySem.W.kitOne K (.ref C_Scripted) (.ref C_Source) = some true)
    (ob_kt_Draws_Source : PySem.W.kitOne K (.ref C_Draws) (.ref C_Source) = some false)
    (ob_kt_PooledDraws_Source : PySem.W.kitOne K (.ref C_PooledDraws) (.ref C_Source) = some false)
    (ob_kt_Source_tuple : PySem.W.kitOne K (.ref C_Source) (.type "tuple") = some false)
    (ob_kt_Scripted_tuple : PySem.W.kitOne K (.ref C_Scripted) (.type "tuple") = some false)
    (ob_kt_Draws_tuple : PySem.W.kitOne K (.ref C_Draws) (.type "tuple") = some false)
    (ob_kt_PooledDraws_tuple : PySem.W.kitOne K (.ref C_PooledDraws) (.type "tuple") = some false)
    (ob_kt_Source_str : PySem.W.kitOne K (.ref C_Source) (.type "str") = some false)
    (ob_kt_Scripted_str : PySem.W.kitOne K (.ref C_Scripted) (.type "str") = some false)
    (ob_kt_Draws_str : PySem.W.kitOne K (.ref C_Draws) (.type "str") = some false)
    (ob_kt_PooledDraws_str : PySem.W.kitOne K (.ref C_PooledDraws) (.type "str") = some false)
    (ob_kt_Source_list : PySem.W.kitOne K (.ref C_Source) (.type "list") = some false)
    (ob_kt_Scripted_list : PySem.W.kitOne K (.ref C_Scripted) (.type "list") = some false)
    (ob_kt_Draws_list : PySem.W.kitOne K (.ref C_Draws) (.type "list") = some false)
    (ob_kt_PooledDraws_list : PySem.W.kitOne K (.ref C_PooledDraws) (.type "list") = some false)
    : Txt K mg P w C_Source C_Scripted C_Draws C_PooledDraws R_SIZES :=
  { d_is_integer := ⟨f_is_integer, _, ⟨⟨⟨oc_is_integer, od_is_integer, .none, kV_is_integer, dc_is_integer, pm_is_integer, an_is_integer, cd_is_integer, ct_is_integer, sl_is_integer, rfl, l_is_integer, c_is_integer⟩⟩, PySem.W.mg_of X G a_is_integer, k_is_integer⟩, C8.Fun.binds (x := "is_integer") (qual := "is_integer") (st := s_is_integer) (f := f_is_integer) ⟨⟨oc_is_integer, od_is_integer, .none, kV_is_integer, dc_is_integer, pm_is_integer, an_is_integer, cd_is_integer, ct_is_integer, sl_is_integer, rfl, l_is_integer, c_is_integer⟩⟩ rfl (fun _ _ _ _ _ _ us hl => match us, hl with | [_], _ => rfl)⟩,
    d_is_word := ⟨f_is_word, _, ⟨⟨⟨oc_is_word, od_is_word, .none, kV_is_word, dc_is_word, pm_is_word, an_is_word, cd_is_word, ct_is_word, sl_is_word, rfl, l_is_word, c_is_word⟩⟩, PySem.W.mg_of X G a_is_word, k_is_word⟩, C8.Fun.binds (x := "is_word") (qual := "is_word") (st := s_is_word) (f := f_is_word) ⟨⟨oc_is_word, od_is_word, .none, kV_is_word, dc_is_word, pm_is_word, an_is_word, cd_is_word, ct_is_word, sl_is_word, rfl, l_is_word, c_is_word⟩⟩ rfl (fun _ _ _ _ _ _ us hl => match us, hl with | [_], _ => rfl)⟩,
    d_need_source := ⟨f_need_source, _, ⟨⟨⟨oc_need_source, od_need_source, .none, kV_need_source, dc_need_source, pm_need_source, an_need_source, cd_need_source, ct_need_source, sl_need_source, rfl, l_need_source, c_need_source⟩⟩, PySem.W.mg_of X G a_need_source, k_need_source⟩, C8.Fun.binds (x := "need_source") (qual := "need_source") (st := s_need_source) (f := f_need_source) ⟨⟨oc_need_source, od_need_source, .none, kV_need_source, dc_need_source, pm_need_source, an_need_source, cd_need_source, ct_need_source, sl_need_source, rfl, l_need_source, c_need_source⟩⟩ rfl (fun _ _ _ _ _ _ us hl => match us, hl with | [_], _ => rfl)⟩,
    d_is_script := ⟨f_is_script, _, ⟨⟨⟨oc_is_script, od_is_script, .none, kV_is_script, dc_is_script, pm_is_script, an_is_script, cd_is_script, ct_is_script, sl_is_script, rfl, l_is_script, c_is_script⟩⟩, PySem.W.mg_of X G a_is_script, k_is_script⟩, C8.Fun.binds (x := "is_script") (qual := "is_script") (st := s_is_script) (f := f_is_script) ⟨⟨oc_is_script, od_is_script, .none, kV_is_script, dc_is_script, pm_is_script, an_is_script, cd_is_script, ct_is_script, sl_is_script, rfl, l_is_script, c_is_script⟩⟩ rfl (fun _ _ _ _ _ _ us hl => match us, hl with | [_], _ => rfl)⟩,
    d_need_script_state := ⟨f_need_script_state, _, ⟨⟨⟨oc_need_script_state, od_need_script_state, .none, kV_need_script_state, dc_need_script_state, pm_need_script_state, an_need_script_state, cd_need_script_state, ct_need_script_state, sl_need_script_state, rfl, l_need_script_state, c_need_script_state⟩⟩, PySem.W.mg_of X G a_need_script_state, k_need_script_state⟩, C8.Fun.binds (x := "need_script_state") (qual := "need_script_state") (st := s_need_script_state) (f := f_need_script_state) ⟨⟨oc_need_script_state, od_need_script_state, .none, kV_need_script_state, dc_need_script_state, pm_need_script_state, an_need_script_state, cd_need_script_state, ct_need_script_state, sl_need_script_state, rfl, l_need_script_state, c_need_script_state⟩⟩ rfl (fun _ _ _ _ _ _ us hl => match us, hl with | [_], _ => rfl)⟩,
    d_script_after := ⟨f_script_after, _, ⟨⟨⟨oc_script_after, od_script_after, .none, kV_script_after, dc_script_after, pm_script_after, an_script_after, cd_script_after, ct_script_after, sl_script_after, rfl, l_script_after, c_script_after⟩⟩, PySem.W.mg_of X G a_script_after, k_script_after⟩, C8.Fun.binds (x := "script_after") (qual := "script_after") (st := s_script_after) (f := f_script_after) ⟨⟨oc_script_after, od_script_after, .none, kV_script_after, dc_script_after, pm_script_after, an_script_after, cd_script_after, ct_script_after, sl_script_after, rfl, l_script_after, c_script_after⟩⟩ rfl (fun _ _ _ _ _ _ us hl => match us, hl with | [_, _, _], _ => rfl)⟩,
    d_Scripted___init__ := ⟨f_Scripted___init__, _, ⟨mk_Scripted___init__, a_Scripted___init__, i_Scripted___init__, kc_Scripted___init__⟩, ⟨⟨oc_Scripted___init__, od_Scripted___init__, .ref D_Scripted___init__, kV_Scripted___init__, dc_Scripted___init__, pm_Scripted___init__, an_Scripted___init__, cd_Scripted___init__, ct_Scripted___init__, sl_Scripted___init__, rfl, l_Scripted___init__, c_Scripted___init__⟩⟩, (by obtain ⟨ds, hv, hb⟩ := FunD.binds1 (⟨⟨oc_Scripted___init__, od_Scripted___init__, .ref D_Scripted___init__, kV_Scripted___init__, dc_Scripted___init__, pm_Scripted___init__, an_Scripted___init__, cd_Scripted___init__, ct_Scripted___init__, sl_Scripted___init__, rfl, l_Scripted___init__, c_Scripted___init__, .inr ⟨by simp, D_Scripted___init__, _, [.int 0 dT_Scripted___init___0], _, rfl, dl_Scripted___init__, rfl, (.cons ⟨_, rfl⟩ .nil)⟩, .inl rfl⟩, k_Scripted___init__⟩ : FunD K "__init__" "Scripted.__init__" (C8.fnArgs s_Scripted___init__) (C8.fnBody s_Scripted___init__) (C8.fnScope s_Scripted___init__) [.int 0] [] f_Scripted___init__ _) (ps := ["self", "script", "place"]) 3 1 (by simp) rfl (fun _ _ _ _ _ _ _ us its hu hi => match us, its, hu, hi with | [_, _, _], [_], _, _ => ⟨_, rfl, rfl⟩); cases hv; exact hb), FunD.binds1 (⟨⟨oc_Scripted___init__, od_Scripted___init__, .ref D_Scripted___init__, kV_Scripted___init__, dc_Scripted___init__, pm_Scripted___init__, an_Scripted___init__, cd_Scripted___init__, ct_Scripted___init__, sl_Scripted___init__, rfl, l_Scripted___init__, c_Scripted___init__, .inr ⟨by simp, D_Scripted___init__, _, [.int 0 dT_Scripted___init___0], _, rfl, dl_Scripted___init__, rfl, (.cons ⟨_, rfl⟩ .nil)⟩, .inl rfl⟩, k_Scripted___init__⟩ : FunD K "__init__" "Scripted.__init__" (C8.fnArgs s_Scripted___init__) (C8.fnBody s_Scripted___init__) (C8.fnScope s_Scripted___init__) [.int 0] [] f_Scripted___init__ _) (ps := ["self", "script", "place"]) 2 0 (by simp) rfl (fun _ _ _ _ _ _ _ us its hu hi => match us, its, hu, hi with | [_, _], [_], _, _ => ⟨_, rfl, rfl⟩)⟩,
    d_Scripted_next_word := ⟨f_Scripted_next_word, _, ⟨a_Scripted_next_word, i_Scripted_next_word, k_Scripted_next_word⟩, ⟨⟨oc_Scripted_next_word, od_Scripted_next_word, .none, kV_Scripted_next_word, dc_Scripted_next_word, pm_Scripted_next_word, an_Scripted_next_word, cd_Scripted_next_word, ct_Scripted_next_word, sl_Scripted_next_word, rfl, l_Scripted_next_word, c_Scripted_next_word⟩⟩, C8.Fun.binds (x := "next_word") (qual := "Scripted.next_word") (st := s_Scripted_next_word) (f := f_Scripted_next_word) ⟨⟨oc_Scripted_next_word, od_Scripted_next_word, .none, kV_Scripted_next_word, dc_Scripted_next_word, pm_Scripted_next_word, an_Scripted_next_word, cd_Scripted_next_word, ct_Scripted_next_word, sl_Scripted_next_word, rfl, l_Scripted_next_word, c_Scripted_next_word⟩⟩ rfl (fun _ _ _ _ _ _ us hl => match us, hl with | [_], _ => rfl)⟩,
    d_Scripted_state := ⟨p_Scripted_state, f_Scripted_state, _, ⟨a_Scripted_state, g_Scripted_state, t_Scripted_state, _, r_Scripted_state⟩, ⟨⟨oc_Scripted_state, od_Scripted_state, .none, kV_Scripted_state, dc_Scripted_state, pm_Scripted_state, an_Scripted_state, cd_Scripted_state, ct_Scripted_state, sl_Scripted_state, rfl, l_Scripted_state, c_Scripted_state⟩⟩, C8.Fun.binds (x := "state") (qual := "Scripted.state") (st := s_Scripted_state) (f := f_Scripted_state) ⟨⟨oc_Scripted_state, od_Scripted_state, .none, kV_Scripted_state, dc_Scripted_state, pm_Scripted_state, an_Scripted_state, cd_Scripted_state, ct_Scripted_state, sl_Scripted_state, rfl, l_Scripted_state, c_Scripted_state⟩⟩ rfl (fun _ _ _ _ _ _ us hl => match us, hl with | [_], _ => rfl)⟩,
    d_s5_need := ⟨f_s5_need, _, ⟨⟨⟨oc_s5_need, od_s5_need, .none, kV_s5_need, dc_s5_need, pm_s5_need, an_s5_need, cd_s5_need, ct_s5_need, sl_s5_need, rfl, l_s5_need, c_s5_need⟩⟩, PySem.W.mg_of X G a_s5_need, k_s5_need⟩, C8.Fun.binds (x := "s5_need") (qual := "s5_need") (st := s_s5_need) (f := f_s5_need) ⟨⟨oc_s5_need, od_s5_need, .none, kV_s5_need, dc_s5_need, pm_s5_need, an_s5_need, cd_s5_need, ct_s5_need, sl_s5_need, rfl, l_s5_need, c_s5_need⟩⟩ rfl (fun _ _ _ _ _ _ us hl => match us, hl with | [_, _, _], _ => rfl)⟩,
    d_s5_digits := ⟨f_s5_digits, _, ⟨⟨⟨oc_s5_digits, od_s5_digits, .none, kV_s5_digits, dc_s5_digits, pm_s5_digits, an_s5_digits, cd_s5_digits, ct_s5_digits, sl_s5_digits, rfl, l_s5_digits, c_s5_digits⟩⟩, PySem.W.mg_of X G a_s5_digits, k_s5_digits⟩, C8.Fun.binds (x := "s5_digits") (qual := "s5_digits") (st := s_s5_digits) (f := f_s5_digits) ⟨⟨oc_s5_digits, od_s5_digits, .none, kV_s5_digits, dc_s5_digits, pm_s5_digits, an_s5_digits, cd_s5_digits, ct_s5_digits, sl_s5_digits, rfl, l_s5_digits, c_s5_digits⟩⟩ rfl (fun _ _ _ _ _ _ us hl => match us, hl with | [_], _ => rfl)⟩,
    d_digits_of := ⟨f_digits_of, _, ⟨⟨⟨oc_digits_of, od_digits_of, .none, kV_digits_of, dc_digits_of, pm_digits_of, an_digits_of, cd_digits_of, ct_digits_of, sl_digits_of, rfl, l_digits_of, c_digits_of⟩⟩, PySem.W.mg_of X G a_digits_of, k_digits_of⟩, C8.Fun.binds (x := "digits_of") (qual := "digits_of") (st := s_digits_of) (f := f_digits_of) ⟨⟨oc_digits_of, od_digits_of, .none, kV_digits_of, dc_digits_of, pm_digits_of, an_digits_of, cd_digits_of, ct_digits_of, sl_digits_of, rfl, l_digits_of, c_digits_of⟩⟩ rfl (fun _ _ _ _ _ _ us hl => match us, hl with | [_], _ => rfl)⟩,
    d_s5_reduced := ⟨f_s5_reduced, _, ⟨⟨⟨oc_s5_reduced, od_s5_reduced, .none, kV_s5_reduced, dc_s5_reduced, pm_s5_reduced, an_s5_reduced, cd_s5_reduced, ct_s5_reduced, sl_s5_reduced, rfl, l_s5_reduced, c_s5_reduced⟩⟩, PySem.W.mg_of X G a_s5_reduced, k_s5_reduced⟩, C8.Fun.binds (x := "s5_reduced") (qual := "s5_reduced") (st := s_s5_reduced) (f := f_s5_reduced) ⟨⟨oc_s5_reduced, od_s5_reduced, .none, kV_s5_reduced, dc_s5_reduced, pm_s5_reduced, an_s5_reduced, cd_s5_reduced, ct_s5_reduced, sl_s5_reduced, rfl, l_s5_reduced, c_s5_reduced⟩⟩ rfl (fun _ _ _ _ _ _ us hl => match us, hl with | [_, _], _ => rfl)⟩,
    d_need_step := ⟨f_need_step, _, ⟨⟨⟨oc_need_step, od_need_step, .none, kV_need_step, dc_need_step, pm_need_step, an_need_step, cd_need_step, ct_need_step, sl_need_step, rfl, l_need_step, c_need_step⟩⟩, PySem.W.mg_of X G a_need_step, k_need_step⟩, C8.Fun.binds (x := "need_step") (qual := "need_step") (st := s_need_step) (f := f_need_step) ⟨⟨oc_need_step, od_need_step, .none, kV_need_step, dc_need_step, pm_need_step, an_need_step, cd_need_step, ct_need_step, sl_need_step, rfl, l_need_step, c_need_step⟩⟩ rfl (fun _ _ _ _ _ _ us hl => match us, hl with | [_], _ => rfl)⟩,
    d_need_range := ⟨f_need_range, _, ⟨⟨⟨oc_need_range, od_need_range, .none, kV_need_range, dc_need_range, pm_need_range, an_need_range, cd_need_range, ct_need_range, sl_need_range, rfl, l_need_range, c_need_range⟩⟩, PySem.W.mg_of X G a_need_range, k_need_range⟩, C8.Fun.binds (x := "need_range") (qual := "need_range") (st := s_need_range) (f := f_need_range) ⟨⟨oc_need_range, od_need_range, .none, kV_need_range, dc_need_range, pm_need_range, an_need_range, cd_need_range, ct_need_range, sl_need_range, rfl, l_need_range, c_need_range⟩⟩ rfl (fun _ _ _ _ _ _ us hl => match us, hl with | [_, _], _ => rfl)⟩,
    d_need_share := ⟨f_need_share, _, ⟨⟨⟨oc_need_share, od_need_share, .none, kV_need_share, dc_need_share, pm_need_share, an_need_share, cd_need_share, ct_need_share, sl_need_share, rfl, l_need_share, c_need_share⟩⟩, PySem.W.mg_of X G a_need_share, k_need_share⟩, C8.Fun.binds (x := "need_share") (qual := "need_share") (st := s_need_share) (f := f_need_share) ⟨⟨oc_need_share, od_need_share, .none, kV_need_share, dc_need_share, pm_need_share, an_need_share, cd_need_share, ct_need_share, sl_need_share, rfl, l_need_share, c_need_share⟩⟩ rfl (fun _ _ _ _ _ _ us hl => match us, hl with | [_, _], _ => rfl)⟩,
    d_Draws___init__ := ⟨f_Draws___init__, _, ⟨mk_Draws___init__, a_Draws___init__, i_Draws___init__, kc_Draws___init__⟩, ⟨⟨oc_Draws___init__, od_Draws___init__, .none, kV_Draws___init__, dc_Draws___init__, pm_Draws___init__, an_Draws___init__, cd_Draws___init__, ct_Draws___init__, sl_Draws___init__, rfl, l_Draws___init__, c_Draws___init__⟩⟩, C8.Fun.binds (x := "__init__") (qual := "Draws.__init__") (st := s_Draws___init__) (f := f_Draws___init__) ⟨⟨oc_Draws___init__, od_Draws___init__, .none, kV_Draws___init__, dc_Draws___init__, pm_Draws___init__, an_Draws___init__, cd_Draws___init__, ct_Draws___init__, sl_Draws___init__, rfl, l_Draws___init__, c_Draws___init__⟩⟩ rfl (fun _ _ _ _ _ _ us hl => match us, hl with | [_, _], _ => rfl)⟩,
    d_Draws_words_used := ⟨p_Draws_words_used, f_Draws_words_used, _, ⟨a_Draws_words_used, g_Draws_words_used, t_Draws_words_used, _, r_Draws_words_used⟩, ⟨⟨oc_Draws_words_used, od_Draws_words_used, .none, kV_Draws_words_used, dc_Draws_words_used, pm_Draws_words_used, an_Draws_words_used, cd_Draws_words_used, ct_Draws_words_used, sl_Draws_words_used, rfl, l_Draws_words_used, c_Draws_words_used⟩⟩, C8.Fun.binds (x := "words_used") (qual := "Draws.words_used") (st := s_Draws_words_used) (f := f_Draws_words_used) ⟨⟨oc_Draws_words_used, od_Draws_words_used, .none, kV_Draws_words_used, dc_Draws_words_used, pm_Draws_words_used, an_Draws_words_used, cd_Draws_words_used, ct_Draws_words_used, sl_Draws_words_used, rfl, l_Draws_words_used, c_Draws_words_used⟩⟩ rfl (fun _ _ _ _ _ _ us hl => match us, hl with | [_], _ => rfl)⟩,
    d_Draws_words_used_of_PooledDraws := ⟨p_Draws_words_used, f_Draws_words_used, _, ⟨a_Draws_words_used_of_PooledDraws, g_Draws_words_used, t_Draws_words_used, _, r_Draws_words_used⟩, ⟨⟨oc_Draws_words_used, od_Draws_words_used, .none, kV_Draws_words_used, dc_Draws_words_used, pm_Draws_words_used, an_Draws_words_used, cd_Draws_words_used, ct_Draws_words_used, sl_Draws_words_used, rfl, l_Draws_words_used, c_Draws_words_used⟩⟩, C8.Fun.binds (x := "words_used") (qual := "Draws.words_used") (st := s_Draws_words_used) (f := f_Draws_words_used) ⟨⟨oc_Draws_words_used, od_Draws_words_used, .none, kV_Draws_words_used, dc_Draws_words_used, pm_Draws_words_used, an_Draws_words_used, cd_Draws_words_used, ct_Draws_words_used, sl_Draws_words_used, rfl, l_Draws_words_used, c_Draws_words_used⟩⟩ rfl (fun _ _ _ _ _ _ us hl => match us, hl with | [_], _ => rfl)⟩,
    d_Draws_s5_word := ⟨f_Draws_s5_word, _, ⟨a_Draws_s5_word, i_Draws_s5_word, k_Draws_s5_word⟩, ⟨⟨oc_Draws_s5_word, od_Draws_s5_word, .none, kV_Draws_s5_word, dc_Draws_s5_word, pm_Draws_s5_word, an_Draws_s5_word, cd_Draws_s5_word, ct_Draws_s5_word, sl_Draws_s5_word, rfl, l_Draws_s5_word, c_Draws_s5_word⟩⟩, C8.Fun.binds (x := "s5_word") (qual := "Draws.s5_word") (st := s_Draws_s5_word) (f := f_Draws_s5_word) ⟨⟨oc_Draws_s5_word, od_Draws_s5_word, .none, kV_Draws_s5_word, dc_Draws_s5_word, pm_Draws_s5_word, an_Draws_s5_word, cd_Draws_s5_word, ct_Draws_s5_word, sl_Draws_s5_word, rfl, l_Draws_s5_word, c_Draws_s5_word⟩⟩ rfl (fun _ _ _ _ _ _ us hl => match us, hl with | [_], _ => rfl)⟩,
    d_Draws_s5_word_of_PooledDraws := ⟨f_Draws_s5_word, _, ⟨a_Draws_s5_word_of_PooledDraws, i_Draws_s5_word, k_Draws_s5_word⟩, ⟨⟨oc_Draws_s5_word, od_Draws_s5_word, .none, kV_Draws_s5_word, dc_Draws_s5_word, pm_Draws_s5_word, an_Draws_s5_word, cd_Draws_s5_word, ct_Draws_s5_word, sl_Draws_s5_word, rfl, l_Draws_s5_word, c_Draws_s5_word⟩⟩, C8.Fun.binds (x := "s5_word") (qual := "Draws.s5_word") (st := s_Draws_s5_word) (f := f_Draws_s5_word) ⟨⟨oc_Draws_s5_word, od_Draws_s5_word, .none, kV_Draws_s5_word, dc_Draws_s5_word, pm_Draws_s5_word, an_Draws_s5_word, cd_Draws_s5_word, ct_Draws_s5_word, sl_Draws_s5_word, rfl, l_Draws_s5_word, c_Draws_s5_word⟩⟩ rfl (fun _ _ _ _ _ _ us hl => match us, hl with | [_], _ => rfl)⟩,
    d_Draws_s5_bits := ⟨f_Draws_s5_bits, _, ⟨a_Draws_s5_bits, i_Draws_s5_bits, k_Draws_s5_bits⟩, ⟨⟨oc_Draws_s5_bits, od_Draws_s5_bits, .none, kV_Draws_s5_bits, dc_Draws_s5_bits, pm_Draws_s5_bits, an_Draws_s5_bits, cd_Draws_s5_bits, ct_Draws_s5_bits, sl_Draws_s5_bits, rfl, l_Draws_s5_bits, c_Draws_s5_bits⟩⟩, C8.Fun.binds (x := "s5_bits") (qual := "Draws.s5_bits") (st := s_Draws_s5_bits) (f := f_Draws_s5_bits) ⟨⟨oc_Draws_s5_bits, od_Draws_s5_bits, .none, kV_Draws_s5_bits, dc_Draws_s5_bits, pm_Draws_s5_bits, an_Draws_s5_bits, cd_Draws_s5_bits, ct_Draws_s5_bits, sl_Draws_s5_bits, rfl, l_Draws_s5_bits, c_Draws_s5_bits⟩⟩ rfl (fun _ _ _ _ _ _ us hl => match us, hl with | [_, _], _ => rfl)⟩,
    d_Draws_s5_below := ⟨f_Draws_s5_below, _, ⟨a_Draws_s5_below, i_Draws_s5_below, k_Draws_s5_below⟩, ⟨⟨oc_Draws_s5_below, od_Draws_s5_below, .none, kV_Draws_s5_below, dc_Draws_s5_below, pm_Draws_s5_below, an_Draws_s5_below, cd_Draws_s5_below, ct_Draws_s5_below, sl_Draws_s5_below, rfl, l_Draws_s5_below, c_Draws_s5_below⟩⟩, C8.Fun.binds (x := "s5_below") (qual := "Draws.s5_below") (st := s_Draws_s5_below) (f := f_Draws_s5_below) ⟨⟨oc_Draws_s5_below, od_Draws_s5_below, .none, kV_Draws_s5_below, dc_Draws_s5_below, pm_Draws_s5_below, an_Draws_s5_below, cd_Draws_s5_below, ct_Draws_s5_below, sl_Draws_s5_below, rfl, l_Draws_s5_below, c_Draws_s5_below⟩⟩ rfl (fun _ _ _ _ _ _ us hl => match us, hl with | [_, _], _ => rfl)⟩,
    d_Draws_s5_below_of_PooledDraws := ⟨f_Draws_s5_below, _, ⟨a_Draws_s5_below_of_PooledDraws, i_Draws_s5_below, k_Draws_s5_below⟩, ⟨⟨oc_Draws_s5_below, od_Draws_s5_below, .none, kV_Draws_s5_below, dc_Draws_s5_below, pm_Draws_s5_below, an_Draws_s5_below, cd_Draws_s5_below, ct_Draws_s5_below, sl_Draws_s5_below, rfl, l_Draws_s5_below, c_Draws_s5_below⟩⟩, C8.Fun.binds (x := "s5_below") (qual := "Draws.s5_below") (st := s_Draws_s5_below) (f := f_Draws_s5_below) ⟨⟨oc_Draws_s5_below, od_Draws_s5_below, .none, kV_Draws_s5_below, dc_Draws_s5_below, pm_Draws_s5_below, an_Draws_s5_below, cd_Draws_s5_below, ct_Draws_s5_below, sl_Draws_s5_below, rfl, l_Draws_s5_below, c_Draws_s5_below⟩⟩ rfl (fun _ _ _ _ _ _ us hl => match us, hl with | [_, _], _ => rfl)⟩,
    d_Draws_bits := ⟨f_Draws_bits, _, ⟨a_Draws_bits, i_Draws_bits, k_Draws_bits⟩, ⟨⟨oc_Draws_bits, od_Draws_bits, .none, kV_Draws_bits, dc_Draws_bits, pm_Draws_bits, an_Draws_bits, cd_Draws_bits, ct_Draws_bits, sl_Draws_bits, rfl, l_Draws_bits, c_Draws_bits⟩⟩, C8.Fun.binds (x := "bits") (qual := "Draws.bits") (st := s_Draws_bits) (f := f_Draws_bits) ⟨⟨oc_Draws_bits, od_Draws_bits, .none, kV_Draws_bits, dc_Draws_bits, pm_Draws_bits, an_Draws_bits, cd_Draws_bits, ct_Draws_bits, sl_Draws_bits, rfl, l_Draws_bits, c_Draws_bits⟩⟩ rfl (fun _ _ _ _ _ _ us hl => match us, hl with | [_, _], _ => rfl)⟩,
    d_Draws_bits_of_PooledDraws := ⟨f_Draws_bits, _, ⟨a_Draws_bits_of_PooledDraws, i_Draws_bits, k_Draws_bits⟩, ⟨⟨oc_Draws_bits, od_Draws_bits, .none, kV_Draws_bits, dc_Draws_bits, pm_Draws_bits, an_Draws_bits, cd_Draws_bits, ct_Draws_bits, sl_Draws_bits, rfl, l_Draws_bits, c_Draws_bits⟩⟩, C8.Fun.binds (x := "bits") (qual := "Draws.bits") (st := s_Draws_bits) (f := f_Draws_bits) ⟨⟨oc_Draws_bits, od_Draws_bits, .none, kV_Draws_bits, dc_Draws_bits, pm_Draws_bits, an_Draws_bits, cd_Draws_bits, ct_Draws_bits, sl_Draws_bits, rfl, l_Draws_bits, c_Draws_bits⟩⟩ rfl (fun _ _ _ _ _ _ us hl => match us, hl with | [_, _], _ => rfl)⟩,
    d_Draws_below := ⟨f_Draws_below, _, ⟨a_Draws_below, i_Draws_below, k_Draws_below⟩, ⟨⟨oc_Draws_below, od_Draws_below, .none, kV_Draws_below, dc_Draws_below, pm_Draws_below, an_Draws_below, cd_Draws_below, ct_Draws_below, sl_Draws_below, rfl, l_Draws_below, c_Draws_below⟩⟩, C8.Fun.binds (x := "below") (qual := "Draws.below") (st := s_Draws_below) (f := f_Draws_below) ⟨⟨oc_Draws_below, od_Draws_below, .none, kV_Draws_below, dc_Draws_below, pm_Draws_below, an_Draws_below, cd_Draws_below, ct_Draws_below, sl_Draws_below, rfl, l_Draws_below, c_Draws_below⟩⟩ rfl (fun _ _ _ _ _ _ us hl => match us, hl with | [_, _], _ => rfl)⟩,
    d_Draws_below_of_PooledDraws := ⟨f_Draws_below, _, ⟨a_Draws_below_of_PooledDraws, i_Draws_below, k_Draws_below⟩, ⟨⟨oc_Draws_below, od_Draws_below, .none, kV_Draws_below, dc_Draws_below, pm_Draws_below, an_Draws_below, cd_Draws_below, ct_Draws_below, sl_Draws_below, rfl, l_Draws_below, c_Draws_below⟩⟩, C8.Fun.binds (x := "below") (qual := "Draws.below") (st := s_Draws_below) (f := f_Draws_below) ⟨⟨oc_Draws_below, od_Draws_below, .none, kV_Draws_below, dc_Draws_below, pm_Draws_below, an_Draws_below, cd_Draws_below, ct_Draws_below, sl_Draws_below, rfl, l_Draws_below, c_Draws_below⟩⟩ rfl (fun _ _ _ _ _ _ us hl => match us, hl with | [_, _], _ => rfl)⟩,
    d_Draws_between := ⟨f_Draws_between, _, ⟨a_Draws_between, i_Draws_between, k_Draws_between⟩, ⟨⟨oc_Draws_between, od_Draws_between, .none, kV_Draws_between, dc_Draws_between, pm_Draws_between, an_Draws_between, cd_Draws_between, ct_Draws_between, sl_Draws_between, rfl, l_Draws_between, c_Draws_between⟩⟩, C8.Fun.binds (x := "between") (qual := "Draws.between") (st := s_Draws_between) (f := f_Draws_between) ⟨⟨oc_Draws_between, od_Draws_between, .none, kV_Draws_between, dc_Draws_between, pm_Draws_between, an_Draws_between, cd_Draws_between, ct_Draws_between, sl_Draws_between, rfl, l_Draws_between, c_Draws_between⟩⟩ rfl (fun _ _ _ _ _ _ us hl => match us, hl with | [_, _, _], _ => rfl)⟩,
    d_Draws_between_of_PooledDraws := ⟨f_Draws_between, _, ⟨a_Draws_between_of_PooledDraws, i_Draws_between, k_Draws_between⟩, ⟨⟨oc_Draws_between, od_Draws_between, .none, kV_Draws_between, dc_Draws_between, pm_Draws_between, an_Draws_between, cd_Draws_between, ct_Draws_between, sl_Draws_between, rfl, l_Draws_between, c_Draws_between⟩⟩, C8.Fun.binds (x := "between") (qual := "Draws.between") (st := s_Draws_between) (f := f_Draws_between) ⟨⟨oc_Draws_between, od_Draws_between, .none, kV_Draws_between, dc_Draws_between, pm_Draws_between, an_Draws_between, cd_Draws_between, ct_Draws_between, sl_Draws_between, rfl, l_Draws_between, c_Draws_between⟩⟩ rfl (fun _ _ _ _ _ _ us hl => match us, hl with | [_, _, _], _ => rfl)⟩,
    d_Draws_choice := ⟨f_Draws_choice, _, ⟨a_Draws_choice, i_Draws_choice, k_Draws_choice⟩, ⟨⟨oc_Draws_choice, od_Draws_choice, .none, kV_Draws_choice, dc_Draws_choice, pm_Draws_choice, an_Draws_choice, cd_Draws_choice, ct_Draws_choice, sl_Draws_choice, rfl, l_Draws_choice, c_Draws_choice⟩⟩, C8.Fun.binds (x := "choice") (qual := "Draws.choice") (st := s_Draws_choice) (f := f_Draws_choice) ⟨⟨oc_Draws_choice, od_Draws_choice, .none, kV_Draws_choice, dc_Draws_choice, pm_Draws_choice, an_Draws_choice, cd_Draws_choice, ct_Draws_choice, sl_Draws_choice, rfl, l_Draws_choice, c_Draws_choice⟩⟩ rfl (fun _ _ _ _ _ _ us hl => match us, hl with | [_, _], _ => rfl)⟩,
    d_Draws_choice_of_PooledDraws := ⟨f_Draws_choice, _, ⟨a_Draws_choice_of_PooledDraws, i_Draws_choice, k_Draws_choice⟩, ⟨⟨oc_Draws_choice, od_Draws_choice, .none, kV_Draws_choice, dc_Draws_choice, pm_Draws_choice, an_Draws_choice, cd_Draws_choice, ct_Draws_choice, sl_Draws_choice, rfl, l_Draws_choice, c_Draws_choice⟩⟩, C8.Fun.binds (x := "choice") (qual := "Draws.choice") (st := s_Draws_choice) (f := f_Draws_choice) ⟨⟨oc_Draws_choice, od_Draws_choice, .none, kV_Draws_choice, dc_Draws_choice, pm_Draws_choice, an_Draws_choice, cd_Draws_choice, ct_Draws_choice, sl_Draws_choice, rfl, l_Draws_choice, c_Draws_choice⟩⟩ rfl (fun _ _ _ _ _ _ us hl => match us, hl with | [_, _], _ => rfl)⟩,
    d_Draws_coin := ⟨f_Draws_coin, _, ⟨a_Draws_coin, i_Draws_coin, k_Draws_coin⟩, ⟨⟨oc_Draws_coin, od_Draws_coin, .none, kV_Draws_coin, dc_Draws_coin, pm_Draws_coin, an_Draws_coin, cd_Draws_coin, ct_Draws_coin, sl_Draws_coin, rfl, l_Draws_coin, c_Draws_coin⟩⟩, C8.Fun.binds (x := "coin") (qual := "Draws.coin") (st := s_Draws_coin) (f := f_Draws_coin) ⟨⟨oc_Draws_coin, od_Draws_coin, .none, kV_Draws_coin, dc_Draws_coin, pm_Draws_coin, an_Draws_coin, cd_Draws_coin, ct_Draws_coin, sl_Draws_coin, rfl, l_Draws_coin, c_Draws_coin⟩⟩ rfl (fun _ _ _ _ _ _ us hl => match us, hl with | [_, _, _], _ => rfl)⟩,
    d_Draws_coin_of_PooledDraws := ⟨f_Draws_coin, _, ⟨a_Draws_coin_of_PooledDraws, i_Draws_coin, k_Draws_coin⟩, ⟨⟨oc_Draws_coin, od_Draws_coin, .none, kV_Draws_coin, dc_Draws_coin, pm_Draws_coin, an_Draws_coin, cd_Draws_coin, ct_Draws_coin, sl_Draws_coin, rfl, l_Draws_coin, c_Draws_coin⟩⟩, C8.Fun.binds (x := "coin") (qual := "Draws.coin") (st := s_Draws_coin) (f := f_Draws_coin) ⟨⟨oc_Draws_coin, od_Draws_coin, .none, kV_Draws_coin, dc_Draws_coin, pm_Draws_coin, an_Draws_coin, cd_Draws_coin, ct_Draws_coin, sl_Draws_coin, rfl, l_Draws_coin, c_Draws_coin⟩⟩ rfl (fun _ _ _ _ _ _ us hl => match us, hl with | [_, _, _], _ => rfl)⟩,
    d_Draws_fraction := ⟨f_Draws_fraction, _, ⟨a_Draws_fraction, i_Draws_fraction, k_Draws_fraction⟩, ⟨⟨oc_Draws_fraction, od_Draws_fraction, .none, kV_Draws_fraction, dc_Draws_fraction, pm_Draws_fraction, an_Draws_fraction, cd_Draws_fraction, ct_Draws_fraction, sl_Draws_fraction, rfl, l_Draws_fraction, c_Draws_fraction⟩⟩, C8.Fun.binds (x := "fraction") (qual := "Draws.fraction") (st := s_Draws_fraction) (f := f_Draws_fraction) ⟨⟨oc_Draws_fraction, od_Draws_fraction, .none, kV_Draws_fraction, dc_Draws_fraction, pm_Draws_fraction, an_Draws_fraction, cd_Draws_fraction, ct_Draws_fraction, sl_Draws_fraction, rfl, l_Draws_fraction, c_Draws_fraction⟩⟩ rfl (fun _ _ _ _ _ _ us hl => match us, hl with | [_, _], _ => rfl)⟩,
    d_Draws_fraction_of_PooledDraws := ⟨f_Draws_fraction, _, ⟨a_Draws_fraction_of_PooledDraws, i_Draws_fraction, k_Draws_fraction⟩, ⟨⟨oc_Draws_fraction, od_Draws_fraction, .none, kV_Draws_fraction, dc_Draws_fraction, pm_Draws_fraction, an_Draws_fraction, cd_Draws_fraction, ct_Draws_fraction, sl_Draws_fraction, rfl, l_Draws_fraction, c_Draws_fraction⟩⟩, C8.Fun.binds (x := "fraction") (qual := "Draws.fraction") (st := s_Draws_fraction) (f := f_Draws_fraction) ⟨⟨oc_Draws_fraction, od_Draws_fraction, .none, kV_Draws_fraction, dc_Draws_fraction, pm_Draws_fraction, an_Draws_fraction, cd_Draws_fraction, ct_Draws_fraction, sl_Draws_fraction, rfl, l_Draws_fraction, c_Draws_fraction⟩⟩ rfl (fun _ _ _ _ _ _ us hl => match us, hl with | [_, _], _ => rfl)⟩,
    d_Draws_do := ⟨f_Draws_do, _, ⟨a_Draws_do, i_Draws_do, k_Draws_do⟩, ⟨⟨oc_Draws_do, od_Draws_do, .none, kV_Draws_do, dc_Draws_do, pm_Draws_do, an_Draws_do, cd_Draws_do, ct_Draws_do, sl_Draws_do, rfl, l_Draws_do, c_Draws_do⟩⟩, C8.Fun.binds (x := "do") (qual := "Draws.do") (st := s_Draws_do) (f := f_Draws_do) ⟨⟨oc_Draws_do, od_Draws_do, .none, kV_Draws_do, dc_Draws_do, pm_Draws_do, an_Draws_do, cd_Draws_do, ct_Draws_do, sl_Draws_do, rfl, l_Draws_do, c_Draws_do⟩⟩ rfl (fun _ _ _ _ _ _ us hl => match us, hl with | [_, _], _ => rfl)⟩,
    d_Draws_do_of_PooledDraws := ⟨f_Draws_do, _, ⟨a_Draws_do_of_PooledDraws, i_Draws_do, k_Draws_do⟩, ⟨⟨oc_Draws_do, od_Draws_do, .none, kV_Draws_do, dc_Draws_do, pm_Draws_do, an_Draws_do, cd_Draws_do, ct_Draws_do, sl_Draws_do, rfl, l_Draws_do, c_Draws_do⟩⟩, C8.Fun.binds (x := "do") (qual := "Draws.do") (st := s_Draws_do) (f := f_Draws_do) ⟨⟨oc_Draws_do, od_Draws_do, .none, kV_Draws_do, dc_Draws_do, pm_Draws_do, an_Draws_do, cd_Draws_do, ct_Draws_do, sl_Draws_do, rfl, l_Draws_do, c_Draws_do⟩⟩ rfl (fun _ _ _ _ _ _ us hl => match us, hl with | [_, _], _ => rfl)⟩,
    d_Draws_saved := ⟨f_Draws_saved, _, ⟨a_Draws_saved, i_Draws_saved, k_Draws_saved⟩, ⟨⟨oc_Draws_saved, od_Draws_saved, .none, kV_Draws_saved, dc_Draws_saved, pm_Draws_saved, an_Draws_saved, cd_Draws_saved, ct_Draws_saved, sl_Draws_saved, rfl, l_Draws_saved, c_Draws_saved⟩⟩, C8.Fun.binds (x := "saved") (qual := "Draws.saved") (st := s_Draws_saved) (f := f_Draws_saved) ⟨⟨oc_Draws_saved, od_Draws_saved, .none, kV_Draws_saved, dc_Draws_saved, pm_Draws_saved, an_Draws_saved, cd_Draws_saved, ct_Draws_saved, sl_Draws_saved, rfl, l_Draws_saved, c_Draws_saved⟩⟩ rfl (fun _ _ _ _ _ _ us hl => match us, hl with | [_], _ => rfl)⟩,
    d_PooledDraws___init__ := ⟨f_PooledDraws___init__, _, cd_PooledDraws___init__, cc_PooledDraws___init__, f_Draws___init__, ⟨mk_PooledDraws___init__, a_PooledDraws___init__, i_PooledDraws___init__, kc_PooledDraws___init__⟩, (⟨sc_PooledDraws___init__, ⟨_, kV_PooledDraws___init__, dc_PooledDraws___init__, pm_PooledDraws___init__, ct_PooledDraws___init__, an_PooledDraws___init__, oc_PooledDraws___init__, od_PooledDraws___init__, sl_PooledDraws___init__, rfl, l_PooledDraws___init__⟩, c_PooledDraws___init__, Gx.file_of ob_fi_PooledDraws___init__, Gx.cell_of ob_ce_PooledDraws___init__, ⟨_, rfl, rfl⟩, PySem.W.mg_none_of X G z_super, Gx.cls_of ob_cs_PooledDraws___init__, ob_su_PooledDraws___init__, ob_sp_PooledDraws___init__, ob_sg_PooledDraws___init__, ob_sf_PooledDraws___init__, ob_op_PooledDraws___init__⟩ : Gx.SuDef K mg "PooledDraws.__init__" (C8.fnArgs s_PooledDraws___init__) (C8.fnBody s_PooledDraws___init__) (C8.fnScope s_PooledDraws___init__) "self" "source" f_PooledDraws___init__ C_PooledDraws f_Draws___init__ _ cd_PooledDraws___init__ cc_PooledDraws___init__), Gx.su_binds (⟨sc_PooledDraws___init__, ⟨_, kV_PooledDraws___init__, dc_PooledDraws___init__, pm_PooledDraws___init__, ct_PooledDraws___init__, an_PooledDraws___init__, oc_PooledDraws___init__, od_PooledDraws___init__, sl_PooledDraws___init__, rfl, l_PooledDraws___init__⟩, c_PooledDraws___init__, Gx.file_of ob_fi_PooledDraws___init__, Gx.cell_of ob_ce_PooledDraws___init__, ⟨_, rfl, rfl⟩, PySem.W.mg_none_of X G z_super, Gx.cls_of ob_cs_PooledDraws___init__, ob_su_PooledDraws___init__, ob_sp_PooledDraws___init__, ob_sg_PooledDraws___init__, ob_sf_PooledDraws___init__, ob_op_PooledDraws___init__⟩ : Gx.SuDef K mg "PooledDraws.__init__" (C8.fnArgs s_PooledDraws___init__) (C8.fnBody s_PooledDraws___init__) (C8.fnScope s_PooledDraws___init__) "self" "source" f_PooledDraws___init__ C_PooledDraws f_Draws___init__ _ cd_PooledDraws___init__ cc_PooledDraws___init__) (fun _ _ _ _ _ _ us hl => match us, hl with | [_, _], _ => rfl), a_Draws___init__⟩,
    d_PooledDraws_pool := ⟨p_PooledDraws_pool, f_PooledDraws_pool, _, ⟨a_PooledDraws_pool, g_PooledDraws_pool, t_PooledDraws_pool, _, r_PooledDraws_pool⟩, ⟨⟨oc_PooledDraws_pool, od_PooledDraws_pool, .none, kV_PooledDraws_pool, dc_PooledDraws_pool, pm_PooledDraws_pool, an_PooledDraws_pool, cd_PooledDraws_pool, ct_PooledDraws_pool, sl_PooledDraws_pool, rfl, l_PooledDraws_pool, c_PooledDraws_pool⟩⟩, C8.Fun.binds (x := "pool") (qual := "PooledDraws.pool") (st := s_PooledDraws_pool) (f := f_PooledDraws_pool) ⟨⟨oc_PooledDraws_pool, od_PooledDraws_pool, .none, kV_PooledDraws_pool, dc_PooledDraws_pool, pm_PooledDraws_pool, an_PooledDraws_pool, cd_PooledDraws_pool, ct_PooledDraws_pool, sl_PooledDraws_pool, rfl, l_PooledDraws_pool, c_PooledDraws_pool⟩⟩ rfl (fun _ _ _ _ _ _ us hl => match us, hl with | [_], _ => rfl)⟩,
    d_PooledDraws_s5_bits := ⟨f_PooledDraws_s5_bits, _, ⟨a_PooledDraws_s5_bits, i_PooledDraws_s5_bits, k_PooledDraws_s5_bits⟩, ⟨⟨oc_PooledDraws_s5_bits, od_PooledDraws_s5_bits, .none, kV_PooledDraws_s5_bits, dc_PooledDraws_s5_bits, pm_PooledDraws_s5_bits, an_PooledDraws_s5_bits, cd_PooledDraws_s5_bits, ct_PooledDraws_s5_bits, sl_PooledDraws_s5_bits, rfl, l_PooledDraws_s5_bits, c_PooledDraws_s5_bits⟩⟩, C8.Fun.binds (x := "s5_bits") (qual := "PooledDraws.s5_bits") (st := s_PooledDraws_s5_bits) (f := f_PooledDraws_s5_bits) ⟨⟨oc_PooledDraws_s5_bits, od_PooledDraws_s5_bits, .none, kV_PooledDraws_s5_bits, dc_PooledDraws_s5_bits, pm_PooledDraws_s5_bits, an_PooledDraws_s5_bits, cd_PooledDraws_s5_bits, ct_PooledDraws_s5_bits, sl_PooledDraws_s5_bits, rfl, l_PooledDraws_s5_bits, c_PooledDraws_s5_bits⟩⟩ rfl (fun _ _ _ _ _ _ us hl => match us, hl with | [_, _], _ => rfl)⟩,
    d_PooledDraws_saved := ⟨f_PooledDraws_saved, _, ⟨a_PooledDraws_saved, i_PooledDraws_saved, k_PooledDraws_saved⟩, ⟨⟨oc_PooledDraws_saved, od_PooledDraws_saved, .none, kV_PooledDraws_saved, dc_PooledDraws_saved, pm_PooledDraws_saved, an_PooledDraws_saved, cd_PooledDraws_saved, ct_PooledDraws_saved, sl_PooledDraws_saved, rfl, l_PooledDraws_saved, c_PooledDraws_saved⟩⟩, C8.Fun.binds (x := "saved") (qual := "PooledDraws.saved") (st := s_PooledDraws_saved) (f := f_PooledDraws_saved) ⟨⟨oc_PooledDraws_saved, od_PooledDraws_saved, .none, kV_PooledDraws_saved, dc_PooledDraws_saved, pm_PooledDraws_saved, an_PooledDraws_saved, cd_PooledDraws_saved, ct_PooledDraws_saved, sl_PooledDraws_saved, rfl, l_PooledDraws_saved, c_PooledDraws_saved⟩⟩ rfl (fun _ _ _ _ _ _ us hl => match us, hl with | [_], _ => rfl)⟩,
    d__law_begun := ⟨f__law_begun, _, ⟨⟨⟨oc__law_begun, od__law_begun, .none, kV__law_begun, dc__law_begun, pm__law_begun, an__law_begun, cd__law_begun, ct__law_begun, sl__law_begun, rfl, l__law_begun, c__law_begun⟩⟩, PySem.W.mg_of X G a__law_begun, k__law_begun⟩, C8.Fun.binds (x := "_law_begun") (qual := "_law_begun") (st := s__law_begun) (f := f__law_begun) ⟨⟨oc__law_begun, od__law_begun, .none, kV__law_begun, dc__law_begun, pm__law_begun, an__law_begun, cd__law_begun, ct__law_begun, sl__law_begun, rfl, l__law_begun, c__law_begun⟩⟩ rfl (fun _ _ _ _ _ _ us hl => match us, hl with | [_], _ => rfl)⟩,
    d__law_next := ⟨f__law_next, _, ⟨⟨⟨oc__law_next, od__law_next, .none, kV__law_next, dc__law_next, pm__law_next, an__law_next, cd__law_next, ct__law_next, sl__law_next, rfl, l__law_next, c__law_next⟩⟩, PySem.W.mg_of X G a__law_next, k__law_next⟩, C8.Fun.binds (x := "_law_next") (qual := "_law_next") (st := s__law_next) (f := f__law_next) ⟨⟨oc__law_next, od__law_next, .none, kV__law_next, dc__law_next, pm__law_next, an__law_next, cd__law_next, ct__law_next, sl__law_next, rfl, l__law_next, c__law_next⟩⟩ rfl (fun _ _ _ _ _ _ us hl => match us, hl with | [_, _], _ => rfl)⟩,
    d__law_pick := ⟨f__law_pick, _, ⟨⟨⟨oc__law_pick, od__law_pick, .none, kV__law_pick, dc__law_pick, pm__law_pick, an__law_pick, cd__law_pick, ct__law_pick, sl__law_pick, rfl, l__law_pick, c__law_pick⟩⟩, PySem.W.mg_of X G a__law_pick, k__law_pick⟩, C8.Fun.binds (x := "_law_pick") (qual := "_law_pick") (st := s__law_pick) (f := f__law_pick) ⟨⟨oc__law_pick, od__law_pick, .none, kV__law_pick, dc__law_pick, pm__law_pick, an__law_pick, cd__law_pick, ct__law_pick, sl__law_pick, rfl, l__law_pick, c__law_pick⟩⟩ rfl (fun _ _ _ _ _ _ us hl => match us, hl with | [_, _], _ => rfl)⟩,
    d__law_words := ⟨f__law_words, _, ⟨⟨⟨oc__law_words, od__law_words, .none, kV__law_words, dc__law_words, pm__law_words, an__law_words, cd__law_words, ct__law_words, sl__law_words, rfl, l__law_words, c__law_words⟩⟩, PySem.W.mg_of X G a__law_words, k__law_words⟩, C8.Fun.binds (x := "_law_words") (qual := "_law_words") (st := s__law_words) (f := f__law_words) ⟨⟨oc__law_words, od__law_words, .none, kV__law_words, dc__law_words, pm__law_words, an__law_words, cd__law_words, ct__law_words, sl__law_words, rfl, l__law_words, c__law_words⟩⟩ rfl (fun _ _ _ _ _ _ us hl => match us, hl with | [_], _ => rfl)⟩,
    d__law_pair := ⟨f__law_pair, _, ⟨⟨⟨oc__law_pair, od__law_pair, .none, kV__law_pair, dc__law_pair, pm__law_pair, an__law_pair, cd__law_pair, ct__law_pair, sl__law_pair, rfl, l__law_pair, c__law_pair⟩⟩, PySem.W.mg_of X G a__law_pair, k__law_pair⟩, C8.Fun.binds (x := "_law_pair") (qual := "_law_pair") (st := s__law_pair) (f := f__law_pair) ⟨⟨oc__law_pair, od__law_pair, .none, kV__law_pair, dc__law_pair, pm__law_pair, an__law_pair, cd__law_pair, ct__law_pair, sl__law_pair, rfl, l__law_pair, c__law_pair⟩⟩ rfl (fun _ _ _ _ _ _ us hl => match us, hl with | [_, _], _ => rfl)⟩,
    d__law_first := ⟨f__law_first, _, ⟨⟨⟨oc__law_first, od__law_first, .none, kV__law_first, dc__law_first, pm__law_first, an__law_first, cd__law_first, ct__law_first, sl__law_first, rfl, l__law_first, c__law_first⟩⟩, PySem.W.mg_of X G a__law_first, k__law_first⟩, C8.Fun.binds (x := "_law_first") (qual := "_law_first") (st := s__law_first) (f := f__law_first) ⟨⟨oc__law_first, od__law_first, .none, kV__law_first, dc__law_first, pm__law_first, an__law_first, cd__law_first, ct__law_first, sl__law_first, rfl, l__law_first, c__law_first⟩⟩ rfl (fun _ _ _ _ _ _ us hl => match us, hl with | [_, _], _ => rfl)⟩,
    d__law_fraction_right := ⟨f__law_fraction_right, _, ⟨⟨⟨oc__law_fraction_right, od__law_fraction_right, .none, kV__law_fraction_right, dc__law_fraction_right, pm__law_fraction_right, an__law_fraction_right, cd__law_fraction_right, ct__law_fraction_right, sl__law_fraction_right, rfl, l__law_fraction_right, c__law_fraction_right⟩⟩, PySem.W.mg_of X G a__law_fraction_right, k__law_fraction_right⟩, C8.Fun.binds (x := "_law_fraction_right") (qual := "_law_fraction_right") (st := s__law_fraction_right) (f := f__law_fraction_right) ⟨⟨oc__law_fraction_right, od__law_fraction_right, .none, kV__law_fraction_right, dc__law_fraction_right, pm__law_fraction_right, an__law_fraction_right, cd__law_fraction_right, ct__law_fraction_right, sl__law_fraction_right, rfl, l__law_fraction_right, c__law_fraction_right⟩⟩ rfl (fun _ _ _ _ _ _ us hl => match us, hl with | [_, _, _], _ => rfl)⟩,
    d__law_alike := ⟨f__law_alike, _, ⟨⟨⟨oc__law_alike, od__law_alike, .none, kV__law_alike, dc__law_alike, pm__law_alike, an__law_alike, cd__law_alike, ct__law_alike, sl__law_alike, rfl, l__law_alike, c__law_alike⟩⟩, PySem.W.mg_of X G a__law_alike, k__law_alike⟩, C8.Fun.binds (x := "_law_alike") (qual := "_law_alike") (st := s__law_alike) (f := f__law_alike) ⟨⟨oc__law_alike, od__law_alike, .none, kV__law_alike, dc__law_alike, pm__law_alike, an__law_alike, cd__law_alike, ct__law_alike, sl__law_alike, rfl, l__law_alike, c__law_alike⟩⟩ rfl (fun _ _ _ _ _ _ us hl => match us, hl with | [_, _, _], _ => rfl)⟩,
    d__law_pair_right := ⟨f__law_pair_right, _, ⟨⟨⟨oc__law_pair_right, od__law_pair_right, .none, kV__law_pair_right, dc__law_pair_right, pm__law_pair_right, an__law_pair_right, cd__law_pair_right, ct__law_pair_right, sl__law_pair_right, rfl, l__law_pair_right, c__law_pair_right⟩⟩, PySem.W.mg_of X G a__law_pair_right, k__law_pair_right⟩, C8.Fun.binds (x := "_law_pair_right") (qual := "_law_pair_right") (st := s__law_pair_right) (f := f__law_pair_right) ⟨⟨oc__law_pair_right, od__law_pair_right, .none, kV__law_pair_right, dc__law_pair_right, pm__law_pair_right, an__law_pair_right, cd__law_pair_right, ct__law_pair_right, sl__law_pair_right, rfl, l__law_pair_right, c__law_pair_right⟩⟩ rfl (fun _ _ _ _ _ _ us hl => match us, hl with | [_, _], _ => rfl)⟩,
    d__law_digits_right := ⟨f__law_digits_right, _, ⟨⟨⟨oc__law_digits_right, od__law_digits_right, .none, kV__law_digits_right, dc__law_digits_right, pm__law_digits_right, an__law_digits_right, cd__law_digits_right, ct__law_digits_right, sl__law_digits_right, rfl, l__law_digits_right, c__law_digits_right⟩⟩, PySem.W.mg_of X G a__law_digits_right, k__law_digits_right⟩, C8.Fun.binds (x := "_law_digits_right") (qual := "_law_digits_right") (st := s__law_digits_right) (f := f__law_digits_right) ⟨⟨oc__law_digits_right, od__law_digits_right, .none, kV__law_digits_right, dc__law_digits_right, pm__law_digits_right, an__law_digits_right, cd__law_digits_right, ct__law_digits_right, sl__law_digits_right, rfl, l__law_digits_right, c__law_digits_right⟩⟩ rfl (fun _ _ _ _ _ _ us hl => match us, hl with | [_], _ => rfl)⟩,
    d_law := ⟨f_law, _, ⟨⟨⟨oc_law, od_law, .none, kV_law, dc_law, pm_law, an_law, cd_law, ct_law, sl_law, rfl, l_law, c_law⟩⟩, PySem.W.mg_of X G a_law, k_law⟩, C8.Fun.binds (x := "law") (qual := "law") (st := s_law) (f := f_law) ⟨⟨oc_law, od_law, .none, kV_law, dc_law, pm_law, an_law, cd_law, ct_law, sl_law, rfl, l_law, c_law⟩⟩ rfl (fun _ _ _ _ _ _ us hl => match us, hl with | [_], _ => rfl), fun s v => .of_eq rfl⟩,
    suP := ⟨ob_pf, ob_pn⟩,
    c_WORDS := ⟨_, PySem.W.mg_of X G e_WORDS, _, rfl⟩,
    c_MOST_SCRIPT := ⟨_, PySem.W.mg_of X G e_MOST_SCRIPT, _, rfl⟩,
    c_WORD_BITS := ⟨_, PySem.W.mg_of X G e_WORD_BITS, _, rfl⟩,
    c_MOST_BITS := ⟨_, PySem.W.mg_of X G e_MOST_BITS, _, rfl⟩,
    c_MOST_BOUND := ⟨_, PySem.W.mg_of X G e_MOST_BOUND, _, rfl⟩,
    c_MOST_WIDE := ⟨_, PySem.W.mg_of X G e_MOST_WIDE, _, rfl⟩,
    c_SIZES := ⟨_, PySem.W.mg_of X G e_SIZES, rfl⟩,
    s_SIZES := ⟨_, g_SIZES, rv_SIZES, fun _ => Cd.DicO.mk (kvs := [(Sum.inr "bits", V.int 2), (Sum.inr "below", V.int 2), (Sum.inr "between", V.int 3), (Sum.inr "choice", V.int 2), (Sum.inr "coin", V.int 3), (Sum.inr "fraction", V.int 2)]) (.cons rv_SIZES_0 ⟨_, rfl⟩ (.cons rv_SIZES_1 ⟨_, rfl⟩ (.cons rv_SIZES_2 ⟨_, rfl⟩ (.cons rv_SIZES_3 ⟨_, rfl⟩ (.cons rv_SIZES_4 ⟨_, rfl⟩ (.cons rv_SIZES_5 ⟨_, rfl⟩ .nil)))))) (by decide +kernel)⟩,
    k_Source := ⟨_, PySem.W.mg_of X G q_Source, rfl⟩,
    cl_Source := ⟨pg_Source, hd_Source, po_Source, sa_Source⟩,
    is_Source := ⟨⟨pg_Source, hd_Source, po_Source, sa_Source⟩, ha_Source, hn_Source, ht_Source, hm_Source, Rd.kit_self K C_Source⟩,
    k_Scripted := ⟨_, PySem.W.mg_of X G q_Scripted, rfl⟩,
    cl_Scripted := ⟨pg_Scripted, hd_Scripted, po_Scripted, sa_Scripted⟩,
    is_Scripted := ⟨⟨pg_Scripted, hd_Scripted, po_Scripted, sa_Scripted⟩, ha_Scripted, hn_Scripted, ht_Scripted, hm_Scripted, Rd.kit_self K C_Scripted⟩,
    n_Scripted_s1_script := na_Scripted_s1_script,
    n_Scripted_s1_place := na_Scripted_s1_place,
    k_Draws := ⟨_, PySem.W.mg_of X G q_Draws, rfl⟩,
    cl_Draws := ⟨pg_Draws, hd_Draws, po_Draws, sa_Draws⟩,
    is_Draws := ⟨⟨pg_Draws, hd_Draws, po_Draws, sa_Draws⟩, ha_Draws, hn_Draws, ht_Draws, hm_Draws, Rd.kit_self K C_Draws⟩,
    n_Draws_s5_source := na_Draws_s5_source,
    n_Draws_s5_used := na_Draws_s5_used,
    k_PooledDraws := ⟨_, PySem.W.mg_of X G q_PooledDraws, rfl⟩,
    cl_PooledDraws := ⟨pg_PooledDraws, hd_PooledDraws, po_PooledDraws, sa_PooledDraws⟩,
    is_PooledDraws := ⟨⟨pg_PooledDraws, hd_PooledDraws, po_PooledDraws, sa_PooledDraws⟩, ha_PooledDraws, hn_PooledDraws, ht_PooledDraws, hm_PooledDraws, Rd.kit_self K C_PooledDraws⟩,
    n_PooledDraws_s5_size := na_PooledDraws_s5_size,
    n_PooledDraws_s5_value := na_PooledDraws_s5_value,
    n_PooledDraws_s5_source := na_PooledDraws_s5_source,
    n_PooledDraws_s5_used := na_PooledDraws_s5_used,
    v_Scripted_KIND := ⟨⟨_, vf_Scripted_KIND, vs_Scripted_KIND, by first | rfl | decide +kernel, ⟨_, rfl⟩⟩, by decide +kernel⟩,
    b_all := PySem.W.mg_none_of X G z_all,
    b_bool := PySem.W.mg_none_of X G z_bool,
    b_enumerate := PySem.W.mg_none_of X G z_enumerate,
    b_int := PySem.W.mg_none_of X G z_int,
    b_isinstance := PySem.W.mg_none_of X G z_isinstance,
    b_len := PySem.W.mg_none_of X G z_len,
    b_list := PySem.W.mg_none_of X G z_list,
    b_max := PySem.W.mg_none_of X G z_max,
    b_min := PySem.W.mg_none_of X G z_min,
    b_range := PySem.W.mg_none_of X G z_range,
    b_str := PySem.W.mg_none_of X G z_str,
    b_sum := PySem.W.mg_none_of X G z_sum,
    b_super := PySem.W.mg_none_of X G z_super,
    b_tuple := PySem.W.mg_none_of X G z_tuple,
    kt_Source_int := ob_kt_Source_int,
    kt_Scripted_int := ob_kt_Scripted_int,
    kt_Draws_int := ob_kt_Draws_int,
    kt_PooledDraws_int := ob_kt_PooledDraws_int,
    kt_Source_bool := ob_kt_Source_bool,
    kt_Scripted_bool := ob_kt_Scripted_bool,
    kt_Draws_bool := ob_kt_Draws_bool,
    kt_PooledDraws_bool := ob_kt_PooledDraws_bool,
    kt_NoneType_Source := ob_kt_NoneType_Source,
    kt_bool_Source := ob_kt_bool_Source,
    kt_int_Source := ob_kt_int_Source,
    kt_str_Source := ob_kt_str_Source,
    kt_tuple_Source := ob_kt_tuple_Source,
    kt_list_Source := ob_kt_list_Source,
    kt_dict_Source := ob_kt_dict_Source,
    kt_Scripted_Source := ob_kt_Scripted_Source,
    kt_Draws_Source := ob_kt_Draws_Source,
    kt_PooledDraws_Source := ob_kt_PooledDraws_Source,
    kt_Source_tuple := ob_kt_Source_tuple,
    kt_Scripted_tuple := ob_kt_Scripted_tuple,
    kt_Draws_tuple := ob_kt_Draws_tuple,
    kt_PooledDraws_tuple := ob_kt_PooledDraws_tuple,
    kt_Source_str := ob_kt_Source_str,
    kt_Scripted_str := ob_kt_Scripted_str,
    kt_Draws_str := ob_kt_Draws_str,
    kt_PooledDraws_str := ob_kt_PooledDraws_str,
    kt_Source_list := ob_kt_Source_list,
    kt_Scripted_list := ob_kt_Scripted_list,
    kt_Draws_list := ob_kt_Draws_list,
    kt_PooledDraws_list := ob_kt_PooledDraws_list }
end Pf
open PySem PySem.W PyProof.Rows
set_option maxRecDepth 100000 in
set_option maxHeartbeats 0 in
theorem PySem.Challenge.cw_drawstate_k80_whole_draws_by_one_another_holds : PySem.Challenge.rw_drawstate_k80_whole_draws_by_one_another.Holds := by
  refine Pf.hd ?_
  k_fill
  refine Gx.walkF (l := PySem.Challenge.rw_drawstate_k80_whole_draws_by_one_another) (k := 10) (x := "_law_script") rfl rfl ⟨rfl, by decide, by decide⟩ (fun w h Y => Hd1.q_in_of Y) ?F
  case F =>
    intro w mg fa h Y KX G hmg
    refine' Pf.law_mk hmg (Pf.txt_mk KX G ?a_is_integer ?l_is_integer ?c_is_integer ?k_is_integer ?a_is_word ?l_is_word ?c_is_word ?k_is_word ?a_need_source ?l_need_source ?c_need_source ?k_need_source ?a_is_script ?l_is_script ?c_is_script ?k_is_script ?a_need_script_state ?l_need_script_state ?c_need_script_state ?k_need_script_state ?a_script_after ?l_script_after ?c_script_after ?k_script_after ?a_Scripted___init__ ?i_Scripted___init__ ?l_Scripted___init__ ?c_Scripted___init__ ?k_Scripted___init__ ?dl_Scripted___init__ ?mk_Scripted___init__ ?kc_Scripted___init__ ?a_Scripted_next_word ?i_Scripted_next_word ?l_Scripted_next_word ?c_Scripted_next_word ?k_Scripted_next_word ?a_Scripted_state ?g_Scripted_state ?t_Scripted_state ?r_Scripted_state ?l_Scripted_state ?c_Scripted_state ?k_Scripted_state ?a_s5_need ?l_s5_need ?c_s5_need ?k_s5_need ?a_s5_digits ?l_s5_digits ?c_s5_digits ?k_s5_digits ?a_digits_of ?l_digits_of ?c_digits_of ?k_digits_of ?a_s5_reduced ?l_s5_reduced ?c_s5_reduced ?k_s5_reduced ?a_need_step ?l_need_step ?c_need_step ?k_need_step ?a_need_range ?l_need_range ?c_need_range ?k_need_range ?a_need_share ?l_need_share ?c_need_share ?k_need_share ?a_Draws___init__ ?i_Draws___init__ ?l_Draws___init__ ?c_Draws___init__ ?k_Draws___init__ ?mk_Draws___init__ ?kc_Draws___init__ ?a_Draws_words_used ?g_Draws_words_used ?t_Draws_words_used ?r_Draws_words_used ?l_Draws_words_used ?c_Draws_words_used ?k_Draws_words_used ?a_Draws_words_used_of_PooledDraws ?a_Draws_s5_word ?i_Draws_s5_word ?l_Draws_s5_word ?c_Draws_s5_word ?k_Draws_s5_word ?a_Draws_s5_word_of_PooledDraws ?a_Draws_s5_bits ?i_Draws_s5_bits ?l_Draws_s5_bits ?c_Draws_s5_bits ?k_Draws_s5_bits ?a_Draws_s5_below ?i_Draws_s5_below ?l_Draws_s5_below ?c_Draws_s5_below ?k_Draws_s5_below ?a_Draws_s5_below_of_PooledDraws ?a_Draws_bits ?i_Draws_bits ?l_Draws_bits ?c_Draws_bits ?k_Draws_bits ?a_Draws_bits_of_PooledDraws ?a_Draws_below ?i_Draws_below ?l_Draws_below ?c_Draws_below ?k_Draws_below ?a_Draws_below_of_PooledDraws ?a_Draws_between ?i_Draws_between ?l_Draws_between ?c_Draws_between ?k_Draws_between ?a_Draws_between_of_PooledDraws ?a_Draws_choice ?i_Draws_choice ?l_Draws_choice ?c_Draws_choice ?k_Draws_choice ?a_Draws_choice_of_PooledDraws ?a_Draws_coin ?i_Draws_coin ?l_Draws_coin ?c_Draws_coin ?k_Draws_coin ?a_Draws_coin_of_PooledDraws ?a_Draws_fraction ?i_Draws_fraction ?l_Draws_fraction ?c_Draws_fraction ?k_Draws_fraction ?a_Draws_fraction_of_PooledDraws ?a_Draws_do ?i_Draws_do ?l_Draws_do ?c_Draws_do ?k_Draws_do ?a_Draws_do_of_PooledDraws ?a_Draws_saved ?i_Draws_saved ?l_Draws_saved ?c_Draws_saved ?k_Draws_saved ?a_PooledDraws___init__ ?i_PooledDraws___init__ ?l_PooledDraws___init__ ?c_PooledDraws___init__ ?k_PooledDraws___init__ ?mk_PooledDraws___init__ ?kc_PooledDraws___init__ ?ob_fi_PooledDraws___init__ ?ob_ce_PooledDraws___init__ ?ob_cs_PooledDraws___init__ ?ob_su_PooledDraws___init__ ?ob_sp_PooledDraws___init__ ?ob_sg_PooledDraws___init__ ?ob_sf_PooledDraws___init__ ?ob_op_PooledDraws___init__ ?a_PooledDraws_pool ?g_PooledDraws_pool ?t_PooledDraws_pool ?r_PooledDraws_pool ?l_PooledDraws_pool ?c_PooledDraws_pool ?k_PooledDraws_pool ?a_PooledDraws_s5_bits ?i_PooledDraws_s5_bits ?l_PooledDraws_s5_bits ?c_PooledDraws_s5_bits ?k_PooledDraws_s5_bits ?a_PooledDraws_saved ?i_PooledDraws_saved ?l_PooledDraws_saved ?c_PooledDraws_saved ?k_PooledDraws_saved ?a__law_begun ?l__law_begun ?c__law_begun ?k__law_begun ?a__law_next ?l__law_next ?c__law_next ?k__law_next ?a__law_pick ?l__law_pick ?c__law_pick ?k__law_pick ?a__law_words ?l__law_words ?c__law_words ?k__law_words ?a__law_pair ?l__law_pair ?c__law_pair ?k__law_pair ?a__law_first ?l__law_first ?c__law_first ?k__law_first ?a__law_fraction_right ?l__law_fraction_right ?c__law_fraction_right ?k__law_fraction_right ?a__law_alike ?l__law_alike ?c__law_alike ?k__law_alike ?a__law_pair_right ?l__law_pair_right ?c__law_pair_right ?k__law_pair_right ?a__law_digits_right ?l__law_digits_right ?c__law_digits_right ?k__law_digits_right ?a_law ?l_law ?c_law ?k_law ?ob_pf ?ob_pn ?e_WORDS ?e_MOST_SCRIPT ?e_WORD_BITS ?e_MOST_BITS ?e_MOST_BOUND ?e_MOST_WIDE ?e_SIZES ?g_SIZES ?rv_SIZES_0 ?rv_SIZES_1 ?rv_SIZES_2 ?rv_SIZES_3 ?rv_SIZES_4 ?rv_SIZES_5 ?rv_SIZES ?q_Source ?pg_Source ?hd_Source ?po_Source ?sa_Source ?ha_Source ?hn_Source ?ht_Source ?hm_Source ?q_Scripted ?pg_Scripted ?hd_Scripted ?po_Scripted ?sa_Scripted ?ha_Scripted ?hn_Scripted ?ht_Scripted ?hm_Scripted ?na_Scripted_s1_script ?na_Scripted_s1_place ?q_Draws ?pg_Draws ?hd_Draws ?po_Draws ?sa_Draws ?ha_Draws ?hn_Draws ?ht_Draws ?hm_Draws ?na_Draws_s5_source ?na_Draws_s5_used ?q_PooledDraws ?pg_PooledDraws ?hd_PooledDraws ?po_PooledDraws ?sa_PooledDraws ?ha_PooledDraws ?hn_PooledDraws ?ht_PooledDraws ?hm_PooledDraws ?na_PooledDraws_s5_size ?na_PooledDraws_s5_value ?na_PooledDraws_s5_source ?na_PooledDraws_s5_used ?vf_Scripted_KIND ?vs_Scripted_KIND ?z_all ?z_bool ?z_enumerate ?z_int ?z_isinstance ?z_len ?z_list ?z_max ?z_min ?z_range ?z_str ?z_sum ?z_super ?z_tuple ?ob_kt_Source_int ?ob_kt_Scripted_int ?ob_kt_Draws_int ?ob_kt_PooledDraws_int ?ob_kt_Source_bool ?ob_kt_Scripted_bool ?ob_kt_Draws_bool ?ob_kt_PooledDraws_bool ?ob_kt_NoneType_Source ?ob_kt_bool_Source ?ob_kt_int_Source ?ob_kt_str_Source ?ob_kt_tuple_Source ?ob_kt_list_Source ?ob_kt_dict_Source ?ob_kt_Scripted_Source ?ob_kt_Draws_Source ?ob_kt_PooledDraws_Source ?ob_kt_Source_tuple ?ob_kt_Scripted_tuple ?ob_kt_Draws_tuple ?ob_kt_PooledDraws_tuple ?ob_kt_Source_str ?ob_kt_Scripted_str ?ob_kt_Draws_str ?ob_kt_PooledDraws_str ?ob_kt_Source_list ?ob_kt_Scripted_list ?ob_kt_Draws_list ?ob_kt_PooledDraws_list)
    (case q_Source => k_is)
    (case q_Scripted => k_is)
    (case q_Draws => k_is)
    (case q_PooledDraws => k_is)
    (case a_is_integer => k_is)
    (case l_is_integer => k_is)
    (case c_is_integer => k_is)
    (case k_is_integer => k_is)
    (case a_is_word => k_is)
    (case l_is_word => k_is)
    (case c_is_word => k_is)
    (case k_is_word => k_is)
    (case a_need_source => k_is)
    (case l_need_source => k_is)
    (case c_need_source => k_is)
    (case k_need_source => k_is)
    (case a_is_script => k_is)
    (case l_is_script => k_is)
    (case c_is_script => k_is)
    (case k_is_script => k_is)
    (case a_need_script_state => k_is)
    (case l_need_script_state => k_is)
    (case c_need_script_state => k_is)
    (case k_need_script_state => k_is)
    (case a_script_after => k_is)
    (case l_script_after => k_is)
    (case c_script_after => k_is)
    (case k_script_after => k_is)
    (case a_Scripted___init__ => k_is)
    (case i_Scripted___init__ => k_is)
    (case l_Scripted___init__ => k_is)
    (case c_Scripted___init__ => k_is)
    (case k_Scripted___init__ => k_is)
    (case dl_Scripted___init__ => k_is)
    (case mk_Scripted___init__ => k_is)
    (case kc_Scripted___init__ => k_is)
    (case a_Scripted_next_word => k_is)
    (case i_Scripted_next_word => k_is)
    (case l_Scripted_next_word => k_is)
    (case c_Scripted_next_word => k_is)
    (case k_Scripted_next_word => k_is)
    (case a_Scripted_state => k_is)
    (case g_Scripted_state => k_is)
    (case t_Scripted_state => k_is)
    (case r_Scripted_state => k_is)
    (case l_Scripted_state => k_is)
    (case c_Scripted_state => k_is)
    (case k_Scripted_state => k_is)
    (case a_s5_need => k_is)
    (case l_s5_need => k_is)
    (case c_s5_need => k_is)
    (case k_s5_need => k_is)
    (case a_s5_digits => k_is)
    (case l_s5_digits => k_is)
    (case c_s5_digits => k_is)
    (case k_s5_digits => k_is)
    (case a_digits_of => k_is)
    (case l_digits_of => k_is)
    (case c_digits_of => k_is)
    (case k_digits_of => k_is)
    (case a_s5_reduced => k_is)
    (case l_s5_reduced => k_is)
    (case c_s5_reduced => k_is)
    (case k_s5_reduced => k_is)
    (case a_need_step => k_is)
    (case l_need_step => k_is)
    (case c_need_step => k_is)
    (case k_need_step => k_is)
    (case a_need_range => k_is)
    (case l_need_range => k_is)
    (case c_need_range => k_is)
    (case k_need_range => k_is)
    (case a_need_share => k_is)
    (case l_need_share => k_is)
    (case c_need_share => k_is)
    (case k_need_share => k_is)
    (case a_Draws___init__ => k_is)
    (case i_Draws___init__ => k_is)
    (case l_Draws___init__ => k_is)
    (case c_Draws___init__ => k_is)
    (case k_Draws___init__ => k_is)
    (case mk_Draws___init__ => k_is)
    (case kc_Draws___init__ => k_is)
    (case a_Draws_words_used => k_is)
    (case g_Draws_words_used => k_is)
    (case t_Draws_words_used => k_is)
    (case r_Draws_words_used => k_is)
    (case l_Draws_words_used => k_is)
    (case c_Draws_words_used => k_is)
    (case k_Draws_words_used => k_is)
    (case a_Draws_words_used_of_PooledDraws => k_is)
    (case a_Draws_s5_word => k_is)
    (case i_Draws_s5_word => k_is)
    (case l_Draws_s5_word => k_is)
    (case c_Draws_s5_word => k_is)
    (case k_Draws_s5_word => k_is)
    (case a_Draws_s5_word_of_PooledDraws => k_is)
    (case a_Draws_s5_bits => k_is)
    (case i_Draws_s5_bits => k_is)
    (case l_Draws_s5_bits => k_is)
    (case c_Draws_s5_bits => k_is)
    (case k_Draws_s5_bits => k_is)
    (case a_Draws_s5_below => k_is)
    (case i_Draws_s5_below => k_is)
    (case l_Draws_s5_below => k_is)
    (case c_Draws_s5_below => k_is)
    (case k_Draws_s5_below => k_is)
    (case a_Draws_s5_below_of_PooledDraws => k_is)
    (case a_Draws_bits => k_is)
    (case i_Draws_bits => k_is)
    (case l_Draws_bits => k_is)
    (case c_Draws_bits => k_is)
    (case k_Draws_bits => k_is)
    (case a_Draws_bits_of_PooledDraws => k_is)
    (case a_Draws_below => k_is)
    (case i_Draws_below => k_is)
    (case l_Draws_below => k_is)
    (case c_Draws_below => k_is)
    (case k_Draws_below => k_is)
    (case a_Draws_below_of_PooledDraws => k_is)
    (case a_Draws_between => k_is)
    (case i_Draws_between => k_is)
    (case l_Draws_between => k_is)
    (case c_Draws_between => k_is)
    (case k_Draws_between => k_is)
    (case a_Draws_between_of_PooledDraws => k_is)
    (case a_Draws_choice => k_is)
    (case i_Draws_choice => k_is)
    (case l_Draws_choice => k_is)
    (case c_Draws_choice => k_is)
    (case k_Draws_choice => k_is)
    (case a_Draws_choice_of_PooledDraws => k_is)
    (case a_Draws_coin => k_is)
    (case i_Draws_coin => k_is)
    (case l_Draws_coin => k_is)
    (case c_Draws_coin => k_is)
    (case k_Draws_coin => k_is)
    (case a_Draws_coin_of_PooledDraws => k_is)
    (case a_Draws_fraction => k_is)
    (case i_Draws_fraction => k_is)
    (case l_Draws_fraction => k_is)
    (case c_Draws_fraction => k_is)
    (case k_Draws_fraction => k_is)
    (case a_Draws_fraction_of_PooledDraws => k_is)
    (case a_Draws_do => k_is)
    (case i_Draws_do => k_is)
    (case l_Draws_do => k_is)
    (case c_Draws_do => k_is)
    (case k_Draws_do => k_is)
    (case a_Draws_do_of_PooledDraws => k_is)
    (case a_Draws_saved => k_is)
    (case i_Draws_saved => k_is)
    (case l_Draws_saved => k_is)
    (case c_Draws_saved => k_is)
    (case k_Draws_saved => k_is)
    (case a_PooledDraws___init__ => k_is)
    (case i_PooledDraws___init__ => k_is)
    (case l_PooledDraws___init__ => k_is)
    (case c_PooledDraws___init__ => k_is)
    (case k_PooledDraws___init__ => k_is)
    (case mk_PooledDraws___init__ => k_is)
    (case kc_PooledDraws___init__ => k_is)
    (case ob_fi_PooledDraws___init__ => kernel_rfl)
    (case ob_ce_PooledDraws___init__ => kernel_rfl)
    (case ob_cs_PooledDraws___init__ => kernel_rfl)
    (case ob_su_PooledDraws___init__ => kernel_rfl)
    (case ob_sp_PooledDraws___init__ => kernel_rfl)
    (case ob_sg_PooledDraws___init__ => kernel_rfl)
    (case ob_sf_PooledDraws___init__ => kernel_rfl)
    (case ob_op_PooledDraws___init__ => kernel_rfl)
    (case a_PooledDraws_pool => k_is)
    (case g_PooledDraws_pool => k_is)
    (case t_PooledDraws_pool => k_is)
    (case r_PooledDraws_pool => k_is)
    (case l_PooledDraws_pool => k_is)
    (case c_PooledDraws_pool => k_is)
    (case k_PooledDraws_pool => k_is)
    (case a_PooledDraws_s5_bits => k_is)
    (case i_PooledDraws_s5_bits => k_is)
    (case l_PooledDraws_s5_bits => k_is)
    (case c_PooledDraws_s5_bits => k_is)
    (case k_PooledDraws_s5_bits => k_is)
    (case a_PooledDraws_saved => k_is)
    (case i_PooledDraws_saved => k_is)
    (case l_PooledDraws_saved => k_is)
    (case c_PooledDraws_saved => k_is)
    (case k_PooledDraws_saved => k_is)
    (case a__law_begun => k_is)
    (case l__law_begun => k_is)
    (case c__law_begun => k_is)
    (case k__law_begun => k_is)
    (case a__law_next => k_is)
    (case l__law_next => k_is)
    (case c__law_next => k_is)
    (case k__law_next => k_is)
    (case a__law_pick => k_is)
    (case l__law_pick => k_is)
    (case c__law_pick => k_is)
    (case k__law_pick => k_is)
    (case a__law_words => k_is)
    (case l__law_words => k_is)
    (case c__law_words => k_is)
    (case k__law_words => k_is)
    (case a__law_pair => k_is)
    (case l__law_pair => k_is)
    (case c__law_pair => k_is)
    (case k__law_pair => k_is)
    (case a__law_first => k_is)
    (case l__law_first => k_is)
    (case c__law_first => k_is)
    (case k__law_first => k_is)
    (case a__law_fraction_right => k_is)
    (case l__law_fraction_right => k_is)
    (case c__law_fraction_right => k_is)
    (case k__law_fraction_right => k_is)
    (case a__law_alike => k_is)
    (case l__law_alike => k_is)
    (case c__law_alike => k_is)
    (case k__law_alike => k_is)
    (case a__law_pair_right => k_is)
    (case l__law_pair_right => k_is)
    (case c__law_pair_right => k_is)
    (case k__law_pair_right => k_is)
    (case a__law_digits_right => k_is)
    (case l__law_digits_right => k_is)
    (case c__law_digits_right => k_is)
    (case k__law_digits_right => k_is)
    (case a_law => k_is)
    (case l_law => k_is)
    (case c_law => k_is)
    (case k_law => k_is)
    (case ob_pf => kernel_rfl)
    (case ob_pn => kernel_rfl)
    (case e_WORDS => k_is)
    (case e_MOST_SCRIPT => k_is)
    (case e_WORD_BITS => k_is)
    (case e_MOST_BITS => k_is)
    (case e_MOST_BOUND => k_is)
    (case e_MOST_WIDE => k_is)
    (case e_SIZES => k_is)
    (case g_SIZES => k_is)
    (case rv_SIZES_0 => rfl)
    (case rv_SIZES_1 => rfl)
    (case rv_SIZES_2 => rfl)
    (case rv_SIZES_3 => rfl)
    (case rv_SIZES_4 => rfl)
    (case rv_SIZES_5 => rfl)
    (case rv_SIZES => rfl)
    (case pg_Source => k_is)
    (case hd_Source => k_is)
    (case po_Source => k_is)
    (case sa_Source => k_is)
    (case ha_Source => k_is)
    (case hn_Source => k_is)
    (case ht_Source => k_is)
    (case hm_Source => k_is)
    (case pg_Scripted => k_is)
    (case hd_Scripted => k_is)
    (case po_Scripted => k_is)
    (case sa_Scripted => k_is)
    (case ha_Scripted => k_is)
    (case hn_Scripted => k_is)
    (case ht_Scripted => k_is)
    (case hm_Scripted => k_is)
    (case na_Scripted_s1_script => k_is)
    (case na_Scripted_s1_place => k_is)
    (case pg_Draws => k_is)
    (case hd_Draws => k_is)
    (case po_Draws => k_is)
    (case sa_Draws => k_is)
    (case ha_Draws => k_is)
    (case hn_Draws => k_is)
    (case ht_Draws => k_is)
    (case hm_Draws => k_is)
    (case na_Draws_s5_source => k_is)
    (case na_Draws_s5_used => k_is)
    (case pg_PooledDraws => k_is)
    (case hd_PooledDraws => k_is)
    (case po_PooledDraws => k_is)
    (case sa_PooledDraws => k_is)
    (case ha_PooledDraws => k_is)
    (case hn_PooledDraws => k_is)
    (case ht_PooledDraws => k_is)
    (case hm_PooledDraws => k_is)
    (case na_PooledDraws_s5_size => k_is)
    (case na_PooledDraws_s5_value => k_is)
    (case na_PooledDraws_s5_source => k_is)
    (case na_PooledDraws_s5_used => k_is)
    (case vf_Scripted_KIND => k_is)
    (case vs_Scripted_KIND => k_is)
    (case z_all => k_is)
    (case z_bool => k_is)
    (case z_enumerate => k_is)
    (case z_int => k_is)
    (case z_isinstance => k_is)
    (case z_len => k_is)
    (case z_list => k_is)
    (case z_max => k_is)
    (case z_min => k_is)
    (case z_range => k_is)
    (case z_str => k_is)
    (case z_sum => k_is)
    (case z_super => k_is)
    (case z_tuple => k_is)
    (case ob_kt_Source_int => kernel_rfl)
    (case ob_kt_Scripted_int => kernel_rfl)
    (case ob_kt_Draws_int => kernel_rfl)
    (case ob_kt_PooledDraws_int => kernel_rfl)
    (case ob_kt_Source_bool => kernel_rfl)
    (case ob_kt_Scripted_bool => kernel_rfl)
    (case ob_kt_Draws_bool => kernel_rfl)
    (case ob_kt_PooledDraws_bool => kernel_rfl)
    (case ob_kt_NoneType_Source => kernel_rfl)
    (case ob_kt_bool_Source => kernel_rfl)
    (case ob_kt_int_Source => kernel_rfl)
    (case ob_kt_str_Source => kernel_rfl)
    (case ob_kt_tuple_Source => kernel_rfl)
    (case ob_kt_list_Source => kernel_rfl)
    (case ob_kt_dict_Source => kernel_rfl)
    (case ob_kt_Scripted_Source => kernel_rfl)
    (case ob_kt_Draws_Source => kernel_rfl)
    (case ob_kt_PooledDraws_Source => kernel_rfl)
    (case ob_kt_Source_tuple => kernel_rfl)
    (case ob_kt_Scripted_tuple => kernel_rfl)
    (case ob_kt_Draws_tuple => kernel_rfl)
    (case ob_kt_PooledDraws_tuple => kernel_rfl)
    (case ob_kt_Source_str => kernel_rfl)
    (case ob_kt_Scripted_str => kernel_rfl)
    (case ob_kt_Draws_str => kernel_rfl)
    (case ob_kt_PooledDraws_str => kernel_rfl)
    (case ob_kt_Source_list => kernel_rfl)
    (case ob_kt_Scripted_list => kernel_rfl)
    (case ob_kt_Draws_list => kernel_rfl)
    (case ob_kt_PooledDraws_list => kernel_rfl)
#print axioms PySem.Challenge.cw_drawstate_k80_whole_draws_by_one_another_holds
