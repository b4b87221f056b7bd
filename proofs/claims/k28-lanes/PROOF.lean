import PyProof.Rows.All
import Wide.All
import OpenK.AllK
import Wide.FinOn
import PySem.Challenge.RW_drawstate_k28_whole_lanes_of_twisted_sou
import HandS.ForMost
import HandS.Exc
import HandS.Codes
import HandS.Wide
import HandS.WideBits
import HandS.IsInst
import HandS.Property
import HandS.Style
import HandS.Flow
import HandS.Small
import HandS.Lambda
import HandS.EndTab
import HandS.Walk
import HandS.GenCall
import HandS.GenList
import KE.KOpsOwn
import HandS.ClsMeth
import HandS.TupAny
import HandS.ExcInit
import HandS.ExcField
import HandS.ExcIs
import KE.KExcInit
import HandS.CallSlots
import HandS.Defaults
import HandS.TryMany
import HandS.Zip
import KE.KTryMore
import PyProof.StrLawsRepr
import HandS.HotCalls
import KE.KDflt
import HandS.TupMul
import HandS.Deep
import HandS.SetFor
import HandS.Star
import HandS.TupSets
import HandS.Iter
import KE.GoesEnum
import HandS.DictSubView
import KE.KDictWalk
def PySem.W.Fast.tw11094373034603722491 : Nat := 0
def PySem.W.Fast.tw11950079759873761605 : Nat := 0
def PySem.W.Fast.tw13739054992867888951 : Nat := 0
def PySem.W.Fast.tw14486897139742388312 : Nat := 0
def PySem.W.Fast.tw1455417271802935933 : Nat := 0
def PySem.W.Fast.tw14657801359598771780 : Nat := 0
def PySem.W.Fast.tw14737905199553745820 : Nat := 0
def PySem.W.Fast.tw15335511866777168781 : Nat := 0
def PySem.W.Fast.tw15650707214663502369 : Nat := 0
def PySem.W.Fast.tw1717494907254855979 : Nat := 0
def PySem.W.Fast.tw17194110111808864883 : Nat := 0
def PySem.W.Fast.tw17194936911018473237 : Nat := 0
def PySem.W.Fast.tw17830467967509165570 : Nat := 0
def PySem.W.Fast.tw3004376109703823950 : Nat := 0
def PySem.W.Fast.tw4312305785703950568 : Nat := 0
def PySem.W.Fast.tw5899344622025871554 : Nat := 0
def PySem.W.Fast.tw6378542249007532592 : Nat := 0
def PySem.W.Fast.tw8166467276950538269 : Nat := 0
def PySem.W.Fast.tw8293796183367136505 : Nat := 0
def PySem.W.Fast.tw8668293337408435964 : Nat := 0
def PySem.W.Fast.tw8867624232619479098 : Nat := 0
def PySem.W.Fast.tw9298945793306557135 : Nat := 0
set_option Elab.async false
set_option linter.all false
namespace Pf
open PySem PySem.W PyProof.Rows
set_option maxRecDepth 100000
set_option maxHeartbeats 0
open_top hd for PySem.Challenge.rw_drawstate_k28_whole_lanes_of_twisted_sou
end Pf
set_option Elab.async false
set_option linter.all false
set_option maxRecDepth 100000
set_option maxHeartbeats 4000000
namespace Gx
open PySem PySem.Spec PyProof.Rows L2
structure FnG (P : Program) (w : World) (K : PySem.W.Frag) (mg : Str → Option Value) (base : Heap) (k : Nat) (f : Addr) (fd : FuncData) (ps : List Str) (sp : Sp) : Prop where
  len : ∀ vs H Q E, sp vs H Q E → vs.length = ps.length
  run : ∀ (A : Around) (outer : List Env) (s : Shared) (H : Hp) (args : Args) (us : List Value) (vs : List V) (Q : VK), A.guards = some [] → Room k A → Env0 P w K mg base A outer s H →
    BindsTo s fd args (ps.zip us) → Vals vs us → sp vs H Q C8.E0 → codeAny (model P w) A (.call (.ref f) args) (CR C8.CX0 outer P w H s Q C8.E0) s
section
variable {P : Program} {w : World} {K : PySem.W.Frag} {mg : Str → Option Value} {base : Heap}
theorem fnG_of {x qual : Str} {st : Stmt} {f : Addr} {fd : FuncData} {N ps : List Str} {k : Nat} {sp : Sp} (F : C8.Fun K x qual st f fd) (S : FnScope N ps (C8.fnScope st)) (len : ∀ vs H Q E, sp vs H Q E → vs.length = ps.length)
    (hbody : ∀ (cdv : Value) (A : Around) (outer : List Env) (s : Shared) (H : Hp) (vs : List V) (Q : VK), A.guards = some [] → Room k (A.deeper (envOfC qual (C8.fnScope st) s.heap.objs.size f cdv)) → sp vs H Q C8.E0 →
      ∃ t, PSs (cxOf C8.CX0 P w K mg base N qual (C8.fnScope st) f cdv A outer s H C8.E0).nox (C8.fnBody st) t ∧ t { nx := fun _ H' => Q .non H', rt := Q } (start N vs) H) : FnG P w K mg base (k + 1) f fd ps sp := by
  obtain ⟨oc, od, dV, kV, doc, pm, an, cdv, ct, osl, rfl, lk, hcd⟩ := F.ex
  refine ⟨len, fun A outer s H args us vs Q hg hr e0 hb r hsp => ?_⟩
  refine LamX.run_ofS (CX := C8.CX0) (E := C8.E0) lk hcd S hr e0 hb r (len _ _ _ _ hsp) fun hr' => ?_
  obtain ⟨t, h, q⟩ := hbody cdv A outer s H vs Q hg hr' hsp
  exact ⟨t, h.nox, q⟩
end
end Gx
set_option Elab.async false
set_option linter.all false
set_option maxRecDepth 100000
set_option maxHeartbeats 4000000
namespace Gx
open PySem PySem.Spec PyProof.Rows L2
structure PrpC (P : Program) (w : World) (K : PySem.W.Frag) (mg : Str → Option Value) (base : Heap) (k : Nat) (C : Addr) (nm : Str) (sp : Sp) : Prop where
  ex : ∃ (p f : Addr) (fd : FuncData) (ps : List Str), Cls K C ∧ PropOf K C nm p f ∧ FnOk P w K mg base C8.CX0 k f fd ps sp ∧ Binds K fd ps []
theorem prp0 {P : Program} {w : World} {K : PySem.W.Frag} {mg : Str → Option Value} {base : Heap} {nm qual : Str} {C p : Addr} {st : Stmt} {f : Addr} {fd : FuncData} {N ps : List Str} {k : Nat} {sp : Sp} (c : Cls K C) (pr : PropOf K C nm p f) (F : C8.Fun K nm qual st f fd) (b : Binds K fd ps [])
    (S : FnScope N ps (C8.fnScope st)) (len : ∀ vs H Q E, sp vs H Q E → vs.length = ps.length)
    (hbody : ∀ (cdv : Value) (A : Around) (outer : List Env) (s : Shared) (H : Hp) (vs : List V) (Q : VK) (E : XK), Room k (A.deeper (envOfC qual (C8.fnScope st) s.heap.objs.size f cdv)) → sp vs H Q E →
      ∃ t, PSs (cxOf C8.CX0 P w K mg base N qual (C8.fnScope st) f cdv A outer s H E).nox (C8.fnBody st) t ∧ t { nx := fun _ H' => Q .non H', rt := Q } (start N vs) H) : PrpC P w K mg base (k + 1) C nm sp :=
  ⟨p, f, fd, ps, c, pr, C8.fn0 F S len hbody, b⟩
theorem pe_propC {X : Cx} {k j : Nat} {C : Addr} {nm : Str} {sp : Sp} {e : Expr} {ta : TE} {pos : Pos} (he : PE X e ta) (c : PrpC X.prog X.w X.K X.mg X.base k C nm sp) (hr : Room j X.A) (hk : k + 1 ≤ j) (hab : attributeBase e nm X.env (eval e X.env) = eval e X.env) :
    PE X (.Attribute e nm pos) (tProp C sp [] C8.E0 ta) := by
  obtain ⟨p, f, fd, ps, cl, pr, F, b⟩ := c.ex
  exact pe_prop he cl pr F (hr.mono hk) b .nil C8.pass0 hab
end Gx
set_option Elab.async false
set_option linter.all false
set_option maxRecDepth 100000
set_option maxHeartbeats 4000000
namespace Rd
open PySem PySem.Spec PyProof.Rows L2
section
variable {D : Ends} {σ : L2.St} {H H1 : Hp} {Q : VK} {QB : Bool → Hp → Prop} {QA : List V → Hp → Prop} {t1 t2 : TS} {te ta tb tc : TE} {t u : TT} {i j : Nat} {v x y : V} {m n : Int} {r r2 : R2} {K : PySem.W.Frag} {A B : Prop} {b : Bool} {p : Prop}
theorem seq (h : t1 { D with nx := t2 D } σ H) : tSeq t1 t2 D σ H := h
theorem next (h : D.nx σ H) : tNext D σ H := h
theorem nm {Qs : L2.St → Hp → Prop} (h : Qs (σ.set i (some v)) H) : gName i v σ H Qs := h
theorem ret (h : te σ H D.rt) : tRet te D σ H := h
theorem drop (h : te σ H fun _ H1 => D.nx σ H1) : tDrop te D σ H := h
theorem un {g : V → Hp → VK → Prop} (h : ta σ H fun x H1 => g x H1 Q) : tUn g ta σ H Q := h
theorem nil (h : QA [] H) : tNil σ H QA := h
theorem cons {tr : TA} (h : ta σ H fun x H1 => tr σ H1 fun xs H2 => QA (x :: xs) H2) : tCons ta tr σ H QA := h
theorem call {sp : Sp} {E : XK} {tr : TA} (h : tr σ H fun vs H1 => sp (vs ++ []) H1 Q E) : tCall sp [] E tr σ H Q := h
theorem tup {tr : TA} (h : tr σ H fun xs H1 => xs.length ≤ sizeLine ∧ ∀ p, H1 p = none → Q (.ref p) (upd H1 p (.tup xs))) : tTup tr σ H Q := h
theorem lst {tr : TA} (h : tr σ H fun xs H1 => xs.length ≤ sizeLine ∧ ∀ p, H1 p = none → Q (.ref p) (upd H1 p (.lst xs))) : tLst tr σ H Q := h
end
def rLenQ (K : PySem.W.Frag) : List V → Hp → VK → Prop := fun xs H Q => ∃ p ys, xs = [.ref p] ∧ (SqL K H p ys ∨ SqT K H p ys) ∧ Q (.int ys.length) H
theorem call_lenQ {X : Cx} : CallR X (.builtin "len") (rLenQ X.K) := call_len_seq
def rMax2 : List V → Hp → VK → Prop := fun xs H Q => ∃ i j, xs = [.int i, .int j] ∧ Q (.int (if j > i then j else i)) H
theorem call_mx2 {X : Cx} (hc : X.calm = true) : CallR X (.builtin "max") rMax2 := call_max2 hc
def rMin2 : List V → Hp → VK → Prop := fun xs H Q => ∃ i j, xs = [.int i, .int j] ∧ Q (.int (if j < i then j else i)) H
theorem call_mn2 {X : Cx} (hc : X.calm = true) : CallR X (.builtin "min") rMin2 := call_min2 hc
theorem kit_self (K : PySem.W.Frag) (C : Addr) : PySem.W.kitOne K (.ref C) (.ref C) = some true := by
  unfold PySem.W.kitOne
  simp
theorem sql {K : PySem.W.Frag} {H : Hp} {a : Addr} {xs : List V} (h : H a = some (.lst xs)) : SqL K H a xs := .inl (.inl h)
theorem make {C : Addr} {sp : Sp} {E : XK} {t : TA} {σ : L2.St} {H : Hp} {Q : VK} (h : t σ H fun vs H1 => ∀ x dx, H1 x = none → H1 dx = none → dx ≠ x →
  sp (.ref x :: (vs ++ [])) (upd (upd H1 dx (.own x)) x (.ins C dx [])) (fun v H2 => v = .non ∧ Q (.ref x) H2) E) : tMake C sp [] E t σ H Q := h
theorem cut {t u : TS} {D : Ends} {σ : L2.St} {H : Hp} (Mid : L2.St → Hp → Prop) (h1 : t { D with nx := Mid } σ H) (h2 : ∀ σ' H', Mid σ' H' → u D σ' H') : C8.tCut t u D σ H := ⟨Mid, h1, h2⟩
theorem bm {K : PySem.W.Frag} {T : String} {r : V → List V → Hp → VK → Prop} {to : TE} {t : TA} {σ : L2.St} {H : Hp} {Q : VK} (h : to σ H fun x H1 => tyV K T x H1 ∧ t σ H1 fun xs H2 => r x xs H2 Q) : tBM K T r to t σ H Q := h
/-- all that was tracked stands -/
abbrev Ex := L2.Same
theorem ex_new {H : Hp} {p : Addr} {o : HO} (h : H p = none) : Ex H (upd H p o) := fun b z e => by
  rw [upd_ne (ne_of_none e h)]
  exact e
theorem ex_t {K : PySem.W.Frag} {H H' : Hp} {a : Addr} {xs : List V} (e : Ex H H') (h : SqT K H a xs) : SqT K H' a xs := by
  rcases h with (h | ⟨o, h⟩) | h
  · exact .inl (.inl (e _ _ h))
  · exact .inl (.inr ⟨o, e _ _ h⟩)
  · exact .inr h
end Rd
set_option Elab.async false
set_option linter.all false
set_option maxRecDepth 100000
set_option maxHeartbeats 4000000
set_option exponentiation.threshold 2000
namespace Gx
open PySem PySem.Spec PyProof.Rows L2
end Gx
set_option Elab.async false
set_option linter.all false
set_option maxRecDepth 100000
set_option maxHeartbeats 1000000
namespace Gx
open PySem PySem.Spec PyProof.Rows L2 GenW
end Gx
set_option Elab.async false
set_option linter.all false
set_option maxRecDepth 100000
set_option maxHeartbeats 1000000
namespace Gx
open PySem PySem.Spec PyProof.Rows L2 GenW
structure SAt (K : PySem.W.Frag) (C : Addr) (m : Str) (f : Addr) : Prop where
  ex : ∃ (mc : Value) (p : Addr) (rest : List Value), ClX.CRead K C mc ∧ PySem.W.findCls K (.ref C) mc m = some (.get (.builtin "staticmethod.__get__") (.ref p) .none (.ref C)) ∧ PySem.W.recIn K p "staticmethod" = some (.ref f :: rest) ∧ PySem.W.keepIn K (.ref f) = true
end Gx
namespace Gx
open PySem PySem.Spec PyProof.Rows L2 GenW
theorem isTup {K : PySem.W.Frag} {a : Addr} {xs : List V} {H : Hp} {Q : VK} (h : H a = some (.tup xs)) (q : Q (.bl true) H) : rIsi K [.ref a, .ty "tuple"] H Q :=
  ⟨_, _, .type "tuple", _, true, rfl, .ty _, .base (.tup h), by first | rfl | decide +kernel | kernel_rfl, q⟩
section
variable {t u : TGn} {tp : TS} {te : TE} {D : GEnds} {ys : List V} {σ : L2.St} {H : Hp}
theorem lg {tg : TGen} {Q : VK} (h : tg σ H fun out H2 => ∀ p, H2 p = none → Q (.ref p) (upd H2 p (.lst out))) : tListG tg σ H Q := h
theorem mg {C : Addr} {m : Str} {sp : SpG} {E : XK} {ta : TE} {t : TA} {cont : List V → Hp → Prop} (h : ta σ H fun x H1 => ∃ a dx fs, x = .ref a ∧ H1 a = some (.ins C dx fs) ∧ fs.lookup m = none ∧ t σ H1 fun vs H2 => sp (x :: (vs ++ [])) H2 cont E) : tMethG C m sp [] E ta t σ H cont := h
end
end Gx
namespace Gx
open PySem PySem.Spec PyProof.Rows L2 GenW
end Gx
set_option Elab.async false
set_option linter.all false
set_option maxRecDepth 100000
set_option maxHeartbeats 1000000
namespace Gx
open PySem PySem.Spec PyProof.Rows L2 GenW HT
end Gx
set_option Elab.async false
set_option linter.all false
set_option maxRecDepth 100000
set_option maxHeartbeats 1000000
namespace Gx
open PySem PySem.Spec PyProof.Rows L2 GenW
/-- the promise of such a class's __init__ -/
def spExc (C : Addr) (fl : Str) : Sp := fun vs H Q _ => ∃ (p : Addr) (v : V), vs = [.ref p, v] ∧ H p = some (exo p C none) ∧ ∀ dx, H dx = none → dx ≠ p → Q .non (upd (upd H dx (exd dx [(fl, v)])) p (exo p C (some dx)))
/-- the exception is made: its dict holds the value -/
theorem mkO {C : Addr} {fl : Str} {v : V} {H : Hp} {Q : XK} (q : ∀ d H', H d = none → Rd.Ex H H' → H' d = some (.xd [(fl, v)]) → Q (.ref C) (some d) H') :
    [v].length ≤ 1000 ∧ ∀ a, H a = none → spExc C fl (.ref a :: ([v] ++ [])) (upd H a (exo a C none))
      (fun r H2 => r = .non ∧ ∃ (d : Addr) (fs : List (Str × V)), H2 a = some (exo a C (some d)) ∧ H2 d = some (exd d fs) ∧ H d = none ∧ Q (.ref C) (some d) (upd (del H2 a) d (.xd fs))) (fun _ _ _ => False) := by
  refine ⟨Nat.le_of_ble_eq_true rfl, fun a ha => ⟨a, v, rfl, upd_same, fun dx hd ne => ⟨rfl, dx, [(fl, v)], upd_same, ?_, ?_, ?_⟩⟩⟩
  · rw [upd_ne ne, upd_same]
  · rw [upd_ne ne] at hd; exact hd
  · have hd' : H dx = none := by rw [upd_ne ne] at hd; exact hd
    refine q dx _ hd' (fun c o h => ?_) upd_same
    have n1 : c ≠ a := ne_of_none h ha
    have n2 : c ≠ dx := ne_of_none h hd'
    rw [upd_ne n2, del_ne n1, upd_ne n1, upd_ne n2, upd_ne n1]
    exact h
structure CalX (P : Program) (w : World) (K : PySem.W.Frag) (mg : Str → Option Value) (base : Heap) (k : Nat) (x : Str) (sp : Sp) : Prop where
  ex : ∃ (f : Addr) (fd : FuncData) (ps : List Str), FnOk P w K mg base (CX P w) k f fd ps sp ∧ mg x = some (.ref f) ∧ PySem.W.keepIn K (.ref f) = true ∧ Binds K fd ps []
theorem takes_cx {P : Program} {w : World} {K : PySem.W.Frag} {mg : Str → Option Value} {base : Heap} {N : List Str} {qual : Str} {scope : Scope} {f : Addr} {cd : Value} {A : Around} {outer : List Env} {s : Shared} {H : Hp} {E : XK} :
    Takes (cxOf (CX P w) P w K mg base N qual scope f cd A outer s H E) (fun cls d _ H' => E cls d H') := takes_of rfl rfl rfl rfl
theorem calX {P : Program} {w : World} {K : PySem.W.Frag} {mg : Str → Option Value} {base : Heap} {x : Str} {st : Stmt} {f : Addr} {fd : FuncData} {N ps : List Str} {k : Nat} {sp : Sp} (F : C8.Def K mg x st f fd) (b : Binds K fd ps []) (S : FnScope N ps (C8.fnScope st)) (len : ∀ vs H Q E, sp vs H Q E → vs.length = ps.length)
    (hbody : ∀ (cdv : Value) (A : Around) (outer : List Env) (s : Shared) (H : Hp) (vs : List V) (Q : VK) (E : XK), Room k (A.deeper (envOfC x (C8.fnScope st) s.heap.objs.size f cdv)) → sp vs H Q E →
      ∃ t, PSs (cxOf (CX P w) P w K mg base N x (C8.fnScope st) f cdv A outer s H E) (C8.fnBody st) t ∧ t { nx := fun _ H' => Q .non H', rt := Q } (start N vs) H) : CalX P w K mg base (k + 1) x sp := by
  obtain ⟨oc, od, dV, kV, doc, pm, an, cdv, ct, osl, rfl, lk, hcd⟩ := F.fn.ex
  exact ⟨f, _, ps, fn_of lk hcd S len (hbody cdv), F.mgf, F.kp, b⟩
section
variable {X : Cx} {k j : Nat} {x : Str} {sp : Sp} {p pos : Pos} {e : Expr} {es : List Expr} {t : TA} {W : WX} {E : XK}
theorem pe_cx (c : CalX X.prog X.w X.K X.mg X.base k x sp) (tk : Takes X W) (hW : ∀ cls d σ H, E cls d H → W cls d σ H) (hr : Room j X.A) (hk : k ≤ j) (hg : Gl X x) (ha : PA X (e :: es) t)
    (hdb : (x == ("__debug__" : Str)) = false := by decide) (he : starEach (e :: es) X.env = (false, eval e X.env) :: starEach es X.env := by rfl) (hpl : (backTo pos (starEach es X.env)).any (·.1) = false := by rfl) :
    PE X (.Call (.Name x p) (e :: es) [] pos) (tCall sp [] E t) := by
  obtain ⟨f, fd, ps, F, hm, kp, b⟩ := c.ex
  exact pe_call F (hr.mono hk) hg hm kp b .nil (passes_call tk hW) ha hdb he hpl
end
end Gx
set_option Elab.async false
set_option linter.all false
set_option maxRecDepth 100000
set_option maxHeartbeats 1000000
namespace Gx
open PySem PySem.Spec PySem.Calls PyProof.Rows PySem.W
section
variable {prog : Program} {w : World} {A : Around} {E : Value → Shared → Prop} {s : Shared} {K : Frag} {a D : Addr} {oa odict : Obj}
/-- e.__class__ -/
theorem cls_of_exc {Q : Option Value → Shared → Prop} (G : L2.ExcC K D) (KI : K.In s.heap) (J : InstAt s.heap a oa D (some odict)) (q : Q (some (.ref D)) { s with toks := s.toks + 1 }) : wpAny (model prog w) A (getAttr? (.ref a) "__class__") Q E s := by
  have some1 : (clsIn K D).isSome = true := by
    obtain ⟨_, e, _⟩ := any_some G.hd
    rw [e]; rfl
  have found := findObj_data (od := odict) some1 G.ha G.hn G.ht
  obtain ⟨hp, gs, dr, tk, oss⟩ := s
  have M1 : Looks (model prog w) hp (typeOf (.ref a)) (.ref D) := J.type
  have M2 := looks_findIn (M := model prog w) KI G.hg
  have M3 := looks_findIn (M := model prog w) KI G.hk
  have M4 := looks_find (M := model prog w) KI J found
  have M5 : Looks (model prog w) hp (isInstance (.ref a) (.type "BaseException")) true := M1.andThen (looks_subIn KI G.hs)
  have other : (Value.builtin "BaseException.__getattribute__" == Value.builtin "object.__getattribute__") = false := by decide +kernel
  have b1 : (onTheHeap (Value.ref D) && Value.builtin "BaseException.__getattribute__" == Value.builtin "object.__getattribute__") = false := by rw [other]; rfl
  unfold getAttr? getAttrBy? getAttrBy
  refine wpAny_bind (wpAny_mkText (wpAny_bind (wpAny_attempt (wpAny_holding (wpAny_bind (M1.at (wpAny_bind (M2.at ?a1))))))))
  case a1 =>
    show wpAny _ _ (if (onTheHeap (Value.ref D) && Value.builtin "BaseException.__getattribute__" == Value.builtin "object.__getattribute__") = true then _ else _) _ _ _
    rw [b1, if_neg Bool.false_ne_true]
    unfold getAttrByItsOwn hookBefore
    refine wpAny_bind ?a2
    case a2 =>
      rw [if_pos (show onTheHeap (Value.ref D) = true from rfl)]
      refine M3.at (wpAny_bind (wpAny_attempt (wpAny_holding ?a3)))
      case a3 =>
        unfold callGetattribute
        rw [show (false && onTheHeap (Value.builtin "BaseException.__getattribute__")) = false from rfl, if_neg Bool.false_ne_true]
        unfold boundAndCalled
        rw [PySem.F.excAttr_ValueError.ga.bind (.ref a)]
        refine wpAny_bind (wpAny_pure ?a4)
        case a4 =>
          show wpAny _ _ (call (.builtin "BaseException.__getattribute__") [.ref a, .str "__class__" tk]) _ _ _
          refine wpAny_call (codeAny_call_builtin PySem.F.excAttr_ValueError.ga.plain PySem.F.entry_bexc_ga (@check_slot (model prog w) _ _ ⟨hp, gs, dr, tk + 1, oss⟩ "BaseException.__getattribute__" "BaseException" "__getattribute__" (.ref a) [.str "__class__" tk] [] _
            (by decide +kernel) (by decide +kernel) M5 (PySem.F.args_bexc_ga (.ref a) (.str "__class__" tk)) ?a5))
          case a5 =>
            unfold Builtin.«object.__getattribute__»
            refine wpAny_bind (wpAny_of_eq (a := ((Value.ref a : Value), [Value.str "__class__" tk])) (by first | rfl | (simp only [slotArgs]; rfl)) (wpAny_bind (wpAny_pure (wpAny_bind (M1.at (wpAny_bind (M4.at ?a6)))))))
            case a6 =>
              show wpAny _ _ (holding [Value.builtin "object.__class__"] (call (.builtin "getset_descriptor.__get__") [.builtin "object.__class__", .ref a, .ref D]) >>= ret) _ _ _
              refine wpAny_bind (wpAny_holding (wpAny_call (class_get (s := ⟨hp, gs, dr, tk + 1, oss⟩) KI J G.hm (wpAny_pure ?a7))))
              case a7 =>
                show wpAny _ _ (handedOut (.ref D)) _ _ _
                rw [handedOut_of (v := .ref D) rfl]
                first
                  | exact wpAny_pure (wpAny_pure q)
                  | exact wpAny_pure q
                  | exact wpAny_pure (wpAny_bind (wpAny_pure (wpAny_pure q)))
theorem kit_exc (G : L2.ExcC K D) : KitX K (.ref a) (.ref D) (fun h => InstAt h a oa D (some odict)) := by
  have atK : ∃ c d cd sl, K.lookup D = some ⟨c, d, .cls cd, sl⟩ := by
    obtain ⟨_, e, _⟩ := any_some G.hd
    unfold clsIn at e
    split at e
    · exact ⟨_, _, _, _, by assumption⟩
    · cases e
  obtain ⟨c, d, cd, sl, eD⟩ := atK
  refine ⟨fun _ _ _ J => J.type, fun _ _ KI _ => ?_, fun h tp dd its n sl' KI e => ?_, fun KI J q => cls_of_exc G KI J q⟩
  · intro A' Q' E' s' k q
    unfold isType loadHead
    exact wpAny_bind (wpAny_loadPart (k _ _ (KI _ _ eD)) (wpAny_pure q))
  · refine Bool.eq_false_iff.mpr fun z => ?_
    obtain rfl : D = tp := Value.ref.inj (beq_iff_eq.mp z)
    cases (KI _ _ eD).symm.trans e
end
open L2
end Gx
set_option Elab.async false
set_option linter.all false
set_option maxRecDepth 100000
set_option maxHeartbeats 1000000
namespace Gx
open PySem PySem.Spec PyProof.Rows L2
end Gx
set_option Elab.async false
set_option linter.all false
set_option maxRecDepth 100000
set_option maxHeartbeats 1000000
namespace Gx
open PySem PySem.Spec PyProof.Rows L2
end Gx
set_option Elab.async false
set_option linter.all false
set_option maxRecDepth 100000
set_option maxHeartbeats 4000000
namespace Au
open PySem PySem.Spec PyProof.Rows L2
def ExP (p : Addr) (H H' : Hp) : Prop := ∀ c o, H c = some o → c ≠ p → H' c = some o
theorem ExP.refl {p : Addr} (H : Hp) : ExP p H H := fun _ _ e _ => e
theorem ExP.of {p : Addr} {H H' : Hp} (e : Rd.Ex H H') : ExP p H H' := fun c o h _ => e c o h
theorem ExP.trans {p : Addr} {H H1 H2 : Hp} (a : ExP p H H1) (b : ExP p H1 H2) : ExP p H H2 := fun c o h n => b c o (a c o h n) n
theorem rep {H : Hp} {Q : VK} {l : Addr} {k : Int} {xs : List V} (h1 : H l = some (.lst xs)) (hk : 0 ≤ k ∧ k < 100) (hl : xs.length ≤ 10) (q : ∀ p H', H p = none → Rd.Ex H H' → H' p = some (.lst (List.replicate k.toNat xs).flatten) → Q (.ref p) H') : rRep (.ref l) (.int k) H Q :=
  ⟨l, k, xs, rfl, rfl, h1, by omega, by omega, Nat.le_trans (Nat.mul_le_mul hl (show k.toNat ≤ 100 by omega)) (Nat.le_of_ble_eq_true rfl), fun p hp => q p _ hp (Rd.ex_new hp) upd_same⟩
def NewO (H : Hp) (o : HO) (Q : VK) : Prop := ∀ p, H p = none → Q (.ref p) (upd H p o)
section
variable {σ : L2.St} {H : Hp} {Q : VK} {K : PySem.W.Frag} {tr : TA} {te ti : TE} {o : HO} {a C dx : Addr} {fs : List (Str × V)} {xs : List V} {v : V}
theorem new (q : ∀ p H', H p = none → Rd.Ex H H' → H' p = some o → Q (.ref p) H') : NewO H o Q := fun p hp => q p _ hp (Rd.ex_new hp) upd_same
theorem tup (h : tr σ H fun xs H1 => xs.length ≤ sizeLine ∧ NewO H1 (.tup xs) Q) : tTup tr σ H Q := h
theorem lst (h : tr σ H fun xs H1 => xs.length ≤ sizeLine ∧ NewO H1 (.lst xs) Q) : tLst tr σ H Q := h
theorem sum {ns : List Int} (h : SqL K H a (ns.map V.int)) (q : Q (.int ns.sum) H) : rSum K [.ref a] H Q := ⟨a, ns, rfl, h, q⟩
end
end Au
set_option maxRecDepth 100000
namespace ML
def A : Int := 205891132094649
def M : Int := 281474976710656
def S : Nat → Int
  | 0 => 0
  | n + 1 => A * S n + 1
/-- the state after n steps, as an integer -/
def raw (n : Nat) (x : Int) : Int := A ^ n * x + 11 * S n
def m1 (n : Nat) : Int := A ^ n % 281474976710656
def m2 (n : Nat) : Int := 11 * S n % 281474976710656
end ML
set_option linter.all false
namespace MX
def xs (k n : Nat) : Nat := n ^^^ (n / 2 ^ k)
def F : Nat := 3486784401
def U : Nat := 3396732273
theorem FU : F * U % 4294967296 = 1 := by decide
def tmp (n : Nat) : Nat := xs 16 (xs 13 n * F % 4294967296)
def utm (n : Nat) : Nat := let y := xs 16 n * U % 4294967296; y ^^^ (y / 2 ^ 13) ^^^ (y / 2 ^ 26)
theorem div_xor (a b k : Nat) : (a ^^^ b) / 2 ^ k = (a / 2 ^ k) ^^^ (b / 2 ^ k) := by
  simp only [← Nat.shiftRight_eq_div_pow, Nat.shiftRight_xor_distrib]
theorem div_div (a j k : Nat) : a / 2 ^ j / 2 ^ k = a / 2 ^ (j + k) := by rw [Nat.div_div_eq_div_mul, ← Nat.pow_add]
theorem small {a k : Nat} (h : a < 2 ^ k) : a / 2 ^ k = 0 := Nat.div_eq_of_lt h
theorem xor_lt {a b : Nat} (ha : a < 2 ^ 32) (hb : b < 2 ^ 32) : a ^^^ b < 2 ^ 32 := Nat.xor_lt_two_pow ha hb
theorem div_lt {a k : Nat} (ha : a < 2 ^ 32) : a / 2 ^ k < 2 ^ 32 := Nat.lt_of_le_of_lt (Nat.div_le_self _ _) ha
theorem xs_lt {k n : Nat} (h : n < 2 ^ 32) : xs k n < 2 ^ 32 := xor_lt h (div_lt h)
theorem xx (a b : Nat) : a ^^^ b ^^^ b = a := by rw [Nat.xor_assoc, Nat.xor_self, Nat.xor_zero]
theorem xs16 {n : Nat} (h : n < 2 ^ 32) : xs 16 (xs 16 n) = n := by
  unfold xs
  rw [div_xor, div_div, small h, Nat.xor_zero, xx]
theorem lift13 {n : Nat} (h : n < 2 ^ 32) : xs 13 n ^^^ (xs 13 n / 2 ^ 13) ^^^ (xs 13 n / 2 ^ 26) = n := by
  have h39 : n / 2 ^ 39 = 0 := small (Nat.lt_of_lt_of_le h (by decide))
  unfold xs
  rw [div_xor, div_xor, div_div, div_div]
  show n ^^^ n / 2 ^ 13 ^^^ (n / 2 ^ 13 ^^^ n / 2 ^ 26) ^^^ (n / 2 ^ 26 ^^^ n / 2 ^ 39) = n
  rw [h39, Nat.xor_zero, ← Nat.xor_assoc (n ^^^ n / 2 ^ 13), xx, xx]
theorem mulFU {a : Nat} (h : a < 2 ^ 32) : a * F % 4294967296 * U % 4294967296 = a := by
  rw [Nat.mod_mul_mod, Nat.mul_assoc, ← Nat.mul_mod_mod, FU, Nat.mul_one, Nat.mod_eq_of_lt h]
theorem mod_lt (a : Nat) : a % 4294967296 < 2 ^ 32 := Nat.mod_lt _ (by decide)
theorem tmp_lt (n : Nat) : tmp n < 2 ^ 32 := xs_lt (mod_lt _)
theorem utm_tmp {n : Nat} (h : n < 2 ^ 32) : utm (tmp n) = n := by
  unfold utm tmp
  rw [xs16 (mod_lt _), mulFU (xs_lt h)]
  exact lift13 h
/-- the rounds -/
def fe (s : Nat) (p : Nat × Nat) : Nat × Nat := (p.2, p.1 ^^^ tmp ((p.2 + 1000003 * s) % 4294967296))
def bk (s : Nat) (p : Nat × Nat) : Nat × Nat := (p.2 ^^^ tmp ((p.1 + 1000003 * s) % 4294967296), p.1)
def ok (p : Nat × Nat) : Prop := p.1 < 2 ^ 32 ∧ p.2 < 2 ^ 32
end MX
set_option Elab.async false
set_option linter.all false
set_option maxRecDepth 100000
set_option maxHeartbeats 4000000
set_option exponentiation.threshold 2000
namespace Pr
open PySem PySem.Spec PyProof.Rows L2
def NonInt (H : Hp) (v : V) : Prop := v = .non ∨ (∃ b, v = .bl b) ∨ (∃ s, v = .str s) ∨ (∃ a xs, v = .ref a ∧ H a = some (.tup xs)) ∨ (∃ a xs, v = .ref a ∧ H a = some (.lst xs)) ∨ ∃ a kvs, v = .ref a ∧ H a = some (.dK kvs)
/-- is the value a number in its bounds -/
abbrev spIs (lo hi : Int) : Sp := fun vs H Q _ => ∃ v, vs = [v] ∧ ((∃ n : Int, v = .int n ∧ Q (.bl (decide (lo ≤ n ∧ n ≤ hi))) H) ∨ (NonInt H v ∧ Q (.bl false) H))
def MapAt (K : PySem.W.Frag) (H : Hp) (a : Addr) (n : Nat) : Prop := SqT K H a [.int (ML.m1 n), .int (ML.m2 n)]
theorem MapAt.ex {K : PySem.W.Frag} {H H' : Hp} {a : Addr} {n : Nat} (e : Rd.Ex H H') (h : MapAt K H a n) : MapAt K H' a n := Rd.ex_t e h
end Pr
set_option Elab.async false
set_option linter.all false
set_option maxRecDepth 100000
set_option maxHeartbeats 4000000
namespace Gx
open PySem PySem.Spec PyProof.Rows L2
def gFld (K : PySem.W.Frag) (to : TE) (f : Str) : TG := fun v σ H Q => to σ H fun x H1 => ∃ a C dx fs, x = .ref a ∧ H1 a = some (.ins C dx fs) ∧ Cls K C ∧ NoAttr K C f ∧ fs.length < 1000 ∧ Q σ (upd H1 a (.ins C dx (putF f v fs)))
end Gx
set_option Elab.async false
set_option linter.all false
set_option maxRecDepth 100000
set_option maxHeartbeats 1000000
namespace Gx
open PySem PySem.Spec PyProof.Rows L2 GenW Builtin Builtin.ObjectAttr
structure YexC (K : PySem.W.Frag) (C : Addr) (initId : String) : Prop where
  cls : ∃ (B newId : String) (bmB : List Value), ExcBaseFacts B newId initId bmB ∧ PySem.StoreFacts B bmB "object.__setattr__" "object" ∧ PySem.W.excInitIn K C bmB newId = true ∧ PySem.W.excOver K C bmB = true
  hd : PySem.W.hasDictIn K C = true
  sa : PySem.W.findIn K (.ref C) "__setattr__" = some (some (.builtin "object.__setattr__"))
  exC : PySem.W.subIn K (.ref C) (.type "BaseException") = some true
  tyC : PySem.W.typeIn K (.ref C) = some (.type "type")
  kC : PySem.W.keepIn K (.ref C) = true
section
variable {X : Cx} {pins : List (Addr × Obj)} {σ : L2.St} {H : Hp} {s : Shared} {a C dx : Addr} {f : Str} {y : V} {u : Value} {initId : String} {A : Around} {E : Value → Shared → Prop}
theorem ostY {Q : Unit → Shared → Prop} (T : YexC X.K C initId) (I : Inv X pins σ H s) (ea : H a = some (exo a C none)) (tf : PySem.W.takerIn X.K C f = some none) (ry : RelV y u)
    (next : ∀ dx s', H dx = none → dx ≠ a → Inv X pins σ (upd (upd H dx (exd dx [(f, y)])) a (exo a C (some dx))) s' → Q () s') : wpAny (model X.prog X.w) A (setAttr (.ref a) f u) Q E s := by
  obtain ⟨B, newId, bmB, FB, SF, hin, hov⟩ := T.cls
  obtain ⟨t1, ho⟩ := exo_at I.hok ea
  obtain ⟨cd, hcd, hdict⟩ := PySem.W.any_some T.hd
  have lcd : PySem.W.Looks (model X.prog X.w) s.heap (classData C) cd := PySem.W.looks_clsIn I.kIn hcd
  obtain ⟨hp, g, dr, t, os⟩ := s
  have inst : PySem.W.InstAt hp a ({ cls := .ref C, dict := none, data := .fields #[.ref t1, .none, .none, .none, .bool false, .none] } : Obj) C none := ⟨ho, rfl, rfl, trivial⟩
  refine PySem.W.set_plain I.kIn (od := none) inst T.sa (PySem.W.osa_openX SF I.kIn inst hov tf fun b => ?_)
  obtain ⟨c1, c2, c3, c4, c5, c6, c7, c8, c9, c10, c11⟩ := cd
  have c6t : c6 = true := hdict
  subst c6t
  have apart : a ≠ hp.objs.size := Nat.ne_of_lt (Heap.lt_size ho)
  show wpAny _ _ (storeInOwnDict _ _ _ _ _ _) _ _ _
  unfold storeInOwnDict ownDictForStores
  repeat (first | with_reducible refine PySem.HandSPX.store_in_new ?_ ?_ | with_reducible refine wpAny_loadPart_at ho ?_ | with_reducible refine lcd.at ?_ | wp_step)
  · exact ⟨_, #[], _, (Heap.get?_update_ne _ _ _ _ (Ne.symm apart)).trans (Heap.get?_push_at rfl rfl), rfl, fun en hen => absurd hen (by simp), fun _ => rfl⟩
  intro h' tk' ns' sb
  have free : H hp.objs.size = none := I.hok.fresh (Nat.le_refl _)
  have off : ∀ {b : Addr}, H b = none → b ≠ a := fun {b} hb z => by rw [z, ea] at hb; cases hb
  have low : ∀ {b : Addr} {o : Obj}, hp.get? b = some o → b ≠ hp.objs.size := fun {b o} hb => Nat.ne_of_lt (Heap.lt_size hb)
  have stays : ∀ b o, b ≠ a → hp.get? b = some o → h'.get? b = some o := fun b o hb ho => by
    rw [sb.2 b (low ho), Heap.get?_update_ne _ _ _ _ hb]
    exact Heap.get?_push_of_some _ ho
  have atA : h'.get? a = some ({ cls := .ref C, dict := some hp.objs.size, data := .fields #[.ref t1, .none, .none, .none, .bool false, .none] } : Obj) := by
    rw [sb.2 a apart]
    exact Heap.get?_update_self _ (Heap.get?_push_of_some _ ho) rfl
  have nTup : ∀ {b : Addr} {xs : List V}, H b = some (.tup xs) → b ≠ a := fun {b xs} hb z => by rw [z, ea] at hb; exact exo_tup (Option.some.inj hb)
  have nFrz : ∀ {b : Addr} {o : Obj} {v : HO}, H b = some (.frz o v) → b ≠ a := fun {b o v} hb z => by rw [z, ea] at hb; exact exo_frz (Option.some.inj hb)
  have nTbl : ∀ {b : Addr} {ps : Array Value}, H b = some (.tbl ps) → b ≠ a := fun {b ps} hb z => by rw [z, ea] at hb; exact exo_tbl (Option.some.inj hb)
  have nOwn : ∀ {b c : Addr}, H b = some (.own c) → b ≠ a := fun {b c} hb z => by rw [z, ea] at hb; exact exo_own (Option.some.inj hb)
  have both : ∀ {b : Addr} {o : HO}, H b = some o → b ≠ a → upd (upd H hp.objs.size (exd hp.objs.size [(f, y)])) a (exo a C (some hp.objs.size)) b = some o := fun {b o} hb n => by
    rw [upd_ne n, upd_ne (ne_of_none hb free)]
    exact hb
  have U : Un X.fs [] H (upd (upd H hp.objs.size (exd hp.objs.size [(f, y)])) a (exo a C (some hp.objs.size))) hp h' := by
    refine ⟨fun b o ho hb _ _ => stays b o (off hb) ho, fun b o ho hb _ _ => ⟨o.slots, stays b o (off hb) ho⟩, fun b o ho hb _ => ?_, fun b o ho _ => ?_, fun b xs hb => both hb (nTup hb), fun b o v hb => both hb (nFrz hb), fun b ps hb => ⟨#[], by rw [Array.append_empty]; exact both hb (nTbl hb)⟩⟩
    · rw [upd_ne (off hb), upd_ne (low ho)]; exact hb
    · by_cases z : b = a
      · exact ⟨_, z ▸ atA⟩
      · exact ⟨o, stays b o z ho⟩
  refine next hp.objs.size _ free (Ne.symm apart) (I.un (t' := tk') U fun b o hb => ?_)
  by_cases z : b = a
  · rw [z, upd_same] at hb
    cases hb
    rw [z]
    exact exo_ok atA
  rw [upd_ne z] at hb
  by_cases z2 : b = hp.objs.size
  · rw [z2, upd_same] at hb
    cases hb
    rw [z2]
    exact exd_ok ns' (relO_put (fs := []) ry fun _ => True.intro)
  rw [upd_ne z2] at hb
  refine (I.hok b o hb).stay (fun c v hc hv => stays c v ?_ hv) (fun c hc => both hc (nOwn hc)) fun c xs hc => both hc (nTup hc)
  rcases hc with hc | hc
  · exact hc ▸ z
  · exact nOwn hc
theorem initY {us : List Value} {Q : Value → Shared → Prop} (T : YexC X.K C initId) (I : Inv X pins σ H s) (ea : H a = some (exo a C none)) (hl : us.length ≤ sizeLine) (next : ∀ s', Inv X pins σ H s' → Q .none s') :
    wpAny (model X.prog X.w) A (call (.builtin initId) (.ref a :: us)) Q E s := by
  obtain ⟨B, newId, bmB, FB, SF, hin, hov⟩ := T.cls
  obtain ⟨nm, N, qn, bs, bm, hdct, sn, sub, ab, col, dd, k0, k1, k2, k3, k5, hC, hT⟩ := PySem.W.excInit_of I.kIn hin
  obtain ⟨t1, ho⟩ := exo_at I.hok ea
  obtain ⟨hp, g, dr, t, os⟩ := s
  refine wpAny_call (PySem.HandSPX.init_base FB hT hC ho hl fun h' t2 kept hx => ?_)
  have same : upd H a (exo a C none) = H := funext fun b => by
    by_cases z : b = a
    · rw [z, upd_same, ea]
    · rw [upd_ne z]
  have J := I.write (t' := t) (x := a) (e := a) (o := exo a C none) (by rw [ea]; trivial) (.inl rfl) kept ⟨_, hx⟩ (exo_ok hx)
  rw [same] at J
  exact next _ J
end
def tBI (K : PySem.W.Frag) (initId : String) (ta : TA) : TE := fun σ H Q => ta σ H fun vs H1 => ∃ (a C : Addr) (ws : List V), vs = .ref a :: ws ∧ ws.length ≤ 1000 ∧ YexC K C initId ∧ H1 a = some (exo a C none) ∧ Q .non H1
def tOstY (K : PySem.W.Frag) (initId : String) (f : Str) (to te : TE) : TS := fun D σ H => te σ H fun y H1 => to σ H1 fun x H2 => ∃ a C : Addr, x = .ref a ∧ YexC K C initId ∧ PySem.W.takerIn K C f = some none ∧
  H2 a = some (exo a C none) ∧ ∀ dx, H2 dx = none → dx ≠ a → D.nx σ (upd (upd H2 dx (exd dx [(f, y)])) a (exo a C (some dx)))
section
variable {X : Cx} {x f : Str} {e o : Expr} {es : List Expr} {ta : TA} {to te : TE} {p p' p1 p2 pos : Pos} {initId : String}
/-- B.__init__(self, ..), B an own class over a built-in one, without an __init__ of its own -/
theorem pe_bi {pl : Sem Bool} {B : Addr} {mc : Value} (hg : Gl X x) (hm : X.mg x = some (.ref B)) (r : ClX.CRead X.K B mc) (hv : PySem.W.findCls X.K (.ref B) mc "__init__" = some (.val (.builtin initId))) (hh : PySem.W.handedIn (.builtin initId) = true) (ha : PA X (e :: es) ta)
    (hdb : (x == ("__debug__" : Str)) = false := by decide)
    (hc : eval (.Call (.Attribute (.Name x p1) "__init__" p2) (e :: es) [] pos) X.env = (do
      let ov ← eval (.Name x p1) X.env
      standAt p2.atName
      let (f, first) ← holding [ov] (getMethod ov "__init__" pl)
      callWith pos f first (backTo pos (starEach (e :: es) X.env)) (backToKw pos (keywordEach [] X.env))) := by rfl)
    (he : starEach (e :: es) X.env = (false, eval e X.env) :: starEach es X.env := by rfl) (hpl : (backTo pos (starEach es X.env)).any (·.1) = false := by rfl) :
    PE X (.Call (.Attribute (.Name x p1) "__init__" p2) (e :: es) [] pos) (tBI X.K initId ta) := by
  refine ⟨fun pins s σ H Q I h => PySem.W.methodCall_KW (ld_glob I hg hm ?_ hdb) hc⟩
  refine PySem.W.method_cls I.kIn r.ga (PySem.W.cls_value I.kIn r.rd hv hh ?_)
  refine PyProof.Rows.callWith_method1 (thn (ha.run pos pins _ σ H _ (I.tok _) h) fun us s1 got => ?_) he hpl
  obtain ⟨vs, H1, I1, r1, a, C, ws, ev, hl, T, ea, q⟩ := got
  subst ev
  cases r1 with
  | @cons _ u _ ur ra rr =>
    obtain rfl : u = Value.ref a := ra
    exact initY T I1 ea (by rw [← Paired.length rr, sizeLine_eq]; omega) fun s' J => ⟨.non, H1, J, rfl, q⟩
theorem ps_ostY (ho : PE X o to) (he : PE X e te) (hs : swapsWith e (some (.Attribute o f p')) pos.line X.env = pure false := by rfl) : PS X (.Assign [.Attribute o f p'] e pos) (tOstY X.K initId f to te) := by
  refine ⟨fun pins s σ H D I h => plainObj_wpAny_Assign_Attribute (thn (he.run pins s σ H _ I h) fun v s1 got => ?_) hs⟩
  obtain ⟨y, H1, I1, r1, q1⟩ := got
  refine thn (ho.run pins s1 σ H1 _ I1 q1) fun u s2 got => ?_
  obtain ⟨z, H2, I2, r2, a, C, ez, T, tf, ea, q⟩ := got
  subst ez
  obtain rfl : u = Value.ref a := r2
  exact ostY T I2 ea tf r1 fun dx s' n ne J => ⟨σ, _, J, q dx n ne⟩
/-- C(e, ..), C's own __init__ keeping sp -/
theorem pmkY {CX : CXT} {C fI : Addr} {k : Nat} {fd : FuncData} {ps : List Str} {sp : Sp} (T : YexC X.K C initId) (iC : PySem.W.findIn X.K (.ref C) "__init__" = some (some (.ref fI))) (tI : PySem.W.typeIn X.K (.ref fI) = some (.type "function"))
    (F1 : FnOk X.prog X.w X.K X.mg X.base CX k fI fd ps sp) (hr : Room (k + 1) X.A) (hb : Binds X.K fd ps []) (hx : Passes CX X (fun _ _ _ => False)) (hg : Gl X x) (hm : X.mg x = some (.ref C)) (ha : PA X (e :: es) ta)
    (hdb : (x == ("__debug__" : Str)) = false := by decide) (he : starEach (e :: es) X.env = (false, eval e X.env) :: starEach es X.env := by rfl) (hpl : (backTo pos (starEach es X.env)).any (·.1) = false := by rfl) :
    PMk X (.Call (.Name x p) (e :: es) [] pos) (tMkO C sp [] ta) := by
  intro pins s σ H Q I h
  obtain ⟨B, newId, bmB, FB, SF, hin, hov⟩ := T.cls
  refine wpAny_Call_Name_kw (ld_glob I hg hm (PySem.W.callWith_K (h₀ := X.base) I.ok.mod.kin T.kC (thn (ha.run pos pins s σ H _ I h) fun us s1 got => ?_) he hpl) hdb)
  obtain ⟨vs, H1, I1, r1, hz, q1⟩ := got
  refine ⟨I1.kIn, ?_⟩
  obtain ⟨nm, N, qn, bs, bm, hdct, sn, sub, ab, col, dd, k0, k1, k2, k3, k5, hC, hT⟩ := PySem.W.excInit_of I1.kIn hin
  show wpAny _ _ (call (.ref C) us) _ _ _
  obtain ⟨hp, g, dr, tk, os⟩ := s1
  generalize hE : hp.objs.size + 1 = ex at *
  have above : hp.objs.size ≤ ex := by omega
  have fresh : H1 ex = none := I1.hok.fresh above
  have wish := q1 ex fresh
  have old : ∀ b o, hp.get? b = some o → ((hp.push (PySem.W.kdv_tup us)).push (PySem.HandSPX.excO C hp.objs.size)).get? b = some o := fun b o hb => Heap.get?_push_of_some _ (Heap.get?_push_of_some _ hb)
  have made : ((hp.push (PySem.W.kdv_tup us)).push (PySem.HandSPX.excO C hp.objs.size)).get? ex = some (PySem.HandSPX.excO C hp.objs.size) := by subst hE; heap_get
  have J : Inv X pins σ (upd H1 ex (exo ex C none)) ⟨(hp.push (PySem.W.kdv_tup us)).push (PySem.HandSPX.excO C hp.objs.size), g, dr, tk, os⟩ := I1.laid (t' := tk) old above (exo_ok made)
  have vals : Vals (V.ref ex :: (vs ++ [])) (Value.ref ex :: (us ++ [])) := .cons rfl (r1.append .nil)
  have len : (Value.ref ex :: us ++ []).length = ps.length := (F1.len _ _ _ _ wish ▸ vals.length).symm
  have lus : us.length ≤ sizeLine := by rw [← Paired.length r1, sizeLine_eq]; omega
  have go := F1.run _ X.stack _ _ ⟨Value.ref ex :: us, []⟩ (Value.ref ex :: (us ++ [])) _ _ (fun _ _ _ => False) (hr.make C us []) (J.env0.make C us []) (by rw [← List.cons_append]; exact hb _ (Value.ref ex :: us) J.kIn len) vals wish
  subst hE
  refine wpAny_call (PySem.HandSPX.call_own FB hT hC (PySem.W.looks_findIn I1.kIn iC) (fun self => PySem.W.bind_fn I1.kIn self tI) lus (codeAny_mono go fun r s' res => ?_))
  match r, res with
  | .error er, res => exact hx pins σ _ _ er s' J res
  | .ok (.ret u), res =>
    obtain ⟨v, H2, os2, bare2, un2, hok2, rv, ev, d, fs, e1, e2, e3, q2⟩ := res
    subst ev
    obtain ⟨h2, g2, d2, t2, os'⟩ := s'
    exact ⟨rv, mk_end (raises_own T.exC T.tyC) I1 above old un2 hok2 os2 bare2 e1 e2 e3 q2⟩
  | .ok .next, res => exact False.elim res
  | .ok .brk, res => exact False.elim res
  | .ok .cont, res => exact False.elim res
end
/-- an own exception class and what its __init__ promises -/
structure ExcMkY (P : Program) (w : World) (K : PySem.W.Frag) (mg : Str → Option Value) (base : Heap) (k : Nat) (x : Str) (C : Addr) (fl : Str) : Prop where
  ex : ∃ (f : Addr) (fd : FuncData) (ps : List Str) (initId : String), YexC K C initId ∧ PySem.W.findIn K (.ref C) "__init__" = some (some (.ref f)) ∧ PySem.W.typeIn K (.ref f) = some (.type "function") ∧ FnOk P w K mg base C8.CX0 k f fd ps (spExc C fl) ∧ Binds K fd ps [] ∧ mg x = some (.ref C)
theorem pmk_exY {X : Cx} {x : Str} {e : Expr} {ta : TA} {p pos : Pos} {k j : Nat} {C : Addr} {fl : Str} (c : ExcMkY X.prog X.w X.K X.mg X.base k x C fl) (hr : Room j X.A) (hk : k + 1 ≤ j) (hg : Gl X x) (ha : PA X [e] ta) (hdb : (x == ("__debug__" : Str)) = false := by decide)
    (he : starEach [e] X.env = (false, eval e X.env) :: starEach [] X.env := by rfl) (hpl : (backTo pos (starEach [] X.env)).any (·.1) = false := by rfl) : PMk X (.Call (.Name x p) [e] [] pos) (tMkO C (spExc C fl) [] ta) := by
  obtain ⟨f, fd, ps, initId, T, i, t, F, b, hm⟩ := c.ex
  exact pmkY T i t F (hr.mono hk) b C8.pass0 hg hm ha hdb he hpl
end Gx
set_option Elab.async false
set_option linter.all false
set_option maxRecDepth 100000
set_option maxHeartbeats 1000000
namespace Gx
open PySem PySem.Spec PyProof.Rows L2 GenW
structure MetX (P : Program) (w : World) (K : PySem.W.Frag) (mg : Str → Option Value) (base : Heap) (k : Nat) (C : Addr) (m : Str) (sp : Sp) : Prop where
  ex : ∃ (f : Addr) (fd : FuncData) (ps : List Str), Cls K C ∧ Meth K C m f ∧ FnOk P w K mg base (CX P w) k f fd ps sp ∧ Binds K fd ps []
theorem metX {P : Program} {w : World} {K : PySem.W.Frag} {mg : Str → Option Value} {base : Heap} {m qual : Str} {C : Addr} {st : Stmt} {f : Addr} {fd : FuncData} {N ps : List Str} {k : Nat} {sp : Sp} (c : Cls K C) (me : Meth K C m f) (F : C8.Fun K m qual st f fd) (b : Binds K fd ps [])
    (S : FnScope N ps (C8.fnScope st)) (len : ∀ vs H Q E, sp vs H Q E → vs.length = ps.length)
    (hbody : ∀ (cdv : Value) (A : Around) (outer : List Env) (s : Shared) (H : Hp) (vs : List V) (Q : VK) (E : XK), Room k (A.deeper (envOfC qual (C8.fnScope st) s.heap.objs.size f cdv)) → sp vs H Q E →
      ∃ t, PSs (cxOf (CX P w) P w K mg base N qual (C8.fnScope st) f cdv A outer s H E) (C8.fnBody st) t ∧ t { nx := fun _ H' => Q .non H', rt := Q } (start N vs) H) : MetX P w K mg base (k + 1) C m sp := by
  obtain ⟨oc, od, dV, kV, doc, pm, an, cdv, ct, osl, rfl, lk, hcd⟩ := F.ex
  exact ⟨f, _, ps, c, me, fn_of lk hcd S len (hbody cdv), b⟩
section
variable {X : Cx} {k j : Nat} {C : Addr} {x m : Str} {sp : Sp} {p pos apos : Pos} {e o : Expr} {es : List Expr} {ta : TE} {t : TA} {W : WX} {E : XK} {pl : Sem Bool}
theorem pe_cx0 (c : CalX X.prog X.w X.K X.mg X.base k x sp) (tk : Takes X W) (hW : ∀ cls d σ H, E cls d H → W cls d σ H) (hr : Room j X.A) (hk : k ≤ j) (hg : Gl X x) (hdb : (x == ("__debug__" : Str)) = false := by decide) :
    PE X (.Call (.Name x p) [] [] pos) (tCall sp [] E tNil) := by
  obtain ⟨f, fd, ps, F, hm, kp, b⟩ := c.ex
  exact pe_call0 F (hr.mono hk) hg hm kp b .nil (passes_call tk hW) hdb
theorem pe_mx (c : MetX X.prog X.w X.K X.mg X.base k C m sp) (tk : Takes X W) (hW : ∀ cls d σ H, E cls d H → W cls d σ H) (hr : Room j X.A) (hk : k ≤ j) (he : PE X o ta) (ha : PA X (e :: es) t)
    (hst : starEach (e :: es) X.env = (false, eval e X.env) :: starEach es X.env := by rfl) (hpl : (backTo pos (starEach es X.env)).any (·.1) = false := by rfl)
    (ht : eval (.Call (.Attribute o m apos) (e :: es) [] pos) X.env = (do
      let ov ← eval o X.env
      standAt apos.atName
      let (f, first) ← holding [ov] (getMethod ov m pl)
      callWith pos f first (backTo pos (starEach (e :: es) X.env)) (backToKw pos (keywordEach [] X.env))) := by rfl) :
    PE X (.Call (.Attribute o m apos) (e :: es) [] pos) (tMeth C m sp [] E ta t) := by
  obtain ⟨f, fd, ps, hc, hm, F, b⟩ := c.ex
  exact pe_meth (pl := pl) he hc hm F (hr.mono hk) b .nil (passes_call tk hW) ha hst hpl ht
theorem pe_mx0 (c : MetX X.prog X.w X.K X.mg X.base k C m sp) (tk : Takes X W) (hW : ∀ cls d σ H, E cls d H → W cls d σ H) (hr : Room j X.A) (hk : k ≤ j) (he : PE X o ta)
    (ht : eval (.Call (.Attribute o m apos) [] [] pos) X.env = (do
      let ov ← eval o X.env
      standAt apos.atName
      let (f, first) ← holding [ov] (getMethod ov m pl)
      callWith pos f first (backTo pos (starEach [] X.env)) (backToKw pos (keywordEach [] X.env))) := by rfl) :
    PE X (.Call (.Attribute o m apos) [] [] pos) (tMeth C m sp [] E ta tNil) := by
  obtain ⟨f, fd, ps, hc, hm, F, b⟩ := c.ex
  exact pe_meth0 (pl := pl) he hc hm F (hr.mono hk) b .nil (passes_call tk hW) ht
end
end Gx
set_option Elab.async false
set_option linter.all false
set_option maxRecDepth 100000
set_option maxHeartbeats 1000000
namespace Gx
open PySem PySem.Spec PyProof.Rows L2 GenW
def rTupOf (K : PySem.W.Frag) : List V → Hp → VK → Prop := fun xs H Q => ∃ p ys, xs = [.ref p] ∧ ((SqL K H p ys ∧ ∀ l, H l = none → Q (.ref l) (upd H l (.tup ys))) ∨ (SqT K H p ys ∧ Q (.ref p) H))
theorem call_tupOf {X : Cx} : CallR X (.type "tuple") (rTupOf X.K) := call_tuple_of
def rLstOf (K : PySem.W.Frag) : List V → Hp → VK → Prop := fun xs H Q => ∃ p ys, xs = [.ref p] ∧ (SqL K H p ys ∨ SqT K H p ys) ∧ ∀ l, H l = none → Q (.ref l) (upd H l (.lst ys))
theorem call_lstOf {X : Cx} : CallR X (.type "list") (rLstOf X.K) := call_list_of
section
variable {H : Hp} {Q : VK} {K : PySem.W.Frag} {a b : Addr} {xs zs : List V}
theorem ext (h : H a = some (.lst xs)) (h2 : H b = some (.lst zs)) (hl : xs.length + zs.length ≤ 1000000) (q : ∀ H', Au.ExP a H H' → H' a = some (.lst (xs ++ zs)) → Q .non H') : rExtend (.ref a) [.ref b] H Q :=
  ⟨a, b, xs, zs, rfl, rfl, h, h2, Nat.le_trans hl (Nat.le_of_ble_eq_true rfl), q _ (fun c z h n => by rw [upd_ne n]; exact h) upd_same⟩
theorem frz {ta : TA} {g : TG} {tb : TS} {D : Ends} {σ : L2.St} (h : ta σ H fun vs H1 => ∃ a b xs ys, vs = [.ref a, .ref b] ∧ SqL K H1 a xs ∧ SqL K H1 b ys ∧ ∃ W : Nat → Nat → L2.St → Hp → Prop, (∃ m, W 0 m σ H1) ∧ ∀ i m σ H, W i m σ H →
    ((Itz K a b).stop i H ∧ D.nx σ H) ∨ ((Itz K a b).go i H ∧ ∃ N : L2.St → Hp → Prop, (∀ σ' H', N σ' H' → ∃ m', m' < m ∧ W (i + 1) m' σ' H') ∧ ∀ x H', (Itz K a b).yld i H x H' → g x σ H' fun σ2 H2 => tb { D with nx := N, ct := N, bk := D.nx } σ2 H2)) :
    tFor (iZip K ta) g tb D σ H := h
end
end Gx
set_option Elab.async false
set_option linter.all false
set_option maxRecDepth 100000
set_option maxHeartbeats 1000000
namespace Pr
open PySem PySem.Spec PyProof.Rows L2
/-- all but two objects stand -/
def ExQ (p r : Addr) (H H' : Hp) : Prop := ∀ c o, H c = some o → c ≠ p → c ≠ r → H' c = some o
theorem ExQ.refl {p r : Addr} (H : Hp) : ExQ p r H H := fun _ _ e _ _ => e
abbrev ScrO (C dx sa : Addr) (pl : Nat) : HO := .ins C dx [("s1_script", .ref sa), ("s1_place", .int (pl : Int))]
abbrev DrwO (C dx so : Addr) (n : Nat) : HO := .ins C dx [("s5_source", .ref so), ("s5_used", .int (n : Int))]
abbrev words (ws : List Nat) : List V := ws.map fun (w : Nat) => V.int (w : Int)
/-- a script at its object -/
structure SAt (C : Addr) (H : Hp) (o dx a : Addr) (ws : List Nat) (pl : Nat) : Prop where
  obj : H o = some (ScrO C dx a pl)
  tup : H a = some (.tup (words ws))
  le : pl ≤ ws.length
/-- draws over a script -/
structure DAt (C S : Addr) (H : Hp) (p dx o dy a : Addr) (ws : List Nat) (pl n : Nat) : Prop where
  drw : H p = some (DrwO C dx o n)
  scr : SAt S H o dy a ws pl
theorem DAt.ne {C S p dx o dy a : Addr} {H : Hp} {ws : List Nat} {pl n : Nat} (h : DAt C S H p dx o dy a ws pl n) : p ≠ o ∧ a ≠ p ∧ a ≠ o := by
  refine ⟨ne_of h.drw h.scr.obj (fun z => ?_), ne_of h.scr.tup h.drw (fun z => by cases z), ne_of h.scr.tup h.scr.obj (fun z => by cases z)⟩
  have e : ("s5_source" : Str) = "s1_script" := congrArg (fun o => match o with | HO.ins _ _ ((f, _) :: _) => f | _ => "") z
  exact absurd e (by decide +kernel)
end Pr
set_option Elab.async false
set_option linter.all false
set_option maxRecDepth 100000
set_option maxHeartbeats 1000000
namespace Gx
open PySem PySem.Spec PyProof.Rows L2 GenW
end Gx
set_option Elab.async false
set_option linter.all false
set_option maxRecDepth 100000
set_option maxHeartbeats 1000000
namespace Gx
open PySem PySem.Spec PyProof.Rows L2
section
variable {σ : L2.St} {H : Hp} {Q : VK} {te : TE} {j : Nat} {z : Str}
def rLenS : List V → Hp → VK → Prop := fun xs H Q => ∃ z, xs = [.str z] ∧ z.length ≤ sizeLine ∧ Q (.int (z.length : Nat)) H
theorem call_lenS {X : Cx} : CallR X (.builtin "len") rLenS := call_len_str
end
end Gx
set_option Elab.async false
set_option linter.all false
set_option maxRecDepth 100000
set_option maxHeartbeats 1000000
namespace Gx
open PySem PySem.Spec PyProof.Rows L2
/-- an exception that is kept: at a, of the class cls, its dict at d -/
def xob (a : Addr) (cls : Value) (d : Option Addr) : HO := .ext fun h => ∃ (oe : Obj) (vs : Array Value), h.get? a = some oe ∧ oe.cls = cls ∧ oe.dict = d ∧ oe.data = .fields vs
theorem xob_at {P : Program} {w : World} {H : Hp} {h : Heap} {a : Addr} {cls : Value} {d : Option Addr} (ok : HOk P w H h) (e : H a = some (xob a cls d)) : ∃ (oe : Obj) (vs : Array Value), h.get? a = some oe ∧ oe.cls = cls ∧ oe.dict = d ∧ oe.data = .fields vs := (ok a _ e).1
def rIsK (K : PySem.W.Frag) : List V → Hp → VK → Prop := fun xs H Q => ∃ (a D dd : Addr) (fs : List (Str × V)) (c : V) (cv : Value) (b : Bool), xs = [.ref a, c] ∧ ExcC K D ∧ H a = some (xob a (.ref D) (some dd)) ∧ H dd = some (.xd fs) ∧ (∀ u, RelV c u → u = cv) ∧ PySem.W.kitOne K (.ref D) cv = some b ∧ Q (.bl b) H
theorem call_isK {X : Cx} : CallR X (.builtin "isinstance") (rIsK X.K) := by
  intro pins s σ H xs us Q I r h
  obtain ⟨a, D, dd, fs, c, cv, b, rfl, G, ha, hd, hcv, e, q⟩ := h
  cases r with
  | cons rx rr =>
    cases rr with
    | cons rt rr =>
      cases rr
      cases rx
      obtain rfl := hcv _ rt
      obtain ⟨oe, vs, e1, e2, e3, e4⟩ := xob_at I.hok ha
      obtain ⟨mA, ns, _⟩ := (show ObjOk X.prog X.w H s.heap dd (.xd fs) from I.hok dd _ hd)
      obtain ⟨od, ho, _⟩ := lookIn_ns ns
      have J : PySem.W.InstAt s.heap a oe D (some od) := ⟨e1, e2, by unfold PySem.W.notCls; rw [e4] <;> rfl, by rw [e3]; exact ho⟩
      exact PySem.W.kia_one (kit_exc G) I.kIn J e (fun z => nomatch z) fun tk => ⟨.bl b, H, I.kept (t' := tk) fun _ _ z => z, rfl, q⟩
end Gx
set_option Elab.async false
set_option linter.all false
set_option maxRecDepth 100000
set_option maxHeartbeats 1000000
namespace Gx
open PySem PySem.Spec PyProof.Rows L2
end Gx
set_option Elab.async false
set_option linter.all false
set_option maxRecDepth 100000
set_option maxHeartbeats 1000000
namespace Pr
open PySem PySem.Spec PyProof.Rows L2
/-- a value as a number in its bounds -/
inductive Nm (lo hi : Int) (H : Hp) : V → Option Int → Prop
  | int (n : Int) : Nm lo hi H (.int n) (if lo ≤ n ∧ n ≤ hi then some n else none)
  | non {v : V} (h : NonInt H v) : Nm lo hi H v none
/-- what is refused -/
abbrev Out (lo hi : Int) (H : Hp) (v : V) : Prop := Nm lo hi H v none
theorem NonInt.ex {H H' : Hp} {v : V} (e : Rd.Ex H H') (h : NonInt H v) : NonInt H' v := by
  rcases h with h | h | h | ⟨a, xs, h, k⟩ | ⟨a, xs, h, k⟩ | ⟨a, xs, h, k⟩
  · exact .inl h
  · exact .inr (.inl h)
  · exact .inr (.inr (.inl h))
  · exact .inr (.inr (.inr (.inl ⟨a, xs, h, e _ _ k⟩)))
  · exact .inr (.inr (.inr (.inr (.inl ⟨a, xs, h, e _ _ k⟩))))
  · exact .inr (.inr (.inr (.inr (.inr ⟨a, xs, h, e _ _ k⟩))))
theorem Nm.ex {lo hi : Int} {H H' : Hp} {v : V} {r : Option Int} (e : Rd.Ex H H') (h : Nm lo hi H v r) : Nm lo hi H' v r := by
  cases h with
  | int n => exact .int n
  | non h => exact .non (NonInt.ex e h)
theorem Nm.inv {lo hi : Int} {H : Hp} {v : V} {r : Option Int} (h : Nm lo hi H v r) : (∃ n, v = .int n ∧ r = some n ∧ lo ≤ n ∧ n ≤ hi) ∨ (∃ n, v = .int n ∧ r = none ∧ ¬ (lo ≤ n ∧ n ≤ hi)) ∨ (NonInt H v ∧ r = none) := by
  cases h with
  | int n =>
    by_cases c : lo ≤ n ∧ n ≤ hi
    · exact .inl ⟨n, rfl, if_pos c, c⟩
    · exact .inr (.inl ⟨n, rfl, if_neg c, c⟩)
  | non h => exact .inr (.inr ⟨h, rfl⟩)
/-- exception of the class CE with the value v in its field fl -/
def Xs (CE : Addr) (fl : Str) (v : V) (H : Hp) (E : XK) : Prop := ∀ d H', H d = none → Rd.Ex H H' → H' d = some (.xd [(fl, v)]) → E (.ref CE) (some d) H'
theorem ex_none {H H1 : Hp} {p : Addr} (e : Rd.Ex H H1) (h : H1 p = none) : H p = none := by
  cases hh : H p with
  | none => rfl
  | some o => rw [e p o hh] at h; cases h
theorem Xs.ex {CE : Addr} {fl : Str} {v : V} {H H' : Hp} {E : XK} (e : Rd.Ex H H') (h : Xs CE fl v H E) : Xs CE fl v H' E := fun d H2 hd e2 k => h d H2 (ex_none e hd) (e.trans e2) k
theorem Xs.mk {C : Addr} {fl : Str} {v : V} {H : Hp} {Q : XK} (h : Xs C fl v H Q) :
    [v].length ≤ 1000 ∧ ∀ a, H a = none → Gx.spExc C fl (.ref a :: ([v] ++ [])) (upd H a (exo a C none))
      (fun r H2 => r = .non ∧ ∃ (d : Addr) (fs : List (Str × V)), H2 a = some (exo a C (some d)) ∧ H2 d = some (exd d fs) ∧ H d = none ∧ Q (.ref C) (some d) (upd (del H2 a) d (.xd fs))) (fun _ _ _ => False) := Gx.mkO h
theorem Out.is {lo hi : Int} {H : Hp} {v : V} {Q : VK} {E : XK} (h : Out lo hi H v) (q : Q (.bl false) H) : spIs lo hi ([v] ++ []) H Q E := by
  refine ⟨v, rfl, ?_⟩
  rcases h.inv with ⟨n, _, z, _⟩ | ⟨n, rfl, _, c⟩ | ⟨h', _⟩
  · cases z
  · exact .inl ⟨n, rfl, by rw [decide_eq_false c]; exact q⟩
  · exact .inr ⟨h', q⟩
theorem Nm.is {lo hi : Int} {H : Hp} {v : V} {r : Option Int} {Q : VK} {E : XK} (h : Nm lo hi H v r) (q : Q (.bl r.isSome) H) : spIs lo hi ([v] ++ []) H Q E := by
  refine ⟨v, rfl, ?_⟩
  rcases h.inv with ⟨n, rfl, rfl, c⟩ | ⟨n, rfl, rfl, c⟩ | ⟨h', rfl⟩
  · exact .inl ⟨n, rfl, by rw [decide_eq_true c]; exact q⟩
  · exact .inl ⟨n, rfl, by rw [decide_eq_false c]; exact q⟩
  · exact .inr ⟨h', q⟩
end Pr
namespace Gx
open PySem PySem.Spec PyProof.Rows L2
/-- written objects that stand -/
def Hold (L : List (Addr × HO)) (H : Hp) : Prop := ∀ x ∈ L, H x.1 = some x.2
def Plain (L : List (Addr × HO)) : Prop := ∀ x ∈ L, (∃ xs, x.2 = .tup xs) ∨ ∃ xs, x.2 = .lst xs
section
variable {L : List (Addr × HO)} {H H' : Hp}
theorem Hold.ex (h : Hold L H) (e : Rd.Ex H H') : Hold L H' := fun x hx => e _ _ (h x hx)
/-- an object that was not there then is changed -/
theorem Hold.new {H0 : Hp} (h : Hold L H) (h0 : Hold L H0) {d : Addr} (hd : H0 d = none) (e : Au.ExP d H H') : Hold L H' := fun x hx => e _ _ (h x hx) fun z => by
  have k := h0 x hx
  rw [z, hd] at k
  cases k
theorem Hold.cons {a : Addr} {o : HO} (h : Hold L H) (k : H a = some o) : Hold ((a, o) :: L) H := fun x hx => by
  rcases List.mem_cons.mp hx with rfl | hx
  · exact k
  · exact h x hx
theorem Hold.nil : Hold [] H := fun x hx => by cases hx
theorem Plain.nil : Plain [] := fun x hx => by cases hx
theorem Plain.tup {a : Addr} {xs : List V} (h : Plain L) : Plain ((a, .tup xs) :: L) := fun x hx => by
  rcases List.mem_cons.mp hx with rfl | hx
  · exact .inl ⟨_, rfl⟩
  · exact h x hx
theorem Plain.lst {a : Addr} {xs : List V} (h : Plain L) : Plain ((a, .lst xs) :: L) := fun x hx => by
  rcases List.mem_cons.mp hx with rfl | hx
  · exact .inr ⟨_, rfl⟩
  · exact h x hx
theorem Hold.at {a : Addr} {o : HO} (i : Nat) (h : Hold L H) (hi : L[i]? = some (a, o)) : H a = some o := h (a, o) (List.mem_of_getElem? hi)
end
end Gx
set_option Elab.async false
set_option linter.all false
set_option maxRecDepth 100000
set_option maxHeartbeats 1000000
namespace Sx
open PySem PySem.Spec PyProof.Rows L2
/-- a thing that may be written -/
def Mo : HO → Prop
  | .lst _ => True
  | .ins _ _ _ => True
  | .dK _ => True
  | .dT _ => True
  | .set _ _ => True
  | .xd _ => True
  | _ => False
theorem Mo.tup {xs : List V} : ¬ Mo (.tup xs) := fun h => h
theorem Mo.tbl {ps} : ¬ Mo (.tbl ps) := fun h => h
theorem Mo.ext {ps} : ¬ Mo (.ext ps) := fun h => h
/-- tuples stay -/
def Kp (H H' : Hp) : Prop := ∀ c xs, H c = some (.tup xs) → H' c = some (.tup xs)
theorem Kp.ex {H H' : Hp} (e : Rd.Ex H H') : Kp H H' := fun c xs h => e c _ h
theorem Kp.exn {H H' : Hp} (e : LamX.ExtN H H') : Kp H H' := fun c xs h => e c _ h fun _ z => by cases z
theorem Kp.exp {H H' : Hp} {x : Addr} {o : HO} (e : Au.ExP x H H') (hx : H x = some o) (m : Mo o) : Kp H H' := fun c xs h => e c _ h fun z => by
  rw [z, hx] at h
  cases h
  exact m
/-- what is told of a thing -/
structure Cl where
  P : Hp → HO → Prop
  st : ∀ {H H' : Hp} {o : HO}, Kp H H' → P H o → P H' o
def Is (o : HO) : Cl := ⟨fun _ x => x = o, fun _ h => h⟩
/-- read only; new tuple; new and writable; to be written -/
inductive Fl where | ro | nt | nm | mu
def Fl.mut : Fl → Bool
  | .nm => true
  | .mu => true
  | _ => false
abbrev En := Addr × Cl × Fl
structure Bs where
  H0 : Hp
  M : List Addr
  T : List (Addr × Str)
/-- it was not there at the entry -/
def Fr (B : Bs) (a : Addr) : Prop := ∀ o, B.H0 a = some o → B.T ≠ [] ∧ ∃ ps, o = .tbl ps
def Fl.ok (B : Bs) (a : Addr) : Fl → Prop
  | .ro => True
  | .nt => Fr B a
  | .nm => Fr B a
  | .mu => a ∈ B.M
def Df (e e' : En) : Prop := (e.2.2.mut = false ∧ e'.2.2.mut = false) ∨ e.1 ≠ e'.1
theorem Df.symm {e e' : En} (h : Df e e') : Df e' e := h.elim (fun h => .inl ⟨h.2, h.1⟩) (fun h => .inr (Ne.symm h))
structure Hs (B : Bs) (L : List En) (H : Hp) : Prop where
  fr : ∀ c o, B.H0 c = some o → c ∉ B.M → (B.T ≠ [] → ∀ ps, o ≠ .tbl ps) → H c = some o
  mm : ∀ c ∈ B.M, ∃ o, H c = some o ∧ Mo o
  tb : LamX.Tabs B.T H
  df : L.Pairwise Df
  ok : ∀ e ∈ L, e.2.2.ok B e.1 ∧ ∃ o, H e.1 = some o ∧ e.2.1.P H o ∧ (e.2.2.mut = true → Mo o) ∧ ∀ ps, o ≠ .tbl ps
def W (B : Bs) (L : List En) (G : Hp → Prop) : Prop := ∀ H, Hs B L H → G H
section
variable {B : Bs} {L L' L1 L2 : List En} {H H' H1 : Hp} {p x a : Addr} {o : HO} {φ φ' : Cl} {f : Fl} {G G' : Hp → Prop}
theorem Hs.at (S : Hs B L H) (m : (a, Is o, f) ∈ L) : H a = some o := by
  obtain ⟨_, z, h1, h2, _⟩ := S.ok _ m
  cases h2
  exact h1
theorem Hs.fresh (S : Hs B L H) (n : H p = none) : Fr B p := fun o h => by
  refine Classical.byContradiction fun nc => ?_
  by_cases hm : p ∈ B.M
  · obtain ⟨o', h', _⟩ := S.mm p hm
    rw [n] at h'; cases h'
  · have := S.fr p o h hm fun hT ps z => nc ⟨hT, ps, z⟩
    rw [n] at this; cases this
theorem Hs.ex (S : Hs B L H) (e : Rd.Ex H H') : Hs B L H' where
  fr := fun c o h n t => e _ _ (S.fr c o h n t)
  mm := fun c h => by
    obtain ⟨o, h1, h2⟩ := S.mm c h
    exact ⟨o, e _ _ h1, h2⟩
  tb := S.tb.ext e
  df := S.df
  ok := fun z hz => by
    obtain ⟨h0, o, h1, h2, h3⟩ := S.ok z hz
    exact ⟨h0, o, e _ _ h1, z.2.1.st (.ex e) h2, h3⟩
theorem Hs.exn (S : Hs B L H) (hT : B.T ≠ []) (e : LamX.ExtN H H') (t : LamX.Tabs B.T H') : Hs B L H' where
  fr := fun c o h n t => e _ _ (S.fr c o h n t) (t hT)
  mm := fun c h => by
    obtain ⟨o, h1, h2⟩ := S.mm c h
    exact ⟨o, e _ _ h1 (fun ps z => by subst z; exact h2), h2⟩
  tb := t
  df := S.df
  ok := fun z hz => by
    obtain ⟨h0, o, h1, h2, h3, h4⟩ := S.ok z hz
    exact ⟨h0, o, e _ _ h1 h4, z.2.1.st (.exn e) h2, h3, h4⟩
theorem Hs.ad (S : Hs B L H) (n : H p = none) (e : Rd.Ex H H') (k : H' p = some o) (c : φ.P H' o) (hf : f = .nt ∨ f = .nm ∧ Mo o) (nb : ∀ ps, o ≠ .tbl ps) : Hs B ((p, φ, f) :: L) H' where
  fr := (S.ex e).fr
  mm := (S.ex e).mm
  tb := (S.ex e).tb
  df := List.pairwise_cons.mpr ⟨fun z hz => .inr fun q => (by
    obtain ⟨_, o', h1, _⟩ := S.ok z hz
    simp only at q
    rw [← q, n] at h1
    cases h1), S.df⟩
  ok := fun z hz => by
    rcases List.mem_cons.mp hz with rfl | hz
    · refine ⟨?_, o, k, c, ?_, nb⟩
      · rcases hf with rfl | ⟨rfl, _⟩ <;> exact S.fresh n
      · rcases hf with rfl | ⟨rfl, h⟩
        · intro h; cases h
        · exact fun _ => h
    · exact (S.ex e).ok z hz
theorem Hs.nw (S : Hs B L H) (n : H p = none) (e : Rd.Ex H H') (k : H' p = some o) (hf : f = .nt ∨ f = .nm ∧ Mo o) (nb : ∀ ps, o ≠ .tbl ps) : Hs B ((p, Is o, f) :: L) H' := S.ad n e k rfl hf nb
/-- one thing's row is written anew -/
inductive Upd : List En → Addr → Cl → List En → Prop
  | hd {φ φ' : Cl} {f : Fl} {x : Addr} {L : List En} (h : f.mut = true) : Upd ((x, φ, f) :: L) x φ' ((x, φ', f) :: L)
  | tl {e : En} {L L' : List En} {x : Addr} {φ' : Cl} (h : Upd L x φ' L') : Upd (e :: L) x φ' (e :: L')
theorem Upd.mem {L L' : List En} {x : Addr} {φ' : Cl} (u : Upd L x φ' L') (d : L.Pairwise Df) : (∃ φ f, f.mut = true ∧ (x, φ, f) ∈ L) ∧ (∀ e ∈ L', (e.1 = x ∧ e.2.1 = φ' ∧ e.2.2.mut = true ∧ ∃ φ, (x, φ, e.2.2) ∈ L) ∨ (e ∈ L ∧ e.1 ≠ x)) ∧ L'.map (fun e => (e.1, e.2.2)) = L.map (fun e => (e.1, e.2.2)) := by
  induction u with
  | hd h =>
    refine ⟨⟨_, _, h, List.mem_cons_self⟩, fun e he => ?_, rfl⟩
    rcases List.mem_cons.mp he with rfl | he
    · exact .inl ⟨rfl, rfl, h, _, List.mem_cons_self⟩
    · refine .inr ⟨List.mem_cons_of_mem _ he, fun z => ?_⟩
      rcases (List.pairwise_cons.mp d).1 e he with q | q
      · rw [h] at q; cases q.1
      · exact q z.symm
  | @tl e L L' x φ' u ih =>
    obtain ⟨⟨φ, f, h1, h2⟩, h3, h4⟩ := ih (List.pairwise_cons.mp d).2
    refine ⟨⟨φ, f, h1, List.mem_cons_of_mem _ h2⟩, fun z hz => ?_, by simp only [List.map_cons, h4]⟩
    rcases List.mem_cons.mp hz with rfl | hz
    · refine .inr ⟨List.mem_cons_self, fun q => ?_⟩
      rcases (List.pairwise_cons.mp d).1 _ h2 with w | w
      · rw [h1] at w; cases w.2
      · exact w q
    · rcases h3 z hz with ⟨a, b, c, φ, d⟩ | ⟨a, b⟩
      · exact .inl ⟨a, b, c, φ, List.mem_cons_of_mem _ d⟩
      · exact .inr ⟨List.mem_cons_of_mem _ a, b⟩
theorem df_map {L L' : List En} (h : L'.map (fun e => (e.1, e.2.2)) = L.map (fun e => (e.1, e.2.2))) (d : L.Pairwise Df) : L'.Pairwise Df := by
  have e : ∀ K : List En, K.Pairwise Df ↔ (K.map (fun e => (e.1, e.2.2))).Pairwise (fun p q => (p.2.mut = false ∧ q.2.mut = false) ∨ p.1 ≠ q.1) := fun K => by
    rw [List.pairwise_map]; rfl
  rw [e, h, ← e]
  exact d
theorem Hs.set (S : Hs B L H) (u : Upd L x φ L') (e : Au.ExP x H H') (k : H' x = some o) (c : φ.P H' o) (mo : Mo o) : Hs B L' H' := by
  obtain ⟨⟨ψ, f, h1, h2⟩, h3, h4⟩ := u.mem S.df
  obtain ⟨s0, z, s1, s2, s3, s4⟩ := S.ok _ h2
  have mz := s3 h1
  have kp := Kp.exp e s1 mz
  have nb : ∀ ps, o ≠ .tbl ps := fun ps q => by subst q; exact mo
  refine ⟨fun c o' h n t => e _ _ (S.fr c o' h n t) fun q => ?_, fun c hc => ?_, fun q hq => ?_, df_map h4 S.df, fun v hv => ?_⟩
  · subst q
    cases f with
    | ro => cases h1
    | nt => cases h1
    | nm =>
      obtain ⟨hT, ps, q⟩ := s0 _ h
      exact t hT ps q
    | mu => exact n s0
  · by_cases q : c = x
    · exact ⟨o, q ▸ k, mo⟩
    · obtain ⟨o', h1, h2⟩ := S.mm c hc
      exact ⟨o', e _ _ h1 q, h2⟩
  · obtain ⟨ps, t1, t2, t3⟩ := S.tb q hq
    refine ⟨ps, e _ _ t1 (fun w => by rw [w, s1] at t1; cases t1; exact mz), t2, fun pos cv hcv => ?_⟩
    obtain ⟨c', rfl, hc'⟩ := t3 pos cv hcv
    exact ⟨c', rfl, e _ _ hc' (fun w => by rw [w, s1] at hc'; cases hc'; exact mz)⟩
  · rcases h3 v hv with ⟨rfl, rfl, q3, φ0, q4⟩ | ⟨q1, q2⟩
    · exact ⟨(S.ok _ q4).1, o, k, c, fun _ => mo, nb⟩
    · obtain ⟨w0, o', w1, w2, w3⟩ := S.ok v q1
      exact ⟨w0, o', e _ _ w1 q2, v.2.1.st kp w2, w3⟩
inductive Sel : List En → Addr → Cl → List En → Prop
  | hd {φ : Cl} {f : Fl} {x : Addr} {L : List En} (h : f.mut = true) : Sel ((x, φ, f) :: L) x φ L
  | tl {e : En} {L L' : List En} {x : Addr} {φ : Cl} (h : Sel L x φ L') : Sel (e :: L) x φ (e :: L')
inductive FindR : List En → List En → Prop
  | nil {L : List En} : FindR L []
  | cons {L ps : List En} {x : Addr} {φ : Cl} {f : Fl} (m : (x, φ, f) ∈ L) (h : FindR L ps) : FindR L ((x, φ, .ro) :: ps)
/-- first what is to be written, then what is read -/
inductive Find : List En → List En → Prop
  | ros {L ps : List En} (h : FindR L ps) : Find L ps
  | mu {L L1 ps : List En} {x : Addr} {φ : Cl} (m : Sel L x φ L1) (h : Find L1 ps) : Find L ((x, φ, .mu) :: ps)
theorem Sel.mem {L L' : List En} {x : Addr} {φ : Cl} (u : Sel L x φ L') (d : L.Pairwise Df) : (∃ f, f.mut = true ∧ (x, φ, f) ∈ L) ∧ (∀ e ∈ L', e ∈ L ∧ e.1 ≠ x) ∧ L'.Sublist L := by
  induction u with
  | hd h =>
    refine ⟨⟨_, h, List.mem_cons_self⟩, fun e he => ⟨List.mem_cons_of_mem _ he, fun z => ?_⟩, List.sublist_cons_self _ _⟩
    rcases (List.pairwise_cons.mp d).1 e he with q | q
    · rw [h] at q; cases q.1
    · exact q z.symm
  | @tl e L L' x φ u ih =>
    obtain ⟨⟨f, h1, h2⟩, h3, h4⟩ := ih (List.pairwise_cons.mp d).2
    refine ⟨⟨f, h1, List.mem_cons_of_mem _ h2⟩, fun z hz => ?_, h4.cons_cons _⟩
    rcases List.mem_cons.mp hz with rfl | hz
    · refine ⟨List.mem_cons_self, fun q => ?_⟩
      rcases (List.pairwise_cons.mp d).1 _ h2 with w | w
      · rw [h1] at w; cases w.2
      · exact w q
    · exact ⟨List.mem_cons_of_mem _ (h3 z hz).1, (h3 z hz).2⟩
def mus (L : List En) : List Addr := (L.filter fun e => match e.2.2 with | .mu => true | _ => false).map (·.1)
theorem FindR.mem {L ps : List En} (u : FindR L ps) : (∀ e ∈ ps, e.2.2 = .ro ∧ ∃ f, (e.1, e.2.1, f) ∈ L) ∧ ps.Pairwise Df := by
  induction u with
  | nil => exact ⟨fun e h => (by cases h), .nil⟩
  | @cons ps x φ f m h ih =>
    refine ⟨fun e he => ?_, List.pairwise_cons.mpr ⟨fun e he => .inl ⟨rfl, by rw [(ih.1 e he).1]; rfl⟩, ih.2⟩⟩
    rcases List.mem_cons.mp he with rfl | he
    · exact ⟨rfl, f, m⟩
    · exact ih.1 e he
theorem Find.mem {L ps : List En} (u : Find L ps) (d : L.Pairwise Df) : (∀ e ∈ ps, ∃ f, (e.1, e.2.1, f) ∈ L ∧ (e.2.2 = .ro ∨ (e.2.2 = .mu ∧ f.mut = true))) ∧ ps.Pairwise Df := by
  induction u with
  | ros h =>
    refine ⟨fun e he => ?_, h.mem.2⟩
    obtain ⟨h1, f, h2⟩ := h.mem.1 e he
    exact ⟨f, h2, .inl h1⟩
  | @mu L L1 ps x φ m h ih =>
    obtain ⟨⟨f, m1, m2⟩, m3, m4⟩ := m.mem d
    obtain ⟨h1, h2⟩ := ih (d.sublist m4)
    refine ⟨fun e he => ?_, List.pairwise_cons.mpr ⟨fun e he => ?_, h2⟩⟩
    · rcases List.mem_cons.mp he with rfl | he
      · exact ⟨f, m2, .inr ⟨rfl, m1⟩⟩
      · obtain ⟨g, g1, g2⟩ := h1 e he
        exact ⟨g, (m3 _ g1).1, g2⟩
    · obtain ⟨g, g1, g2⟩ := h1 e he
      exact .inr fun z => (m3 _ g1).2 z.symm
/-- what it leaves -/
def Post (H : Hp) (T : List (Addr × Str)) (pre post : List En) (G : Hp → Prop) : Prop := ∀ H', Hs ⟨H, mus pre, T⟩ post H' → G H'
/-- the caller's list behind the call -/
inductive Rep : List En → List En → List En → Prop
  | nil {L : List En} : Rep L [] L
  | ro {L ps L' : List En} {x : Addr} {φ : Cl} (h : Rep L ps L') : Rep L ((x, φ, .ro) :: ps) L'
  | nt {L ps L' : List En} {x : Addr} {φ : Cl} (h : Rep L ps L') : Rep L ((x, φ, .nt) :: ps) ((x, φ, .nt) :: L')
  | nm {L ps L' : List En} {x : Addr} {φ : Cl} (h : Rep L ps L') : Rep L ((x, φ, .nm) :: ps) ((x, φ, .nm) :: L')
  | mu {L ps L' L1 : List En} {x : Addr} {φ : Cl} (u : Upd L x φ L1) (h : Rep L1 ps L') : Rep L ((x, φ, .mu) :: ps) L'
/-- new -/
def Fl.isN : Fl → Prop
  | .nt => True
  | .nm => True
  | _ => False
theorem Rep.mem {L ps L' : List En} (u : Rep L ps L') : L.Pairwise Df → ps.Pairwise Df → (∀ e ∈ ps, e.2.2.isN → ∀ z ∈ L, e.1 ≠ z.1) →
    (∀ e ∈ L', (e ∈ ps ∧ e.2.2.isN) ∨ (∃ φ, (e.1, φ, e.2.2) ∈ L ∧ (e.1, e.2.1, .mu) ∈ ps ∧ e.2.2.mut = true) ∨ (e ∈ L ∧ ∀ φ, (e.1, φ, .mu) ∉ ps)) ∧ L'.Pairwise Df := by
  induction u with
  | nil => exact fun d _ _ => ⟨fun e he => .inr (.inr ⟨he, fun φ h => (by cases h)⟩), d⟩
  | ro h ih =>
    intro d dp hn
    obtain ⟨h1, h2⟩ := ih d (List.pairwise_cons.mp dp).2 fun e he => hn e (List.mem_cons_of_mem _ he)
    refine ⟨fun e he => ?_, h2⟩
    rcases h1 e he with ⟨a, b⟩ | ⟨φ, a, b, c⟩ | ⟨a, b⟩
    · exact .inl ⟨List.mem_cons_of_mem _ a, b⟩
    · exact .inr (.inl ⟨φ, a, List.mem_cons_of_mem _ b, c⟩)
    · refine .inr (.inr ⟨a, fun φ z => ?_⟩)
      rcases List.mem_cons.mp z with z | z
      · cases z
      · exact b φ z
  | @nt L ps L' x φ h ih =>
    intro d dp hn
    obtain ⟨h1, h2⟩ := ih d (List.pairwise_cons.mp dp).2 fun e he => hn e (List.mem_cons_of_mem _ he)
    refine ⟨fun e he => ?_, List.pairwise_cons.mpr ⟨fun e he => ?_, h2⟩⟩
    · rcases List.mem_cons.mp he with rfl | he
      · exact .inl ⟨List.mem_cons_self, trivial⟩
      rcases h1 e he with ⟨a, b⟩ | ⟨φ, a, b, c⟩ | ⟨a, b⟩
      · exact .inl ⟨List.mem_cons_of_mem _ a, b⟩
      · exact .inr (.inl ⟨φ, a, List.mem_cons_of_mem _ b, c⟩)
      · refine .inr (.inr ⟨a, fun φ z => ?_⟩)
        rcases List.mem_cons.mp z with z | z
        · cases z
        · exact b φ z
    · rcases h1 e he with ⟨a, b⟩ | ⟨φ, a, b⟩ | ⟨a, b⟩
      · exact (List.pairwise_cons.mp dp).1 e a
      · exact .inr fun q => hn _ List.mem_cons_self trivial _ a q
      · exact .inr (hn _ List.mem_cons_self trivial _ a)
  | @nm L ps L' x φ h ih =>
    intro d dp hn
    obtain ⟨h1, h2⟩ := ih d (List.pairwise_cons.mp dp).2 fun e he => hn e (List.mem_cons_of_mem _ he)
    refine ⟨fun e he => ?_, List.pairwise_cons.mpr ⟨fun e he => ?_, h2⟩⟩
    · rcases List.mem_cons.mp he with rfl | he
      · exact .inl ⟨List.mem_cons_self, trivial⟩
      rcases h1 e he with ⟨a, b⟩ | ⟨φ, a, b, c⟩ | ⟨a, b⟩
      · exact .inl ⟨List.mem_cons_of_mem _ a, b⟩
      · exact .inr (.inl ⟨φ, a, List.mem_cons_of_mem _ b, c⟩)
      · refine .inr (.inr ⟨a, fun φ z => ?_⟩)
        rcases List.mem_cons.mp z with z | z
        · cases z
        · exact b φ z
    · rcases h1 e he with ⟨a, b⟩ | ⟨φ, a, b⟩ | ⟨a, b⟩
      · exact (List.pairwise_cons.mp dp).1 e a
      · exact .inr fun q => hn _ List.mem_cons_self trivial _ a q
      · exact .inr (hn _ List.mem_cons_self trivial _ a)
  | @mu L ps L' L1 x φ u h ih =>
    intro d dp hn
    obtain ⟨u1, u2, u3⟩ := u.mem d
    have ads : ∀ z ∈ L1, ∃ y ∈ L, y.1 = z.1 := fun z hz => by
      rcases u2 z hz with ⟨a, _, _, φ0, b⟩ | ⟨a, _⟩
      · exact ⟨_, b, a.symm⟩
      · exact ⟨_, a, rfl⟩
    obtain ⟨h1, h2⟩ := ih (df_map u3 d) (List.pairwise_cons.mp dp).2 fun e he hN z hz => by
      obtain ⟨y, y1, y2⟩ := ads z hz
      rw [← y2]
      exact hn e (List.mem_cons_of_mem _ he) hN y y1
    refine ⟨fun e he => ?_, h2⟩
    rcases h1 e he with ⟨a, b⟩ | ⟨φ', a, b, c⟩ | ⟨a, b⟩
    · exact .inl ⟨List.mem_cons_of_mem _ a, b⟩
    · rcases u2 _ a with ⟨w1, w2, _, φ0, w3⟩ | ⟨w1, w2⟩
      · simp only at w1 w2 w3
        refine .inr (.inl ⟨φ0, ?_, List.mem_cons_of_mem _ b, c⟩)
        rw [w1]
        exact w3
      · exact .inr (.inl ⟨φ', w1, List.mem_cons_of_mem _ b, c⟩)
    · rcases u2 _ a with ⟨w1, w2, w3, φ0, w4⟩ | ⟨w1, w2⟩
      · refine .inr (.inl ⟨φ0, by rw [w1]; exact w4, ?_, w3⟩)
        rw [w1, w2]
        exact List.mem_cons_self
      · refine .inr (.inr ⟨w1, fun ψ z => ?_⟩)
        rcases List.mem_cons.mp z with z | z
        · cases z
          exact w2 rfl
        · exact b ψ z
def Cl.le (φ ψ : Cl) : Prop := ∀ H o, φ.P H o → ψ.P H o
theorem Cl.le.rfl {φ : Cl} : Cl.le φ φ := fun _ _ h => h
/-- a row is taken out -/
inductive Rm : List En → Addr → Cl → Fl → List En → Prop
  | hd {φ : Cl} {f : Fl} {x : Addr} {L : List En} : Rm ((x, φ, f) :: L) x φ f L
  | tl {e : En} {L L' : List En} {x : Addr} {φ : Cl} {f : Fl} (h : Rm L x φ f L') : Rm (e :: L) x φ f (e :: L')
theorem Rm.ex {L L' : List En} {x : Addr} {φ : Cl} {f : Fl} (h : Rm L x φ f L') : ∃ L0 R0, L = L0 ++ (x, φ, f) :: R0 ∧ L' = L0 ++ R0 := by
  induction h with
  | hd => exact ⟨[], _, rfl, rfl⟩
  | @tl e L L' x φ f h ih =>
    obtain ⟨L0, R0, h1, h2⟩ := ih
    exact ⟨e :: L0, R0, by rw [h1]; rfl, by rw [h2]; rfl⟩
inductive Sub : List En → List En → Prop
  | nil {L : List En} : Sub [] L
  | rfl {L : List En} : Sub L L
  | cons {L L1 ps : List En} {x : Addr} {φ ψ : Cl} {f : Fl} (m : Rm L x φ f L1) (h : Cl.le φ ψ) (r : Sub ps L1) : Sub ((x, ψ, f) :: ps) L
theorem Sub.mem {L ps : List En} (u : Sub ps L) : L.Pairwise Df → (∀ e ∈ ps, ∃ φ, (e.1, φ, e.2.2) ∈ L ∧ Cl.le φ e.2.1) ∧ ps.Pairwise Df := by
  induction u with
  | nil => exact fun _ => ⟨fun e h => (by cases h), .nil⟩
  | rfl => exact fun d => ⟨fun e h => ⟨_, h, Cl.le.rfl⟩, d⟩
  | @cons L L1 ps x φ ψ f m h r ih =>
    intro d
    obtain ⟨L0, R0, rfl, rfl⟩ := m.ex
    have d' := (List.pairwise_append.mp d)
    have dm : ∀ e ∈ L0 ++ R0, Df (x, φ, f) e := fun e he => by
      rcases List.mem_append.mp he with he | he
      · exact (d'.2.2 e he _ List.mem_cons_self).symm
      · exact (List.pairwise_cons.mp d'.2.1).1 e he
    have sub : (L0 ++ R0).Sublist (L0 ++ (x, φ, f) :: R0) := (List.Sublist.refl L0).append (List.sublist_cons_self _ _)
    obtain ⟨h1, h2⟩ := ih (d.sublist sub)
    refine ⟨fun e he => ?_, List.pairwise_cons.mpr ⟨fun e he => ?_, h2⟩⟩
    · rcases List.mem_cons.mp he with rfl | he
      · exact ⟨φ, by simp, h⟩
      · obtain ⟨φ', a, b⟩ := h1 e he
        exact ⟨φ', sub.mem a, b⟩
    · obtain ⟨φ', a, _⟩ := h1 e he
      rcases dm _ a with q | q
      · exact .inl q
      · exact .inr q
theorem Hs.sub {ps : List En} (S : Hs B L H) (u : Sub ps L) : Hs B ps H where
  fr := S.fr
  mm := S.mm
  tb := S.tb
  df := (u.mem S.df).2
  ok := fun e he => by
    obtain ⟨φ, h1, h2⟩ := (u.mem S.df).1 e he
    obtain ⟨k0, o, k1, k2, k3⟩ := S.ok _ h1
    exact ⟨k0, o, k1, h2 _ _ k2, k3⟩
end
end Sx
set_option Elab.async false
set_option linter.all false
set_option maxRecDepth 100000
set_option maxHeartbeats 1000000
namespace Gx
open PySem PySem.Spec PyProof.Rows L2 GenW
structure MakX (P : Program) (w : World) (K : PySem.W.Frag) (mg : Str → Option Value) (base : Heap) (k : Nat) (x : Str) (C : Addr) (sp : Sp) (dvs : List V) : Prop where
  ex : ∃ (f : Addr) (fd : FuncData) (ps : List Str) (ds : List Value), Mk K C f ∧ FnOk P w K mg base (CX P w) k f fd ps sp ∧ mg x = some (.ref C) ∧ Binds K fd ps ds ∧ Vals dvs ds
section
variable {P : Program} {w : World} {K : PySem.W.Frag} {mg : Str → Option Value} {base : Heap}
theorem fnX {x qual : Str} {st : Stmt} {f : Addr} {fd : FuncData} {N ps : List Str} {k : Nat} {sp : Sp} (F : C8.Fun K x qual st f fd) (S : FnScope N ps (C8.fnScope st)) (len : ∀ vs H Q E, sp vs H Q E → vs.length = ps.length)
    (hbody : ∀ (cdv : Value) (A : Around) (outer : List Env) (s : Shared) (H : Hp) (vs : List V) (Q : VK) (E : XK), Room k (A.deeper (envOfC qual (C8.fnScope st) s.heap.objs.size f cdv)) → sp vs H Q E →
      ∃ t, PSs (cxOf (CX P w) P w K mg base N qual (C8.fnScope st) f cdv A outer s H E) (C8.fnBody st) t ∧ t { nx := fun _ H' => Q .non H', rt := Q } (start N vs) H) : FnOk P w K mg base (CX P w) (k + 1) f fd ps sp := by
  obtain ⟨oc, od, dV, kV, doc, pm, an, cdv, ct, osl, rfl, lk, hcd⟩ := F.ex
  exact fn_of lk hcd S len (hbody cdv)
theorem makX {x qual : Str} {C : Addr} {st : Stmt} {f : Addr} {fd : FuncData} {N ps : List Str} {k : Nat} {sp : Sp} (M : Mk K C f) (hm : mg x = some (.ref C)) (F : C8.Fun K "__init__" qual st f fd) (b : Binds K fd ps []) (S : FnScope N ps (C8.fnScope st)) (len : ∀ vs H Q E, sp vs H Q E → vs.length = ps.length)
    (hbody : ∀ (cdv : Value) (A : Around) (outer : List Env) (s : Shared) (H : Hp) (vs : List V) (Q : VK) (E : XK), Room k (A.deeper (envOfC qual (C8.fnScope st) s.heap.objs.size f cdv)) → sp vs H Q E →
      ∃ t, PSs (cxOf (CX P w) P w K mg base N qual (C8.fnScope st) f cdv A outer s H E) (C8.fnBody st) t ∧ t { nx := fun _ H' => Q .non H', rt := Q } (start N vs) H) : MakX P w K mg base (k + 1) x C sp [] :=
  ⟨f, fd, ps, [], M, fnX F S len hbody, hm, b, .nil⟩
end
section
variable {X : Cx} {k j i : Nat} {C : Addr} {x : Str} {sp : Sp} {dvs : List V} {p pos : Pos} {e : Expr} {es : List Expr} {t : TA} {W : WX} {E : XK}
theorem pe_mkx (c : MakX X.prog X.w X.K X.mg X.base k x C sp dvs) (tk : Takes X W) (hW : ∀ cls d σ H, E cls d H → W cls d σ H) (hr : Room j X.A) (hk : k + 1 ≤ j) (hg : Gl X x) (ha : PA X (e :: es) t)
    (hdb : (x == ("__debug__" : Str)) = false := by decide) (he : starEach (e :: es) X.env = (false, eval e X.env) :: starEach es X.env := by rfl) (hpl : (backTo pos (starEach es X.env)).any (·.1) = false := by rfl) :
    PE X (.Call (.Name x p) (e :: es) [] pos) (tMake C sp dvs E t) := by
  obtain ⟨f, fd, ps, ds, M, F, hm, b, d⟩ := c.ex
  exact pe_make M F (hr.mono hk) hg hm b d (passes_call tk hW) ha hdb he hpl
end
structure SMetX (P : Program) (w : World) (K : PySem.W.Frag) (mg : Str → Option Value) (base : Heap) (k : Nat) (C : Addr) (m : Str) (sp : Sp) : Prop where
  ex : ∃ (f : Addr) (fd : FuncData) (ps : List Str), SAt K C m f ∧ FnOk P w K mg base (CX P w) k f fd ps sp ∧ Binds K fd ps []
theorem smetX {P : Program} {w : World} {K : PySem.W.Frag} {mg : Str → Option Value} {base : Heap} {m qual : Str} {C : Addr} {st : Stmt} {f : Addr} {fd : FuncData} {N ps : List Str} {k : Nat} {sp : Sp} (me : SAt K C m f) (F : C8.Fun K m qual st f fd) (b : Binds K fd ps []) (S : FnScope N ps (C8.fnScope st))
    (len : ∀ vs H Q E, sp vs H Q E → vs.length = ps.length)
    (hbody : ∀ (cdv : Value) (A : Around) (outer : List Env) (s : Shared) (H : Hp) (vs : List V) (Q : VK) (E : XK), Room k (A.deeper (envOfC qual (C8.fnScope st) s.heap.objs.size f cdv)) → sp vs H Q E →
      ∃ t, PSs (cxOf (CX P w) P w K mg base N qual (C8.fnScope st) f cdv A outer s H E) (C8.fnBody st) t ∧ t { nx := fun _ H' => Q .non H', rt := Q } (start N vs) H) : SMetX P w K mg base (k + 1) C m sp :=
  ⟨f, fd, ps, me, fnX F S len hbody, b⟩
def tSMethX (C : Addr) (sp : Sp) (E : XK) (ta : TE) (t : TA) : TE := fun σ H Q => ta σ H fun x H1 => x = .ref C ∧ t σ H1 fun vs H2 => sp (vs ++ []) H2 Q E
section
variable {X : Cx} {k j : Nat} {C : Addr} {m : Str} {sp : Sp} {pos apos : Pos} {e o : Expr} {es : List Expr} {ta : TE} {t : TA} {pl : Sem Bool} {W : WX} {E : XK}
theorem pe_smx (c : SMetX X.prog X.w X.K X.mg X.base k C m sp) (tk : Takes X W) (hW : ∀ cls d σ H, E cls d H → W cls d σ H) (hr : Room j X.A) (hk : k ≤ j) (he : PE X o ta) (ha : PA X (e :: es) t)
    (hst : starEach (e :: es) X.env = (false, eval e X.env) :: starEach es X.env := by rfl) (hpl : (backTo pos (starEach es X.env)).any (·.1) = false := by rfl)
    (ht : eval (.Call (.Attribute o m apos) (e :: es) [] pos) X.env = (do
      let ov ← eval o X.env
      standAt apos.atName
      let (f, first) ← holding [ov] (getMethod ov m pl)
      callWith pos f first (backTo pos (starEach (e :: es) X.env)) (backToKw pos (keywordEach [] X.env))) := by rfl) :
    PE X (.Call (.Attribute o m apos) (e :: es) [] pos) (tSMethX C sp E ta t) := by
  obtain ⟨f, fd, ps, ⟨mc, pp, rest, r, a, b1, kp⟩, F, b⟩ := c.ex
  refine ⟨fun pins s σ H Q I h => PySem.W.methodCall_KW (pl := pl) (thn (he.run pins s σ H _ I h) fun u s1 got => ?_) ht⟩
  obtain ⟨x, H1, I1, rx, ex, q⟩ := got
  subst ex
  obtain rfl : u = Value.ref C := rx
  refine PySem.W.method_cls I1.kIn r.ga (PySem.W.cls_bind I1.kIn r.rd a (wpAny_call (PySem.W.sm_get (s := { s1 with toks := s1.toks + 1 }) I1.kIn b1 (PySem.W.handed_on rfl ?_))))
  refine PySem.W.callWith_K (first := []) (h₀ := X.base) I.ok.mod.kin kp (thn (ha.run pos pins _ σ H1 _ (I1.tok (s1.toks + 1)) q) fun us s2 got => ?_) hst hpl
  obtain ⟨vs, H2, I3, rv, q2⟩ := got
  exact ⟨I3.kIn, run_fn F (hr.mono hk) b .nil (passes_call tk hW) I3 rv q2⟩
end
structure OwnT (K : PySem.W.Frag) (C : Addr) (nm T : String) : Prop where
  l1 : ∃ fo, PySem.W.findIn K (.type T) (PySem.dunder nm) = some fo
  l2 : ∃ ro, PySem.W.findIn K (.type T) (dunderR nm) = some ro
  sub : PySem.W.subIn K (.type T) (.ref C) = some false
def rOwnX (K : PySem.W.Frag) (C : Addr) (nm : String) (sp : Sp) (E : XK) : V → V → Hp → VK → Prop := fun x y H Q => ∃ (a dx : Addr) (fs : List (Str × V)) (T : String), x = .ref a ∧ TyX K H y (.type T) ∧ OwnT K C nm T ∧ H a = some (.ins C dx fs) ∧ sp ([x, y] ++ []) H (fun v H' => (∃ b, v = .ref b) ∧ Q v H') E
/-- a text times a number -/
def rMulS : R2 := fun x y H Q => ∃ (z : Str) (n : Int), x = .str z ∧ y = .int n ∧ PySem.MulOk z n ∧ Q (.str (Txt.mul z n)) H
theorem op_mulS {X : Cx} : OpR X (binaryOp .Mult) rMulS := by
  intro pins s σ H x y v u Q I rx ry h
  obtain ⟨z, n, rfl, rfl, ok, q⟩ := h
  obtain ⟨t, rfl⟩ := rx
  obtain ⟨t', rfl⟩ := ry
  exact PySem.SB.mul ok fun a k => ⟨.str _, H, I.tok _, ⟨_, rfl⟩, q⟩
end Gx
set_option Elab.async false
set_option linter.all false
set_option maxRecDepth 100000
set_option maxHeartbeats 1000000
namespace Gx
open PySem PySem.Spec PyProof.Rows L2 L2H
end Gx
set_option Elab.async false
set_option linter.all false
set_option maxRecDepth 100000
set_option maxHeartbeats 4000000
set_option exponentiation.threshold 2000
namespace Gx
open PySem PySem.Spec PyProof.Rows L2
end Gx
set_option Elab.async false
set_option linter.all false
set_option maxRecDepth 100000
set_option maxHeartbeats 1000000
namespace Sx
open PySem PySem.Spec PyProof.Rows L2
/-- a promise is being read -/
def Do (p : Prop) : Prop := p
section
variable {B : Bs} {L L' L1 : List En} {D : Ends} {σ : L2.St} {Q : VK} {QB : Bool → Hp → Prop} {QA : List V → Hp → Prop} {t1 t2 : TS} {te ta tb tc : TE} {tr : TA} {t u : TT} {i j : Nat} {v x y : V} {m n : Int} {r r2 : R2} {K : PySem.W.Frag} {G G1 G2 : Hp → Prop} {b : Bool} {p : Prop} {C a dx : Addr} {fs : List (Str × V)} {f : Str} {fl : Fl} {sp : Sp} {E : XK} {g : TG} {xs : List V}
theorem seq (h : W B L fun H => t1 { D with nx := t2 D } σ H) : W B L fun H => tSeq t1 t2 D σ H := h
theorem next (h : W B L fun H => D.nx σ H) : W B L fun H => tNext D σ H := h
theorem nm {Qs : L2.St → Hp → Prop} (h : W B L fun H => Qs (σ.set i (some v)) H) : W B L fun H => gName i v σ H Qs := h
theorem ret (h : W B L fun H => te σ H D.rt) : W B L fun H => tRet te D σ H := h
theorem brk (h : W B L fun H => D.bk σ H) : W B L fun H => tBreak D σ H := h
theorem drop (h : W B L fun H => te σ H fun _ H1 => D.nx σ H1) : W B L fun H => tDrop te D σ H := h
theorem un {g : V → Hp → VK → Prop} (h : W B L fun H => ta σ H fun x H1 => g x H1 Q) : W B L fun H => tUn g ta σ H Q := h
/-- is None, is not None -/
theorem isN {G : V → Hp → Prop} (h : W B L fun H => G (.bl (decide (v = .non))) H) : W B L fun H => V.non = .non ∧ G (.bl (decide (v = .non))) H := fun H S => ⟨rfl, h H S⟩
theorem nil (h : W B L fun H => QA [] H) : W B L fun H => tNil σ H QA := h
theorem cons (h : W B L fun H => ta σ H fun x H1 => tr σ H1 fun xs H2 => QA (x :: xs) H2) : W B L fun H => tCons ta tr σ H QA := h
theorem bm {T : String} {r : V → List V → Hp → VK → Prop} (h : W B L fun H => ta σ H fun x H1 => tyV K T x H1 ∧ tr σ H1 fun xs H2 => r x xs H2 Q) : W B L fun H => tBM K T r ta tr σ H Q := h
theorem call {dvs : List V} (h : W B L fun H => tr σ H fun vs H1 => Do (sp (vs ++ dvs) H1 Q E)) : W B L fun H => tCall sp dvs E tr σ H Q := h
theorem make {dvs : List V} (h : W B L fun H => tr σ H fun vs H1 => ∀ x dx, H1 x = none → H1 dx = none → dx ≠ x →
  Do (sp (.ref x :: (vs ++ dvs)) (upd (upd H1 dx (.own x)) x (.ins C dx [])) (fun v H2 => v = .non ∧ Q (.ref x) H2) E)) : W B L fun H => tMake C sp dvs E tr σ H Q := h
theorem tup (h : W B L fun H => tr σ H fun xs H1 => xs.length ≤ sizeLine ∧ Au.NewO H1 (.tup xs) Q) : W B L fun H => tTup tr σ H Q := h
theorem lst (h : W B L fun H => tr σ H fun xs H1 => xs.length ≤ sizeLine ∧ Au.NewO H1 (.lst xs) Q) : W B L fun H => tLst tr σ H Q := h
theorem rep {xs : List V} {k : Int} {fl : Fl} (m : (a, Is (.lst xs), fl) ∈ L) (hk : 0 ≤ k ∧ k < 100) (hl : xs.length ≤ 10) (q : ∀ t, W B ((t, Is (.lst (List.replicate k.toNat xs).flatten), .nm) :: L) fun H => Q (.ref t) H) : W B L fun H => rRep (.ref a) (.int k) H Q :=
  fun H S => Au.rep (S.at m) hk hl fun p H' n e k => q p H' (S.nw n e k (.inr ⟨rfl, trivial⟩) fun ps z => by cases z)
def In (B : Bs) (P : L2.St → List En → Prop) : L2.St → Hp → Prop := fun σ H => ∃ L, P σ L ∧ Hs B L H
theorem sub (s : Sub L' L) (h : W B L' G) : W B L G := fun H S => h H (S.sub s)
theorem Hs.old {B : Bs} {L : List En} {H : Hp} {a : Addr} {o : HO} (S : Hs B L H) (h : H a = some o) (nb : ∀ ps, o ≠ .tbl ps) (d : ∀ e ∈ L, e.2.2.mut = true → ∀ o', H e.1 = some o' → e.2.1.P H o' → e.1 ≠ a) : Hs B ((a, Is o, .ro) :: L) H :=
  ⟨S.fr, S.mm, S.tb, List.pairwise_cons.mpr ⟨fun e he => by
    cases hm : e.2.2.mut with
    | false => exact .inl ⟨rfl, hm⟩
    | true =>
      obtain ⟨_, o', k1, k2, _⟩ := S.ok e he
      exact .inr (Ne.symm (d e he hm o' k1 k2)), S.df⟩, fun e he => by
    rcases List.mem_cons.mp he with rfl | he
    · exact ⟨trivial, o, h, rfl, fun z => (by cases z), nb⟩
    · exact S.ok e he⟩
theorem frz {g : TG} {tb : TS} (h : W B L fun H => tr σ H fun vs H1 => ∃ a b xs ys, vs = [.ref a, .ref b] ∧ SqL K H1 a xs ∧ SqL K H1 b ys ∧ ∃ W : Nat → Nat → L2.St → Hp → Prop, (∃ m, W 0 m σ H1) ∧ ∀ i m σ H, W i m σ H →
    ((Itz K a b).stop i H ∧ D.nx σ H) ∨ ((Itz K a b).go i H ∧ ∃ N : L2.St → Hp → Prop, (∀ σ' H', N σ' H' → ∃ m', m' < m ∧ W (i + 1) m' σ' H') ∧ ∀ x H', (Itz K a b).yld i H x H' → g x σ H' fun σ2 H2 => tb { D with nx := N, ct := N, bk := D.nx } σ2 H2)) :
    W B L fun H => tFor (iZip K tr) g tb D σ H := h
theorem cut {t u : TS} (Mid : L2.St → List En → Prop) (h1 : W B L fun H => t { D with nx := In B Mid } σ H) (h2 : ∀ σ' L', Mid σ' L' → W B L' fun H => u D σ' H) : W B L fun H => C8.tCut t u D σ H := fun H S =>
  Rd.cut (In B Mid) (h1 H S) fun σ' H' z => by
    obtain ⟨L', p, S'⟩ := z
    exact h2 σ' L' p H' S'
theorem lg {tg : TGen} (h : W B L fun H => tg σ H fun out H2 => Au.NewO H2 (.lst out) Q) : W B L fun H => tListG tg σ H Q := h
theorem mg {spg : SpG} {cont : List V → Hp → Prop} (h : W B L fun H => ta σ H fun x H1 => ∃ a dx fs, x = .ref a ∧ H1 a = some (.ins C dx fs) ∧ fs.lookup f = none ∧ tr σ H1 fun vs H2 => Do (spg (x :: (vs ++ [])) H2 cont E)) : W B L fun H => tMethG C f spg [] E ta tr σ H cont := h
end
end Sx
set_option Elab.async false
set_option linter.all false
set_option maxRecDepth 100000
set_option maxHeartbeats 1000000
namespace Sx
open PySem PySem.Spec PyProof.Rows L2
/-- a draw with at most n turns so far -/
def DrC (n : Nat) : Cl := ⟨fun _ o => ∃ left cell turns : Int, o = .dK [(Sum.inr "left", .int left), (Sum.inr "cell", .int cell), (Sum.inr "turns", .int turns)] ∧ 0 ≤ left ∧ 0 ≤ turns ∧ turns ≤ n, fun _ h => h⟩
theorem DrC.le {n m : Nat} (h : n ≤ m) : Cl.le (DrC n) (DrC m) := fun H o z => by
  obtain ⟨l, c, t, h1, h2, h3, h4⟩ := z
  exact ⟨l, c, t, h1, h2, h3, by omega⟩
section
variable {H0 H : Hp} {T : List (Addr × Str)} {L : List En} {K : PySem.W.Frag} {a : Addr} {xs : List V} {Q : VK}
/-- the first cells and the sum -/
theorem cells {ns : List Int} {k : Int} (hl : ns.length ≤ 63) : ∃ M : List Int, cutV (ns.map V.int) none (some k) ++ [V.int ns.sum] = M.map V.int ∧ M.length ≤ 64 := by
  refine ⟨((ns.drop (HT.sIx (ns.map V.int).length 0 none)).take (HT.sIx (ns.map V.int).length (ns.map V.int).length (some k) - HT.sIx (ns.map V.int).length 0 none)) ++ [ns.sum], ?_, ?_⟩
  · unfold cutV
    rw [List.map_append, List.map_take, List.map_drop]
    rfl
  · have h1 : ((ns.drop (HT.sIx (ns.map V.int).length 0 none)).take (HT.sIx (ns.map V.int).length (ns.map V.int).length (some k) - HT.sIx (ns.map V.int).length 0 none)).length ≤ ns.length := by
      rw [List.length_take, List.length_drop]; omega
    rw [List.length_append]
    simp only [List.length_cons, List.length_nil]
    omega
end
end Sx
set_option Elab.async false
set_option linter.all false
set_option maxRecDepth 100000
set_option maxHeartbeats 1000000
namespace Un
open PySem PySem.Spec PyProof.Rows L2
section
variable {prog : Program} {w : World} {A : Around} {E : Value → Shared → Prop}
theorem draw_list {it t : Addr} {items : Array Value} (hne : t ≠ it) : ∀ (n i : Nat) (s : Shared) (Q : List Value → Shared → Prop), s.heap.IsListIter it t i → s.heap.IsList t items → i + n ≤ items.size →
    (∀ h', h'.IsListIter it t (i + n) → Heap.SameBut it s.heap h' → Q ((items.toList.drop i).take n) { s with heap := h' }) → wpAny (model prog w) A (draw (.ref it) n) Q E s
  | 0, i, s, Q, hit, _, _, hQ => by
    show wpAny _ _ (pure []) Q E s
    exact wpAny_pure (by simpa using hQ s.heap hit (Heap.SameBut.refl ..))
  | n + 1, i, s, Q, hit, ht, hle, hQ => by
    have hlt : i < items.size := by omega
    show wpAny _ _ (pyNext (.ref it) >>= _) Q E s
    refine wpAny_bind (wpAny_pyNext_list_item hit ht (x := items[i]) (by simp [hlt]) fun h₁ hit₁ hs₁ => ?_)
    refine wpAny_bind (wpAny_holding (draw_list hne n (i + 1) _ _ hit₁ (ht.extBut hs₁.extBut hne) (by omega) fun h₂ hit₂ hs₂ => wpAny_pure ?_))
    have hd : items.toList.drop i = items[i] :: items.toList.drop (i + 1) := by simp [List.drop_eq_getElem_cons, hlt]
    have := hQ h₂ (by rw [show i + (n + 1) = i + 1 + n by omega]; exact hit₂) (hs₁.trans hs₂)
    rw [hd, List.take_succ_cons] at this
    exact this
theorem unpackItems_list {s : Shared} {t : Addr} {items : Array Value} {Q : List Value → Shared → Prop} (hh : A.handled = none) (ht : s.heap.IsList t items)
    (hQ : ∀ h', Heap.ExtBut s.heap.objs.size s.heap h' → Q items.toList { s with heap := h' }) : wpAny (model prog w) A (unpackItems (.ref t) items.size none) Q E s := by
  have hlt : t ≠ s.heap.objs.size := by obtain ⟨o, ho, _⟩ := ht; exact Nat.ne_of_lt (Heap.lt_size ho)
  unfold unpackItems
  refine wpAny_bind ?_
  · unfold notIterableAtAll
    refine wpAny_bind (wpAny_specialOf ht.typeIs slot_list_iter.lookup ?_)
    refine wpAny_pure ?_
    simp only [Bool.false_eq_true, if_false]
    refine wpAny_bind (wpAny_holding (wpAny_pyIter_list ht ?_))
    refine wpAny_bind (wpAny_holding (draw_list hlt items.size 0 _ _ ⟨_, Heap.get?_push_size _ rfl, rfl, rfl⟩ (ht.push _) (by omega) fun h₁ hit₁ hs₁ => ?_))
    have hall : List.take items.size (List.drop 0 items.toList) = items.toList := by
      rw [List.drop_zero]; exact List.take_of_length_le (by simp)
    rw [hall]
    rw [if_neg (by simp)]
    have ht₁ : h₁.IsList t items := (ht.push _).extBut hs₁.extBut hlt
    refine wpAny_bind (wpAny_holding (wpAny_pyNext_list_end hh hit₁ ht₁ (by simp) fun h₂ he₂ => ?_))
    simp only [Option.isSome_none, Bool.false_eq_true, if_false]
    refine wpAny_pure (hQ h₂ fun b o hb e => he₂ b o hb (hs₁.extBut b o hb (Heap.get?_push_of_some _ e)))
theorem assign_Tuple_list {s : Shared} {env : Env} {elts : List Expr} {x1} {pos : Pos} {t : Addr} {items : Array Value} {Q : Unit → Shared → Prop} (hh : A.handled = none) (ht : s.heap.IsList t items)
    (hn : (assignEach elts env).length = items.size) (hstar : (assignEach elts env).findIdx? (·.1) = none)
    (h : ∀ h', Heap.ExtBut s.heap.objs.size s.heap h' → wpAny (model prog w) A (assignInOrder ((assignEach elts env).map (·.2)) items.toList) Q E { s with heap := h' }) :
    wpAny (model prog w) A (assign (.Tuple elts x1 pos) env (.ref t)) Q E s := by
  rw [assign_Tuple]
  refine wpAny_bind (wpAny_standAt ?_)
  unfold unpack
  rw [hn, hstar]
  exact wpAny_bind (wpAny_holding (unpackItems_list hh ht h))
end
def gTupL (K : PySem.W.Frag) (n : Nat) (t : TGs) : TG := fun v σ H Q => ∃ a xs, v = .ref a ∧ SqL K H a xs ∧ xs.length = n ∧ t xs σ H Q
theorem pg_tupL {X : Cx} {pos : Pos} {es : List Expr} {k : Nat} {t : TGs} {n : Nat} (hc : X.calm = true) (h : PGs X es t)
    (hn : (assignEach es X.env).length = n := by rfl) (hst : (assignEach es X.env).findIdx? (·.1) = none := by rfl) : PG X (.Tuple es k pos) (gTupL X.K n t) := by
  refine ⟨fun pins s σ H v u Q I r hw => ?_⟩
  obtain ⟨a, xs, e1, hq, hl, hw⟩ := hw
  subst e1
  cases r
  obtain ⟨its, rv, ⟨o, n', ho, hcl, _, hd⟩, hz⟩ := I.list hq
  refine assign_Tuple_list (I.ok.hd hc) ⟨o, ho, hcl, n', hd⟩ (by simp [hn, ← hl, rv.length]) hst fun h' hx => ?_
  have I1 : Inv X pins σ H { s with heap := h' } := I.kept (t' := s.toks) fun b o e => hx b o (Nat.ne_of_lt (Heap.lt_size e)) e
  exact h.run pins _ σ H xs _ Q I1 (by simpa using rv) hw
end Un
set_option Elab.async false
set_option linter.all false
set_option maxRecDepth 100000
set_option maxHeartbeats 1000000
namespace Sx
open PySem PySem.Spec PyProof.Rows L2
theorem kb_NoneType_int {K : PySem.W.Frag} : PySem.W.kitOne K (.type "NoneType") (.type "int") = some false := by first | rfl | decide +kernel | kernel_rfl
theorem kb_NoneType_bool {K : PySem.W.Frag} : PySem.W.kitOne K (.type "NoneType") (.type "bool") = some false := by first | rfl | decide +kernel | kernel_rfl
theorem kb_NoneType_tuple {K : PySem.W.Frag} : PySem.W.kitOne K (.type "NoneType") (.type "tuple") = some false := by first | rfl | decide +kernel | kernel_rfl
theorem kb_bool_int {K : PySem.W.Frag} : PySem.W.kitOne K (.type "bool") (.type "int") = some true := by first | rfl | decide +kernel | kernel_rfl
theorem kb_bool_bool {K : PySem.W.Frag} : PySem.W.kitOne K (.type "bool") (.type "bool") = some true := by first | rfl | decide +kernel | kernel_rfl
theorem kb_bool_tuple {K : PySem.W.Frag} : PySem.W.kitOne K (.type "bool") (.type "tuple") = some false := by first | rfl | decide +kernel | kernel_rfl
theorem kb_int_int {K : PySem.W.Frag} : PySem.W.kitOne K (.type "int") (.type "int") = some true := by first | rfl | decide +kernel | kernel_rfl
theorem kb_int_bool {K : PySem.W.Frag} : PySem.W.kitOne K (.type "int") (.type "bool") = some false := by first | rfl | decide +kernel | kernel_rfl
theorem kb_int_tuple {K : PySem.W.Frag} : PySem.W.kitOne K (.type "int") (.type "tuple") = some false := by first | rfl | decide +kernel | kernel_rfl
theorem kb_str_int {K : PySem.W.Frag} : PySem.W.kitOne K (.type "str") (.type "int") = some false := by first | rfl | decide +kernel | kernel_rfl
theorem kb_str_bool {K : PySem.W.Frag} : PySem.W.kitOne K (.type "str") (.type "bool") = some false := by first | rfl | decide +kernel | kernel_rfl
theorem kb_str_tuple {K : PySem.W.Frag} : PySem.W.kitOne K (.type "str") (.type "tuple") = some false := by first | rfl | decide +kernel | kernel_rfl
theorem kb_tuple_int {K : PySem.W.Frag} : PySem.W.kitOne K (.type "tuple") (.type "int") = some false := by first | rfl | decide +kernel | kernel_rfl
theorem kb_tuple_bool {K : PySem.W.Frag} : PySem.W.kitOne K (.type "tuple") (.type "bool") = some false := by first | rfl | decide +kernel | kernel_rfl
theorem kb_tuple_tuple {K : PySem.W.Frag} : PySem.W.kitOne K (.type "tuple") (.type "tuple") = some true := by first | rfl | decide +kernel | kernel_rfl
theorem kb_list_int {K : PySem.W.Frag} : PySem.W.kitOne K (.type "list") (.type "int") = some false := by first | rfl | decide +kernel | kernel_rfl
theorem kb_list_bool {K : PySem.W.Frag} : PySem.W.kitOne K (.type "list") (.type "bool") = some false := by first | rfl | decide +kernel | kernel_rfl
theorem kb_list_tuple {K : PySem.W.Frag} : PySem.W.kitOne K (.type "list") (.type "tuple") = some false := by first | rfl | decide +kernel | kernel_rfl
theorem kb_dict_int {K : PySem.W.Frag} : PySem.W.kitOne K (.type "dict") (.type "int") = some false := by first | rfl | decide +kernel | kernel_rfl
theorem kb_dict_bool {K : PySem.W.Frag} : PySem.W.kitOne K (.type "dict") (.type "bool") = some false := by first | rfl | decide +kernel | kernel_rfl
theorem kb_dict_tuple {K : PySem.W.Frag} : PySem.W.kitOne K (.type "dict") (.type "tuple") = some false := by first | rfl | decide +kernel | kernel_rfl
end Sx
set_option Elab.async false
set_option linter.all false
set_option maxRecDepth 100000
set_option maxHeartbeats 1000000
namespace Sm
open PySem PySem.Spec PyProof.Rows L2
inductive Sm (K : PySem.W.Frag) (H : Hp) : Nat → V → V → Prop
  | int {n : Nat} (i : Int) : Sm K H n (.int i) (.int i)
  | str {n : Nat} (z : Str) : Sm K H n (.str z) (.str z)
  | bl {n : Nat} (b : Bool) : Sm K H n (.bl b) (.bl b)
  | non {n : Nat} : Sm K H n .non .non
  | ref {n : Nat} (a : Addr) : Sm K H n (.ref a) (.ref a)
  | tup {n : Nat} {a b : Addr} {xs ys : List V} (h : SqT K H a xs) (h' : SqT K H b ys) (hl : xs.length = ys.length) (hi : ∀ (i : Nat) (x y : V), xs[i]? = some x → ys[i]? = some y → Sm K H n x y) : Sm K H (n + 1) (.ref a) (.ref b)
  | lst {n : Nat} {a b : Addr} {xs ys : List V} (h : SqL K H a xs) (h' : SqL K H b ys) (hl : xs.length = ys.length) (hi : ∀ (i : Nat) (x y : V), xs[i]? = some x → ys[i]? = some y → Sm K H n x y) : Sm K H (n + 1) (.ref a) (.ref b)
section
variable {X : Cx} {pins : List (Addr × Obj)} {σ : L2.St} {H : Hp} {s : Shared}
theorem at_of {xs : List V} {its : List Value} (r : Vals xs its) {i : Nat} (h : i < its.length) : ∃ x, xs[i]? = some x ∧ RelV x its[i] := by
  induction r generalizing i with
  | nil => exact absurd h (by simp)
  | cons h1 h2 ih =>
    cases i with
    | zero => exact ⟨_, rfl, h1⟩
    | succ i => exact ih (by simpa using h)
theorem allT (n : Nat) : ((List.range n).all fun _ => true) = true := by simp
theorem eqAt (I : Inv X pins σ H s) : ∀ (n : Nat) (x y : V) (v u : Value) (A : Around), Sm X.K H n x y → RelV x v → RelV y u → A.units + n < cLine → SeqAt.EqAt A s v u true := by
  intro n
  induction n with
  | zero =>
    intro x y v u A h rv ru hu
    cases h with
    | int i => obtain ⟨t, rfl⟩ := rv; obtain ⟨t', rfl⟩ := ru; have := SeqAt.EqAt.int_int (A := A) (s := s) i t i t'; rwa [beq_self_eq_true] at this
    | str z => obtain ⟨t, rfl⟩ := rv; obtain ⟨t', rfl⟩ := ru; have := SeqAt.EqAt.str_str (A := A) (s := s) z t z t'; rwa [beq_self_eq_true] at this
    | bl b => cases rv; cases ru; exact .same _
    | non => cases rv; cases ru; exact .same _
    | ref a => cases rv; cases ru; exact .same _
  | succ n ih =>
    intro x y v u A h rv ru hu
    cases h with
    | int i => obtain ⟨t, rfl⟩ := rv; obtain ⟨t', rfl⟩ := ru; have := SeqAt.EqAt.int_int (A := A) (s := s) i t i t'; rwa [beq_self_eq_true] at this
    | str z => obtain ⟨t, rfl⟩ := rv; obtain ⟨t', rfl⟩ := ru; have := SeqAt.EqAt.str_str (A := A) (s := s) z t z t'; rwa [beq_self_eq_true] at this
    | bl b => cases rv; cases ru; exact .same _
    | non => cases rv; cases ru; exact .same _
    | ref a => cases rv; cases ru; exact .same _
    | @tup _ a b xs ys h h' hl hi =>
      cases rv
      cases ru
      by_cases e : a = b
      · subst e; exact .same _
      · obtain ⟨its, r1, p1, _⟩ := I.tuple h
        obtain ⟨its2, r2, p2, _⟩ := I.tuple h'
        have e1 := r1.length
        have e2 := r2.length
        refine .of_refs e ?_
        have := SeqAt.RcAt.tuples (A := A) (e := fun _ => true) p1 p2 (by omega) fun j h1 h2 => ?_
        · rwa [allT, show (its.toArray.size == its2.toArray.size) = true by simp [← e1, ← e2, hl], Bool.and_true] at this
        · rw [List.size_toArray] at h1 h2
          obtain ⟨x, hx, rx⟩ := at_of r1 h1
          obtain ⟨y, hy, ry⟩ := at_of r2 h2
          simp only [List.getElem_toArray]
          exact ih x y _ _ A.in1 (hi j x y hx hy) rx ry (by show A.units + 1 + n < _; omega)
    | @lst _ a b xs ys h h' hl hi =>
      cases rv
      cases ru
      by_cases e : a = b
      · subst e; exact .same _
      · obtain ⟨its, r1, ⟨o, m, ho, hc, _, hd⟩, _⟩ := I.list h
        obtain ⟨its2, r2, ⟨o2, m2, ho2, hc2, _, hd2⟩, _⟩ := I.list h'
        have e1 := r1.length
        have e2 := r2.length
        refine .of_refs e ?_
        have := SeqAt.RcAt.lists (A := A) (e := fun _ => true) (items := its.toArray) (items2 := its2.toArray) ⟨o, ho, hc, m, hd⟩ ⟨o2, ho2, hc2, m2, hd2⟩ (by simp [← e1, ← e2, hl]) (by omega) fun j h1 h2 => ?_
        · rwa [allT] at this
        · rw [List.size_toArray] at h1 h2
          obtain ⟨x, hx, rx⟩ := at_of r1 h1
          obtain ⟨y, hy, ry⟩ := at_of r2 h2
          simp only [List.getElem_toArray]
          exact ih x y _ _ A.in1 (hi j x y hx hy) rx ry (by show A.units + 1 + n < _; omega)
/-- what may stand at the top -/
theorem Sm.up {K : PySem.W.Frag} {H : Hp} : ∀ {n : Nat} {x y : V}, Sm K H n x y → Sm K H (n + 1) x y := fun {n x y} h => by
  induction h with
  | int i => exact .int i
  | str z => exact .str z
  | bl b => exact .bl b
  | non => exact .non
  | ref a => exact .ref a
  | tup h h' hl hi ih => exact .tup h h' hl ih
  | lst h h' hl hi ih => exact .lst h h' hl ih
inductive Top (K : PySem.W.Frag) (H : Hp) : V → V → Prop
  | tup {a b : Addr} {xs ys : List V} (h : SqT K H a xs) (h' : SqT K H b ys) (hl : xs.length = ys.length) (hi : ∀ (i : Nat) (x y : V), xs[i]? = some x → ys[i]? = some y → Sm K H 20 x y) : Top K H (.ref a) (.ref b)
  | lst {a b : Addr} {xs ys : List V} (h : SqL K H a xs) (h' : SqL K H b ys) (hl : xs.length = ys.length) (hi : ∀ (i : Nat) (x y : V), xs[i]? = some x → ys[i]? = some y → Sm K H 20 x y) : Top K H (.ref a) (.ref b)
def rEqS (K : PySem.W.Frag) : R2 := fun x y H Q => rEqD K x y H Q ∨ (Top K H x y ∧ Q (.bl true) H)
def rNeS (K : PySem.W.Frag) : R2 := fun x y H Q => rNeD K x y H Q ∨ (Top K H x y ∧ Q (.bl false) H)
theorem op_eqS (hu : X.A.units + 64 < cLine) : OpR X (compareOp .Eq) (rEqS X.K) := by
  intro pins s σ H x y v u Q I rx ry h
  rcases h with h | ⟨t, q⟩
  · exact op_eqD hu pins s σ H x y v u Q I rx ry h
  · cases t with
    | tup h h' hl hi =>
      cases rx
      cases ry
      obtain ⟨its, r1, p1, _⟩ := I.tuple h
      obtain ⟨its2, r2, p2, _⟩ := I.tuple h'
      have e1 := r1.length
      have e2 := r2.length
      have := SeqAt.RcAt.tuples (A := X.A) (e := fun _ => true) p1 p2 (by omega) fun j h1 h2 => by
        rw [List.size_toArray] at h1 h2
        obtain ⟨x, hx, rx⟩ := at_of r1 h1
        obtain ⟨y, hy, ry⟩ := at_of r2 h2
        simp only [List.getElem_toArray]
        exact eqAt I 20 x y _ _ X.A.in1 (hi j x y hx hy) rx ry (by show X.A.units + 1 + 20 < _; omega)
      rw [allT, show (its.toArray.size == its2.toArray.size) = true by simp [← e1, ← e2, hl], Bool.and_true] at this
      exact this _ _ _ _ ⟨.bl _, H, I, rfl, q⟩
    | lst h h' hl hi =>
      cases rx
      cases ry
      obtain ⟨its, r1, ⟨o, m, ho, hc, _, hd⟩, _⟩ := I.list h
      obtain ⟨its2, r2, ⟨o2, m2, ho2, hc2, _, hd2⟩, _⟩ := I.list h'
      have e1 := r1.length
      have e2 := r2.length
      have := SeqAt.RcAt.lists (A := X.A) (e := fun _ => true) (items := its.toArray) (items2 := its2.toArray) ⟨o, ho, hc, m, hd⟩ ⟨o2, ho2, hc2, m2, hd2⟩ (by simp [← e1, ← e2, hl]) (by omega) fun j h1 h2 => by
        rw [List.size_toArray] at h1 h2
        obtain ⟨x, hx, rx⟩ := at_of r1 h1
        obtain ⟨y, hy, ry⟩ := at_of r2 h2
        simp only [List.getElem_toArray]
        exact eqAt I 20 x y _ _ X.A.in1 (hi j x y hx hy) rx ry (by show X.A.units + 1 + 20 < _; omega)
      rw [allT] at this
      exact this _ _ _ _ ⟨.bl _, H, I, rfl, q⟩
theorem op_neS (hu : X.A.units + 64 < cLine) : OpR X (compareOp .NotEq) (rNeS X.K) := by
  intro pins s σ H x y v u Q I rx ry h
  rcases h with h | ⟨t, q⟩
  · exact op_neD hu pins s σ H x y v u Q I rx ry h
  · cases t with
    | tup h h' hl hi =>
      cases rx
      cases ry
      obtain ⟨its, r1, p1, _⟩ := I.tuple h
      obtain ⟨its2, r2, p2, _⟩ := I.tuple h'
      have e1 := r1.length
      have e2 := r2.length
      have := SeqAt.RcNeAt.tuples (A := X.A) (e := fun _ => true) p1 p2 (by omega) fun j h1 h2 => by
        rw [List.size_toArray] at h1 h2
        obtain ⟨x, hx, rx⟩ := at_of r1 h1
        obtain ⟨y, hy, ry⟩ := at_of r2 h2
        simp only [List.getElem_toArray]
        exact eqAt I 20 x y _ _ X.A.in1 (hi j x y hx hy) rx ry (by show X.A.units + 1 + 20 < _; omega)
      rw [allT, show (its.toArray.size == its2.toArray.size) = true by simp [← e1, ← e2, hl], Bool.and_true] at this
      exact this _ _ _ _ ⟨.bl _, H, I, rfl, q⟩
    | lst h h' hl hi =>
      cases rx
      cases ry
      obtain ⟨its, r1, ⟨o, m, ho, hc, _, hd⟩, _⟩ := I.list h
      obtain ⟨its2, r2, ⟨o2, m2, ho2, hc2, _, hd2⟩, _⟩ := I.list h'
      have e1 := r1.length
      have e2 := r2.length
      have := SeqAt.RcNeAt.lists (A := X.A) (e := fun _ => true) (items := its.toArray) (items2 := its2.toArray) ⟨o, ho, hc, m, hd⟩ ⟨o2, ho2, hc2, m2, hd2⟩ (by simp [← e1, ← e2, hl]) (by omega) fun j h1 h2 => by
        rw [List.size_toArray] at h1 h2
        obtain ⟨x, hx, rx⟩ := at_of r1 h1
        obtain ⟨y, hy, ry⟩ := at_of r2 h2
        simp only [List.getElem_toArray]
        exact eqAt I 20 x y _ _ X.A.in1 (hi j x y hx hy) rx ry (by show X.A.units + 1 + 20 < _; omega)
      rw [allT] at this
      exact this _ _ _ _ ⟨.bl _, H, I, rfl, q⟩
end
end Sm
set_option Elab.async false
set_option linter.all false
set_option maxRecDepth 100000
set_option maxHeartbeats 2000000
namespace Cd
open PySem PySem.Spec PyProof.Rows L2
/-- an object that is a dict with these entries -/
def DicO (P : Program) (w : World) (o : Obj) (kvs : List (Key × V)) : Prop :=
  o.ExactDict ∧ ∃ es ep vs, o.data = .dict es ep ∧ KeysOf (mixKind P w) es ∧ Pairs (mixKind P w) es.toList vs ∧ KV kvs vs ∧ (vs.map (·.1)).Nodup
theorem DicO.at {P : Program} {w : World} {o : Obj} {kvs : List (Key × V)} {h : Heap} {a : Addr} (D : DicO P w o kvs) (e : h.get? a = some o) : ∃ vs, KV kvs vs ∧ h.DictOf (mixKind P w) a vs := by
  obtain ⟨h1, es, ep, vs, h2, h3, h4, h5, h6⟩ := D
  exact ⟨vs, h5, o, es, ep, e, h1, h2, h3, h4, h6⟩
/-- entries of texts -/
inductive Ents (w : World) : List DictEntry → List (Key × V) → Prop
  | nil : Ents w [] []
  | cons {x : Str} {t : Tok} {v : V} {u : Value} {hh : Int} {es : List DictEntry} {kvs : List (Key × V)} (e : hh = hashStr w x) (r : RelV v u) (h : Ents w es kvs) : Ents w (⟨hh, .str x t, u⟩ :: es) ((Sum.inr x, v) :: kvs)
theorem Ents.out {P : Program} {w : World} {es : List DictEntry} {kvs : List (Key × V)} (E : Ents w es kvs) : ∃ vs : List (Key × Value), (∀ e ∈ es, ∃ k, (mixKind P w).is k e.key = true ∧ e.hash = (mixKind P w).hash k) ∧ Pairs (mixKind P w) es vs ∧ KV kvs vs ∧ vs.map (·.1) = kvs.map (·.1) := by
  induction E with
  | nil => exact ⟨[], fun e h => (by cases h), .nil, .nil, rfl⟩
  | @cons x t v u hh es kvs e r h ih =>
    obtain ⟨vs, a, b, c, d⟩ := ih
    have k1 : keyIs (Sum.inr x) (Value.str x t) = true := kV_is (P := P) (w := w) (k := Sum.inr x) ⟨t, rfl⟩
    refine ⟨(Sum.inr x, u) :: vs, fun e' h' => ?_, .cons k1 rfl b, .cons ⟨rfl, r⟩ c, by rw [List.map_cons, List.map_cons, d]⟩
    rcases List.mem_cons.mp h' with rfl | h'
    · exact ⟨Sum.inr x, k1, e⟩
    · exact a e' h'
theorem DicO.mk {P : Program} {w : World} {es : Array DictEntry} {ep : Nat} {kvs : List (Key × V)} (E : Ents w es.toList kvs) (nd : (kvs.map (·.1)).Nodup) : DicO P w ⟨.type "dict", none, .dict es ep, #[]⟩ kvs := by
  obtain ⟨vs, a, b, c, d⟩ := E.out (P := P)
  exact ⟨⟨rfl, rfl, rfl⟩, es, ep, vs, rfl, fun e h => a e (Array.mem_toList_iff.mpr h), b, c, by rw [d]; exact nd⟩
end Cd
set_option Elab.async false
set_option linter.all false
set_option maxRecDepth 100000
set_option maxHeartbeats 2000000
namespace Mt
open PySem PySem.Spec PyProof.Rows L2
section
variable {X : Cx}
/-- the case of all -/
def tAny (tb : TS) : V → TS := fun _ => tb
end
theorem any {tb : TS} {D : Ends} {σ : L2.St} {H : Hp} {v : V} (h : tb D σ H) : tAny tb v D σ H := h
end Mt
set_option Elab.async false
set_option linter.all false
set_option maxRecDepth 100000
set_option maxHeartbeats 2000000
namespace LamD
open PySem PySem.Spec PyProof.Rows L2 PySem.W
section
variable {X : Cx} {pins : List (Addr × Obj)} {σ : L2.St} {H : Hp} {s : Shared}
abbrev QL (X : Cx) : Str := X.env.qual ++ "<lambda>"
abbrev CL (X : Cx) (scope : Scope) : List (Str × Addr) := cloFrom X.env.cells scope.names []
/-- what is made: the function f, its defaults at t, its code object c' -/
structure Made (X : Cx) (pins : List (Addr × Obj)) (σ : L2.St) (H : Hp) (T : List (Addr × Str)) (params : Arguments) (body : Expr) (scope : Scope) (v : V) (f t c' : Addr) (u doc pm ct : Value) (G : Hp) (z : Shared) : Prop where
  inv : Inv X pins σ G z
  ex : LamX.ExtN H G
  tb : LamX.Tabs T G
  of : z.heap.get? f = some (kdv_obj "<lambda>" (QL X) params (.expr body) scope (CL X scope) (.ref t) doc pm c' ct)
  ot : z.heap.get? t = some (kdv_tup [u])
  ru : RelV v u
  nf : G f = none
  ff : f ∉ frs X.stack
  nt : G t = none
  ft : t ∉ frs X.stack
  co : G c' = some (LamX.CodeO c' (QL X))
theorem make {T : List (Addr × Str)} {c P : Addr} {params : Arguments} {body e : Expr} {v : V} {scope : Scope} {pos : Pos} {Q : Value → Shared → Prop} (I : Inv X pins σ H s) (TB : LamX.TabB X.base X.mg c P) (hcode : X.env.code = .ref c)
    (hm : (P, QL X) ∈ T) (hu : ∀ p ∈ T, p.1 = P → p.2 = QL X) (hT : LamX.Tabs T H) (hde : params.defaults = [e]) (hkw : params.kw_defaults = []) (he : PE X e (tC v)) (hfree : ∀ y ∈ scope.names, y.2 = .free → ∃ c, X.env.cells.lookup y.1 = some c)
    (h : ∀ (f t c' : Addr) (u doc pm ct : Value) (G : Hp) (z : Shared), Made X pins σ H T params body scope v f t c' u doc pm ct G z → Q (.ref f) z) : wpAny (model X.prog X.w) X.A (eval (.Lambda params body scope pos) X.env) Q X.xe s := by
  refine kdv_lam (by rw [hde]; rfl) hkw ?_
  rw [hde]
  refine kdv_all1 (thn (he.run pins s σ H (fun x G => x = v ∧ G = H) I ⟨rfl, rfl⟩) fun u s1 got => kdv_all0 ?_)
  obtain ⟨x, G, I1, ru, ex, eG⟩ := got
  subst ex eG
  rw [makeFunction_eq]
  simp only [List.zip_nil_right, List.filterMap_nil, List.isEmpty_nil, List.isEmpty_cons, if_true, pure_bind, Bool.false_eq_true, if_false]
  refine wpAny_bind (wpAny_newTextTuple ?_)
  obtain ⟨t, ht⟩ : ∃ t, t = s1.heap.objs.size := ⟨_, rfl⟩
  rw [← ht]
  have J : Inv X pins σ G { s1 with heap := s1.heap.push { cls := .type "tuple", data := .seq [u].toArray } } := I1.kept fun b o q => Heap.get?_push_of_some _ q
  have hot : (s1.heap.push { cls := .type "tuple", data := .seq [u].toArray }).get? t = some (kdv_tup [u]) := by rw [ht]; exact Heap.get?_push_size _ rfl
  have tG : G t = none := I1.hok.fresh (Nat.le_of_eq ht.symm)
  generalize hz : ({ s1 with heap := s1.heap.push { cls := .type "tuple", data := .seq [u].toArray } } : Shared) = z1 at J
  have hot1 : z1.heap.get? t = some (kdv_tup [u]) := by rw [← hz]; exact hot
  have hts : t ∉ frs X.stack := fun m => by
    rcases List.mem_cons.mp (I1.stkSub _ m) with q | q
    · have l := I1.lt
      rw [← q, ht] at l
      exact Nat.lt_irrefl _ l
    · exact I1.nofs (Nat.le_of_eq ht.symm) q
  clear hz hot
  obtain ⟨ps, tP, tr, among⟩ := hT _ hm
  have bP : z1.heap.BuiltinsAt X.mg P := TB.bm.keeps J.bk
  have objP : z1.heap.get? P = some { cls := .none, data := .fields ps } := J.hok P _ tP
  have outF : ∀ a, z1.heap.objs.size ≤ a → a ∉ frs X.stack := fun a ha m => by
    rcases List.mem_cons.mp (J.stkSub _ m) with q | q
    · have l := J.lt
      rw [← q] at l
      exact absurd (Nat.lt_of_lt_of_le l ha) (Nat.lt_irrefl _)
    · exact J.nofs ha q
  have tneP : t ≠ P := fun q => by rw [q, tP] at tG; cases tG
  cases hc : codeAmong pos ps.toList with
  | some cv =>
    obtain ⟨c', rfl, hco⟩ := among pos cv hc
    refine kdv_makeTailHit (mg := X.mg) (c := c) (P := P) (ps := ps) (closure_ok hfree) J.ok.glob (J.mod.glob.keeps J.bk) hcode (TB.code.keeps J.bk) objP tr hc bP fun ct doc g tk old le => ?_
    refine h g.objs.size t c' u doc _ ct G _ ⟨J.kept fun b o q => Heap.get?_push_of_some _ (old b o q), LamX.ExtN.refl _, hT, Heap.get?_push_size _ rfl, Heap.get?_push_of_some _ (old _ _ hot1), ru, J.hok.fresh le, outF _ le, tG, hts, hco⟩
  | none =>
    refine kdv_makeTail (mg := X.mg) (c := c) (P := P) (ps := ps) (closure_ok hfree) J.ok.glob (J.mod.glob.keeps J.bk) hcode (TB.code.keeps J.bk) objP tr hc TB.gP bP fun c' ct doc g tk old ge lt rc tabP => ?_
    obtain ⟨c2, oc, vs, tq, e2, hoc, hd, hv⟩ := rc
    cases e2
    have le : z1.heap.objs.size ≤ g.objs.size := Nat.le_trans ge (Nat.le_of_lt lt)
    have nC : G c' = none := J.hok.fresh ge
    have J2 := LamX.inv_table (t' := tk) (more := #[rawInt pos.line, rawInt pos.col, .ref c']) (h' := g.push (kdv_obj "<lambda>" (QL X) params (.expr body) scope (CL X scope) (.ref t) doc ((X.mg "__name__").getD .none) c' ct)) J tP
      (fun b o nb q => Heap.get?_push_of_some _ (old b o nb q)) (Heap.get?_push_of_some _ tabP) ge ⟨oc, vs, tq, Heap.get?_push_of_some _ hoc, hd, hv⟩
    have ext : LamX.ExtN G (upd (upd G P (.tbl (ps ++ #[rawInt pos.line, rawInt pos.col, .ref c']))) c' (LamX.CodeO c' (QL X))) := fun b o q nb => by
      rw [upd_ne (ne_of_none q nC), upd_ne (fun z => by subst z; rw [tP] at q; exact nb ps (Option.some.inj q).symm)]
      exact q
    have eL : (ps ++ #[rawInt pos.line, rawInt pos.col, Value.ref c']).toList = ps.toList ++ [rawInt pos.line, rawInt pos.col, .ref c'] := by simp
    have fC : g.objs.size ≠ c' := fun q => Nat.lt_irrefl _ (q ▸ lt)
    have fP : g.objs.size ≠ P := fun q => by
      have l := Nat.lt_of_lt_of_le (Heap.lt_size objP) le
      rw [q] at l
      exact Nat.lt_irrefl _ l
    have tC : t ≠ c' := fun q => by
      have l := Nat.lt_of_lt_of_le (Heap.lt_size hot1) ge
      rw [q] at l
      exact Nat.lt_irrefl _ l
    refine h g.objs.size t c' u doc _ ct _ _ ⟨J2, ext, fun p hp => ?_, Heap.get?_push_size _ rfl, Heap.get?_push_of_some _ (old _ _ tneP hot1), ru, ?_, outF _ le, ?_, hts, upd_same⟩
    · by_cases hb : p.1 = P
      · rw [hu p hp hb, hb]
        refine ⟨_, (upd_ne (ne_of_none tP nC)).trans upd_same, by rw [eL]; exact TriplesOk_snoc _ _ _ _ tr, fun p' cv hcv => ?_⟩
        rw [eL] at hcv
        rcases LamX.among_app _ tr hcv with q | q
        · obtain ⟨c0, h1, h2⟩ := among p' cv q
          exact ⟨c0, h1, ext _ _ h2 LamX.codeO_ne⟩
        · exact ⟨c', q, upd_same⟩
      · obtain ⟨ps', a1, a2, a3⟩ := hT p hp
        refine ⟨ps', (upd_ne (ne_of_none a1 nC)).trans ((upd_ne hb).trans a1), a2, fun p' cv hcv => ?_⟩
        obtain ⟨c0, h1, h2⟩ := a3 p' cv hcv
        exact ⟨c0, h1, ext _ _ h2 LamX.codeO_ne⟩
    · rw [upd_ne fC, upd_ne fP]
      exact J.hok.fresh le
    · rw [upd_ne tC, upd_ne tneP]
      exact tG
/-- one local name x, captured ones and globals -/
structure LamS1 (sc scope : Scope) (x : Str) : Prop where
  kind : scope.kind = .function
  co : scope.isCoroutine = false
  gen : scope.isGenerator = false
  loc : scope.names.lookup x = some .local
  own : ∀ y ∈ scope.names, (y.2 = .local → y.1 = x) ∧ y.2 ≠ .cell
  free : ∀ y ∈ scope.names, y.2 = .free → sc.names.lookup y.1 = some .cell ∨ sc.names.lookup y.1 = some .free
theorem LamS1.has {scope : Scope} {x : Str} (L : LamS1 X.env.scope scope x) (ok : X.Ok) : ∀ y ∈ scope.names, y.2 = .free → ∃ c, X.env.cells.lookup y.1 = some c := fun y hy q =>
  (L.free y hy q).elim (fun k => ok.has _ (.inl k)) (fun k => ok.has _ (.inr k))
theorem start {A : Around} {outer : List Env} {E : XK} {scope : Scope} {x : Str} {f c' : Addr} {g : Heap} {tk : Nat} {s1 : Shared} {HZ : Hp} {m : Str → Option Value} (I : Inv X pins σ H s) (L : LamS1 X.env.scope scope x) (hx : x ∉ X.N) (e0 : Env0 X.prog X.w X.K X.mg X.base A outer s1 HZ) (hd : A.handled = none)
    (un : Un (frs X.stack) [] H HZ s.heap s1.heap) (hns : g.Ns s1.heap.objs.size m) (kp : ∀ b o, s1.heap.get? b = some o → g.get? b = some o) : Inv (LamX.lamCx X A outer s1 HZ E scope f c') [] σ HZ { s1 with heap := g, toks := tk } := by
  have hfree := L.has I.ok
  have same : ∀ {y c}, (CL X scope).lookup y = some c → X.env.cells.lookup y = some c := fun {y c} q => by
    rcases cloFrom_mem (PySem.mem_of_lookup q) with k | ⟨k1, k2⟩
    · cases k
    · obtain ⟨c1, q1⟩ := hfree _ k1 rfl
      have q1 : X.env.cells.lookup y = some c1 := q1
      have : c = c1 := by rw [k2, q1] <;> rfl
      rw [this]; exact q1
  have there : ∀ {y}, scope.names.lookup y = some .free → ∃ c, (CL X scope).lookup y = some c := fun {y} q => mem_lookup (cloFrom_has (cells := X.env.cells) (acc := []) (show (y, NameKind.free) ∈ scope.names from PySem.mem_of_lookup q))
  have cell : ∀ {c : Addr} {v : Option Value}, H c = none → s.heap.IsCell c v → g.IsCell c v := fun {c v} n ⟨o, ho, hv⟩ => by
    obtain ⟨sl, q⟩ := un.any ho n (by simp)
    exact ⟨_, kp _ _ q, hv⟩
  have none_ : ∀ b : Addr, b ∉ (LamX.lamCx X A outer s1 HZ E scope f c').ex := fun b z => by cases (show b ∈ ([] : List Addr) from z)
  refine ⟨⟨e0.mod, L.kind, rfl, rfl, Nat.le_refl _, fun y z c q1 q2 => I.ok.inj y z c (same q1) (same q2), fun y hy => ?_, fun y c z _ => ?_, fun _ => hd, Around.frames_deeper e0.frames, .inr ⟨rfl, rfl⟩, fun b z => absurd z (none_ b), e0.bs, e0.bsz, fun b _ _ => none_ b,
      fun b z => absurd z (none_ b), e0.funs, e0.frf⟩, rfl, e0.bare, Un.kept kp, ⟨_, hns, fun i y v q1 q2 q3 => ?_⟩, fun y c q => ?_, e0.hok.fresh (Nat.le_refl _), fun y c q => ?_, fun q hq => (by cases (show q ∈ ([] : List (Addr × Obj)) ++ [] from hq)), e0.hok.kept kp, I.len⟩
  · rcases (show scope.names.lookup y = some .cell ∨ scope.names.lookup y = some .free from hy) with hy | hy
    · exact absurd rfl (L.own _ (PySem.mem_of_lookup hy)).2
    · exact there hy
  · cases (show false = true from z)
  · rcases (show Vis scope y from q3) with k | k | k
    · have hxy := (L.own _ (PySem.mem_of_lookup k)).1 rfl
      exact absurd (hxy ▸ List.mem_of_getElem? q1) hx
    · exact absurd rfl (L.own _ (PySem.mem_of_lookup k)).2
    · obtain ⟨m', hn, hl⟩ := I.loc
      have vis : Vis X.env.scope y := (L.free _ (PySem.mem_of_lookup k) rfl).elim (fun k => .inr (.inl k)) (fun k => .inr (.inr k))
      obtain ⟨w', r, q⟩ := hl i y v q1 q2 vis
      obtain ⟨c2, h2⟩ := there k
      refine ⟨w', r, .inr ⟨.inr k, c2, h2, ?_⟩⟩
      have c1 := same h2
      rcases q with ⟨k', _⟩ | ⟨_, c3, e', z⟩
      · rcases L.free _ (PySem.mem_of_lookup k) rfl with k2 | k2 <;> (have := (show X.env.scope.names.lookup y = _ from k2).symm.trans k'; cases this)
      · cases c1.symm.trans e'
        exact cell (I.freeC y _ c1) z
  · obtain ⟨w', z⟩ := I.cell y c (same q)
    exact ⟨w', cell (I.freeC y c (same q)) z⟩
  · obtain ⟨v, o, ho, hv⟩ := I.cell y c (same q)
    exact un.free c o ho (I.freeC y c (same q)) (by simp)
end
end LamD
set_option Elab.async false
set_option linter.all false
set_option maxRecDepth 100000
set_option maxHeartbeats 1000000
namespace Ab
open PySem PySem.Spec PyProof.Rows L2
inductive AV where
  | non | bl (b : Bool) | int (i : Int) | str (s : Str) | ty (n : String) | cls (c : String)
  | raw (a : Addr) | obj (i : Nat) | tup (xs : List AV) | scr (xs : List AV) | exn (c : String) (ns : List Str) (vs : List AV)
inductive Cell where
  | lst (xs : List AV) | ins (c : String) (fs : List (Str × AV)) | dic (kvs : List (Key × AV))
structure Sto where
  n : Nat
  c : Nat → Cell
def Sto.new (s : Sto) (x : Cell) : Sto := ⟨s.n + 1, fun i => if i = s.n then x else s.c i⟩
def Sto.set (s : Sto) (i : Nat) (x : Cell) : Sto := ⟨s.n, fun j => if j = i then x else s.c j⟩
/-- where a store lies -/
structure Wd where
  m : Nat → Addr
  n : Nat
  H : Hp
def Imm : HO → Prop
  | .tup _ => True
  | .xd _ => True
  | .frz _ _ => True
  | .ext _ => True
  | _ => False
structure Ext (w w' : Wd) : Prop where
  n : w.n ≤ w'.n
  m : ∀ i, i < w.n → w'.m i = w.m i
  im : ∀ a o, w.H a = some o → Imm o → w'.H a = some o
theorem Ext.refl (w : Wd) : Ext w w := ⟨Nat.le_refl _, fun _ _ => rfl, fun _ _ h _ => h⟩
theorem imm_xob {a : Addr} {cls : Value} {d : Option Addr} : Imm (Gx.xob a cls d) := trivial
theorem Ext.trans {w w1 w2 : Wd} (a : Ext w w1) (b : Ext w1 w2) : Ext w w2 :=
  ⟨Nat.le_trans a.n b.n, fun i h => (b.m i (Nat.lt_of_lt_of_le h a.n)).trans (a.m i h), fun c o h k => b.im c o (a.im c o h k) k⟩
/-- what is known of the program: its module, its classes' addresses, the tables of code objects, the classes that live -/
structure Wc where
  K : PySem.W.Frag
  κ : String → Addr
  T : List (Addr × Str)
  live : List String
  xlive : List String
/-- and what stays true as it grows -/
structure Wl extends Wc where
  inv : Wd → Prop
  cl : ∀ w w', Ext w w' → inv w → inv w'
instance : Coe Wl Wc := ⟨Wl.toWc⟩
def SqF (K : PySem.W.Frag) (H : Hp) (a : Addr) (xs : List V) : Prop :=
  (∃ o, H a = some (.frz o (.lst xs))) ∨
    ∃ (o : Obj) (its : Array Value) (n : Nat), K.lookup a = some o ∧ o.cls = .type "list" ∧ o.dict = none ∧ o.data = .seq its n ∧ its.size ≤ sizeLine ∧ Vals xs its.toList
theorem SqF.sql {K : PySem.W.Frag} {H : Hp} {a : Addr} {xs : List V} (h : SqF K H a xs) : SqL K H a xs := h.elim (fun h => .inl (.inr h)) .inr
section
variable (W : Wc) (w : Wd)
mutual
inductive Rel : AV → V → Prop
  | non : Rel .non .non
  | bl (b : Bool) : Rel (.bl b) (.bl b)
  | int (i : Int) : Rel (.int i) (.int i)
  | str (s : Str) : Rel (.str s) (.str s)
  | ty (n : String) : Rel (.ty n) (.ty n)
  | cls (c : String) : Rel (.cls c) (.ref (W.κ c))
  | raw (a : Addr) : Rel (.raw a) (.ref a)
  | obj {i : Nat} (h : i < w.n) : Rel (.obj i) (.ref (w.m i))
  | tup {a : Addr} {xs : List AV} {vs : List V} (h : SqT W.K w.H a vs) (r : RelL xs vs) : Rel (.tup xs) (.ref a)
  | scr {a : Addr} {xs : List AV} {vs : List V} (h : SqF W.K w.H a vs) (r : RelL xs vs) : Rel (.scr xs) (.ref a)
  | exn {c : String} {a d : Addr} {ns : List Str} {xs : List AV} {vs : List V} (hc : c ∈ W.xlive) (h : w.H a = some (Gx.xob a (.ref (W.κ c)) (some d)) ) (hd : w.H d = some (.xd (ns.zip vs))) (hl : ns.length = xs.length) (r : RelL xs vs) : Rel (.exn c ns xs) (.ref a)
inductive RelL : List AV → List V → Prop
  | nil : RelL [] []
  | cons {x : AV} {v : V} {xs : List AV} {vs : List V} (h : Rel x v) (r : RelL xs vs) : RelL (x :: xs) (v :: vs)
end
def RelF (fs : List (Str × AV)) (gs : List (Str × V)) : Prop := Paired (fun (p : Str × AV) (q : Str × V) => p.1 = q.1 ∧ Rel W w p.2 q.2) fs gs
def RelK (fs : List (Key × AV)) (gs : List (Key × V)) : Prop := Paired (fun (p : Key × AV) (q : Key × V) => p.1 = q.1 ∧ Rel W w p.2 q.2) fs gs
inductive CRel : Cell → HO → Prop
  | lst {xs : List AV} {vs : List V} (r : RelL W w xs vs) : CRel (.lst xs) (.lst vs)
  | ins {c : String} {dx : Addr} {fs : List (Str × AV)} {gs : List (Str × V)} (hc : c ∈ W.live) (r : RelF W w fs gs) : CRel (.ins c fs) (.ins (W.κ c) dx gs)
  | dic {fs : List (Key × AV)} {gs : List (Key × V)} (r : RelK W w fs gs) : CRel (.dic fs) (.dK gs)
end
section
variable (W : Wl) (w : Wd)
structure Sim (s : Sto) : Prop where
  n : w.n = s.n
  inj : ∀ i j, i < s.n → j < s.n → w.m i = w.m j → i = j
  cell : ∀ i, i < s.n → ∃ o, w.H (w.m i) = some o ∧ CRel W w (s.c i) o
  tab : LamX.Tabs W.T w.H
  inv : W.inv w
end
section
variable (W : Wc) (w : Wd)
abbrev ASt := List (Option AV)
def RO : Option AV → Option V → Prop
  | some x, some v => Rel W w x v
  | none, _ => True
  | _, _ => False
def RSt (σ : ASt) (σc : L2.St) : Prop := Paired (RO W w) σ σc
end
theorem sqt_ext {K : PySem.W.Frag} {w w' : Wd} {a : Addr} {vs : List V} (e : Ext w w') (h : SqT K w.H a vs) : SqT K w'.H a vs := by
  rcases h with (h | ⟨o, h⟩) | h
  · exact .inl (.inl (e.im _ _ h trivial))
  · exact .inl (.inr ⟨o, e.im _ _ h trivial⟩)
  · exact .inr h
theorem sqf_ext {K : PySem.W.Frag} {w w' : Wd} {a : Addr} {vs : List V} (e : Ext w w') (h : SqF K w.H a vs) : SqF K w'.H a vs := by
  rcases h with ⟨o, h⟩ | h
  · exact .inl ⟨o, e.im _ _ h trivial⟩
  · exact .inr h
mutual
theorem Rel.mono {W : Wc} {w w' : Wd} (e : Ext w w') : ∀ {x : AV} {v : V}, Rel W w x v → Rel W w' x v
  | _, _, .non => .non
  | _, _, .bl b => .bl b
  | _, _, .int i => .int i
  | _, _, .str s => .str s
  | _, _, .ty n => .ty n
  | _, _, .cls c => .cls c
  | _, _, .raw a => .raw a
  | _, _, .obj h => by rw [← e.m _ h]; exact .obj (Nat.lt_of_lt_of_le h e.n)
  | _, _, .tup h r => .tup (sqt_ext e h) (RelL.mono e r)
  | _, _, .scr h r => .scr (sqf_ext e h) (RelL.mono e r)
  | _, _, .exn hc h hd hl r => .exn hc (e.im _ _ h imm_xob) (e.im _ _ hd trivial) hl (RelL.mono e r)
theorem RelL.mono {W : Wc} {w w' : Wd} (e : Ext w w') : ∀ {x : List AV} {v : List V}, RelL W w x v → RelL W w' x v
  | _, _, .nil => .nil
  | _, _, .cons h r => .cons (Rel.mono e h) (RelL.mono e r)
end
section
variable {W : Wc} {w w' : Wd} {s s' : Sto}
theorem RelF.mono (e : Ext w w') {fs : List (Str × AV)} {gs : List (Str × V)} (h : RelF W w fs gs) : RelF W w' fs gs := Paired.mapP h fun _ _ z => ⟨z.1, z.2.mono e⟩
theorem RelK.mono (e : Ext w w') {fs : List (Key × AV)} {gs : List (Key × V)} (h : RelK W w fs gs) : RelK W w' fs gs := Paired.mapP h fun _ _ z => ⟨z.1, z.2.mono e⟩
theorem CRel.mono (e : Ext w w') {c : Cell} {o : HO} (h : CRel W w c o) : CRel W w' c o := by
  cases h with
  | lst r => exact .lst (r.mono e)
  | ins hc r => exact .ins hc (r.mono e)
  | dic r => exact .dic (r.mono e)
theorem RO.mono (e : Ext w w') : ∀ {x : Option AV} {v : Option V}, RO W w x v → RO W w' x v
  | some _, some _, h => Rel.mono e h
  | none, _, _ => trivial
  | some _, none, h => h
theorem RSt.mono (e : Ext w w') {σ : ASt} {σc : L2.St} (h : RSt W w σ σc) : RSt W w' σ σc := Paired.mapP h fun _ _ z => z.mono e
theorem CRel.mut {c : Cell} {o : HO} (h : CRel W w c o) : ¬ Imm o ∧ (∀ ps, o ≠ .tbl ps) ∧ ∀ φ, o ≠ .ext φ := by
  cases h <;> exact ⟨fun z => z, fun ps z => (by cases z), fun φ z => (by cases z)⟩
theorem RelL.length : ∀ {xs : List AV} {vs : List V}, RelL W w xs vs → xs.length = vs.length
  | _, _, .nil => rfl
  | _, _, .cons _ r => congrArg (· + 1) (RelL.length r)
theorem RelL.append : ∀ {xs ys : List AV} {vs us : List V}, RelL W w xs vs → RelL W w ys us → RelL W w (xs ++ ys) (vs ++ us)
  | _, _, _, _, .nil, h => h
  | _, _, _, _, .cons h r, k => .cons h (RelL.append r k)
theorem RelL.get : ∀ {xs : List AV} {vs : List V}, RelL W w xs vs → ∀ (i : Nat) (x : AV), xs[i]? = some x → ∃ v, vs[i]? = some v ∧ Rel W w x v
  | _, _, .nil, i, x, e => by simp at e
  | _, _, .cons h r, 0, x, e => by
    simp only [List.getElem?_cons_zero, Option.some.injEq] at e
    subst e
    exact ⟨_, by simp, h⟩
  | _, _, .cons h r, i + 1, x, e => by
    simp only [List.getElem?_cons_succ] at e ⊢
    exact RelL.get r i x e
theorem RelL.getv : ∀ {xs : List AV} {vs : List V}, RelL W w xs vs → ∀ (i : Nat) (v : V), vs[i]? = some v → ∃ x, xs[i]? = some x ∧ Rel W w x v
  | _, _, .nil, i, x, e => by simp at e
  | _, _, .cons h r, 0, x, e => by
    simp only [List.getElem?_cons_zero, Option.some.injEq] at e
    subst e
    exact ⟨_, by simp, h⟩
  | _, _, .cons h r, i + 1, x, e => by
    simp only [List.getElem?_cons_succ] at e ⊢
    exact RelL.getv r i x e
theorem RelL.set : ∀ {xs : List AV} {vs : List V} {x : AV} {v : V}, RelL W w xs vs → Rel W w x v → ∀ i, RelL W w (xs.set i x) (vs.set i v)
  | _, _, _, _, .nil, _, _ => .nil
  | _, _, _, _, .cons h r, k, 0 => .cons k r
  | _, _, _, _, .cons h r, k, i + 1 => .cons h (RelL.set r k i)
theorem RelL.take : ∀ {xs : List AV} {vs : List V}, RelL W w xs vs → ∀ i, RelL W w (xs.take i) (vs.take i)
  | _, _, .nil, i => by simp only [List.take_nil]; exact .nil
  | _, _, .cons h r, 0 => .nil
  | _, _, .cons h r, i + 1 => .cons h (RelL.take r i)
theorem RelL.drop : ∀ {xs : List AV} {vs : List V}, RelL W w xs vs → ∀ i, RelL W w (xs.drop i) (vs.drop i)
  | _, _, .nil, i => by simp only [List.drop_nil]; exact .nil
  | _, _, .cons h r, 0 => .cons h r
  | _, _, .cons h r, i + 1 => RelL.drop r i
theorem RSt.get : ∀ {σ : ASt} {σc : L2.St}, RSt W w σ σc → ∀ (i : Nat) (x : AV), σ[i]? = some (some x) → ∃ v, σc[i]? = some (some v) ∧ Rel W w x v
  | _, _, .nil, i, x, e => by simp at e
  | _, _, .cons h r, 0, x, e => by
    simp only [List.getElem?_cons_zero, Option.some.injEq] at e
    subst e
    revert h
    rename_i oc _ _
    cases oc with
    | none => exact fun h => (show False from h).elim
    | some v => exact fun h => ⟨v, by simp, h⟩
  | _, _, .cons h r, i + 1, x, e => by
    simp only [List.getElem?_cons_succ] at e ⊢
    exact RSt.get r i x e
theorem RSt.set : ∀ {σ : ASt} {σc : L2.St} {x : Option AV} {v : Option V}, RSt W w σ σc → RO W w x v → ∀ i, RSt W w (σ.set i x) (σc.set i v)
  | _, _, _, _, .nil, _, _ => .nil
  | _, _, _, _, .cons h r, k, 0 => .cons k r
  | _, _, _, _, .cons h r, k, i + 1 => .cons h (RSt.set r k i)
theorem RSt.length {σ : ASt} {σc : L2.St} (h : RSt W w σ σc) : σ.length = σc.length := Paired.length h
/-- wipe -/
def wipeA (σ : ASt) : List Nat → ASt
  | [] => σ
  | v :: vs => (wipeA σ vs).set v none
theorem RSt.wipe {σ : ASt} {σc : L2.St} (h : RSt W w σ σc) : ∀ vs : List Nat, RSt W w (wipeA σ vs) (wipe σc vs)
  | [] => h
  | v :: vs => RSt.set (RSt.wipe h vs) (show RO W w none none from trivial) v
end
section
variable {W : Wl} {w w' : Wd} {s s' : Sto}
theorem Ext.grow {H' : Hp} (e : ∀ a o, w.H a = some o → H' a = some o) : Ext w { w with H := H' } := ⟨Nat.le_refl _, fun _ _ => rfl, fun a o h _ => e a o h⟩
theorem Sim.grow {H' : Hp} (S : Sim W w s) (e : ∀ a o, w.H a = some o → H' a = some o) : Sim W { w with H := H' } s :=
  ⟨S.n, S.inj, fun i h => by
    obtain ⟨o, h1, h2⟩ := S.cell i h
    exact ⟨o, e _ _ h1, h2.mono (.grow e)⟩, S.tab.ext e, W.cl _ _ (.grow e) S.inv⟩
theorem grow_upd {H : Hp} {p : Addr} {o : HO} (n : H p = none) : ∀ a u, H a = some u → upd H p o a = some u := fun a u h => by
  rw [upd_ne (ne_of_none h n)]; exact h
/-- a new cell -/
def Wd.new (w : Wd) (p : Addr) (H' : Hp) : Wd := ⟨fun i => if i = w.n then p else w.m i, w.n + 1, H'⟩
theorem Ext.new {p : Addr} {H' : Hp} (e : ∀ a o, w.H a = some o → H' a = some o) : Ext w (w.new p H') :=
  ⟨Nat.le_succ _, fun i h => if_neg (Nat.ne_of_lt h), fun a o h _ => e a o h⟩
theorem Sim.new {p : Addr} {H' : Hp} {x : Cell} {o : HO} (S : Sim W w s) (hp : w.H p = none) (e : ∀ a o, w.H a = some o → H' a = some o) (k : H' p = some o) (r : CRel W (w.new p H') x o) : Sim W (w.new p H') (s.new x) := by
  have sn := S.n
  refine ⟨congrArg (· + 1) S.n, fun i j hi hj q => ?_, fun i hi => ?_, S.tab.ext e, W.cl _ _ (.new e) S.inv⟩
  · have hi : i < s.n + 1 := hi
    have hj : j < s.n + 1 := hj
    have q : (if i = w.n then p else w.m i) = if j = w.n then p else w.m j := q
    have at_ : ∀ i, i < s.n + 1 → ¬ i = w.n → w.m i ≠ p := fun i h1 h2 z => by
      obtain ⟨o, h3, _⟩ := S.cell i (by omega)
      rw [z, hp] at h3
      cases h3
    by_cases h1 : i = w.n
    · by_cases h2 : j = w.n
      · omega
      · rw [if_pos h1, if_neg h2] at q
        exact absurd q.symm (at_ j hj h2)
    · by_cases h2 : j = w.n
      · rw [if_neg h1, if_pos h2] at q
        exact absurd q (at_ i hi h1)
      · rw [if_neg h1, if_neg h2] at q
        exact S.inj i j (by omega) (by omega) q
  · have hi : i < s.n + 1 := hi
    by_cases h : i = s.n
    · subst h
      refine ⟨o, ?_, ?_⟩
      · show H' (if s.n = w.n then p else w.m s.n) = _
        rw [if_pos sn.symm]; exact k
      · show CRel W _ (if s.n = s.n then x else _) o
        rw [if_pos rfl]; exact r
    · obtain ⟨o', h1, h2⟩ := S.cell i (by omega)
      refine ⟨o', ?_, ?_⟩
      · show H' (if i = w.n then p else w.m i) = _
        rw [if_neg (by omega)]; exact e _ _ h1
      · show CRel W _ (if i = s.n then x else s.c i) o'
        rw [if_neg h]; exact h2.mono (.new e)
theorem Rel.new (p : Addr) (H' : Hp) (n : w.n = s.n) : Rel W (w.new p H') (.obj s.n) (.ref p) := by
  have := Rel.obj (W := W) (w := w.new p H') (i := s.n) (by show s.n < w.n + 1; omega)
  have e : (w.new p H').m s.n = p := if_pos n.symm
  rw [e] at this
  exact this
/-- a cell is written -/
theorem Ext.wr {i : Nat} {o : HO} (S : Sim W w s) (hi : i < s.n) : Ext w { w with H := upd w.H (w.m i) o } :=
  ⟨Nat.le_refl _, fun _ _ => rfl, fun a u h k => by
    obtain ⟨o', h1, h2⟩ := S.cell i hi
    have : a ≠ w.m i := fun z => by
      rw [z, h1] at h
      cases h
      exact h2.mut.1 k
    show upd w.H (w.m i) o a = some u
    rw [upd_ne this]; exact h⟩
theorem Sim.wr {i : Nat} {x : Cell} {o : HO} (S : Sim W w s) (hi : i < s.n) (r : CRel W w x o) : Sim W { w with H := upd w.H (w.m i) o } (s.set i x) := by
  have e := Ext.wr (o := o) S hi
  refine ⟨S.n, S.inj, fun j hj => ?_, fun p hp => ?_, W.cl _ _ e S.inv⟩
  · by_cases h : j = i
    · subst h
      exact ⟨o, upd_same, by show CRel W _ (if j = j then x else _) o; rw [if_pos rfl]; exact r.mono e⟩
    · obtain ⟨o', h1, h2⟩ := S.cell j hj
      refine ⟨o', ?_, ?_⟩
      · show upd w.H (w.m i) o (w.m j) = _
        rw [upd_ne fun z => h (S.inj j i hj hi z)]; exact h1
      · show CRel W _ (if j = i then x else s.c j) o'
        rw [if_neg h]; exact h2.mono e
  · obtain ⟨oi, i1, i2⟩ := S.cell i hi
    obtain ⟨ps, t1, t2, t3⟩ := S.tab p hp
    have ne1 : p.1 ≠ w.m i := fun z => by
      rw [z, i1] at t1
      cases t1
      exact i2.mut.2.1 _ rfl
    refine ⟨ps, by show upd w.H (w.m i) o p.1 = _; rw [upd_ne ne1]; exact t1, t2, fun pos cv hcv => ?_⟩
    obtain ⟨c', rfl, hc'⟩ := t3 pos cv hcv
    refine ⟨c', rfl, ?_⟩
    have ne2 : c' ≠ w.m i := fun z => by
      rw [z, i1] at hc'
      cases hc'
      exact i2.mut.2.2 _ rfl
    show upd w.H (w.m i) o c' = _
    rw [upd_ne ne2]; exact hc'
end
inductive Res (α : Type) where
  | ok (a : α) (s : Sto)
  | err (c : String) (ns : List Str) (vs : List AV) (s : Sto)
  | stuck
def Res.bind {α β : Type} : Res α → (α → Sto → Res β) → Res β
  | .ok a s, k => k a s
  | .err c ns vs s, _ => .err c ns vs s
  | .stuck, _ => .stuck
def Res.Post {α : Type} : Res α → (α → Sto → Prop) → (String → List Str → List AV → Sto → Prop) → Prop
  | .ok a s, P, _ => P a s
  | .err c ns vs s, _, R => R c ns vs s
  | .stuck, _, _ => False
@[simp] theorem Res.bind_ok {α β : Type} {a : α} {s : Sto} {k : α → Sto → Res β} : (Res.ok a s).bind k = k a s := rfl
@[simp] theorem Res.bind_err {α β : Type} {c : String} {ns : List Str} {vs : List AV} {s : Sto} {k : α → Sto → Res β} : (Res.err c ns vs s).bind k = .err c ns vs s := rfl
@[simp] theorem Res.bind_stuck {α β : Type} {k : α → Sto → Res β} : (Res.stuck : Res α).bind k = .stuck := rfl
theorem Res.post_bind {α β : Type} {r : Res α} {k : α → Sto → Res β} {P : β → Sto → Prop} {R : String → List Str → List AV → Sto → Prop} : (r.bind k).Post P R ↔ r.Post (fun a s => (k a s).Post P R) R := by
  cases r <;> exact Iff.rfl
theorem Res.Post.mono {α : Type} {r : Res α} {P P' : α → Sto → Prop} {R R' : String → List Str → List AV → Sto → Prop} (h : r.Post P R) (f : ∀ a s, P a s → P' a s) (g : ∀ c ns vs s, R c ns vs s → R' c ns vs s) : r.Post P' R' := by
  cases r with
  | ok a s => exact f _ _ h
  | err c ns vs s => exact g _ _ _ _ h
  | stuck => exact h
inductive SRes where
  | nx (σ : ASt) (s : Sto) | rt (v : AV) (s : Sto) | bk (σ : ASt) (s : Sto) | ct (σ : ASt) (s : Sto)
  | err (c : String) (ns : List Str) (vs : List AV) (σ : ASt) (s : Sto)
  | stuck
abbrev AE := ASt → Sto → Res AV
abbrev AT := ASt → Sto → Res Bool
abbrev AA := ASt → Sto → Res (List AV)
abbrev AS := ASt → Sto → SRes
section
variable (W : Wl)
def ExcD (w : Wd) (c : String) (d : Addr) (ns : List Str) (xs : List AV) : Prop := c ∈ W.xlive ∧ ∃ vs, w.H d = some (.xd (ns.zip vs)) ∧ ns.length = xs.length ∧ RelL W w xs vs
def ErrP (w : Wd) (E : XK) (c : String) (ns : List Str) (vs : List AV) (s : Sto) : Prop := ∀ w' d, Ext w w' → Sim W w' s → ExcD W w' c d ns vs → E (.ref (W.κ c)) (some d) w'.H
def OkP (w : Wd) (Q : VK) (v : AV) (s : Sto) : Prop := ∀ w' vc, Ext w w' → Sim W w' s → Rel W w' v vc → Q vc w'.H
def OkL (w : Wd) (Q : List V → Hp → Prop) (v : List AV) (s : Sto) : Prop := ∀ w' vc, Ext w w' → Sim W w' s → RelL W w' v vc → Q vc w'.H
def OkB (w : Wd) (Q : Bool → Hp → Prop) (b : Bool) (s : Sto) : Prop := ∀ w', Ext w w' → Sim W w' s → Q b w'.H
def DE (E : L2.St → XK) (te : TE) (f : AE) : Prop := ∀ (w : Wd) (s : Sto) (σ : ASt) (σc : L2.St) (Q : VK), Sim W w s → RSt W w σ σc → (f σ s).Post (OkP W w Q) (ErrP W w (E σc)) → te σc w.H Q
def DT (E : L2.St → XK) (tt : TT) (f : AT) : Prop := ∀ (w : Wd) (s : Sto) (σ : ASt) (σc : L2.St) (Q : Bool → Hp → Prop), Sim W w s → RSt W w σ σc → (f σ s).Post (OkB W w Q) (ErrP W w (E σc)) → tt σc w.H Q
def DA (E : L2.St → XK) (ta : TA) (f : AA) : Prop := ∀ (w : Wd) (s : Sto) (σ : ASt) (σc : L2.St) (Q : List V → Hp → Prop), Sim W w s → RSt W w σ σc → (f σ s).Post (OkL W w Q) (ErrP W w (E σc)) → ta σc w.H Q
def SRes.P (r : SRes) (w : Wd) (D : Ends) (E : L2.St → XK) : Prop :=
  match r with
  | .nx σ s => ∀ w' σc, Ext w w' → Sim W w' s → RSt W w' σ σc → D.nx σc w'.H
  | .rt v s => ∀ w' vc, Ext w w' → Sim W w' s → Rel W w' v vc → D.rt vc w'.H
  | .bk σ s => ∀ w' σc, Ext w w' → Sim W w' s → RSt W w' σ σc → D.bk σc w'.H
  | .ct σ s => ∀ w' σc, Ext w w' → Sim W w' s → RSt W w' σ σc → D.ct σc w'.H
  | .err c ns vs σ s => ∀ w' σc d, Ext w w' → Sim W w' s → RSt W w' σ σc → ExcD W w' c d ns vs → E σc (.ref (W.κ c)) (some d) w'.H
  | .stuck => False
def DS (E : L2.St → XK) (ts : TS) (f : AS) : Prop := ∀ (w : Wd) (s : Sto) (σ : ASt) (σc : L2.St) (D : Ends), Sim W w s → RSt W w σ σc → (f σ s).P W w D E → ts D σc w.H
/-- a target -/
def DG (tg : TG) (g : AV → AS) : Prop := ∀ (w : Wd) (s : Sto) (σ : ASt) (σc : L2.St) (x : AV) (v : V) (Q : L2.St → Hp → Prop), Sim W w s → RSt W w σ σc → Rel W w x v → (g x σ s).P W w ⟨Q, fun _ _ => False, fun _ _ => False, fun _ _ => False⟩ (fun _ _ _ _ => False) → tg v σc w.H Q
def DGs (tg : TGs) (g : List AV → AS) : Prop := ∀ (w : Wd) (s : Sto) (σ : ASt) (σc : L2.St) (x : List AV) (v : List V) (Q : L2.St → Hp → Prop), Sim W w s → RSt W w σ σc → RelL W w x v → (g x σ s).P W w ⟨Q, fun _ _ => False, fun _ _ => False, fun _ _ => False⟩ (fun _ _ _ _ => False) → tg v σc w.H Q
/-- an operator, a built-in of arguments -/
def DR (r : R2) (g : AV → AV → Sto → Res AV) : Prop := ∀ (w : Wd) (s : Sto) (x y : AV) (v u : V) (Q : VK), Sim W w s → Rel W w x v → Rel W w y u → (g x y s).Post (OkP W w Q) (fun _ _ _ _ => False) → r v u w.H Q
def DU (r : V → Hp → VK → Prop) (g : AV → Sto → Res AV) : Prop := ∀ (w : Wd) (s : Sto) (x : AV) (v : V) (Q : VK), Sim W w s → Rel W w x v → (g x s).Post (OkP W w Q) (fun _ _ _ _ => False) → r v w.H Q
def DB (r : List V → Hp → VK → Prop) (g : List AV → Sto → Res AV) : Prop := ∀ (w : Wd) (s : Sto) (x : List AV) (v : List V) (Q : VK), Sim W w s → RelL W w x v → (g x s).Post (OkP W w Q) (fun _ _ _ _ => False) → r v w.H Q
/-- a promise -/
def spF (n : Nat) (F : List AV → Sto → Res AV) : Sp := fun vs H Q E => ∃ (w : Wd) (s : Sto) (args : List AV), H = w.H ∧ Sim W w s ∧ RelL W w args vs ∧ args.length = n ∧ (F args s).Post (OkP W w Q) (ErrP W w E)
end
section
variable {W : Wl} {w w' : Wd}
theorem OkP.mono {Q : VK} {v : AV} {s : Sto} (e : Ext w w') (h : OkP W w Q v s) : OkP W w' Q v s := fun w2 vc e2 S r => h w2 vc (e.trans e2) S r
theorem OkL.mono {Q : List V → Hp → Prop} {v : List AV} {s : Sto} (e : Ext w w') (h : OkL W w Q v s) : OkL W w' Q v s := fun w2 vc e2 S r => h w2 vc (e.trans e2) S r
theorem OkB.mono {Q : Bool → Hp → Prop} {v : Bool} {s : Sto} (e : Ext w w') (h : OkB W w Q v s) : OkB W w' Q v s := fun w2 e2 S => h w2 (e.trans e2) S
theorem ErrP.mono {E : XK} {c : String} {ns : List Str} {vs : List AV} {s : Sto} (e : Ext w w') (h : ErrP W w E c ns vs s) : ErrP W w' E c ns vs s := fun w2 d e2 S x => h w2 d (e.trans e2) S x
theorem P.mono {r : SRes} {D : Ends} {E : L2.St → XK} (e : Ext w w') (h : r.P W w D E) : r.P W w' D E := by
  cases r with
  | nx σ s => exact fun w2 σc e2 S x => h w2 σc (e.trans e2) S x
  | rt v s => exact fun w2 σc e2 S x => h w2 σc (e.trans e2) S x
  | bk σ s => exact fun w2 σc e2 S x => h w2 σc (e.trans e2) S x
  | ct σ s => exact fun w2 σc e2 S x => h w2 σc (e.trans e2) S x
  | err c ns vs σ s => exact fun w2 σc d e2 S x y => h w2 σc d (e.trans e2) S x y
  | stuck => exact h
theorem post_mono {r : Res AV} {Q : VK} {E : XK} (e : Ext w w') (h : r.Post (OkP W w Q) (ErrP W w E)) : r.Post (OkP W w' Q) (ErrP W w' E) := h.mono (fun _ _ z => z.mono e) fun _ _ _ _ z => z.mono e
end
end Ab
set_option Elab.async false
set_option linter.all false
set_option maxRecDepth 100000
set_option maxHeartbeats 1000000
namespace Ab
open PySem PySem.Spec PyProof.Rows L2
open Classical
def aVar (i : Nat) : AE := fun σ s => match σ[i]? with | some (some v) => .ok v s | _ => .stuck
def aC (v : AV) : AE := fun _ s => .ok v s
def aOp (g : AV → AV → Sto → Res AV) (fa fb : AE) : AE := fun σ s => (fa σ s).bind fun x s1 => (fb σ s1).bind fun y s2 => g x y s2
def aUn (g : AV → Sto → Res AV) (fa : AE) : AE := fun σ s => (fa σ s).bind g
def aNil : AA := fun _ s => .ok [] s
def aCons (fa : AE) (fr : AA) : AA := fun σ s => (fa σ s).bind fun x s1 => (fr σ s1).bind fun xs s2 => .ok (x :: xs) s2
def aCB (g : List AV → Sto → Res AV) (fa : AA) : AE := fun σ s => (fa σ s).bind g
def aAndV (fa fb : AE) : AE := fun σ s => (fa σ s).bind fun x s1 => match x with | .bl true => fb σ s1 | .bl false => .ok (.bl false) s1 | _ => .stuck
def aOrV (fa fb : AE) : AE := fun σ s => (fa σ s).bind fun x s1 => match x with | .bl false => fb σ s1 | .bl true => .ok (.bl true) s1 | _ => .stuck
def aNotV (fa : AE) : AE := fun σ s => (fa σ s).bind fun x s1 => match x with | .bl b => .ok (.bl (!b)) s1 | _ => .stuck
def aTest (fa : AE) : AT := fun σ s => (fa σ s).bind fun x s1 => match x with | .bl b => .ok b s1 | _ => .stuck
def aAnd (t u : AT) : AT := fun σ s => (t σ s).bind fun b s1 => if b = true then u σ s1 else .ok false s1
def aOr (t u : AT) : AT := fun σ s => (t σ s).bind fun b s1 => if b = true then .ok true s1 else u σ s1
def aNot (t : AT) : AT := fun σ s => (t σ s).bind fun b s1 => .ok (!b) s1
def aIf (t : AT) (fa fb : AE) : AE := fun σ s => (t σ s).bind fun b s1 => if b = true then fa σ s1 else fb σ s1
def aChain (r r' : AV → AV → Sto → Res AV) (fa fb fc : AE) : AE := fun σ s => (fa σ s).bind fun x s1 => (fb σ s1).bind fun y s2 => (r x y s2).bind fun z s3 => match z with | .bl true => (fc σ s3).bind fun w s4 => r' y w s4 | .bl false => .ok (.bl false) s3 | _ => .stuck
def aTup (fa : AA) : AE := fun σ s => (fa σ s).bind fun xs s1 => if xs.length ≤ sizeLine then .ok (.tup xs) s1 else .stuck
def newL (xs : List AV) (s : Sto) : Res AV := .ok (.obj s.n) (s.new (.lst xs))
def aLst (fa : AA) : AE := fun σ s => (fa σ s).bind fun xs s1 => if xs.length ≤ sizeLine then newL xs s1 else .stuck
def aCall (n : Nat) (F : List AV → Sto → Res AV) (dvs : List AV) (fa : AA) : AE := fun σ s => (fa σ s).bind fun xs s1 => if (xs ++ dvs).length = n then F (xs ++ dvs) s1 else .stuck
def aNext : AS := fun σ s => .nx σ s
/-- an expression's end, then a statement's work -/
def Res.st {α : Type} : Res α → ASt → (α → Sto → SRes) → SRes
  | .ok a s, _, k => k a s
  | .err c ns vs s, σ, _ => .err c ns vs σ s
  | .stuck, _, _ => .stuck
@[simp] theorem Res.st_ok {α : Type} {a : α} {s : Sto} {σ : ASt} {k : α → Sto → SRes} : (Res.ok a s).st σ k = k a s := rfl
@[simp] theorem Res.st_err {α : Type} {c : String} {ns : List Str} {vs : List AV} {s : Sto} {σ : ASt} {k : α → Sto → SRes} : (Res.err c ns vs s).st σ k = .err c ns vs σ s := rfl
@[simp] theorem Res.st_stuck {α : Type} {σ : ASt} {k : α → Sto → SRes} : (Res.stuck : Res α).st σ k = .stuck := rfl
def SRes.thn : SRes → AS → SRes
  | .nx σ s, f => f σ s
  | .rt v s, _ => .rt v s
  | .bk σ s, _ => .bk σ s
  | .ct σ s, _ => .ct σ s
  | .err c ns vs σ s, _ => .err c ns vs σ s
  | .stuck, _ => .stuck
@[simp] theorem SRes.thn_nx {σ : ASt} {s : Sto} {f : AS} : (SRes.nx σ s).thn f = f σ s := rfl
@[simp] theorem SRes.thn_rt {v : AV} {s : Sto} {f : AS} : (SRes.rt v s).thn f = .rt v s := rfl
@[simp] theorem SRes.thn_bk {σ : ASt} {s : Sto} {f : AS} : (SRes.bk σ s).thn f = .bk σ s := rfl
@[simp] theorem SRes.thn_ct {σ : ASt} {s : Sto} {f : AS} : (SRes.ct σ s).thn f = .ct σ s := rfl
@[simp] theorem SRes.thn_err {c : String} {ns : List Str} {vs : List AV} {σ : ASt} {s : Sto} {f : AS} : (SRes.err c ns vs σ s).thn f = .err c ns vs σ s := rfl
@[simp] theorem SRes.thn_stuck {f : AS} : SRes.stuck.thn f = .stuck := rfl
def aSeq (f g : AS) : AS := fun σ s => (f σ s).thn g
def aBreak : AS := fun σ s => .bk σ s
def aCont : AS := fun σ s => .ct σ s
def aDrop (fa : AE) : AS := fun σ s => (fa σ s).st σ fun _ s1 => .nx σ s1
def aRet (fa : AE) : AS := fun σ s => (fa σ s).st σ fun v s1 => .rt v s1
def aRetN : AS := fun _ s => .rt .non s
def aIfS (t : AT) (f g : AS) : AS := fun σ s => (t σ s).st σ fun b s1 => if b = true then f σ s1 else g σ s1
def aAsg (fa : AE) (g : AV → AS) : AS := fun σ s => (fa σ s).st σ fun v s1 => g v σ s1
def agName (i : Nat) : AV → AS := fun v σ s => .nx (σ.set i (some v)) s
def parK (i j : Nat) (σ : ASt) : List AV → Sto → SRes
  | [v, u], s1 => .nx ((σ.set i (some v)).set j (some u)) s1
  | _, _ => .stuck
def aPar (i j : Nat) (fa : AA) : AS := fun σ s => (fa σ s).st σ (parK i j σ)
def parK3 (i j l : Nat) (σ : ASt) : List AV → Sto → SRes
  | [v, u, w], s1 => .nx (((σ.set i (some v)).set j (some u)).set l (some w)) s1
  | _, _ => .stuck
def aPar3 (i j l : Nat) (fa : AA) : AS := fun σ s => (fa σ s).st σ (parK3 i j l σ)
def agNil : List AV → AS := fun xs σ s => match xs with | [] => .nx σ s | _ => .stuck
def agCons (g : AV → AS) (h : List AV → AS) : List AV → AS := fun xs => match xs with | x :: r => aSeq (g x) (h r) | [] => fun _ _ => .stuck
def agTup (n : Nat) (g : List AV → AS) : AV → AS := fun v σ s => match v with | .tup xs => if xs.length = n then g xs σ s else .stuck | _ => .stuck
/-- a def's body -/
def SRes.fn : SRes → Res AV
  | .rt v s1 => .ok v s1
  | .nx _ s1 => .ok .non s1
  | .err c ns vs _ s1 => .err c ns vs s1
  | _ => .stuck
@[simp] theorem SRes.fn_rt {v : AV} {s : Sto} : (SRes.rt v s).fn = .ok v s := rfl
@[simp] theorem SRes.fn_nx {σ : ASt} {s : Sto} : (SRes.nx σ s).fn = .ok .non s := rfl
@[simp] theorem SRes.fn_err {c : String} {ns : List Str} {vs : List AV} {σ : ASt} {s : Sto} : (SRes.err c ns vs σ s).fn = .err c ns vs s := rfl
def aDef (k : Nat) (f : AS) : List AV → Sto → Res AV := fun args s => (f (args.map some ++ List.replicate k none) s).fn
section
variable {W : Wl} {E : L2.St → XK} {ta tb tc : TE} {fa fb fc : AE} {t u : TT} {ft fu : AT} {tr : TA} {fr : AA}
theorem DE.var {i : Nat} : DE W E (tVar i) (aVar i) := fun w s σ σc Q S R h => by
  unfold aVar at h
  split at h
  · rename_i v e
    obtain ⟨vc, h1, h2⟩ := R.get i v e
    exact ⟨vc, h1, h w vc (.refl w) S h2⟩
  · exact h.elim
theorem DE.c {v : AV} {vc : V} (r : ∀ w, Rel W w v vc) : DE W E (tC vc) (aC v) := fun w s σ σc Q S R h => h w vc (.refl w) S (r w)
theorem post_bind_ok {α β : Type} {r : Res α} {k : α → Sto → Res β} {P : β → Sto → Prop} {Er : String → List Str → List AV → Sto → Prop} (h : (r.bind k).Post P Er) : r.Post (fun a s => (k a s).Post P Er) Er := Res.post_bind.mp h
theorem postB_mono {w w' : Wd} {r : Res Bool} {Q : Bool → Hp → Prop} {E : XK} (e : Ext w w') (h : r.Post (OkB W w Q) (ErrP W w E)) : r.Post (OkB W w' Q) (ErrP W w' E) := h.mono (fun _ _ z => z.mono e) fun _ _ _ _ z => z.mono e
theorem DE.op {r : R2} {g : AV → AV → Sto → Res AV} (hr : DR W r g) (ha : DE W E ta fa) (hb : DE W E tb fb) (hg : ∀ x y s c ns vs s', g x y s ≠ .err c ns vs s') : DE W E (tOp r ta tb) (aOp g fa fb) := fun w s σ σc Q S R h => by
  refine ha w s σ σc _ S R ((post_bind_ok h).mono (fun x s1 h1 w1 v e1 S1 r1 => ?_) fun _ _ _ _ z => z)
  refine hb w1 s1 σ σc _ S1 (R.mono e1) ((post_bind_ok h1).mono (fun y s2 h2 w2 u e2 S2 r2 => ?_) fun _ _ _ _ z => z.mono e1)
  refine hr w2 s2 x y v u Q S2 (r1.mono e2) r2 ?_
  cases hh : g x y s2 with
  | ok a s3 =>
    rw [hh] at h2
    exact OkP.mono (e1.trans e2) h2
  | err c ns vs s3 => exact absurd hh (hg _ _ _ _ _ _ _)
  | stuck => rw [hh] at h2; exact h2
theorem DE.un {r : V → Hp → VK → Prop} {g : AV → Sto → Res AV} (hr : DU W r g) (ha : DE W E ta fa) (hg : ∀ x s c ns vs s', g x s ≠ .err c ns vs s') : DE W E (tUn r ta) (aUn g fa) := fun w s σ σc Q S R h => by
  refine ha w s σ σc _ S R ((post_bind_ok h).mono (fun x s1 h1 w1 v e1 S1 r1 => ?_) fun _ _ _ _ z => z)
  refine hr w1 s1 x v Q S1 r1 ?_
  cases hh : g x s1 with
  | ok a s3 =>
    rw [hh] at h1
    exact OkP.mono e1 h1
  | err c ns vs s3 => exact absurd hh (hg _ _ _ _ _ _)
  | stuck => rw [hh] at h1; exact h1
theorem DA.nil : DA W E tNil aNil := fun w s σ σc Q S R h => h w [] (.refl w) S .nil
theorem DA.cons (ha : DE W E ta fa) (hr : DA W E tr fr) : DA W E (tCons ta tr) (aCons fa fr) := fun w s σ σc Q S R h => by
  refine ha w s σ σc _ S R ((post_bind_ok h).mono (fun x s1 h1 w1 v e1 S1 r1 => ?_) fun _ _ _ _ z => z)
  refine hr w1 s1 σ σc _ S1 (R.mono e1) ((post_bind_ok h1).mono (fun y s2 h2 w2 u e2 S2 r2 => ?_) fun _ _ _ _ z => z.mono e1)
  exact h2 w2 _ (e1.trans e2) S2 (.cons (r1.mono e2) r2)
theorem DE.cb {r : List V → Hp → VK → Prop} {g : List AV → Sto → Res AV} (hr : DB W r g) (ha : DA W E tr fr) (hg : ∀ x s c ns vs s', g x s ≠ .err c ns vs s') : DE W E (tCB r tr) (aCB g fr) := fun w s σ σc Q S R h => by
  refine ha w s σ σc _ S R ((post_bind_ok h).mono (fun x s1 h1 w1 v e1 S1 r1 => ?_) fun _ _ _ _ z => z)
  refine hr w1 s1 x v Q S1 r1 ?_
  cases hh : g x s1 with
  | ok a s3 =>
    rw [hh] at h1
    exact OkP.mono e1 h1
  | err c ns vs s3 => exact absurd hh (hg _ _ _ _ _ _)
  | stuck => rw [hh] at h1; exact h1
theorem DE.andV (ha : DE W E ta fa) (hb : DE W E tb fb) : DE W E (tAndV ta tb) (aAndV fa fb) := fun w s σ σc Q S R h => by
  refine ha w s σ σc _ S R ((post_bind_ok h).mono (fun x s1 h1 w1 v e1 S1 r1 => ?_) fun _ _ _ _ z => z)
  cases r1 with
  | bl b =>
    refine ⟨b, rfl, ?_⟩
    cases b with
    | true => exact iteT (hb w1 s1 σ σc _ S1 (R.mono e1) (post_mono e1 h1))
    | false => exact iteF (h1 w1 _ e1 S1 (.bl false))
  | _ => exact (show False from h1).elim
theorem DE.notV (ha : DE W E ta fa) : DE W E (tNotV ta) (aNotV fa) := fun w s σ σc Q S R h => by
  refine ha w s σ σc _ S R ((post_bind_ok h).mono (fun x s1 h1 w1 v e1 S1 r1 => ?_) fun _ _ _ _ z => z)
  cases r1 with
  | bl b => exact ⟨b, rfl, h1 w1 _ e1 S1 (.bl _)⟩
  | _ => exact (show False from h1).elim
theorem DT.test (ha : DE W E ta fa) : DT W E (tTest ta) (aTest fa) := fun w s σ σc Q S R h => by
  refine ha w s σ σc _ S R ((post_bind_ok h).mono (fun x s1 h1 w1 v e1 S1 r1 => ?_) fun _ _ _ _ z => z)
  cases r1 with
  | bl b => exact ⟨b, rfl, h1 w1 e1 S1⟩
  | _ => exact (show False from h1).elim
theorem DT.b (ha : DE W E ta fa) : DT W E (tB ta) (aTest fa) := fun w s σ σc Q S R h => DT.test ha w s σ σc Q S R h
theorem DT.and (ha : DT W E t ft) (hb : DT W E u fu) : DT W E (tAnd t u) (aAnd ft fu) := fun w s σ σc Q S R h => by
  refine ha w s σ σc _ S R ((post_bind_ok h).mono (fun b s1 h1 w1 e1 S1 => ?_) fun _ _ _ _ z => z)
  cases b with
  | true => exact iteT (hb w1 s1 σ σc _ S1 (R.mono e1) (postB_mono e1 (by simpa using h1)))
  | false => exact iteF ((show OkB W w Q false s1 from by rw [if_neg (by decide)] at h1; exact h1) w1 e1 S1)
theorem DT.or (ha : DT W E t ft) (hb : DT W E u fu) : DT W E (tOr t u) (aOr ft fu) := fun w s σ σc Q S R h => by
  refine ha w s σ σc _ S R ((post_bind_ok h).mono (fun b s1 h1 w1 e1 S1 => ?_) fun _ _ _ _ z => z)
  cases b with
  | true => exact iteT ((show OkB W w Q true s1 from by rw [if_pos rfl] at h1; exact h1) w1 e1 S1)
  | false => exact iteF (hb w1 s1 σ σc _ S1 (R.mono e1) (postB_mono e1 (by simpa using h1)))
theorem DT.not (ha : DT W E t ft) : DT W E (tNot t) (aNot ft) := fun w s σ σc Q S R h =>
  ha w s σ σc _ S R ((post_bind_ok h).mono (fun b s1 h1 w1 e1 S1 => h1 w1 e1 S1) fun _ _ _ _ z => z)
theorem DE.ifE (ht : DT W E t ft) (ha : DE W E ta fa) (hb : DE W E tb fb) : DE W E (tIf t ta tb) (aIf ft fa fb) := fun w s σ σc Q S R h => by
  refine ht w s σ σc _ S R ((post_bind_ok h).mono (fun b s1 h1 w1 e1 S1 => ?_) fun _ _ _ _ z => z)
  cases b with
  | true => exact iteT (ha w1 s1 σ σc _ S1 (R.mono e1) (post_mono e1 (by simpa using h1)))
  | false => exact iteF (hb w1 s1 σ σc _ S1 (R.mono e1) (post_mono e1 (by simpa using h1)))
theorem DE.chain {r r' : R2} {g g' : AV → AV → Sto → Res AV} (hr : DR W r g) (hr' : DR W r' g') (ha : DE W E ta fa) (hb : DE W E tb fb) (hc : DE W E tc fc) (hg : ∀ x y s c ns vs s', g x y s ≠ .err c ns vs s') (hg' : ∀ x y s c ns vs s', g' x y s ≠ .err c ns vs s') :
    DE W E (tChain r r' ta tb tc) (aChain g g' fa fb fc) := fun w s σ σc Q S R h => by
  refine ha w s σ σc _ S R ((post_bind_ok h).mono (fun x s1 h1 w1 v e1 S1 r1 => ?_) fun _ _ _ _ z => z)
  refine hb w1 s1 σ σc _ S1 (R.mono e1) ((post_bind_ok h1).mono (fun y s2 h2 w2 u e2 S2 r2 => ?_) fun _ _ _ _ z => z.mono e1)
  have h2 := post_bind_ok h2
  refine hr w2 s2 x y v u _ S2 (r1.mono e2) r2 ?_
  cases hh : g x y s2 with
  | err c ns vs s3 => exact absurd hh (hg _ _ _ _ _ _ _)
  | stuck => rw [hh] at h2; exact h2
  | ok z s3 =>
    rw [hh] at h2
    intro w3 zc e3 S3 r3
    have e13 := (e1.trans e2).trans e3
    cases r3 with
    | bl b =>
      refine ⟨b, rfl, ?_⟩
      cases b with
      | false => exact iteF ((show OkP W w Q (.bl false) s3 from h2) w3 _ e13 S3 (.bl false))
      | true =>
        refine iteT (hc w3 s3 σ σc _ S3 (R.mono e13) ((post_bind_ok h2).mono (fun w' s4 h4 w4 uc e4 S4 r4 => ?_) fun _ _ _ _ z => z.mono e13))
        refine hr' w4 s4 y w' u uc Q S4 ((r2.mono e3).mono e4) r4 ?_
        cases hh : g' y w' s4 with
        | err c ns vs s3 => exact absurd hh (hg' _ _ _ _ _ _ _)
        | stuck => rw [hh] at h4; exact h4
        | ok a s5 =>
          rw [hh] at h4
          exact OkP.mono (e13.trans e4) h4
    | _ => exact (show False from h2).elim
theorem DE.tup (ha : DA W E tr fr) : DE W E (tTup tr) (aTup fr) := fun w s σ σc Q S R h => by
  refine ha w s σ σc _ S R ((post_bind_ok h).mono (fun xs s1 h1 w1 vs e1 S1 r1 => ?_) fun _ _ _ _ z => z)
  split at h1
  · rename_i hl
    refine ⟨by rw [← r1.length]; exact hl, fun p hp => ?_⟩
    have g := grow_upd (o := .tup vs) hp
    exact h1 _ _ (e1.trans (.grow g)) (S1.grow g) (.tup (.inl (.inl upd_same)) (r1.mono (.grow g)))
  · exact (show False from h1).elim
theorem newL_ok {w : Wd} {s : Sto} {xs : List AV} {vs : List V} {Q : VK} (S : Sim W w s) (r : RelL W w xs vs) (h : OkP W w Q (.obj s.n) (s.new (.lst xs))) : ∀ p, w.H p = none → Q (.ref p) (upd w.H p (.lst vs)) := fun p hp => by
  have g := grow_upd (o := .lst vs) hp
  exact h (w.new p _) _ (.new g) (S.new hp g upd_same (.lst (r.mono (.new g)))) (Rel.new p _ S.n)
theorem DE.lst (ha : DA W E tr fr) : DE W E (tLst tr) (aLst fr) := fun w s σ σc Q S R h => by
  refine ha w s σ σc _ S R ((post_bind_ok h).mono (fun xs s1 h1 w1 vs e1 S1 r1 => ?_) fun _ _ _ _ z => z)
  split at h1
  · rename_i hl
    exact ⟨by rw [← r1.length]; exact hl, newL_ok S1 r1 (OkP.mono e1 h1)⟩
  · exact (show False from h1).elim
theorem DE.call {n : Nat} {F : List AV → Sto → Res AV} {Ek : XK} {dvs : List AV} {dcs : List V} (hd : ∀ w, RelL W w dvs dcs) (ha : DA W (fun _ => Ek) tr fr) : DE W (fun _ => Ek) (tCall (spF W n F) dcs Ek tr) (aCall n F dvs fr) := fun w s σ σc Q S R h => by
  refine ha w s σ σc _ S R ((post_bind_ok h).mono (fun xs s1 h1 w1 vs e1 S1 r1 => ?_) fun _ _ _ _ z => z)
  split at h1
  · rename_i hl
    exact ⟨w1, s1, _, rfl, S1, r1.append (hd w1), hl, post_mono e1 h1⟩
  · exact (show False from h1).elim
end
section
variable {W : Wl} {E : L2.St → XK} {ta : TE} {fa : AE} {t : TT} {ft : AT} {tr : TA} {fr : AA} {t1 t2 : TS} {f1 f2 : AS} {tg : TG} {g : AV → AS} {tgs : TGs} {gs : List AV → AS}
theorem DS.next : DS W E tNext aNext := fun w s σ σc D S R h => h w σc (.refl w) S R
theorem DS.brk : DS W E tBreak aBreak := fun w s σ σc D S R h => h w σc (.refl w) S R
theorem DS.cnt : DS W E tCont aCont := fun w s σ σc D S R h => h w σc (.refl w) S R
theorem DS.seq (h1 : DS W E t1 f1) (h2 : DS W E t2 f2) : DS W E (tSeq t1 t2) (aSeq f1 f2) := fun w s σ σc D S R h => by
  refine h1 w s σ σc { D with nx := t2 D } S R ?_
  unfold aSeq at h
  cases e : f1 σ s with
  | nx σ' s' =>
    rw [e] at h
    exact fun w' σc' e' S' R' => h2 w' s' σ' σc' D S' R' (P.mono e' h)
  | rt v s' => rw [e] at h; exact h
  | bk σ' s' => rw [e] at h; exact h
  | ct σ' s' => rw [e] at h; exact h
  | err c ns vs σ' s' => rw [e] at h; exact h
  | stuck => rw [e] at h; exact h
/-- from an expression's end to a statement's -/
theorem exp_post {α : Type} {r : Res α} {w : Wd} {σ : ASt} {σc : L2.St} {D : Ends} {k : α → Sto → SRes} (R : RSt W w σ σc) (h : (r.st σ k).P W w D E) : r.Post (fun v s1 => (k v s1).P W w D E) (ErrP W w (E σc)) := by
  cases r with
  | ok v s1 => exact h
  | err c ns vs s1 => exact fun w' d e' S' x => h w' σc d e' S' (R.mono e') x
  | stuck => exact h
theorem DS.drop (ha : DE W E ta fa) : DS W E (tDrop ta) (aDrop fa) := fun w s σ σc D S R h => by
  refine ha w s σ σc _ S R ((exp_post R h).mono (fun v s1 h1 w1 vc e1 S1 r1 => h1 w1 σc e1 S1 (R.mono e1)) fun _ _ _ _ z => z)
theorem DS.ret (ha : DE W E ta fa) : DS W E (tRet ta) (aRet fa) := fun w s σ σc D S R h => by
  refine ha w s σ σc _ S R ((exp_post R h).mono (fun v s1 h1 w1 vc e1 S1 r1 => h1 w1 vc e1 S1 r1) fun _ _ _ _ z => z)
theorem DS.ifs (ht : DT W E t ft) (h1 : DS W E t1 f1) (h2 : DS W E t2 f2) : DS W E (tIfS t t1 t2) (aIfS ft f1 f2) := fun w s σ σc D S R h => by
  refine ht w s σ σc _ S R ((exp_post R h).mono (fun b s1 hb w1 e1 S1 => ?_) fun _ _ _ _ z => z)
  cases b with
  | true => exact iteT (h1 w1 s1 σ σc D S1 (R.mono e1) (P.mono e1 (by simpa using hb)))
  | false => exact iteF (h2 w1 s1 σ σc D S1 (R.mono e1) (P.mono e1 (by simpa using hb)))
/-- a target ends by going on -/
def Goes (g : AV → AS) : Prop := ∀ x σ s, (∃ σ' s', g x σ s = .nx σ' s') ∨ g x σ s = .stuck
def GoesL (g : List AV → AS) : Prop := ∀ x σ s, (∃ σ' s', g x σ s = .nx σ' s') ∨ g x σ s = .stuck
theorem goes_P {r : SRes} {w : Wd} {D : Ends} (g : (∃ σ' s', r = .nx σ' s') ∨ r = .stuck) (h : r.P W w D E) : r.P W w ⟨D.nx, fun _ _ => False, fun _ _ => False, fun _ _ => False⟩ (fun _ _ _ _ => False) := by
  rcases g with ⟨σ', s', rfl⟩ | rfl
  · exact h
  · exact h
theorem DS.asg (ha : DE W E ta fa) (hg : DG W tg g) (hn : Goes g) : DS W E (tAsg ta tg) (aAsg fa g) := fun w s σ σc D S R h => by
  refine ha w s σ σc _ S R ((exp_post R h).mono (fun v s1 h1 w1 vc e1 S1 r1 => ?_) fun _ _ _ _ z => z)
  exact hg w1 s1 σ σc v vc _ S1 (R.mono e1) r1 (goes_P (hn _ _ _) (P.mono e1 h1))
theorem DG.name {i : Nat} : DG W (gName i) (agName i) := fun w s σ σc x v Q S R r h => h w _ (.refl w) S (R.set (x := some x) (v := some v) r i)
theorem Goes.name {i : Nat} : Goes (agName i) := fun x σ s => .inl ⟨_, _, rfl⟩
theorem DGs.nil : DGs W gNil agNil := fun w s σ σc x v Q S R r h => by
  cases r with
  | nil => exact ⟨rfl, h w σc (.refl w) S R⟩
  | cons => exact (show False from h).elim
theorem GoesL.nil : GoesL agNil := fun x σ s => by
  cases x with
  | nil => exact .inl ⟨_, _, rfl⟩
  | cons => exact .inr rfl
theorem DGs.cons (hg : DG W tg g) (hs : DGs W tgs gs) : DGs W (gCons tg tgs) (agCons g gs) := fun w s σ σc x v Q S R r h => by
  cases r with
  | nil => exact (show False from h).elim
  | @cons x v xs vs h1 h2 =>
    refine ⟨v, vs, rfl, hg w s σ σc x v _ S R h1 ?_⟩
    have h : (aSeq (g x) (gs xs) σ s).P W w _ _ := h
    unfold aSeq at h
    cases e : g x σ s with
    | nx σ' s' =>
      rw [e] at h
      exact fun w' σc' e' S' R' => hs w' s' σ' σc' xs vs Q S' R' (h2.mono e') (P.mono e' h)
    | rt v s' => rw [e] at h; exact h
    | bk σ' s' => rw [e] at h; exact h
    | ct σ' s' => rw [e] at h; exact h
    | err c ns vs σ' s' => rw [e] at h; exact h
    | stuck => rw [e] at h; exact h
theorem GoesL.cons (h1 : Goes g) (h2 : GoesL gs) : GoesL (agCons g gs) := fun x σ s => by
  cases x with
  | nil => exact .inr rfl
  | cons x xs =>
    show (∃ σ' s', (g x σ s).thn (gs xs) = .nx σ' s') ∨ (g x σ s).thn (gs xs) = .stuck
    rcases h1 x σ s with ⟨σ', s', e⟩ | e
    · rw [e]; exact h2 xs σ' s'
    · rw [e]; exact .inr rfl
theorem DG.tup {n : Nat} (hs : DGs W tgs gs) : DG W (gTup W.K n tgs) (agTup n gs) := fun w s σ σc x v Q S R r h => by
  cases r with
  | @tup a xs vs h1 h2 =>
    have h : (if xs.length = n then gs xs σ s else .stuck : SRes).P W w _ _ := h
    split at h
    · rename_i hl
      exact ⟨a, vs, rfl, h1, by rw [← h2.length]; exact hl, hs w s σ σc xs vs Q S R h2 h⟩
    · exact h.elim
  | _ => exact (show False from h).elim
theorem Goes.tup {n : Nat} (h : GoesL gs) : Goes (agTup n gs) := fun x σ s => by
  cases x with
  | tup xs =>
    show (∃ σ' s', (if xs.length = n then gs xs σ s else .stuck : SRes) = .nx σ' s') ∨ _
    by_cases e : xs.length = n
    · rw [if_pos e]
      rcases h xs σ s with h | h
      · exact .inl h
      · exact .inr (by show (if xs.length = n then gs xs σ s else .stuck : SRes) = _; rw [if_pos e]; exact h)
    · exact .inr (if_neg e)
  | _ => exact .inr rfl
theorem DS.par {i j : Nat} (ha : DA W E tr fr) : DS W E (tPar i j tr) (aPar i j fr) := fun w s σ σc D S R h => by
  refine ha w s σ σc _ S R ((exp_post R h).mono (fun xs s1 h1 w1 vs e1 S1 r1 => ?_) fun _ _ _ _ z => z)
  match xs, vs, r1, h1 with
  | [x, y], [v, u], .cons a (.cons b .nil), h => exact ⟨_, _, rfl, h w1 _ e1 S1 (((R.mono e1).set (x := some x) (v := some v) a i).set (x := some y) (v := some u) b j)⟩
theorem DS.par3 {i j l : Nat} (ha : DA W E tr fr) : DS W E (tPar3 i j l tr) (aPar3 i j l fr) := fun w s σ σc D S R h => by
  refine ha w s σ σc _ S R ((exp_post R h).mono (fun xs s1 h1 w1 vs e1 S1 r1 => ?_) fun _ _ _ _ z => z)
  match xs, vs, r1, h1 with
  | [x, y, z], [v, u, q], .cons a (.cons b (.cons c .nil)), h => exact ⟨_, _, _, rfl, h w1 _ e1 S1 ((((R.mono e1).set (x := some x) (v := some v) a i).set (x := some y) (v := some u) b j).set (x := some z) (v := some q) c l)⟩
theorem DS.never {f : AS} (h : ∀ σ s, f σ s = .stuck) : DS W E tNever f := fun w s σ σc D S R z => by rw [h] at z; exact z.elim
/-- a def's body keeps the def's promise -/
theorem RSt.start {w : Wd} : ∀ {xs : List AV} {vs : List V} {k : Nat}, RelL W w xs vs → RSt W w (xs.map some ++ List.replicate k none) (vs.map some ++ List.replicate k none)
  | _, _, 0, .nil => .nil
  | _, _, k + 1, .nil => .cons trivial (RSt.start (k := k) .nil)
  | _, _, _, .cons h r => .cons h (RSt.start r)
theorem DS.dfn {k n : Nat} {N : List Str} {f : AS} {ts : TS} {H : Hp} {vs : List V} {Q : VK} {Ek : XK} (h : spF W n (aDef k f) vs H Q Ek) (hk : n + k = N.length) (hs : DS W (fun _ => Ek) ts f) : ts { nx := fun _ H' => Q .non H', rt := Q } (L2.start N vs) H := by
  obtain ⟨w, s, args, rfl, S, R, hn, p⟩ := h
  have hv := R.length
  have e : L2.start N vs = vs.map some ++ List.replicate k none := by
    unfold L2.start
    rw [show N.length - vs.length = k from by omega]
  rw [e]
  refine hs w s _ _ _ S (RSt.start R) ?_
  have p : (f (args.map some ++ List.replicate k none) s).fn.Post _ _ := p
  cases e : f (args.map some ++ List.replicate k none) s with
  | nx σ' s' =>
    rw [e] at p
    exact fun w' σc' e' S' R' => p w' _ e' S' .non
  | rt v s' => rw [e] at p; exact p
  | bk σ' s' => rw [e] at p; exact p.elim
  | ct σ' s' => rw [e] at p; exact p.elim
  | err c ns vs σ' s' =>
    rw [e] at p
    exact fun w' σc' d e' S' R' x => p w' d e' S' x
  | stuck => rw [e] at p; exact p
theorem spF.len {n : Nat} {F : List AV → Sto → Res AV} {vs : List V} {H : Hp} {Q : VK} {Ek : XK} (h : spF W n F vs H Q Ek) : vs.length = n := by
  obtain ⟨w, s, args, rfl, S, R, hn, p⟩ := h
  rw [← R.length]; exact hn
end
end Ab
set_option Elab.async false
set_option linter.all false
set_option maxRecDepth 100000
set_option maxHeartbeats 1000000
namespace Ab
open PySem PySem.Spec PyProof.Rows L2
open Classical
noncomputable section
/-- no error comes of it -/
def NE2 (g : AV → AV → Sto → Res AV) : Prop := ∀ x y s c ns vs s', g x y s ≠ .err c ns vs s'
def NEL (g : List AV → Sto → Res AV) : Prop := ∀ x s c ns vs s', g x s ≠ .err c ns vs s'
section
variable {W : Wl} {w : Wd} {s : Sto}
theorem obj_at {i : Nat} {v : V} (r : Rel W w (.obj i) v) : i < w.n ∧ v = .ref (w.m i) := by
  cases r with
  | obj h => exact ⟨h, rfl⟩
theorem cell_at {i : Nat} {v : V} {x : Cell} (S : Sim W w s) (r : Rel W w (.obj i) v) (e : s.c i = x) : ∃ o, i < s.n ∧ v = .ref (w.m i) ∧ w.H (w.m i) = some o ∧ CRel W w x o := by
  obtain ⟨h, rfl⟩ := obj_at r
  have h : i < s.n := S.n ▸ h
  obtain ⟨o, h1, h2⟩ := S.cell i h
  rw [e] at h2
  exact ⟨o, h, rfl, h1, h2⟩
/-- the items of a list -/
def lstOf (s : Sto) : AV → Option (List AV)
  | .scr xs => some xs
  | .obj i => match s.c i with | .lst xs => some xs | _ => none
  | _ => none
theorem lst_at {x : AV} {v : V} {xs : List AV} (S : Sim W w s) (r : Rel W w x v) (h : lstOf s x = some xs) : ∃ a vs, v = .ref a ∧ SqL W.K w.H a vs ∧ RelL W w xs vs := by
  cases r with
  | scr h1 h2 =>
    cases h
    exact ⟨_, _, rfl, h1.sql, h2⟩
  | @obj i hi =>
    unfold lstOf at h
    simp only at h
    split at h
    · rename_i xs' e
      cases h
      obtain ⟨o, h1, h2, h3, h4⟩ := cell_at S (.obj hi) e
      cases h4 with
      | lst r => exact ⟨_, _, rfl, .inl (.inl h3), r⟩
    · cases h
  | _ => cases h
theorem lstO_at {i : Nat} {v : V} {xs : List AV} (S : Sim W w s) (r : Rel W w (.obj i) v) (h : s.c i = .lst xs) : ∃ vs, i < s.n ∧ v = .ref (w.m i) ∧ w.H (w.m i) = some (.lst vs) ∧ RelL W w xs vs := by
  obtain ⟨o, h1, h2, h3, h4⟩ := cell_at S r h
  cases h4 with
  | lst r => exact ⟨_, h1, h2, h3, r⟩
theorem newT {xs : List AV} {vs : List V} {Q : VK} (S : Sim W w s) (r : RelL W w xs vs) (h : OkP W w Q (.tup xs) s) : ∀ p, w.H p = none → Q (.ref p) (upd w.H p (.tup vs)) := fun p hp => by
  have g := grow_upd (o := .tup vs) hp
  exact h _ _ (.grow g) (S.grow g) (.tup (.inl (.inl upd_same)) (r.mono (.grow g)))
theorem wr_ok {i : Nat} {x : Cell} {o : HO} {G : Hp → Prop} (S : Sim W w s) (hi : i < s.n) (r : CRel W w x o) (h : ∀ w', Ext w w' → Sim W w' (s.set i x) → G w'.H) : G (upd w.H (w.m i) o) := h _ (.wr S hi) (S.wr hi r)
end
theorem OpR.or {X : Cx} {f : Value → Value → Sem Value} {r1 r2 : R2} (h1 : OpR X f r1) (h2 : OpR X f r2) : OpR X f (fun x y H Q => r1 x y H Q ∨ r2 x y H Q) := fun pins s σ H x y v u Q I rx ry h => h.elim (h1 pins s σ H x y v u Q I rx ry) (h2 pins s σ H x y v u Q I rx ry)
theorem CallR.or {X : Cx} {f : Value} {r1 r2 : List V → Hp → VK → Prop} (h1 : CallR X f r1) (h2 : CallR X f r2) : CallR X f (fun xs H Q => r1 xs H Q ∨ r2 xs H Q) := fun pins s σ H xs us Q I r h => h.elim (h1 pins s σ H xs us Q I r) (h2 pins s σ H xs us Q I r)
theorem IxR.or {X : Cx} {r1 r2 : R2} (h1 : IxR X r1) (h2 : IxR X r2) : IxR X (fun x y H Q => r1 x y H Q ∨ r2 x y H Q) := fun va sl pins s σ H x y v u Q I rx ry h z => Or.elim h (fun h => h1 va sl pins s σ H x y v u Q I rx ry h z) (fun h => h2 va sl pins s σ H x y v u Q I rx ry h z)
theorem SlR.or {X : Cx} {r1 r2 : V → Option Int → Option Int → Hp → VK → Prop} (h1 : SlR X r1) (h2 : SlR X r2) : SlR X (fun x l u H Q => r1 x l u H Q ∨ r2 x l u H Q) := fun pins s σ H x v vl vu lo hi sl Q I rx hs pl pu h => h.elim (h1 pins s σ H x v vl vu lo hi sl Q I rx hs pl pu) (h2 pins s σ H x v vl vu lo hi sl Q I rx hs pl pu)
def gI (C : Int → Int → Prop) (g : Int → Int → AV) : AV → AV → Sto → Res AV := fun x y s => match x, y with | .int i, .int j => if C i j then .ok (g i j) s else .stuck | _, _ => .stuck
def gI0 (g : Int → Int → AV) : AV → AV → Sto → Res AV := fun x y s => match x, y with | .int i, .int j => .ok (g i j) s | _, _ => .stuck
@[simp] theorem gI0_int {g : Int → Int → AV} {i j : Int} {s : Sto} : gI0 g (.int i) (.int j) s = .ok (g i j) s := rfl
theorem NE2.i {C : Int → Int → Prop} {g : Int → Int → AV} : NE2 (gI C g) := fun x y s c ns vs s' h => by 
  unfold gI at h
  repeat' split at h
  all_goals first | cases h | (unfold newL at h; cases h)
theorem NE2.i0 {g : Int → Int → AV} : NE2 (gI0 g) := fun x y s c ns vs s' h => by 
  unfold gI0 at h
  repeat' split at h
  all_goals first | cases h | (unfold newL at h; cases h)
theorem DR.i {W : Wl} {C : Int → Int → Prop} {g : Int → Int → AV} {gc : Int → Int → V} (r : ∀ w i j, Rel W w (g i j) (gc i j)) : DR W (rI C gc) (gI C g) := fun w s x y v u Q S rx ry h => by
  cases rx with
  | int i =>
    cases ry with
    | int j =>
      have h : (if C i j then .ok (g i j) s else .stuck : Res AV).Post _ _ := h
      split at h
      · rename_i hc
        exact ⟨i, j, rfl, rfl, hc, h w _ (.refl w) S (r w i j)⟩
      · exact h.elim
    | _ => exact h.elim
  | _ => exact h.elim
theorem DR.i0 {W : Wl} {g : Int → Int → AV} {gc : Int → Int → V} (r : ∀ w i j, Rel W w (g i j) (gc i j)) : DR W (rI0 gc) (gI0 g) := fun w s x y v u Q S rx ry h => by
  cases rx with
  | int i =>
    cases ry with
    | int j => exact ⟨i, j, rfl, rfl, h w _ (.refl w) S (r w i j)⟩
    | _ => exact h.elim
  | _ => exact h.elim
def gMinus := gI0 fun i j => .int (i - j)
def gMod := gI (fun _ j => 0 < j) fun i j => .int (i % j)
def gFdiv := gI CDivW fun i j => .int (i / j)
def gPow := gI CPow fun i j => .int (i ^ j.toNat)
def gXor := gI0 fun i j => .int (Builtin.bitXor i j)
def gOr := gI0 fun i j => .int (Builtin.bitOr i j)
def gAnd := gI0 fun i j => .int (Builtin.bitAnd i j)
def gShl := gI CShl fun i j => .int (i * 2 ^ j.toNat)
def gShr := gI (fun _ j => 0 ≤ j) fun i j => .int (i / 2 ^ j.toNat)
def gLt := gI0 fun i j => .bl (decide (i < j))
def gLe := gI0 fun i j => .bl (decide (i ≤ j))
def gGt := gI0 fun i j => .bl (decide (j < i))
def gGe := gI0 fun i j => .bl (decide (j ≤ i))
section
variable {i j : Int} {s : Sto}
@[simp] theorem gMinus_int : gMinus (.int i) (.int j) s = .ok (.int (i - j)) s := rfl
theorem gMod_int (h : 0 < j) : gMod (.int i) (.int j) s = .ok (.int (i % j)) s := if_pos h
theorem gFdiv_int (h : CDivW i j) : gFdiv (.int i) (.int j) s = .ok (.int (i / j)) s := if_pos h
theorem gPow_int (h : CPow i j) : gPow (.int i) (.int j) s = .ok (.int (i ^ j.toNat)) s := if_pos h
@[simp] theorem gXor_int : gXor (.int i) (.int j) s = .ok (.int (Builtin.bitXor i j)) s := rfl
@[simp] theorem gOr_int : gOr (.int i) (.int j) s = .ok (.int (Builtin.bitOr i j)) s := rfl
@[simp] theorem gAnd_int : gAnd (.int i) (.int j) s = .ok (.int (Builtin.bitAnd i j)) s := rfl
theorem gShl_int (h : CShl i j) : gShl (.int i) (.int j) s = .ok (.int (i * 2 ^ j.toNat)) s := if_pos h
theorem gShr_int (h : 0 ≤ j) : gShr (.int i) (.int j) s = .ok (.int (i / 2 ^ j.toNat)) s := if_pos h
@[simp] theorem gLt_int : gLt (.int i) (.int j) s = .ok (.bl (decide (i < j))) s := rfl
@[simp] theorem gLe_int : gLe (.int i) (.int j) s = .ok (.bl (decide (i ≤ j))) s := rfl
@[simp] theorem gGt_int : gGt (.int i) (.int j) s = .ok (.bl (decide (j < i))) s := rfl
@[simp] theorem gGe_int : gGe (.int i) (.int j) s = .ok (.bl (decide (j ≤ i))) s := rfl
end
def gNeg : AV → Sto → Res AV := fun x s => match x with | .int i => .ok (.int (-i)) s | _ => .stuck
@[simp] theorem gNeg_int {i : Int} {s : Sto} : gNeg (.int i) s = .ok (.int (-i)) s := rfl
def rAddU (K : PySem.W.Frag) : R2 := fun x y H Q => rI0 (fun i j => V.int (i + j)) x y H Q ∨ (∃ i j, x = .str i ∧ y = .str j ∧ i.length + j.length ≤ sizeLine ∧ Q (.str (i ++ j)) H) ∨ rCatA K x y H Q ∨ rCat x y H Q
theorem op_addU {X : Cx} : OpR X (binaryOp .Add) (rAddU X.K) := OpR.or op_add (OpR.or op_add_str (OpR.or op_catA op_cat))
def gAdd : AV → AV → Sto → Res AV := fun x y s => match x, y with
  | .int i, .int j => .ok (.int (i + j)) s
  | .str a, .str b => if a.length + b.length ≤ sizeLine then .ok (.str (a ++ b)) s else .stuck
  | .tup a, .tup b => if a.length + b.length ≤ sizeLine then .ok (.tup (a ++ b)) s else .stuck
  | .obj i, .obj j => match s.c i, s.c j with | .lst a, .lst b => if a.length + b.length ≤ sizeLine then newL (a ++ b) s else .stuck | _, _ => .stuck
  | _, _ => .stuck
@[simp] theorem gAdd_int {i j : Int} {s : Sto} : gAdd (.int i) (.int j) s = .ok (.int (i + j)) s := rfl
theorem gAdd_tup {a b : List AV} {s : Sto} (h : a.length + b.length ≤ sizeLine) : gAdd (.tup a) (.tup b) s = .ok (.tup (a ++ b)) s := if_pos h
theorem NE2.add : NE2 gAdd := fun x y s c ns vs s' h => by 
  unfold gAdd at h
  repeat' split at h
  all_goals first | cases h | (unfold newL at h; cases h)
theorem DR.add {W : Wl} : DR W (rAddU W.K) gAdd := fun w s x y v u Q S rx ry h => by
  unfold gAdd at h
  split at h
  · cases rx; cases ry
    exact .inl ⟨_, _, rfl, rfl, h w _ (.refl w) S (.int _)⟩
  · split at h
    · rename_i hl
      cases rx; cases ry
      exact .inr (.inl ⟨_, _, rfl, rfl, hl, h w _ (.refl w) S (.str _)⟩)
    · exact h.elim
  · split at h
    · rename_i hl
      cases rx with
      | @tup a xs vs h1 r1 =>
        cases ry with
        | @tup b ys us h2 r2 =>
          have e1 := r1.length
          have e2 := r2.length
          refine .inr (.inr (.inl ⟨a, b, vs, us, rfl, rfl, h1, h2, by rw [← e1, ← e2]; exact hl, fun z => ?_, fun _ z => ?_, fun _ _ => newT S (r1.append r2) h⟩))
          · subst z
            cases r1
            exact h w _ (.refl w) S (.tup h2 r2)
          · subst z
            cases r2
            refine h w _ (.refl w) S ?_
            rw [List.append_nil]
            exact .tup h1 r1
    · exact h.elim
  · split at h
    · rename_i i j a b e1 e2
      split at h
      · rename_i hl
        obtain ⟨vs, i1, i2, i3, i4⟩ := lstO_at S rx e1
        obtain ⟨us, j1, j2, j3, j4⟩ := lstO_at S ry e2
        exact .inr (.inr (.inr ⟨_, _, vs, us, i2, j2, i3, j3, by rw [← i4.length, ← j4.length]; exact hl, newL_ok S (i4.append j4) h⟩))
      · exact h.elim
    · exact h.elim
  · exact h.elim
def rMulU : R2 := fun x y H Q => rI CMulX (fun i j => V.int (i * j)) x y H Q ∨ rRep x y H Q ∨ Gx.rMulS x y H Q
theorem op_mulU {X : Cx} : OpR X (binaryOp .Mult) rMulU := OpR.or op_mulX (OpR.or op_rep Gx.op_mulS)
def gMul : AV → AV → Sto → Res AV := fun x y s => match x, y with
  | .int i, .int j => if CMulX i j then .ok (.int (i * j)) s else .stuck
  | .str a, .int k => if PySem.MulOk a k then .ok (.str (Txt.mul a k)) s else .stuck
  | .obj i, .int k => match s.c i with | .lst a => if -(2 ^ 63) ≤ k ∧ k < 2 ^ 63 ∧ a.length * k.toNat ≤ sizeLine then newL (List.replicate k.toNat a).flatten s else .stuck | _ => .stuck
  | _, _ => .stuck
theorem gMul_int {i j : Int} {s : Sto} (h : CMulX i j) : gMul (.int i) (.int j) s = .ok (.int (i * j)) s := if_pos h
theorem NE2.mul : NE2 gMul := fun x y s c ns vs s' h => by 
  unfold gMul at h
  repeat' split at h
  all_goals first | cases h | (unfold newL at h; cases h)
theorem RelL.rep {W : Wl} {w : Wd} {xs : List AV} {vs : List V} (r : RelL W w xs vs) : ∀ k : Nat, RelL W w (List.replicate k xs).flatten (List.replicate k vs).flatten
  | 0 => .nil
  | k + 1 => by
    rw [List.replicate_succ, List.replicate_succ, List.flatten_cons, List.flatten_cons]
    exact r.append (RelL.rep r k)
theorem DR.mul {W : Wl} : DR W rMulU gMul := fun w s x y v u Q S rx ry h => by
  unfold gMul at h
  split at h
  · split at h
    · rename_i hl
      cases rx; cases ry
      exact .inl ⟨_, _, rfl, rfl, hl, h w _ (.refl w) S (.int _)⟩
    · exact h.elim
  · split at h
    · rename_i hl
      cases rx; cases ry
      exact .inr (.inr ⟨_, _, rfl, rfl, hl, h w _ (.refl w) S (.str _)⟩)
    · exact h.elim
  · split at h
    · rename_i i k a e
      split at h
      · rename_i hl
        obtain ⟨vs, i1, i2, i3, i4⟩ := lstO_at S rx e
        cases ry
        exact .inr (.inl ⟨_, _, vs, i2, rfl, i3, hl.1, hl.2.1, by rw [← i4.length]; exact hl.2.2, newL_ok S (i4.rep _) h⟩)
      · exact h.elim
    · exact h.elim
  · exact h.elim
def isNon : AV → Bool
  | .non => true
  | _ => false
theorem isNon_rel {W : Wl} {w : Wd} {x : AV} {v : V} (r : Rel W w x v) : isNon x = decide (v = .non) := by
  cases r <;> simp [isNon]
def gIsN : AV → AV → Sto → Res AV := fun x y s => match y with | .non => .ok (.bl (isNon x)) s | _ => .stuck
def gNotN : AV → AV → Sto → Res AV := fun x y s => match y with | .non => .ok (.bl (!isNon x)) s | _ => .stuck
@[simp] theorem gIsN_non {x : AV} {s : Sto} : gIsN x .non s = .ok (.bl (isNon x)) s := rfl
@[simp] theorem gNotN_non {x : AV} {s : Sto} : gNotN x .non s = .ok (.bl (!isNon x)) s := rfl
theorem NE2.isN : NE2 gIsN := fun x y s c ns vs s' h => by 
  unfold gIsN at h
  repeat' split at h
  all_goals first | cases h | (unfold newL at h; cases h)
theorem DR.isN {W : Wl} : DR W (fun x y H Q => y = .non ∧ Q (.bl (decide (x = .non))) H) gIsN := fun w s x y v u Q S rx ry h => by
  cases ry with
  | non => exact ⟨rfl, h w _ (.refl w) S (by rw [isNon_rel rx]; exact .bl _)⟩
  | _ => exact h.elim
def gIsB : AV → AV → Sto → Res AV := fun x y s => match x, y with | .bl a, .bl b => .ok (.bl (a == b)) s | _, _ => .stuck
def gNotB : AV → AV → Sto → Res AV := fun x y s => match x, y with | .bl a, .bl b => .ok (.bl (!(a == b))) s | _, _ => .stuck
@[simp] theorem gIsB_bl {a b : Bool} {s : Sto} : gIsB (.bl a) (.bl b) s = .ok (.bl (a == b)) s := rfl
@[simp] theorem gNotB_bl {a b : Bool} {s : Sto} : gNotB (.bl a) (.bl b) s = .ok (.bl (!(a == b))) s := rfl
theorem NE2.notB : NE2 gNotB := fun x y s c ns vs s' h => by 
  unfold gNotB at h
  repeat' split at h
  all_goals first | cases h | (unfold newL at h; cases h)
theorem beq_dec (a b : Bool) : (a == b) = decide (a = b) := by cases a <;> cases b <;> rfl
theorem DR.notB {W : Wl} : DR W rNotB gNotB := fun w s x y v u Q S rx ry h => by
  cases rx with
  | bl a =>
    cases ry with
    | bl b => exact ⟨a, b, rfl, rfl, by rw [← beq_dec]; exact h w _ (.refl w) S (.bl _)⟩
    | _ => exact h.elim
  | _ => exact h.elim
def optL (f : AV → Option PyData) : List AV → Option (List PyData)
  | [] => some []
  | x :: xs => match f x, optL f xs with | some d, some ds => some (d :: ds) | _, _ => none
def dat : Nat → Sto → AV → Option PyData
  | 0, _, _ => none
  | n + 1, s, x => match x with
    | .non => some .none
    | .bl b => some (.bool b)
    | .int i => some (.int i)
    | .str z => some (.str z)
    | .tup xs => (optL (dat n s) xs).map .tuple
    | .scr xs => (optL (dat n s) xs).map .list
    | .obj i => match s.c i with | .lst xs => (optL (dat n s) xs).map .list | _ => none
    | _ => none
section
variable {W : Wl} {w : Wd} {s : Sto}
theorem optL_dp {n : Nat} (ih : ∀ (x : AV) (v : V) (d : PyData), Rel W w x v → dat n s x = some d → Dp W.K w.H v d) : ∀ {xs : List AV} {vs : List V} {ds : List PyData}, RelL W w xs vs → optL (dat n s) xs = some ds → DpAll W.K w.H vs ds
  | _, _, _, .nil, e => by
    cases e
    exact .nil
  | _, _, _, .cons h r, e => by
    unfold optL at e
    split at e
    · rename_i d ds e1 e2
      cases e
      exact .cons (ih _ _ _ h e1) (optL_dp ih r e2)
    · cases e
theorem dat_dp (S : Sim W w s) : ∀ (n : Nat) (x : AV) (v : V) (d : PyData), Rel W w x v → dat n s x = some d → Dp W.K w.H v d
  | 0, _, _, _, _, e => by cases e
  | n + 1, x, v, d, r, e => by
    unfold dat at e
    cases r with
    | non => cases e; exact .non
    | bl b => cases e; exact .bl b
    | int i => cases e; exact .int i
    | str z => cases e; exact .str z
    | ty n => cases e
    | cls c => cases e
    | raw a => cases e
    | @obj i hi =>
      simp only at e
      split at e
      · rename_i xs e1
        obtain ⟨ds, e2, rfl⟩ := Option.map_eq_some_iff.mp e
        obtain ⟨vs, _, h2, h3, h4⟩ := lstO_at S (.obj hi) e1
        exact .lst (.inl (.inl h3)) (optL_dp (dat_dp S n) h4 e2)
      · cases e
    | tup h r =>
      obtain ⟨ds, e2, rfl⟩ := Option.map_eq_some_iff.mp e
      exact .tup h (optL_dp (dat_dp S n) r e2)
    | scr h r =>
      obtain ⟨ds, e2, rfl⟩ := Option.map_eq_some_iff.mp e
      exact .lst h.sql (optL_dp (dat_dp S n) r e2)
    | exn => cases e
end
def scalA : AV → AV → Bool
  | .non, .non => true | .non, .int _ => true | .int _, .non => true | .non, .bl _ => true | .bl _, .non => true | .non, .str _ => true | .str _, .non => true
  | .int _, .int _ => true | .bl _, .bl _ => true | .str _, .str _ => true
  | .int _, .str _ => true | .str _, .int _ => true | .bl _, .str _ => true | .str _, .bl _ => true
  | _, _ => false
def eqA : AV → AV → Bool
  | .non, .non => true
  | .bl a, .bl b => a == b
  | .bl a, .int b => (if a then 1 else 0) == b
  | .int a, .bl b => a == (if b then 1 else 0)
  | .int a, .int b => a == b
  | .str a, .str b => a == b
  | _, _ => false
theorem scalA_rel {W : Wl} {w : Wd} {x y : AV} {v u : V} (rx : Rel W w x v) (ry : Rel W w y u) (h : scalA x y = true) : scal v u = true ∧ eqA x y = decide (v = u) := by
  cases rx <;> cases ry <;> first | (exact absurd h (by decide)) | (cases h; done) | (refine ⟨rfl, ?_⟩; simp [eqA, beq_dec]; try rfl)
def rEqU (K : PySem.W.Frag) : R2 := fun x y H Q => rEq x y H Q ∨ Sm.rEqS K x y H Q
def rNeU (K : PySem.W.Frag) : R2 := fun x y H Q => rNe x y H Q ∨ Sm.rNeS K x y H Q
theorem op_eqU {X : Cx} (hu : X.A.units + 64 < cLine) : OpR X (compareOp .Eq) (rEqU X.K) := OpR.or op_eq (Sm.op_eqS hu)
theorem op_neU {X : Cx} (hu : X.A.units + 64 < cLine) : OpR X (compareOp .NotEq) (rNeU X.K) := OpR.or op_ne (Sm.op_neS hu)
/-- things that are the very same -/
def smA : Nat → AV → Bool
  | _, .non => true
  | _, .bl _ => true
  | _, .int _ => true
  | _, .str _ => true
  | _, .obj _ => true
  | n + 1, .tup xs => xs.all (smA n)
  | _, _ => false
def isTup : AV → Bool
  | .tup _ => true
  | _ => false
section
variable {W : Wl} {w : Wd}
theorem sm_rel : ∀ (n : Nat) (x : AV) (v u : V), Rel W w x v → Rel W w x u → smA n x = true → Sm.Sm W.K w.H n v u := by
  intro n
  induction n with
  | zero =>
    intro x v u r1 r2 h
    cases r1 <;> cases r2 <;> first | exact .non | exact .bl _ | exact .int _ | exact .str _ | exact .ref _ | (cases h; done)
  | succ n ih =>
    intro x v u r1 r2 h
    cases r1 with
    | @tup a xs vs h1 q1 =>
      cases r2 with
      | @tup b _ us h2 q2 =>
        have h : xs.all (smA n) = true := h
        refine .tup h1 h2 (by rw [← q1.length, ← q2.length]) fun i x y hx hy => ?_
        obtain ⟨z, z1, z2⟩ := q1.getv i x hx
        obtain ⟨z', z3, z4⟩ := q2.getv i y hy
        rw [z1] at z3
        cases z3
        exact ih z x y z2 z4 (List.all_eq_true.mp h z (List.mem_of_getElem? z1))
    | _ => cases r2 <;> first | exact .non | exact .bl _ | exact .int _ | exact .str _ | exact .ref _ | (cases h; done)
theorem top_rel {x : AV} {v u : V} (r1 : Rel W w x v) (r2 : Rel W w x u) (h : smA 20 x = true) (ht : isTup x = true) : Sm.Top W.K w.H v u := by
  cases r1 with
  | @tup a xs vs h1 q1 =>
    cases r2 with
    | @tup b _ us h2 q2 =>
      have h : xs.all (smA 19) = true := h
      refine .tup h1 h2 (by rw [← q1.length, ← q2.length]) fun i x y hx hy => ?_
      obtain ⟨z, z1, z2⟩ := q1.getv i x hx
      obtain ⟨z', z3, z4⟩ := q2.getv i y hy
      rw [z1] at z3
      cases z3
      exact Sm.Sm.up (sm_rel 19 z x y z2 z4 (List.all_eq_true.mp h z (List.mem_of_getElem? z1)))
  | _ => cases ht
end
def eqB (x y : AV) (s : Sto) : Option Bool := if scalA x y = true then some (eqA x y) else match dat 12 s x, dat 12 s y with | some d, some e => if SeqAt.shaped d = true ∧ SeqAt.shaped e = true then some (PyData.eqv d e) else none | _, _ => if x = y ∧ smA 20 x = true ∧ isTup x = true then some true else none
def gEq : AV → AV → Sto → Res AV := fun x y s => match eqB x y s with | some b => .ok (.bl b) s | none => .stuck
def gNe : AV → AV → Sto → Res AV := fun x y s => match eqB x y s with | some b => .ok (.bl (!b)) s | none => .stuck
theorem gEq_b {x y : AV} {s : Sto} {b : Bool} (h : eqB x y s = some b) : gEq x y s = .ok (.bl b) s := by unfold gEq; simp only [h]
theorem gNe_b {x y : AV} {s : Sto} {b : Bool} (h : eqB x y s = some b) : gNe x y s = .ok (.bl (!b)) s := by unfold gNe; simp only [h]
theorem eqB_dat {x y : AV} {s : Sto} {d e : PyData} (h0 : scalA x y = false) (h1 : dat 12 s x = some d) (h2 : dat 12 s y = some e) (c1 : SeqAt.shaped d = true) (c2 : SeqAt.shaped e = true) : eqB x y s = some (PyData.eqv d e) := by
  unfold eqB; simp only [h0, h1, h2, c1, c2]; rfl
@[simp] theorem eqB_int {i j : Int} {s : Sto} : eqB (.int i) (.int j) s = some (decide (i = j)) := rfl
@[simp] theorem eqB_str {i j : Str} {s : Sto} : eqB (.str i) (.str j) s = some (decide (i = j)) := rfl
@[simp] theorem eqB_bl {i j : Bool} {s : Sto} : eqB (.bl i) (.bl j) s = some (decide (i = j)) := by
  rw [← beq_dec]; rfl
@[simp] theorem gEq_int {i j : Int} {s : Sto} : gEq (.int i) (.int j) s = .ok (.bl (decide (i = j))) s := gEq_b eqB_int
@[simp] theorem gNe_int {i j : Int} {s : Sto} : gNe (.int i) (.int j) s = .ok (.bl (!decide (i = j))) s := gNe_b eqB_int
@[simp] theorem gEq_str {i j : Str} {s : Sto} : gEq (.str i) (.str j) s = .ok (.bl (decide (i = j))) s := gEq_b eqB_str
@[simp] theorem gNe_str {i j : Str} {s : Sto} : gNe (.str i) (.str j) s = .ok (.bl (!decide (i = j))) s := gNe_b eqB_str
@[simp] theorem gEq_bl {i j : Bool} {s : Sto} : gEq (.bl i) (.bl j) s = .ok (.bl (decide (i = j))) s := gEq_b eqB_bl
@[simp] theorem gNe_bl {i j : Bool} {s : Sto} : gNe (.bl i) (.bl j) s = .ok (.bl (!decide (i = j))) s := gNe_b eqB_bl
theorem NE2.eq : NE2 gEq := fun x y s c ns vs s' h => by 
  unfold gEq at h
  repeat' split at h
  all_goals first | cases h | (unfold newL at h; cases h)
theorem NE2.ne : NE2 gNe := fun x y s c ns vs s' h => by 
  unfold gNe at h
  repeat' split at h
  all_goals first | cases h | (unfold newL at h; cases h)
theorem DR.eq {W : Wl} : DR W (rEqU W.K) gEq := fun w s x y v u Q S rx ry h => by
  unfold gEq at h
  split at h
  · rename_i b e
    unfold eqB at e
    split at e
    · rename_i hs
      obtain ⟨h1, h2⟩ := scalA_rel rx ry hs
      cases e
      refine .inl ⟨h1, ?_⟩
      rw [← h2]
      exact h w _ (.refl w) S (.bl _)
    · split at e
      · rename_i d e' h1 h2
        split at e
        · rename_i hc
          cases e
          exact .inr (.inl ⟨d, e', dat_dp S _ _ _ _ rx h1, dat_dp S _ _ _ _ ry h2, hc.1, hc.2, h w _ (.refl w) S (.bl _)⟩)
        · cases e
      · split at e
        · rename_i hc
          cases e
          obtain ⟨rfl, h1, h2⟩ := hc
          exact .inr (.inr ⟨top_rel rx ry h1 h2, h w _ (.refl w) S (.bl _)⟩)
        · cases e
  · exact h.elim
theorem DR.ne {W : Wl} : DR W (rNeU W.K) gNe := fun w s x y v u Q S rx ry h => by
  unfold gNe at h
  split at h
  · rename_i b e
    unfold eqB at e
    split at e
    · rename_i hs
      obtain ⟨h1, h2⟩ := scalA_rel rx ry hs
      cases e
      refine .inl ⟨h1, ?_⟩
      rw [← h2]
      exact h w _ (.refl w) S (.bl _)
    · split at e
      · rename_i d e' h1 h2
        split at e
        · rename_i hc
          cases e
          exact .inr (.inl ⟨d, e', dat_dp S _ _ _ _ rx h1, dat_dp S _ _ _ _ ry h2, hc.1, hc.2, h w _ (.refl w) S (.bl _)⟩)
        · cases e
      · split at e
        · rename_i hc
          cases e
          obtain ⟨rfl, h1, h2⟩ := hc
          exact .inr (.inr ⟨top_rel rx ry h1 h2, h w _ (.refl w) S (.bl _)⟩)
        · cases e
  · exact h.elim
def seqOf (s : Sto) (x : AV) : Option (List AV) := match x with | .tup xs => some xs | _ => lstOf s x
@[simp] theorem seqOf_tup {s : Sto} {xs : List AV} : seqOf s (.tup xs) = some xs := rfl
@[simp] theorem seqOf_scr {s : Sto} {xs : List AV} : seqOf s (.scr xs) = some xs := rfl
theorem seqOf_obj {s : Sto} {i : Nat} {xs : List AV} (e : s.c i = .lst xs) : seqOf s (.obj i) = some xs := by
  show lstOf s (.obj i) = _
  unfold lstOf; simp only [e]
theorem lstOf_obj {s : Sto} {i : Nat} {xs : List AV} (e : s.c i = .lst xs) : lstOf s (.obj i) = some xs := by
  unfold lstOf; simp only [e]
@[simp] theorem lstOf_scr {s : Sto} {xs : List AV} : lstOf s (.scr xs) = some xs := rfl
theorem seq_at {W : Wl} {w : Wd} {s : Sto} {x : AV} {v : V} {xs : List AV} (S : Sim W w s) (r : Rel W w x v) (h : seqOf s x = some xs) : ∃ a vs, v = .ref a ∧ (SqL W.K w.H a vs ∨ SqT W.K w.H a vs) ∧ RelL W w xs vs := by
  cases r with
  | @tup a xs' vs h1 r1 =>
    cases h
    exact ⟨a, vs, rfl, .inr h1, r1⟩
  | @obj i hi =>
    obtain ⟨a, vs, h1, h2, h3⟩ := lst_at (x := .obj i) S (.obj hi) h
    exact ⟨a, vs, h1, .inl h2, h3⟩
  | @scr a xs' vs h1 r1 =>
    cases h
    exact ⟨a, vs, rfl, .inl h1.sql, r1⟩
  | _ => cases h
def rIxU (K : PySem.W.Frag) : R2 := fun x y H Q => rIxL K x y H Q ∨ rIxT K x y H Q ∨ rIxS x y H Q
theorem ix_U {X : Cx} : IxR X (rIxU X.K) := IxR.or ix_list (IxR.or ix_tup ix_str)
def gIx : AV → AV → Sto → Res AV := fun x y s => match y with
  | .int i => match x with
    | .str z => if z.length ≤ sizeLine then (match atI z.cps.toList i with | some c => .ok (.str ⟨#[c]⟩) s | none => .stuck) else .stuck
    | _ => match seqOf s x with | some xs => (match atI xs i with | some v => .ok v s | none => .stuck) | none => .stuck
  | _ => .stuck
theorem gIx_seq {x : AV} {i : Int} {xs : List AV} {v : AV} {s : Sto} (e : seqOf s x = some xs) (h : atI xs i = some v) : gIx x (.int i) s = .ok v s := by
  unfold gIx
  cases x with
  | str => cases e
  | _ => simp only [e, h]
theorem NE2.ix : NE2 gIx := fun x y s c ns vs s' h => by 
  unfold gIx at h
  repeat' split at h
  all_goals first | cases h | (unfold newL at h; cases h)
theorem atI_rel {W : Wl} {w : Wd} {xs : List AV} {vs : List V} {i : Int} {x : AV} (r : RelL W w xs vs) (e : atI xs i = some x) : ∃ v, atI vs i = some v ∧ Rel W w x v := by
  unfold atI at e ⊢
  rw [← r.length]
  cases h : ixN xs.length i with
  | none => rw [h] at e; cases e
  | some j =>
    rw [h] at e
    exact r.get j x e
theorem DR.ix {W : Wl} : DR W (rIxU W.K) gIx := fun w s x y v u Q S rx ry h => by
  unfold gIx at h
  split at h
  · cases ry
    split at h
    · split at h
      · rename_i hl
        split at h
        · rename_i c e
          cases rx
          exact .inr (.inr ⟨_, _, c, rfl, rfl, hl, e, h w _ (.refl w) S (.str _)⟩)
        · exact h.elim
      · exact h.elim
    · split at h
      · rename_i xs e
        split at h
        · rename_i z e2
          obtain ⟨a, vs, h1, h2, h3⟩ := seq_at S rx e
          obtain ⟨zc, e3, rz⟩ := atI_rel h3 e2
          rcases h2 with h2 | h2
          · exact .inl ⟨a, vs, _, zc, h1, rfl, h2, e3, h w _ (.refl w) S rz⟩
          · exact .inr (.inl ⟨a, vs, _, zc, h1, rfl, h2, e3, h w _ (.refl w) S rz⟩)
        · exact h.elim
      · exact h.elim
  · exact h.elim
/-- a part of a slice -/
abbrev AO := ASt → Sto → Res (Option Int)
def aPart (fa : AE) : AO := fun σ s => (fa σ s).bind fun x s1 => match x with | .int i => .ok (some i) s1 | _ => .stuck
def aNoPart : AO := fun _ s => .ok none s
def OkO (w : Wd) (W : Wl) (Q : Option Int → Hp → Prop) (v : Option Int) (s : Sto) : Prop := ∀ w', Ext w w' → Sim W w' s → Q v w'.H
def DO (W : Wl) (E : L2.St → XK) (tl : TO) (f : AO) : Prop := ∀ (w : Wd) (s : Sto) (σ : ASt) (σc : L2.St) (Q : Option Int → Hp → Prop), Sim W w s → RSt W w σ σc → (f σ s).Post (OkO w W Q) (ErrP W w (E σc)) → tl σc w.H Q
section
variable {W : Wl} {E : L2.St → XK} {ta tb tc : TE} {fa fb fc : AE} {tl th : TO} {fl fh : AO}
theorem DO.no : DO W E tNoPart aNoPart := fun w s σ σc Q S R h => h w (.refl w) S
theorem DO.part (ha : DE W E ta fa) : DO W E (tPart ta) (aPart fa) := fun w s σ σc Q S R h => by
  refine ha w s σ σc _ S R ((post_bind_ok h).mono (fun x s1 h1 w1 v e1 S1 r1 => ?_) fun _ _ _ _ z => z)
  cases r1 with
  | int i => exact ⟨i, rfl, h1 w1 e1 S1⟩
  | _ => exact (show False from h1).elim
def rSlU (K : PySem.W.Frag) : V → Option Int → Option Int → Hp → VK → Prop := fun x l u H Q => rSlL K x l u H Q ∨ rSlA K x l u H Q
theorem sl_U {X : Cx} : SlR X (rSlU X.K) := SlR.or sl_list sl_tupA
def cutA (xs : List AV) (lo hi : Option Int) : List AV := (xs.drop (HT.sIx xs.length 0 lo)).take (HT.sIx xs.length xs.length hi - HT.sIx xs.length 0 lo)
def gSl (x : AV) (lo hi : Option Int) (s : Sto) : Res AV := match x with
  | .tup xs => .ok (.tup (cutA xs lo hi)) s
  | _ => match lstOf s x with | some xs => newL (cutA xs lo hi) s | none => .stuck
@[simp] theorem gSl_tup {xs : List AV} {lo hi : Option Int} {s : Sto} : gSl (.tup xs) lo hi s = .ok (.tup (cutA xs lo hi)) s := rfl
@[simp] theorem gSl_scr {xs : List AV} {lo hi : Option Int} {s : Sto} : gSl (.scr xs) lo hi s = newL (cutA xs lo hi) s := rfl
theorem gSl_lst {i : Nat} {xs : List AV} {lo hi : Option Int} {s : Sto} (e : s.c i = .lst xs) : gSl (.obj i) lo hi s = newL (cutA xs lo hi) s := by
  unfold gSl
  simp only [lstOf_obj e]
def aSl (fa : AE) (fl fh : AO) : AE := fun σ s => (fa σ s).bind fun x s1 => (fl σ s1).bind fun l s2 => (fh σ s2).bind fun u s3 => gSl x l u s3
theorem DE.sl (ha : DE W E ta fa) (hl : DO W E tl fl) (hh : DO W E th fh) : DE W E (L2.tSl (rSlU W.K) ta tl th) (aSl fa fl fh) := fun w s σ σc Q S R h => by
  refine ha w s σ σc _ S R ((post_bind_ok h).mono (fun x s1 h1 w1 v e1 S1 r1 => ?_) fun _ _ _ _ z => z)
  refine hl w1 s1 σ σc _ S1 (R.mono e1) ((post_bind_ok h1).mono (fun l s2 h2 w2 e2 S2 => ?_) fun _ _ _ _ z => z.mono e1)
  refine hh w2 s2 σ σc _ S2 (R.mono (e1.trans e2)) ((post_bind_ok h2).mono (fun u s3 h3 w3 e3 S3 => ?_) fun _ _ _ _ z => z.mono (e1.trans e2))
  have r3 := (r1.mono e2).mono e3
  have e03 := (e1.trans e2).trans e3
  unfold gSl at h3
  split at h3
  · rename_i xs
    cases r3 with
    | @tup a _ vs k1 k2 =>
      refine .inr ⟨a, vs, rfl, k1, fun z => ?_, fun _ => ?_⟩
      · have hr : RelL W w3 (cutA xs l u) vs := by
          unfold cutA
          have e := k2.length
          rw [e, z.1, z.2, List.drop_zero, Nat.sub_zero]
          have := k2.take vs.length
          rwa [List.take_length] at this
        exact h3 w3 _ e03 S3 (.tup k1 hr)
      · refine newT S3 ?_ (OkP.mono e03 h3)
        unfold cutA cutV
        rw [k2.length]
        exact (k2.drop _).take _
  · split at h3
    · rename_i xs e
      obtain ⟨a, vs, k1, k2, k3⟩ := lst_at S3 r3 e
      refine .inl ⟨a, vs, k1, k2, newL_ok S3 ?_ (OkP.mono e03 h3)⟩
      unfold cutA cutV
      rw [k3.length]
      exact (k3.drop _).take _
    · exact (show False from h3).elim
def aRev (fa : AE) : AE := fun σ s => (fa σ s).bind fun x s1 => match lstOf s1 x with | some xs => newL xs.reverse s1 | none => .stuck
end
def rLenU (K : PySem.W.Frag) : List V → Hp → VK → Prop := fun xs H Q => Rd.rLenQ K xs H Q ∨ Gx.rLenS xs H Q ∨ ∃ a kvs, xs = [V.ref a] ∧ H a = some (.dK kvs) ∧ Q (.int kvs.length) H
theorem call_lenU {X : Cx} : CallR X (.builtin "len") (rLenU X.K) := CallR.or Rd.call_lenQ (CallR.or Gx.call_lenS call_lenD)
def gLen : List AV → Sto → Res AV := fun xs s => match xs with
  | [.str z] => if z.length ≤ sizeLine then .ok (.int (z.length : Nat)) s else .stuck
  | [x] => match seqOf s x with | some ys => .ok (.int (ys.length : Nat)) s | none => (match x with | .obj i => (match s.c i with | .dic kvs => .ok (.int (kvs.length : Nat)) s | _ => .stuck) | _ => .stuck)
  | _ => .stuck
theorem gLen_seq {x : AV} {ys : List AV} {s : Sto} (e : seqOf s x = some ys) : gLen [x] s = .ok (.int (ys.length : Nat)) s := by
  unfold gLen
  cases x with
  | str => cases e
  | _ => simp only [e]
@[simp] theorem gLen_tup {ys : List AV} {s : Sto} : gLen [.tup ys] s = .ok (.int (ys.length : Nat)) s := rfl
@[simp] theorem gLen_scr {ys : List AV} {s : Sto} : gLen [.scr ys] s = .ok (.int (ys.length : Nat)) s := rfl
theorem NEL.len : NEL gLen := fun x s c ns vs s' h => by 
  unfold gLen at h
  repeat' split at h
  all_goals first | cases h | (unfold newL at h; cases h)
theorem DB.len {W : Wl} : DB W (rLenU W.K) gLen := fun w s x v Q S r h => by
  unfold gLen at h
  split at h
  · split at h
    · rename_i hl
      cases r with
      | cons r1 r2 =>
        cases r1; cases r2
        exact .inr (.inl ⟨_, rfl, hl, h w _ (.refl w) S (.int _)⟩)
    · exact h.elim
  · cases r with
    | cons r1 r2 =>
      cases r2
      split at h
      · rename_i ys e
        obtain ⟨a, vs, h1, h2, h3⟩ := seq_at S r1 e
        subst h1
        exact .inl ⟨a, vs, rfl, h2, by rw [← h3.length]; exact h w _ (.refl w) S (.int _)⟩
      · split at h
        · split at h
          · rename_i kvs e
            obtain ⟨o, h1, h2, h3, h4⟩ := cell_at S r1 e
            subst h2
            cases h4 with
            | dic r => exact .inr (.inr ⟨_, _, rfl, h3, by rw [← Paired.length r]; exact h w _ (.refl w) S (.int _)⟩)
          · exact h.elim
        · exact h.elim
  · exact h.elim
def gMax2 : List AV → Sto → Res AV := fun xs s => match xs with | [.int i, .int j] => .ok (.int (if j > i then j else i)) s | _ => .stuck
def gMin2 : List AV → Sto → Res AV := fun xs s => match xs with | [.int i, .int j] => .ok (.int (if j < i then j else i)) s | _ => .stuck
@[simp] theorem gMax2_int {i j : Int} {s : Sto} : gMax2 [.int i, .int j] s = .ok (.int (if j > i then j else i)) s := rfl
@[simp] theorem gMin2_int {i j : Int} {s : Sto} : gMin2 [.int i, .int j] s = .ok (.int (if j < i then j else i)) s := rfl
theorem NEL.max2 : NEL gMax2 := fun x s c ns vs s' h => by 
  unfold gMax2 at h
  repeat' split at h
  all_goals first | cases h | (unfold newL at h; cases h)
theorem NEL.min2 : NEL gMin2 := fun x s c ns vs s' h => by 
  unfold gMin2 at h
  repeat' split at h
  all_goals first | cases h | (unfold newL at h; cases h)
theorem DB.max2 {W : Wl} : DB W Rd.rMax2 gMax2 := fun w s x v Q S r h => by
  unfold gMax2 at h
  split at h
  · cases r with
    | cons r1 r2 => cases r2 with
      | cons r2 r3 =>
        cases r1; cases r2; cases r3
        exact ⟨_, _, rfl, h w _ (.refl w) S (.int _)⟩
  · exact h.elim
theorem DB.min2 {W : Wl} : DB W Rd.rMin2 gMin2 := fun w s x v Q S r h => by
  unfold gMin2 at h
  split at h
  · cases r with
    | cons r1 r2 => cases r2 with
      | cons r2 r3 =>
        cases r1; cases r2; cases r3
        exact ⟨_, _, rfl, h w _ (.refl w) S (.int _)⟩
  · exact h.elim
def intsOf : List AV → Option (List Int)
  | [] => some []
  | .int i :: r => (intsOf r).map (i :: ·)
  | _ :: _ => none
theorem ints_rel {W : Wl} {w : Wd} : ∀ {xs : List AV} {vs : List V} {ns : List Int}, RelL W w xs vs → intsOf xs = some ns → vs = ns.map V.int
  | _, _, _, .nil, e => by cases e; rfl
  | .int i :: _, _, _, .cons h r, e => by
    cases h
    unfold intsOf at e
    obtain ⟨ms, e1, rfl⟩ := Option.map_eq_some_iff.mp e
    rw [List.map_cons, ints_rel r e1]
theorem intsOf_map : ∀ ns : List Int, intsOf (ns.map AV.int) = some ns
  | [] => rfl
  | n :: ns => by rw [List.map_cons, intsOf, intsOf_map ns]; rfl
def boolsOf : List AV → Option (List Bool)
  | [] => some []
  | .bl i :: r => (boolsOf r).map (i :: ·)
  | _ :: _ => none
theorem bools_rel {W : Wl} {w : Wd} : ∀ {xs : List AV} {vs : List V} {ns : List Bool}, RelL W w xs vs → boolsOf xs = some ns → vs = ns.map V.bl
  | _, _, _, .nil, e => by cases e; rfl
  | .bl i :: _, _, _, .cons h r, e => by
    cases h
    unfold boolsOf at e
    obtain ⟨ms, e1, rfl⟩ := Option.map_eq_some_iff.mp e
    rw [List.map_cons, bools_rel r e1]
theorem boolsOf_map : ∀ ns : List Bool, boolsOf (ns.map AV.bl) = some ns
  | [] => rfl
  | n :: ns => by rw [List.map_cons, boolsOf, boolsOf_map ns]; rfl
def gSum : List AV → Sto → Res AV := fun xs s => match xs with | [x] => (match lstOf s x with | some ys => (match intsOf ys with | some ns => .ok (.int ns.sum) s | none => .stuck) | none => .stuck) | _ => .stuck
def gAll : List AV → Sto → Res AV := fun xs s => match xs with | [x] => (match lstOf s x with | some ys => (match boolsOf ys with | some ns => .ok (.bl (ns.all id)) s | none => .stuck) | none => .stuck) | _ => .stuck
theorem gSum_lst {x : AV} {ns : List Int} {s : Sto} (e : lstOf s x = some (ns.map .int)) : gSum [x] s = .ok (.int ns.sum) s := by
  unfold gSum; simp only [e, intsOf_map]
theorem gAll_lst {x : AV} {ns : List Bool} {s : Sto} (e : lstOf s x = some (ns.map .bl)) : gAll [x] s = .ok (.bl (ns.all id)) s := by
  unfold gAll; simp only [e, boolsOf_map]
theorem NEL.sum : NEL gSum := fun x s c ns vs s' h => by 
  unfold gSum at h
  repeat' split at h
  all_goals first | cases h | (unfold newL at h; cases h)
theorem NEL.all : NEL gAll := fun x s c ns vs s' h => by 
  unfold gAll at h
  repeat' split at h
  all_goals first | cases h | (unfold newL at h; cases h)
theorem DB.sum {W : Wl} : DB W (rSum W.K) gSum := fun w s x v Q S r h => by
  unfold gSum at h
  split at h
  · cases r with
    | cons r1 r2 =>
      cases r2
      split at h
      · rename_i ys e
        split at h
        · rename_i ns e2
          obtain ⟨a, vs, h1, h2, h3⟩ := lst_at S r1 e
          subst h1
          refine ⟨a, ns, rfl, ?_, h w _ (.refl w) S (.int _)⟩
          rw [← ints_rel h3 e2]; exact h2
        · exact h.elim
      · exact h.elim
  · exact h.elim
theorem DB.all {W : Wl} : DB W (rAll W.K) gAll := fun w s x v Q S r h => by
  unfold gAll at h
  split at h
  · cases r with
    | cons r1 r2 =>
      cases r2
      split at h
      · rename_i ys e
        split at h
        · rename_i ns e2
          obtain ⟨a, vs, h1, h2, h3⟩ := lst_at S r1 e
          subst h1
          refine ⟨a, ns, rfl, ?_, h w _ (.refl w) S (.bl _)⟩
          rw [← bools_rel h3 e2]; exact h2
        · exact h.elim
      · exact h.elim
  · exact h.elim
def gTuple : List AV → Sto → Res AV := fun xs s => match xs with | [x] => (match seqOf s x with | some ys => .ok (.tup ys) s | none => .stuck) | _ => .stuck
def gList : List AV → Sto → Res AV := fun xs s => match xs with | [x] => (match seqOf s x with | some ys => newL ys s | none => .stuck) | _ => .stuck
theorem gTuple_seq {x : AV} {ys : List AV} {s : Sto} (e : seqOf s x = some ys) : gTuple [x] s = .ok (.tup ys) s := by
  unfold gTuple; simp only [e]
theorem gList_seq {x : AV} {ys : List AV} {s : Sto} (e : seqOf s x = some ys) : gList [x] s = newL ys s := by
  unfold gList; simp only [e]
theorem NEL.tuple : NEL gTuple := fun x s c ns vs s' h => by 
  unfold gTuple at h
  repeat' split at h
  all_goals first | cases h | (unfold newL at h; cases h)
theorem NEL.list : NEL gList := fun x s c ns vs s' h => by 
  unfold gList at h
  repeat' split at h
  all_goals first | cases h | (unfold newL at h; cases h)
theorem DB.tuple {W : Wl} : DB W (Gx.rTupOf W.K) gTuple := fun w s x v Q S r h => by
  unfold gTuple at h
  split at h
  · cases r with
    | cons r1 r2 =>
      cases r2
      split at h
      · rename_i ys e
        obtain ⟨a, vs, h1, h2, h3⟩ := seq_at S r1 e
        subst h1
        rcases h2 with h2 | h2
        · exact ⟨a, vs, rfl, .inl ⟨h2, newT S h3 h⟩⟩
        · exact ⟨a, vs, rfl, .inr ⟨h2, h w _ (.refl w) S (.tup h2 h3)⟩⟩
      · exact h.elim
  · exact h.elim
theorem DB.list {W : Wl} : DB W (Gx.rLstOf W.K) gList := fun w s x v Q S r h => by
  unfold gList at h
  split at h
  · cases r with
    | cons r1 r2 =>
      cases r2
      split at h
      · rename_i ys e
        obtain ⟨a, vs, h1, h2, h3⟩ := seq_at S r1 e
        subst h1
        exact ⟨a, vs, rfl, h2, newL_ok S h3 h⟩
      · exact h.elim
  · exact h.elim
end
end Ab
set_option Elab.async false
set_option linter.all false
set_option maxRecDepth 100000
set_option maxHeartbeats 1000000
namespace Gx
open PySem PySem.Spec PyProof.Rows L2
end Gx
set_option Elab.async false
set_option linter.all false
set_option maxRecDepth 100000
set_option maxHeartbeats 1000000
namespace Ab
open PySem PySem.Spec PyProof.Rows L2
open Classical
noncomputable section
/-- a fact of each of a list -/
inductive All {α : Type} (P : α → Prop) : List α → Prop
  | nil : All P []
  | cons {a : α} {l : List α} (h : P a) (r : All P l) : All P (a :: l)
theorem All.at {α : Type} {P : α → Prop} : ∀ {l : List α}, All P l → ∀ a ∈ l, P a
  | _, .nil, a, h => by cases h
  | _, .cons h r, a, m => by
    rcases List.mem_cons.mp m with rfl | m
    · exact h
    · exact All.at r a m
def lookA (f : Str) : List (Str × AV) → Option AV
  | [] => none
  | (g, v) :: r => if g = f then some v else lookA f r
def putA (f : Str) (v : AV) : List (Str × AV) → List (Str × AV)
  | [] => [(f, v)]
  | (g, x) :: r => if g = f then (g, v) :: r else (g, x) :: putA f v r
section
variable {W : Wl} {w : Wd} {s : Sto}
theorem look_rel {f : Str} : ∀ {fs : List (Str × AV)} {gs : List (Str × V)}, RelF W w fs gs → (∀ v, lookA f fs = some v → ∃ vc, gs.lookup f = some vc ∧ Rel W w v vc) ∧ (lookA f fs = none → gs.lookup f = none)
  | _, _, .nil => ⟨fun v h => (by cases h), fun _ => rfl⟩
  | (g, x) :: r, (g', y) :: r', .cons h t => by
    obtain ⟨e, hr⟩ := h
    cases (show g = g' from e)
    obtain ⟨t1, t2⟩ := look_rel (f := f) t
    by_cases hg : g = f
    · subst hg
      refine ⟨fun v h => ?_, fun h => ?_⟩
      · have h : (if g = g then some x else _) = some v := h
        rw [if_pos rfl] at h
        cases h
        exact ⟨y, by simp, hr⟩
      · have h : (if g = g then some x else _) = none := h
        rw [if_pos rfl] at h
        cases h
    · have hb : (f == g) = false := beq_eq_false_iff_ne.mpr (Ne.symm hg)
      refine ⟨fun v h => ?_, fun h => ?_⟩
      · have h : (if g = f then some x else lookA f r) = some v := h
        rw [if_neg hg] at h
        obtain ⟨vc, h1, h2⟩ := t1 v h
        exact ⟨vc, by rw [List.lookup_cons, hb]; exact h1, h2⟩
      · have h : (if g = f then some x else lookA f r) = none := h
        rw [if_neg hg] at h
        rw [List.lookup_cons, hb]; exact t2 h
theorem put_rel {f : Str} {x : AV} {v : V} (hx : Rel W w x v) : ∀ {fs : List (Str × AV)} {gs : List (Str × V)}, RelF W w fs gs → RelF W w (putA f x fs) (putF f v gs)
  | _, _, .nil => .cons ⟨rfl, hx⟩ .nil
  | (g, y) :: r, (g', u) :: r', .cons h t => by
    obtain ⟨e, hr⟩ := h
    cases (show g = g' from e)
    show RelF W w (if g = f then (g, x) :: r else (g, y) :: putA f x r) (if g = f then (g, v) :: r' else (g, u) :: putF f v r')
    by_cases hg : g = f
    · rw [if_pos hg, if_pos hg]
      exact .cons ⟨rfl, hx⟩ t
    · rw [if_neg hg, if_neg hg]
      exact .cons ⟨rfl, hr⟩ (put_rel hx t)
end
def insAt (s : Sto) : AV → Option (String × List (Str × AV))
  | .obj i => match s.c i with | .ins c fs => some (c, fs) | _ => none
  | _ => none
theorem insAt_obj {s : Sto} {i : Nat} {c : String} {fs : List (Str × AV)} (e : s.c i = .ins c fs) : insAt s (.obj i) = some (c, fs) := by
  unfold insAt; simp only [e]
theorem ins_at {W : Wl} {w : Wd} {s : Sto} {x : AV} {v : V} {c : String} {fs : List (Str × AV)} (S : Sim W w s) (r : Rel W w x v) (h : insAt s x = some (c, fs)) :
    ∃ i dx gs, x = .obj i ∧ i < s.n ∧ v = .ref (w.m i) ∧ w.H (w.m i) = some (.ins (W.κ c) dx gs) ∧ c ∈ W.live ∧ RelF W w fs gs := by
  cases r with
  | @obj i hi =>
    unfold insAt at h
    simp only at h
    split at h
    · rename_i c' fs' e
      cases h
      obtain ⟨o, h1, h2, h3, h4⟩ := cell_at S (.obj hi) e
      cases h4 with
      | ins hc r => exact ⟨i, _, _, rfl, h1, h2, h3, hc, r⟩
    · cases h
  | _ => cases h
def gFld (cs : List String) (f : Str) (x : AV) (s : Sto) : Res AV := match insAt s x with | some (c, fs) => if c ∈ cs then (match lookA f fs with | some v => .ok v s | none => .stuck) else .stuck | none => .stuck
def aFld (cs : List String) (f : Str) (fa : AE) : AE := aUn (gFld cs f) fa
theorem gFld_obj {cs : List String} {f : Str} {s : Sto} {i : Nat} {c : String} {fs : List (Str × AV)} {v : AV} (e : s.c i = .ins c fs) (h : c ∈ cs) (l : lookA f fs = some v) : gFld cs f (.obj i) s = .ok v s := by
  unfold gFld
  simp only [insAt_obj e, if_pos h, l]
section
variable {W : Wl} {E : L2.St → XK} {ta tb : TE} {fa fb : AE} {tr : TA} {fr : AA}
theorem DE.fld {cs : List String} {f : Str} (hc : All (fun c => Cls W.K (W.κ c) ∧ NoAttr W.K (W.κ c) f) cs) (ha : DE W E ta fa) : DE W E (tFld W.K ta f) (aFld cs f fa) := fun w s σ σc Q S R h => by
  refine ha w s σ σc _ S R ((post_bind_ok h).mono (fun x s1 h1 w1 v e1 S1 r1 => ?_) fun _ _ _ _ z => z)
  unfold gFld at h1
  split at h1
  · rename_i c fs e
    split at h1
    · rename_i hcs
      split at h1
      · rename_i u e2
        obtain ⟨i, dx, gs, rfl, h2, rfl, h3, h4, h5⟩ := ins_at S1 r1 e
        obtain ⟨uc, l, ru⟩ := (look_rel h5).1 u e2
        obtain ⟨k1, k2⟩ := hc.at c hcs
        exact ⟨_, _, dx, gs, uc, rfl, h3, k1, k2, l, h1 w1 _ e1 S1 ru⟩
      · exact (show False from h1).elim
    · exact (show False from h1).elim
  · exact (show False from h1).elim
/-- o.f = e -/
def setF (cs : List String) (f : Str) (x y : AV) (s : Sto) : Option Sto := match x with | .obj i => (match s.c i with | .ins c fs => if c ∈ cs ∧ fs.length < 1000 then some (s.set i (.ins c (putA f y fs))) else none | _ => none) | _ => none
theorem setF_obj {cs : List String} {f : Str} {s : Sto} {i : Nat} {c : String} {fs : List (Str × AV)} {y : AV} (e : s.c i = .ins c fs) (h : c ∈ cs) (l : fs.length < 1000) : setF cs f (.obj i) y s = some (s.set i (.ins c (putA f y fs))) := by
  unfold setF
  simp only [e]
  exact if_pos ⟨h, l⟩
def oNx (σ : ASt) : Option Sto → SRes
  | some s => .nx σ s
  | none => .stuck
@[simp] theorem oNx_some {σ : ASt} {s : Sto} : oNx σ (some s) = .nx σ s := rfl
def aSFld (cs : List String) (f : Str) (fo fe : AE) : AS := fun σ s => (fe σ s).st σ fun y s1 => (fo σ s1).st σ fun x s2 => oNx σ (setF cs f x y s2)
theorem setF_ok {w : Wd} {s s' : Sto} {cs : List String} {f : Str} {x y : AV} {v u : V} (hc : All (fun c => Cls W.K (W.κ c) ∧ NoAttr W.K (W.κ c) f) cs) (S : Sim W w s) (rx : Rel W w x v) (ry : Rel W w y u) (h : setF cs f x y s = some s') :
    ∃ a C dx gs, v = .ref a ∧ w.H a = some (.ins C dx gs) ∧ Cls W.K C ∧ NoAttr W.K C f ∧ gs.length < 1000 ∧ ∃ w', w'.H = upd w.H a (.ins C dx (putF f u gs)) ∧ Ext w w' ∧ Sim W w' s' := by
  unfold setF at h
  split at h
  · rename_i i
    split at h
    · rename_i c fs e
      split at h
      · rename_i hh
        cases h
        obtain ⟨o, h1, h2, h3, h4⟩ := cell_at S rx e
        cases h4 with
        | @ins _ dx _ gs hl r =>
          obtain ⟨k1, k2⟩ := hc.at c hh.1
          refine ⟨_, _, dx, gs, h2, h3, k1, k2, ?_, _, rfl, .wr S h1, S.wr h1 (.ins hl (put_rel ry r))⟩
          rw [← Paired.length r]; exact hh.2
      · cases h
    · cases h
  · cases h
theorem DS.sfld {cs : List String} {f : Str} {to te : TE} {fo fe : AE} (hc : All (fun c => Cls W.K (W.κ c) ∧ NoAttr W.K (W.κ c) f) cs) (ho : DE W E to fo) (he : DE W E te fe) : DS W E (L2.sFld W.K to te f) (aSFld cs f fo fe) := fun w s σ σc D S R h => by
  refine he w s σ σc _ S R ((exp_post R h).mono (fun y s1 h1 w1 u e1 S1 r1 => ?_) fun _ _ _ _ z => z)
  refine ho w1 s1 σ σc _ S1 (R.mono e1) ((exp_post (R.mono e1) (P.mono e1 h1)).mono (fun x s2 h2 w2 v e2 S2 r2 => ?_) fun _ _ _ _ z => z)
  cases e : setF cs f x y s2 with
  | none => rw [e] at h2; exact (show False from h2).elim
  | some s3 =>
    rw [e] at h2
    obtain ⟨a, C, dx, gs, k1, k2, k3, k4, k5, w3, k6, k7, k8⟩ := setF_ok hc S2 r2 (r1.mono e2) e
    refine ⟨a, C, dx, gs, k1, k2, k3, k4, k5, ?_⟩
    rw [← k6]
    exact h2 w3 σc (e2.trans k7) k8 (((R.mono e1).mono e2).mono k7)
def noErr {α : Type} : Res α → Res α
  | .ok a s => .ok a s
  | _ => .stuck
@[simp] theorem noErr_ok {α : Type} {a : α} {s : Sto} : noErr (Res.ok a s) = .ok a s := rfl
theorem noErr_post {α : Type} {r : Res α} {P : α → Sto → Prop} {R R' : String → List Str → List AV → Sto → Prop} (h : (noErr r).Post P R) : r.Post P R' := by
  cases r with
  | ok => exact h
  | err => exact (show False from h).elim
  | stuck => exact h
def clsIs (s : Sto) (x : AV) (c : String) (m : Str) : Bool := match insAt s x with | some (d, fs) => (decide (d = c)) && (lookA m fs).isNone | none => false
theorem clsIs_obj {s : Sto} {i : Nat} {c : String} {m : Str} {fs : List (Str × AV)} (e : s.c i = .ins c fs) (l : lookA m fs = none) : clsIs s (.obj i) c m = true := by
  unfold clsIs
  simp only [insAt_obj e, l]
  simp
theorem cls_is {w : Wd} {s : Sto} {x : AV} {v : V} {c : String} {m : Str} (S : Sim W w s) (r : Rel W w x v) (h : clsIs s x c m = true) : ∃ a dx gs, v = .ref a ∧ w.H a = some (.ins (W.κ c) dx gs) ∧ gs.lookup m = none := by
  unfold clsIs at h
  split at h
  · rename_i d fs e
    rw [Bool.and_eq_true, decide_eq_true_eq, Option.isNone_iff_eq_none] at h
    obtain ⟨rfl, h⟩ := h
    obtain ⟨i, dx, gs, rfl, h2, rfl, h3, h4, h5⟩ := ins_at S r e
    exact ⟨_, dx, gs, rfl, h3, (look_rel h5).2 h⟩
  · cases h
def aMeth (c : String) (m : Str) (n : Nat) (F : List AV → Sto → Res AV) (dvs : List AV) (fa : AE) (fr : AA) : AE := fun σ s => (fa σ s).bind fun x s1 => if clsIs s1 x c m = true then (fr σ s1).bind fun xs s2 => if (x :: (xs ++ dvs)).length = n then F (x :: (xs ++ dvs)) s2 else .stuck else .stuck
theorem DE.meth {c : String} {m : Str} {n : Nat} {F : List AV → Sto → Res AV} {Ek : XK} {dvs : List AV} {dcs : List V} (hd : ∀ w, RelL W w dvs dcs) (ha : DE W (fun _ => Ek) ta fa) (hr : DA W (fun _ => Ek) tr fr) :
    DE W (fun _ => Ek) (tMeth (W.κ c) m (spF W n F) dcs Ek ta tr) (aMeth c m n F dvs fa fr) := fun w s σ σc Q S R h => by
  refine ha w s σ σc _ S R ((post_bind_ok h).mono (fun x s1 h1 w1 v e1 S1 r1 => ?_) fun _ _ _ _ z => z)
  split at h1
  · rename_i hcl
    obtain ⟨a, dx, gs, rfl, k1, k2⟩ := cls_is S1 r1 hcl
    refine ⟨a, dx, gs, rfl, k1, k2, hr w1 s1 σ σc _ S1 (R.mono e1) ((post_bind_ok h1).mono (fun xs s2 h2 w2 vs e2 S2 r2 => ?_) fun _ _ _ _ z => z.mono e1)⟩
    split at h2
    · rename_i hl
      exact ⟨w2, s2, _, rfl, S2, .cons (r1.mono e2) (r2.append (hd w2)), hl, post_mono (e1.trans e2) h2⟩
    · exact (show False from h2).elim
  · exact (show False from h1).elim
def isI (s : Sto) (x : AV) (c : String) : Bool := match insAt s x with | some (d, _) => decide (d = c) | none => false
theorem isI_obj {s : Sto} {i : Nat} {c : String} {fs : List (Str × AV)} (e : s.c i = .ins c fs) : isI s (.obj i) c = true := by
  unfold isI
  simp only [insAt_obj e]
  simp
def aProp (c : String) (F : List AV → Sto → Res AV) (fa : AE) : AE := fun σ s => (fa σ s).bind fun x s1 => if isI s1 x c = true then noErr (F [x] s1) else .stuck
theorem DE.prop {c : String} {F : List AV → Sto → Res AV} (ha : DE W E ta fa) : DE W E (tProp (W.κ c) (spF W 1 F) [] C8.E0 ta) (aProp c F fa) := fun w s σ σc Q S R h => by
  refine ha w s σ σc _ S R ((post_bind_ok h).mono (fun x s1 h1 w1 v e1 S1 r1 => ?_) fun _ _ _ _ z => z)
  split at h1
  · rename_i hcl
    unfold isI at hcl
    split at hcl
    · rename_i d fs e
      cases of_decide_eq_true hcl
      obtain ⟨i, dx, gs, rfl, h2, rfl, h3, h4, h5⟩ := ins_at S1 r1 e
      exact ⟨_, dx, gs, rfl, h3, w1, s1, [.obj i], rfl, S1, .cons r1 .nil, rfl, (noErr_post h1).mono (fun _ _ z => z.mono e1) fun _ _ _ _ z => z⟩
    · cases hcl
  · exact (show False from h1).elim
/-- C(..) -/
def aMake (c : String) (n : Nat) (F : List AV → Sto → Res AV) (dvs : List AV) (fr : AA) : AE := fun σ s => (fr σ s).bind fun xs s1 => if (AV.obj s1.n :: (xs ++ dvs)).length = n then (F (.obj s1.n :: (xs ++ dvs)) (s1.new (.ins c []))).bind fun v s2 => if isNon v = true then .ok (.obj s1.n) s2 else .stuck else .stuck
theorem DE.make {c : String} {n : Nat} {F : List AV → Sto → Res AV} {Ek : XK} {dvs : List AV} {dcs : List V} (hd : ∀ w, RelL W w dvs dcs) (hl : c ∈ W.live) (hr : DA W (fun _ => Ek) tr fr) :
    DE W (fun _ => Ek) (tMake (W.κ c) (spF W n F) dcs Ek tr) (aMake c n F dvs fr) := fun w s σ σc Q S R h => by
  refine hr w s σ σc _ S R ((post_bind_ok h).mono (fun xs s1 h1 w1 vs e1 S1 r1 => ?_) fun _ _ _ _ z => z)
  split at h1
  · rename_i hn
    intro x dx hx hdx ne
    have g : ∀ a u, w1.H a = some u → upd (upd w1.H dx (.own x)) x (.ins (W.κ c) dx []) a = some u := fun a u z => by
      rw [upd_ne (ne_of_none z hx), upd_ne (ne_of_none z hdx)]; exact z
    have e2 : Ext w1 (w1.new x (upd (upd w1.H dx (.own x)) x (.ins (W.κ c) dx []))) := .new g
    have S2 : Sim W (w1.new x (upd (upd w1.H dx (.own x)) x (.ins (W.κ c) dx []))) (s1.new (.ins c [])) := S1.new hx g upd_same (.ins hl .nil)
    refine ⟨w1.new x (upd (upd w1.H dx (.own x)) x (.ins (W.κ c) dx [])), _, _, rfl, S2, .cons (Rel.new x _ S1.n) ((r1.mono e2).append (hd _)), hn, (post_bind_ok h1).mono (fun v s3 h3 w3 vc e3 S3 r3 => ?_) fun _ _ _ _ z => (z.mono e1).mono e2⟩
    split at h3
    · rename_i hv
      rw [isNon_rel r3, decide_eq_true_eq] at hv
      refine ⟨hv, h3 w3 _ (e1.trans (e2.trans e3)) S3 ?_⟩
      exact (Rel.new x _ S1.n).mono e3
    · exact (show False from h3).elim
  · exact (show False from h1).elim
/-- cls(..), the class in a slot -/
def aMakeV (i : Nat) (c : String) (n : Nat) (F : List AV → Sto → Res AV) (fr : AA) : AE := fun σ s => match σ[i]? with | some (some (.cls d)) => if d = c then aMake c n F [] fr σ s else .stuck | _ => .stuck
def isCls (c : String) : AV → Bool
  | .cls d => decide (d = c)
  | _ => false
/-- C.m(..), m static -/
def aSMeth (c : String) (n : Nat) (F : List AV → Sto → Res AV) (fa : AE) (fr : AA) : AE := fun σ s => (fa σ s).bind fun x s1 => if isCls c x = true then (fr σ s1).bind fun xs s2 => if (xs ++ []).length = n then F (xs ++ []) s2 else .stuck else .stuck
theorem DE.smeth {c : String} {n : Nat} {F : List AV → Sto → Res AV} {Ek : XK} (ha : DE W (fun _ => Ek) ta fa) (hr : DA W (fun _ => Ek) tr fr) : DE W (fun _ => Ek) (Gx.tSMethX (W.κ c) (spF W n F) Ek ta tr) (aSMeth c n F fa fr) := fun w s σ σc Q S R h => by
  refine ha w s σ σc _ S R ((post_bind_ok h).mono (fun x s1 h1 w1 v e1 S1 r1 => ?_) fun _ _ _ _ z => z)
  split at h1
  · rename_i hcl
    cases r1 with
    | cls d =>
      cases of_decide_eq_true (show decide (d = c) = true from hcl)
      refine ⟨rfl, hr w1 s1 σ σc _ S1 (R.mono e1) ((post_bind_ok h1).mono (fun xs s2 h2 w2 vs e2 S2 r2 => ?_) fun _ _ _ _ z => z.mono e1)⟩
      split at h2
      · rename_i hl
        exact ⟨w2, s2, _, rfl, S2, r2.append .nil, hl, post_mono (e1.trans e2) h2⟩
      · exact (show False from h2).elim
    | _ => cases hcl
  · exact (show False from h1).elim
/-- C.m(..), m a class method -/
def aCMeth (c : String) (n : Nat) (F : List AV → Sto → Res AV) (fa : AE) (fr : AA) : AE := fun σ s => (fa σ s).bind fun x s1 => if isCls c x = true then (fr σ s1).bind fun xs s2 => if (AV.cls c :: (xs ++ [])).length = n then F (.cls c :: (xs ++ [])) s2 else .stuck else .stuck
def gAppend (x : AV) (ys : List AV) (s : Sto) : Res AV := match x, ys with
  | .obj i, [y] => (match s.c i with | .lst xs => if xs.length < sizeLine then .ok .non (s.set i (.lst (xs ++ [y]))) else .stuck | _ => .stuck)
  | _, _ => .stuck
theorem gAppend_obj {i : Nat} {y : AV} {xs : List AV} {s : Sto} (e : s.c i = .lst xs) (h : xs.length < sizeLine) : gAppend (.obj i) [y] s = .ok .non (s.set i (.lst (xs ++ [y]))) := by
  unfold gAppend; simp only [e]; exact if_pos h
def isSeqL (s : Sto) (x : AV) : Bool := (lstOf s x).isSome
theorem isSeqL_obj {i : Nat} {xs : List AV} {s : Sto} (e : s.c i = .lst xs) : isSeqL s (.obj i) = true := by unfold isSeqL; simp only [lstOf_obj e]; rfl
def aBM (g : AV → List AV → Sto → Res AV) (fa : AE) (fr : AA) : AE := fun σ s => (fa σ s).bind fun x s1 => if isSeqL s1 x = true then (fr σ s1).bind fun ys s2 => g x ys s2 else .stuck
def NEM (g : AV → List AV → Sto → Res AV) : Prop := ∀ x ys s c ns vs s', g x ys s ≠ .err c ns vs s'
def DM (W : Wl) (r : V → List V → Hp → VK → Prop) (g : AV → List AV → Sto → Res AV) : Prop := ∀ (w : Wd) (s : Sto) (x : AV) (ys : List AV) (v : V) (us : List V) (Q : VK), Sim W w s → Rel W w x v → RelL W w ys us → (g x ys s).Post (OkP W w Q) (fun _ _ _ _ => False) → r v us w.H Q
/-- a method of a list -/
theorem DE.bm {r : V → List V → Hp → VK → Prop} {g : AV → List AV → Sto → Res AV} (hr : DM W r g) (hn : NEM g) (ha : DE W E ta fa) (hb : DA W E tr fr) : DE W E (tBM W.K "list" r ta tr) (aBM g fa fr) := fun w s σ σc Q S R h => by
  refine ha w s σ σc _ S R ((post_bind_ok h).mono (fun x s1 h1 w1 v e1 S1 r1 => ?_) fun _ _ _ _ z => z)
  split at h1
  · rename_i hl
    refine ⟨?_, hb w1 s1 σ σc _ S1 (R.mono e1) ((post_bind_ok h1).mono (fun ys s2 h2 w2 us e2 S2 r2 => ?_) fun _ _ _ _ z => z.mono e1)⟩
    · unfold isSeqL at hl
      obtain ⟨xs, e⟩ := Option.isSome_iff_exists.mp hl
      obtain ⟨a, vs, rfl, k2, k3⟩ := lst_at S1 r1 e
      exact .inl ⟨rfl, vs, k2⟩
    · refine hr w2 s2 x ys v us Q S2 (r1.mono e2) r2 ?_
      cases hh : g x ys s2 with
      | ok a s3 => rw [hh] at h2; exact OkP.mono (e1.trans e2) h2
      | err c ns vs s3 => exact absurd hh (hn _ _ _ _ _ _ _)
      | stuck => rw [hh] at h2; exact h2
  · exact (show False from h1).elim
theorem NEM.append : NEM gAppend := fun x y s c ns vs s' h => by 
  unfold gAppend at h
  repeat' split at h
  all_goals first | cases h | (unfold newL at h; cases h)
theorem DM.append : DM W rAppend gAppend := fun w s x ys v us Q S rx ry h => by
  unfold gAppend at h
  split at h
  · split at h
    · rename_i i y _ xs e
      split at h
      · rename_i hl
        obtain ⟨vs, i1, i2, i3, i4⟩ := lstO_at S rx e
        cases ry with
        | @cons _ u _ _ r1 r2 =>
          cases r2
          refine ⟨_, vs, u, i2, rfl, i3, by rw [← i4.length]; exact hl, ?_⟩
          exact wr_ok S i1 (.lst (i4.append (.cons r1 .nil))) fun w' e' S' => h w' .non e' S' .non
      · exact h.elim
    · exact h.elim
  · exact h.elim
/-- x[i] = v, a list -/
def setL (x i y : AV) (s : Sto) : Option Sto := match x, i with | .obj k, .int j => (match s.c k with | .lst xs => (match ixN xs.length j with | some n => some (s.set k (.lst (xs.set n y))) | none => none) | _ => none) | _, _ => none
theorem setL_obj {k : Nat} {j : Int} {n : Nat} {y : AV} {xs : List AV} {s : Sto} (e : s.c k = .lst xs) (h : ixN xs.length j = some n) : setL (.obj k) (.int j) y s = some (s.set k (.lst (xs.set n y))) := by
  unfold setL; simp only [e, h]
def toKey : AV → Option Key
  | .int i => some (.inl i)
  | .str z => some (.inr z)
  | _ => none
theorem key_rel {w : Wd} {x : AV} {v : V} {k : Key} (r : Rel W w x v) (h : toKey x = some k) : v = kV k := by
  cases r <;> cases h <;> rfl
def valA (kvs : List (Key × AV)) (k : Key) : Option AV := match kvs with
  | [] => none
  | (j, v) :: r => if j = k then some v else valA r k
def putKA (kvs : List (Key × AV)) (k : Key) (v : AV) : List (Key × AV) :=
  if (kvs.any fun kv => decide (kv.1 = k)) = true then kvs.map (fun kv => if kv.1 = k then (kv.1, v) else kv) else kvs ++ [(k, v)]
theorem val_rel {w : Wd} {k : Key} : ∀ {fs : List (Key × AV)} {gs : List (Key × V)}, RelK W w fs gs → ∀ v, valA fs k = some v → ∃ vc, valV gs k = some vc ∧ Rel W w v vc
  | _, _, .nil, v, h => by cases h
  | (j, x) :: r, (j', y) :: r', .cons h t, v, e => by
    obtain ⟨ej, hr⟩ := h
    cases (show j = j' from ej)
    have e : (if j = k then some x else valA r k) = some v := e
    by_cases hj : j = k
    · rw [if_pos hj] at e
      cases e
      exact ⟨y, valV_pos hj, hr⟩
    · rw [if_neg hj] at e
      obtain ⟨vc, h1, h2⟩ := val_rel t v e
      exact ⟨vc, by rw [valV_neg hj]; exact h1, h2⟩
theorem any_rel {w : Wd} {k : Key} : ∀ {fs : List (Key × AV)} {gs : List (Key × V)}, RelK W w fs gs → (fs.any fun kv => decide (kv.1 = k)) = (gs.any fun kv => decide (kv.1 = k))
  | _, _, .nil => rfl
  | (j, x) :: r, (j', y) :: r', .cons h t => by
    cases (show j = j' from h.1)
    rw [List.any_cons, List.any_cons, any_rel t]
theorem mapK_rel {w : Wd} {k : Key} {x : AV} {v : V} (hx : Rel W w x v) : ∀ {fs : List (Key × AV)} {gs : List (Key × V)}, RelK W w fs gs → RelK W w (fs.map fun kv => if kv.1 = k then (kv.1, x) else kv) (gs.map fun kv => if kv.1 = k then (kv.1, v) else kv)
  | _, _, .nil => .nil
  | (j, y) :: r, (j', u) :: r', .cons h t => by
    cases (show j = j' from h.1)
    rw [List.map_cons, List.map_cons]
    refine .cons ?_ (mapK_rel hx t)
    by_cases hj : j = k
    · simp only [if_pos hj]
      exact ⟨trivial, hx⟩
    · simp only [if_neg hj]
      exact ⟨trivial, h.2⟩
theorem RelK.append {w : Wd} : ∀ {fs hs : List (Key × AV)} {gs ks : List (Key × V)}, RelK W w fs gs → RelK W w hs ks → RelK W w (fs ++ hs) (gs ++ ks)
  | _, _, _, _, .nil, h => h
  | _, _, _, _, .cons h r, k => .cons h (RelK.append r k)
theorem putK_rel {w : Wd} {k : Key} {x : AV} {v : V} (hx : Rel W w x v) {fs : List (Key × AV)} {gs : List (Key × V)} (r : RelK W w fs gs) : RelK W w (putKA fs k x) (putK gs k v) := by
  unfold putKA putK
  rw [any_rel r]
  split
  · exact mapK_rel hx r
  · exact r.append (.cons ⟨rfl, hx⟩ .nil)
def gDGet (x y : AV) (s : Sto) : Res AV := match x, toKey y with | .obj i, some k => (match s.c i with | .dic kvs => (match valA kvs k with | some v => .ok v s | none => .stuck) | _ => .stuck) | _, _ => .stuck
theorem gDGet_obj {i : Nat} {y v : AV} {k : Key} {kvs : List (Key × AV)} {s : Sto} (e : s.c i = .dic kvs) (hk : toKey y = some k) (h : valA kvs k = some v) : gDGet (.obj i) y s = .ok v s := by
  unfold gDGet; simp only [hk, e, h]
theorem DE.dget (ha : DE W E ta fa) (hb : DE W E tb fb) : DE W E (tDGet ta tb) (aOp gDGet fa fb) := fun w s σ σc Q S R h => by
  refine ha w s σ σc _ S R ((post_bind_ok h).mono (fun x s1 h1 w1 v e1 S1 r1 => ?_) fun _ _ _ _ z => z)
  refine hb w1 s1 σ σc _ S1 (R.mono e1) ((post_bind_ok h1).mono (fun y s2 h2 w2 u e2 S2 r2 => ?_) fun _ _ _ _ z => z.mono e1)
  unfold gDGet at h2
  split at h2
  · rename_i i k hk
    split at h2
    · rename_i kvs e
      split at h2
      · rename_i z ez
        obtain ⟨o, k1, k2, k3, k4⟩ := cell_at S2 (r1.mono e2) e
        cases k4 with
        | dic r =>
          obtain ⟨vc, l, rz⟩ := val_rel r z ez
          exact ⟨_, vc, k2, .inl ⟨_, k, .inl k3, key_rel r2 hk, l.symm⟩, h2 w2 _ (e1.trans e2) S2 rz⟩
      · exact (show False from h2).elim
    · exact (show False from h2).elim
  · exact (show False from h2).elim
/-- d[y] = v -/
def setD (x y z : AV) (s : Sto) : Option Sto := match x, toKey y with | .obj i, some k => (match s.c i with | .dic kvs => if kvs.length < sizeLine then some (s.set i (.dic (putKA kvs k z))) else none | _ => none) | _, _ => none
theorem setD_obj {i : Nat} {y z : AV} {k : Key} {kvs : List (Key × AV)} {s : Sto} (e : s.c i = .dic kvs) (hk : toKey y = some k) (h : kvs.length < sizeLine) : setD (.obj i) y z s = some (s.set i (.dic (putKA kvs k z))) := by
  unfold setD; simp only [hk, e, if_pos h]
theorem setD_ok {w : Wd} {s s' : Sto} {x y z : AV} {v u t : V} (S : Sim W w s) (rx : Rel W w x v) (ry : Rel W w y u) (rz : Rel W w z t) (h : setD x y z s = some s') : ∃ a w', v = .ref a ∧ DPut w.H a u t w'.H ∧ Ext w w' ∧ Sim W w' s' := by
  unfold setD at h
  split at h
  · rename_i i k hk
    split at h
    · rename_i kvs e
      split at h
      · rename_i hl
        cases h
        obtain ⟨o, k1, k2, k3, k4⟩ := cell_at S rx e
        cases k4 with
        | @dic _ gs r =>
          refine ⟨_, { w with H := upd w.H (w.m i) (.dK (putK gs k t)) }, k2, .inl ⟨gs, k, k3, key_rel ry hk, ?_, rfl⟩, .wr S k1, S.wr k1 (.dic (putK_rel rz r))⟩
          rw [← Paired.length r]; exact hl
      · cases h
    · cases h
  · cases h
theorem setL_ok {w : Wd} {s s' : Sto} {x y z : AV} {v u t : V} (S : Sim W w s) (rx : Rel W w x v) (ry : Rel W w y u) (rz : Rel W w z t) (h : setL x y z s = some s') : ∃ p xs k j w', v = .ref p ∧ u = .int k ∧ w.H p = some (.lst xs) ∧ ixN xs.length k = some j ∧ w'.H = upd w.H p (.lst (xs.set j t)) ∧ Ext w w' ∧ Sim W w' s' := by
  unfold setL at h
  split at h
  · rename_i i k
    cases ry
    split at h
    · rename_i xs e
      split at h
      · rename_i n hn
        cases h
        obtain ⟨vs, i1, i2, i3, i4⟩ := lstO_at S rx e
        exact ⟨_, vs, k, n, { w with H := upd w.H (w.m i) (.lst (vs.set n t)) }, i2, rfl, i3, by rw [← i4.length]; exact hn, rfl, .wr S i1, S.wr i1 (.lst (i4.set rz n))⟩
      · cases h
    · cases h
  · cases h
def aDPut (fd fy fv : AE) : AS := fun σ s => (fv σ s).st σ fun z s1 => (fd σ s1).st σ fun x s2 => (fy σ s2).st σ fun y s3 => oNx σ (setD x y z s3)
theorem DS.dput {td ty tv : TE} {fd fy fv : AE} (hd : DE W E td fd) (hy : DE W E ty fy) (hv : DE W E tv fv) : DS W E (sDPut td ty tv) (aDPut fd fy fv) := fun w s σ σc D S R h => by
  refine hv w s σ σc _ S R ((exp_post R h).mono (fun z s1 h1 w1 t e1 S1 r1 => ?_) fun _ _ _ _ z => z)
  refine hd w1 s1 σ σc _ S1 (R.mono e1) ((exp_post (R.mono e1) (P.mono e1 h1)).mono (fun x s2 h2 w2 v e2 S2 r2 => ?_) fun _ _ _ _ z => z)
  refine hy w2 s2 σ σc _ S2 ((R.mono e1).mono e2) ((exp_post ((R.mono e1).mono e2) (P.mono e2 h2)).mono (fun y s3 h3 w3 u e3 S3 r3 => ?_) fun _ _ _ _ z => z)
  cases e : setD x y z s3 with
  | none => rw [e] at h3; exact (show False from h3).elim
  | some s4 =>
    rw [e] at h3
    obtain ⟨a, w4, k1, k2, k3, k4⟩ := setD_ok S3 (r2.mono e3) r3 ((r1.mono e2).mono e3) e
    exact ⟨a, w4.H, k1, k2, h3 w4 σc (e3.trans k3) k4 ((((R.mono e1).mono e2).mono e3).mono k3)⟩
/-- a subscript among targets -/
def agSub (st : AV → AV → AV → Sto → Option Sto) (fo fi : AE) : AV → AS := fun z σ s => match (fo σ s).bind fun x s1 => (fi σ s1).bind fun y s2 => (match st x y z s2 with | some s3 => .ok .non s3 | none => .stuck : Res AV) with | .ok _ s3 => .nx σ s3 | _ => .stuck
theorem agSub_eq {st : AV → AV → AV → Sto → Option Sto} {fo fi : AE} {x y z : AV} {σ : ASt} {s s1 s2 s3 : Sto} (h1 : fo σ s = .ok x s1) (h2 : fi σ s1 = .ok y s2) (h3 : st x y z s2 = some s3) : agSub st fo fi z σ s = .nx σ s3 := by
  unfold agSub; simp only [h1, Res.bind_ok, h2, h3]
theorem Goes.sub {st : AV → AV → AV → Sto → Option Sto} {fo fi : AE} : Goes (agSub st fo fi) := fun z σ s => by
  unfold agSub
  split
  · exact .inl ⟨_, _, rfl⟩
  · exact .inr rfl
theorem DG.sub {tset : TSet} {st : AV → AV → AV → Sto → Option Sto} {to ti : TE} {fo fi : AE} (hs : ∀ (w : Wd) (s s' : Sto) (x y z : AV) (v u t : V) (G : Hp → Prop), Sim W w s → Rel W w x v → Rel W w y u → Rel W w z t → st x y z s = some s' → (∀ w', Ext w w' → Sim W w' s' → G w'.H) → tset v u t w.H G)
    (ho : DE W (fun _ _ _ _ => False) to fo) (hi : DE W (fun _ _ _ _ => False) ti fi) : DG W (gSub to ti tset) (agSub st fo fi) := fun w s σ σc z t Q S R r h => by
  have h : (match (fo σ s).bind fun x s1 => (fi σ s1).bind fun y s2 => (match st x y z s2 with | some s3 => .ok .non s3 | none => .stuck : Res AV) with | .ok _ s3 => .nx σ s3 | _ => .stuck : SRes).P W w _ _ := h
  cases e0 : fo σ s with
  | err => rw [e0] at h; exact (show False from h).elim
  | stuck => rw [e0] at h; exact (show False from h).elim
  | ok x s1 =>
    rw [e0] at h
    refine ho w s σ σc _ S R ?_
    rw [e0]
    intro w1 v e1 S1 r1
    simp only [Res.bind_ok] at h
    cases e2 : fi σ s1 with
    | err => rw [e2] at h; exact (show False from h).elim
    | stuck => rw [e2] at h; exact (show False from h).elim
    | ok y s2 =>
      rw [e2] at h
      refine hi w1 s1 σ σc _ S1 (R.mono e1) ?_
      rw [e2]
      intro w2 u e3 S2 r2
      simp only [Res.bind_ok] at h
      cases e4 : st x y z s2 with
      | none => rw [e4] at h; exact (show False from h).elim
      | some s3 =>
        rw [e4] at h
        exact hs w2 s2 s3 x y z v u t _ S2 (r1.mono e3) r2 ((r.mono e1).mono e3) e4 fun w' e' S' => h w' σc ((e1.trans e3).trans e') S' (((R.mono e1).mono e3).mono e')
theorem DG.subD {to ti : TE} {fo fi : AE} (ho : DE W (fun _ _ _ _ => False) to fo) (hi : DE W (fun _ _ _ _ => False) ti fi) : DG W (gSub to ti rSetD) (agSub setD fo fi) := DG.sub (fun w s s' x y z v u t G S rx ry rz e h => by
  obtain ⟨a, w', k1, k2, k3, k4⟩ := setD_ok S rx ry rz e
  exact ⟨a, w'.H, k1, k2, h w' k3 k4⟩) ho hi
theorem DG.subL {to ti : TE} {fo fi : AE} (ho : DE W (fun _ _ _ _ => False) to fo) (hi : DE W (fun _ _ _ _ => False) ti fi) : DG W (gSub to ti rSetL) (agSub setL fo fi) := DG.sub (fun w s s' x y z v u t G S rx ry rz e h => by
  obtain ⟨p, xs, k, j, w', k1, k2, k3, k4, k5, k6, k7⟩ := setL_ok S rx ry rz e
  refine ⟨p, xs, k, j, k1, k2, k3, k4, ?_⟩
  rw [← k5]; exact h w' k6 k7) ho hi
/-- {} and {k: v, ..} -/
def newD (kvs : List (Key × AV)) (s : Sto) : Res AV := .ok (.obj s.n) (s.new (.dic kvs))
def aDNew : AE := fun _ s => newD [] s
def aPairs : List (AE × AE) → ASt → Sto → Res (List (AV × AV))
  | [], _, s => .ok [] s
  | (fk, fv) :: r, σ, s => (fk σ s).bind fun x s1 => (fv σ s1).bind fun y s2 => (aPairs r σ s2).bind fun ps s3 => .ok ((x, y) :: ps) s3
def keysA : List (AV × AV) → Option (List (Key × AV))
  | [] => some []
  | (x, y) :: r => match toKey x, keysA r with | some k, some ks => some ((k, y) :: ks) | _, _ => none
def mergeA (kvs more : List (Key × AV)) : List (Key × AV) := more.foldl (fun acc kv => putKA acc kv.1 kv.2) kvs
def aDisp (fs : List (AE × AE)) : AE := fun σ s => (aPairs fs σ (s.new (.dic []))).bind fun ps s1 => match s1.c s.n, keysA ps with | .dic [], some kvs => if kvs.length ≤ 15 then .ok (.obj s.n) (s1.set s.n (.dic (mergeA [] kvs))) else .stuck | _, _ => .stuck
inductive DPs (W : Wl) (E : L2.St → XK) : List (TE × TE) → List (AE × AE) → Prop
  | nil : DPs W E [] []
  | cons {tk tv : TE} {fk fv : AE} {ts : List (TE × TE)} {fs : List (AE × AE)} (hk : DE W E tk fk) (hv : DE W E tv fv) (r : DPs W E ts fs) : DPs W E ((tk, tv) :: ts) ((fk, fv) :: fs)
theorem DPs.run {ts : List (TE × TE)} {fs : List (AE × AE)} (d : DPs W E ts fs) : ∀ (w : Wd) (s : Sto) (σ : ASt) (σc : L2.St) (Q : List (V × V) → Hp → Prop), Sim W w s → RSt W w σ σc →
    (aPairs fs σ s).Post (fun ps s' => ∀ w' qs, Ext w w' → Sim W w' s' → Paired (fun (p : AV × AV) (q : V × V) => Rel W w' p.1 q.1 ∧ Rel W w' p.2 q.2) ps qs → Q qs w'.H) (ErrP W w (E σc)) → tPairs ts σc w.H Q := by
  induction d with
  | nil => exact fun w s σ σc Q S R h => h w [] (.refl w) S .nil
  | @cons tk tv fk fv ts fs hk hv r ih =>
    intro w s σ σc Q S R h
    refine hk w s σ σc _ S R ((post_bind_ok h).mono (fun x s1 h1 w1 v e1 S1 r1 => ?_) fun _ _ _ _ z => z)
    refine hv w1 s1 σ σc _ S1 (R.mono e1) ((post_bind_ok h1).mono (fun y s2 h2 w2 u e2 S2 r2 => ?_) fun _ _ _ _ z => z.mono e1)
    refine ih w2 s2 σ σc _ S2 ((R.mono e1).mono e2) ((post_bind_ok h2).mono (fun ps s3 h3 w3 qs e3 S3 r3 => ?_) fun _ _ _ _ z => (z.mono e1).mono e2)
    exact h3 w3 _ ((e1.trans e2).trans e3) S3 (.cons ⟨(r1.mono e2).mono e3, r2.mono e3⟩ r3)
theorem keys_rel {w : Wd} : ∀ {ps : List (AV × AV)} {qs : List (V × V)} {kvs : List (Key × AV)}, Paired (fun (p : AV × AV) (q : V × V) => Rel W w p.1 q.1 ∧ Rel W w p.2 q.2) ps qs → keysA ps = some kvs → ∃ gs : List (Key × V), qs = gs.map (fun kv => (kV kv.1, kv.2)) ∧ RelK W w kvs gs
  | _, _, _, .nil, e => by cases e; exact ⟨[], rfl, .nil⟩
  | (x, y) :: r, (v, u) :: r', _, .cons h t, e => by
    unfold keysA at e
    split at e
    · rename_i k ks e1 e2
      cases e
      obtain ⟨gs, h1, h2⟩ := keys_rel t e2
      refine ⟨(k, u) :: gs, ?_, .cons ⟨rfl, h.2⟩ h2⟩
      rw [List.map_cons, ← h1]
      rw [show v = kV k from key_rel h.1 e1]
    · cases e
theorem merge_rel {w : Wd} : ∀ {more : List (Key × AV)} {moreC : List (Key × V)} {kvs : List (Key × AV)} {gs : List (Key × V)}, RelK W w more moreC → RelK W w kvs gs → RelK W w (mergeA kvs more) (mergeK gs moreC)
  | _, _, _, _, .nil, h => h
  | (k, x) :: r, (k', v) :: r', kvs, gs, .cons h t, h2 => by
    cases (show k = k' from h.1)
    show RelK W w (mergeA (putKA kvs k x) r) (mergeK (putK gs k v) r')
    exact merge_rel t (putK_rel h.2 h2)
theorem DE.disp {ts : List (TE × TE)} {fs : List (AE × AE)} (d : DPs W E ts fs) : DE W E (tDisp ts) (aDisp fs) := fun w s σ σc Q S R h p hp => by
  have g := grow_upd (o := .dK []) hp
  have e0 : Ext w (w.new p (upd w.H p (.dK []))) := .new g
  have S0 : Sim W (w.new p (upd w.H p (.dK []))) (s.new (.dic [])) := S.new hp g upd_same (.dic .nil)
  have r0 : Rel W (w.new p (upd w.H p (.dK []))) (.obj s.n) (.ref p) := Rel.new p _ S.n
  refine d.run (w.new p (upd w.H p (.dK []))) _ σ σc _ S0 (R.mono e0) ((post_bind_ok h).mono (fun ps s1 h1 w1 qs e1 S1 r1 => ?_) fun _ _ _ _ z => z.mono e0)
  split at h1
  · rename_i kvs ec ek
    split at h1
    · rename_i hl
      obtain ⟨gs, q1, q2⟩ := keys_rel r1 ek
      obtain ⟨o, k1, k2, k3, k4⟩ := cell_at S1 (r0.mono e1) ec
      have ep : p = w1.m s.n := by cases k2; rfl
      cases k4 with
      | dic r =>
        cases r
        refine ⟨by rw [ep]; exact k3, gs, q1, by rw [← Paired.length q2]; exact hl, ?_⟩
        have S2 := S1.wr (o := .dK (mergeK [] gs)) k1 (.dic (merge_rel q2 .nil))
        have e2 := Ext.wr (o := .dK (mergeK [] gs)) S1 k1
        have r2 := (r0.mono e1).mono e2
        rw [← ep] at S2 e2
        exact h1 _ _ ((e0.trans e1).trans e2) S2 (by rw [ep] at *; exact r2)
    · exact (show False from h1).elim
  · exact (show False from h1).elim
end
end
end Ab
set_option Elab.async false
set_option linter.all false
set_option maxRecDepth 100000
set_option maxHeartbeats 1000000
namespace Ab
open PySem PySem.Spec PyProof.Rows L2
open Classical
noncomputable section
def ItW (W : Wl) (w0 : Wd) (J : It) (items : List AV) (G : Sto → Prop) : Prop :=
  ∃ (n : Nat) (GC : Hp → Prop) (Y : Nat → Hp → V → Hp → Prop), Walk J n GC Y ∧ n = items.length ∧ (∀ w s, Ext w0 w → Sim W w s → G s → GC w.H) ∧
    ∀ w s i x H', Ext w0 w → Sim W w s → G s → i < n → Y i w.H x H' → ∃ y w', items[i]? = some y ∧ w'.H = H' ∧ Ext w w' ∧ Sim W w' s ∧ Rel W w' y x
abbrev AI := ASt → Sto → Res (List AV × (Sto → Prop))
def DI (W : Wl) (E : L2.St → XK) (wi : TI) (fi : AI) : Prop := ∀ (w : Wd) (s : Sto) (σ : ASt) (σc : L2.St) (R : It → Hp → Prop), Sim W w s → RSt W w σ σc →
  (fi σ s).Post (fun p s' => ∀ w' J, Ext w w' → Sim W w' s' → ItW W w' J p.1 p.2 → R J w'.H) (ErrP W w (E σc)) → wi σc w.H R
/-- x for x in a list, a tuple, a text -/
def signs (z : Str) : List AV := z.cps.toList.map fun c => .str ⟨#[c]⟩
def iterOf (x : AV) (s1 : Sto) : Res (List AV × (Sto → Prop)) := match x with
  | .tup xs => .ok (xs, fun _ => True) s1
  | .scr xs => .ok (xs, fun _ => True) s1
  | .str z => .ok (signs z, fun _ => True) s1
  | _ => match lstOf s1 x with | some xs => .ok (xs, fun s2 => lstOf s2 x = some xs) s1 | none => .stuck
@[simp] theorem iterOf_tup {xs : List AV} {s : Sto} : iterOf (.tup xs) s = .ok (xs, fun _ => True) s := rfl
@[simp] theorem iterOf_scr {xs : List AV} {s : Sto} : iterOf (.scr xs) s = .ok (xs, fun _ => True) s := rfl
@[simp] theorem iterOf_str {z : Str} {s : Sto} : iterOf (.str z) s = .ok (signs z, fun _ => True) s := rfl
def aIter (fa : AE) : AI := fun σ s => (fa σ s).bind iterOf
def iterU (K : PySem.W.Frag) (te : TE) : TI := fun σ H R => iList K te σ H R ∨ iTup K te σ H R ∨ iStr te σ H R
theorem PI.or {X : Cx} {tg e : Expr} {w1 w2 : TI} (h1 : PI X tg e w1) (h2 : PI X tg e w2) : PI X tg e (fun σ H R => w1 σ H R ∨ w2 σ H R) := ⟨fun pins s σ H R I h => h.elim (h1.run pins s σ H R I) (h2.run pins s σ H R I)⟩
theorem itw_list {W : Wl} {w0 : Wd} {s0 : Sto} {x : AV} {a : Addr} {xs : List AV} {vs : List V} (S : Sim W w0 s0) (r : Rel W w0 x (.ref a)) (G : Sto → Prop) (hG : ∀ s, G s → lstOf s x = some xs) : ItW W w0 (Itl W.K a) xs G := by
  refine ⟨xs.length, fun H => ∃ vs, SqL W.K H a vs ∧ vs.length = xs.length, fun i H x H' => H' = H ∧ ∀ ys, SqL W.K H a ys → ys[i]? = some x, ⟨fun i H hi ⟨vs, h1, h2⟩ => ⟨vs, vs[i], h1, by simp⟩, fun H ⟨vs, h1, h2⟩ => ⟨vs, h1, Nat.le_of_eq h2⟩, fun i H x H' hi h y => y⟩, rfl, fun w s e S' g => ?_, fun w s i y H' e S' g hi hy => ?_⟩
  · obtain ⟨a', vs', k1, k2, k3⟩ := lst_at S' (r.mono e) (hG s g)
    cases k1
    exact ⟨vs', k2, k3.length.symm⟩
  · obtain ⟨a', vs', k1, k2, k3⟩ := lst_at S' (r.mono e) (hG s g)
    cases k1
    obtain ⟨rfl, h2⟩ := hy
    obtain ⟨z, z1, z2⟩ := k3.getv i y (h2 vs' k2)
    exact ⟨z, w, z1, rfl, .refl w, S', z2⟩
theorem itw_tup {W : Wl} {w0 : Wd} {a : Addr} {xs : List AV} {vs : List V} (h : SqT W.K w0.H a vs) (r : RelL W w0 xs vs) (G : Sto → Prop) : ItW W w0 (Itt W.K a) xs G := by
  refine ⟨xs.length, fun H => SqT W.K H a vs, fun i H x H' => H' = H ∧ ∀ ys, SqT W.K H a ys → ys[i]? = some x, ⟨fun i H hi h1 => ⟨vs, vs[i]'(by rw [← r.length]; exact hi), h1, by simp⟩, fun H h1 => ⟨vs, h1, Nat.le_of_eq r.length.symm⟩, fun i H x H' hi h y => y⟩, rfl, fun w s e S' g => sqt_ext e h, fun w s i y H' e S' g hi hy => ?_⟩
  obtain ⟨rfl, h2⟩ := hy
  obtain ⟨z, z1, z2⟩ := (r.mono e).getv i y (h2 vs (sqt_ext e h))
  exact ⟨z, w, z1, rfl, .refl w, S', z2⟩
theorem itw_str {W : Wl} {w0 : Wd} {z : Str} (G : Sto → Prop) : ItW W w0 (Its z) (signs z) G := by
  refine ⟨z.cps.size, fun _ => True, _, walk_str, by simp [signs], fun _ _ _ _ _ => trivial, fun w s i y H' e S' g hi hy => ?_⟩
  obtain ⟨rfl, c, h2, rfl⟩ := hy
  refine ⟨.str ⟨#[c]⟩, w, ?_, rfl, .refl w, S', .str _⟩
  unfold signs
  rw [List.getElem?_map, Array.getElem?_toList, h2]
  rfl
section
variable {W : Wl} {E : L2.St → XK} {ta tb : TE} {fa fb : AE} {tr : TA} {fr : AA} {t : TT} {ft : AT} {ts : TS} {fs : AS} {tg : TG} {g : AV → AS} {wi : TI} {fi : AI}
theorem DI.iter (ha : DE W E ta fa) : DI W E (iterU W.K ta) (aIter fa) := fun w s σ σc R S Rs h => by
  cases e : fa σ s with
  | stuck =>
    have : aIter fa σ s = .stuck := by unfold aIter; rw [e]; rfl
    rw [this] at h; exact h.elim
  | err c ns vs s1 =>
    have : aIter fa σ s = .err c ns vs s1 := by unfold aIter; rw [e]; rfl
    rw [this] at h
    exact .inl (ha w s σ σc _ S Rs (by rw [e]; exact h))
  | ok x s1 =>
    have e1 : aIter fa σ s = iterOf x s1 := by unfold aIter; rw [e]; rfl
    rw [e1] at h
    unfold iterOf at h
    split at h
    · refine .inr (.inl (ha w s σ σc _ S Rs ?_))
      rw [e]
      intro w1 v x1 S1 r1
      cases r1 with
      | @tup a _ vs k1 k2 => exact ⟨a, rfl, ⟨vs, k1⟩, h w1 _ x1 S1 (itw_tup k1 k2 _)⟩
    · refine .inl (ha w s σ σc _ S Rs ?_)
      rw [e]
      intro w1 v x1 S1 r1
      cases r1 with
      | @scr a _ vs k1 k2 => exact ⟨a, rfl, ⟨vs, k1.sql⟩, h w1 _ x1 S1 (itw_list (vs := vs) S1 (.scr k1 k2) _ fun _ _ => rfl)⟩
    · refine .inr (.inr (ha w s σ σc _ S Rs ?_))
      rw [e]
      intro w1 v x1 S1 r1
      cases r1 with
      | str => exact ⟨_, rfl, h w1 _ x1 S1 (itw_str _)⟩
    · split at h
      · rename_i xs el
        refine .inl (ha w s σ σc _ S Rs ?_)
        rw [e]
        intro w1 v x1 S1 r1
        obtain ⟨a, vs, rfl, k2, k3⟩ := lst_at S1 r1 el
        exact ⟨a, rfl, ⟨vs, k2⟩, h w1 _ x1 S1 (itw_list (vs := vs) S1 r1 _ fun _ z => z)⟩
      · exact h.elim
/-- ranges -/
def rngA (lo : Int) (n : Nat) : List AV := (List.range n).map fun i => .int (lo + (i : Nat))
def aRng1 (fr : AA) : AI := fun σ s => (fr σ s).bind fun xs s1 => match xs with | [.int j] => if -(2 ^ 62) ≤ j ∧ j < 2 ^ 62 then .ok (rngA 0 j.toNat, fun _ => True) s1 else .stuck | _ => .stuck
def aRng2 (fr : AA) : AI := fun σ s => (fr σ s).bind fun xs s1 => match xs with | [.int i, .int j] => if -(2 ^ 62) ≤ i ∧ i < 2 ^ 62 ∧ -(2 ^ 62) ≤ j ∧ j < 2 ^ 62 then .ok (rngA i (j - i).toNat, fun _ => True) s1 else .stuck | _ => .stuck
theorem itw_rng {w0 : Wd} {lo : Int} {n : Nat} (G : Sto → Prop) : ItW W w0 (Itr lo n) (rngA lo n) G := by
  refine ⟨n, fun _ => True, _, walk_range, by simp [rngA], fun _ _ _ _ _ => trivial, fun w s i y H' e S' g hi hy => ?_⟩
  obtain ⟨rfl, rfl⟩ := hy
  refine ⟨.int (lo + i), w, ?_, rfl, .refl w, S', .int _⟩
  unfold rngA
  rw [List.getElem?_map, List.getElem?_range hi]
  rfl
theorem DI.rng1 (ha : DA W E tr fr) : DI W E (iRng1 tr) (aRng1 fr) := fun w s σ σc R S Rs h => by
  refine ha w s σ σc _ S Rs ((post_bind_ok h).mono (fun xs s1 h1 w1 vs e1 S1 r1 => ?_) fun _ _ _ _ z => z)
  split at h1
  · split at h1
    · rename_i hl
      cases r1 with
      | cons r1 r2 =>
        cases r1; cases r2
        exact ⟨_, rfl, hl.1, hl.2, h1 w1 _ e1 S1 (itw_rng _)⟩
    · exact (show False from h1).elim
  · exact (show False from h1).elim
theorem DI.rng2 (ha : DA W E tr fr) : DI W E (iRng2 tr) (aRng2 fr) := fun w s σ σc R S Rs h => by
  refine ha w s σ σc _ S Rs ((post_bind_ok h).mono (fun xs s1 h1 w1 vs e1 S1 r1 => ?_) fun _ _ _ _ z => z)
  split at h1
  · split at h1
    · rename_i hl
      cases r1 with
      | cons r1 r2 =>
        cases r2 with
        | cons r2 r3 =>
          cases r1; cases r2; cases r3
          exact ⟨_, _, rfl, hl, h1 w1 _ e1 S1 (itw_rng _)⟩
    · exact (show False from h1).elim
  · exact (show False from h1).elim
/-- enumerate -/
def enumA (xs : List AV) : List AV := xs.mapIdx fun i x => .tup [.int (i : Nat), x]
def aEnum (fr : AA) : AI := fun σ s => (fr σ s).bind fun xs s1 => match xs with | [x] => (match lstOf s1 x with | some ys => .ok (enumA ys, fun s2 => lstOf s2 x = some ys) s1 | none => .stuck) | _ => .stuck
theorem DI.enum (ha : DA W E tr fr) : DI W E (iEnum W.K tr) (aEnum fr) := fun w s σ σc R S Rs h => by
  refine ha w s σ σc _ S Rs ((post_bind_ok h).mono (fun xs s1 h1 w1 vs e1 S1 r1 => ?_) fun _ _ _ _ z => z)
  split at h1
  · rename_i x
    split at h1
    · rename_i ys el
      cases r1 with
      | cons r1 r2 =>
        cases r2
        obtain ⟨a, us, rfl, k2, k3⟩ := lst_at S1 r1 el
        refine ⟨a, us, rfl, k2, h1 w1 _ e1 S1 ?_⟩
        refine ⟨ys.length, fun H => ∃ vs, SqL W.K H a vs ∧ vs.length = ys.length, fun i H v H' => ∃ T x, v = .ref T ∧ H T = none ∧ H' = upd H T (.tup [.int (i : Nat), x]) ∧ ∀ xs, SqL W.K H a xs → xs[i]? = some x, ⟨fun i H hi ⟨vs, h1, h2⟩ => ⟨vs, vs[i], h1, by simp⟩, fun H ⟨vs, h1, h2⟩ => ⟨vs, h1, Nat.le_of_eq h2⟩, fun i H x H' hi h y => y⟩, by simp [enumA], fun w s e S' g => ?_, fun w s i y H' e S' g hi hy => ?_⟩
        · obtain ⟨a', vs', z1, z2, z3⟩ := lst_at S' (r1.mono e) g
          cases z1
          exact ⟨vs', z2, z3.length.symm⟩
        · obtain ⟨a', vs', z1, z2, z3⟩ := lst_at S' (r1.mono e) g
          cases z1
          obtain ⟨T, u, rfl, hT, rfl, h2⟩ := hy
          obtain ⟨z, y1, y2⟩ := z3.getv i u (h2 vs' z2)
          have gr := grow_upd (o := .tup [.int (i : Nat), u]) hT
          refine ⟨.tup [.int (i : Nat), z], _, ?_, rfl, .grow gr, S'.grow gr, .tup (.inl (.inl upd_same)) (.cons (.int _) (.cons (y2.mono (.grow gr)) .nil))⟩
          unfold enumA
          rw [List.getElem?_mapIdx, y1]
          rfl
    · exact (show False from h1).elim
  · exact (show False from h1).elim
/-- zip of two lists, or of two tuples -/
def zipA (xs ys : List AV) : List AV := (xs.zip ys).map fun p => .tup [p.1, p.2]
def aZip (fr : AA) : AI := fun σ s => (fr σ s).bind fun xs s1 => match xs with
  | [.tup a, .tup b] => .ok (zipA a b, fun _ => True) s1
  | [x, y] => (match lstOf s1 x, lstOf s1 y with | some a, some b => .ok (zipA a b, fun s2 => lstOf s2 x = some a ∧ lstOf s2 y = some b) s1 | _, _ => .stuck)
  | _ => .stuck
theorem zip_get {xs ys : List AV} {i : Nat} {x y : AV} (h1 : xs[i]? = some x) (h2 : ys[i]? = some y) : (zipA xs ys)[i]? = some (.tup [x, y]) := by
  unfold zipA
  rw [List.getElem?_map, show (xs.zip ys)[i]? = some (x, y) from List.getElem?_zip_eq_some.mpr ⟨h1, h2⟩]
  rfl
theorem DI.zip (ha : DA W E tr fr) : DI W E (RZ.iZipA W.K tr) (aZip fr) := fun w s σ σc R S Rs h => by
  refine ha w s σ σc _ S Rs ((post_bind_ok h).mono (fun xs s1 h1 w1 vs e1 S1 r1 => ?_) fun _ _ _ _ z => z)
  split at h1
  · rename_i xa xb
    cases r1 with
    | cons r1 r2 =>
      cases r2 with
      | cons r2 r3 =>
        cases r3
        cases r1 with
        | @tup a _ vs a1 a2 =>
          cases r2 with
          | @tup b _ us b1 b2 =>
            refine ⟨a, b, vs, us, rfl, .inr ⟨a1, b1, h1 w1 _ e1 S1 ?_⟩⟩
            refine ⟨min vs.length us.length, fun H => SqT W.K H a vs ∧ SqT W.K H b us, YPair (fun i => vs[i]?) (fun i => us[i]?), ?_, ?_, fun w s e S' g => ⟨sqt_ext e a1, sqt_ext e b1⟩, fun w s i y H' e S' g hi hy => ?_⟩
            · refine ⟨fun i _ hi q => ?_, fun _ q => ⟨vs, us, q.1, q.2, by omega⟩, fun i H v H' _ q y => ?_⟩
              · have h1 : i < vs.length := by omega
                have h2 : i < us.length := by omega
                exact ⟨vs, us, vs[i], us[i], q.1, q.2, by simp [h1], by simp [h2]⟩
              · obtain ⟨T, x, z, h1, h2, h3, h4, h5⟩ := y
                exact ⟨T, x, z, h1, h2, h3, h4 vs q.1, h5 us q.2⟩
            · simp [zipA, a2.length, b2.length]
            · obtain ⟨T, x, z, rfl, hT, rfl, h4, h5⟩ := hy
              obtain ⟨x', x1, x2⟩ := (a2.mono e).getv i x h4
              obtain ⟨y', y1, y2⟩ := (b2.mono e).getv i z h5
              have gr := grow_upd (o := .tup [x, z]) hT
              exact ⟨.tup [x', y'], _, zip_get x1 y1, rfl, .grow gr, S'.grow gr, .tup (.inl (.inl upd_same)) (.cons (x2.mono (.grow gr)) (.cons (y2.mono (.grow gr)) .nil))⟩
  · rename_i x y _
    split at h1
    · rename_i xa xb ea eb
      cases r1 with
      | cons r1 r2 =>
        cases r2 with
        | cons r2 r3 =>
          cases r3
          obtain ⟨a, vs, rfl, a2, a3⟩ := lst_at S1 r1 ea
          obtain ⟨b, us, rfl, b2, b3⟩ := lst_at S1 r2 eb
          refine ⟨a, b, vs, us, rfl, .inl ⟨a2, b2, h1 w1 _ e1 S1 ?_⟩⟩
          refine ⟨min xa.length xb.length, fun H => (∃ vs, SqL W.K H a vs ∧ vs.length = xa.length) ∧ ∃ us, SqL W.K H b us ∧ us.length = xb.length, fun i H v H' => ∃ T x y, v = .ref T ∧ H T = none ∧ H' = upd H T (.tup [x, y]) ∧ (∀ xs, SqL W.K H a xs → xs[i]? = some x) ∧ ∀ ys, SqL W.K H b ys → ys[i]? = some y, ?_, ?_, fun w s e S' g => ?_, fun w s i y H' e S' g hi hy => ?_⟩
          · refine ⟨fun i _ hi ⟨⟨vs, q1, q2⟩, us, q3, q4⟩ => ?_, fun _ ⟨⟨vs, q1, q2⟩, us, q3, q4⟩ => ⟨vs, us, q1, q3, by omega⟩, fun i H v H' _ q y => y⟩
            have h1 : i < vs.length := by omega
            have h2 : i < us.length := by omega
            exact ⟨vs, us, vs[i], us[i], q1, q3, by simp [h1], by simp [h2]⟩
          · simp [zipA]
          · obtain ⟨a', vs', z1, z2, z3⟩ := lst_at S' (r1.mono e) g.1
            obtain ⟨b', us', y1, y2, y3⟩ := lst_at S' (r2.mono e) g.2
            cases z1; cases y1
            exact ⟨⟨vs', z2, z3.length.symm⟩, us', y2, y3.length.symm⟩
          · obtain ⟨a', vs', z1, z2, z3⟩ := lst_at S' (r1.mono e) g.1
            obtain ⟨b', us', y1, y2, y3⟩ := lst_at S' (r2.mono e) g.2
            cases z1; cases y1
            obtain ⟨T, x, z, rfl, hT, rfl, h4, h5⟩ := hy
            obtain ⟨x', x1, x2⟩ := z3.getv i x (h4 vs' z2)
            obtain ⟨y', q1, q2⟩ := y3.getv i z (h5 us' y2)
            have gr := grow_upd (o := .tup [x, z]) hT
            exact ⟨.tup [x', y'], _, zip_get x1 q1, rfl, .grow gr, S'.grow gr, .tup (.inl (.inl upd_same)) (.cons (x2.mono (.grow gr)) (.cons (q2.mono (.grow gr)) .nil))⟩
    · exact (show False from h1).elim
  · exact (show False from h1).elim
def SRes.loop : SRes → AS → SRes
  | .nx σ s, k => k σ s
  | .ct σ s, k => k σ s
  | .bk σ s, _ => .nx σ s
  | .rt v s, _ => .rt v s
  | .err c ns vs σ s, _ => .err c ns vs σ s
  | .stuck, _ => .stuck
@[simp] theorem SRes.loop_nx {σ : ASt} {s : Sto} {f : AS} : (SRes.nx σ s).loop f = f σ s := rfl
@[simp] theorem SRes.loop_ct {σ : ASt} {s : Sto} {f : AS} : (SRes.ct σ s).loop f = f σ s := rfl
@[simp] theorem SRes.loop_bk {σ : ASt} {s : Sto} {f : AS} : (SRes.bk σ s).loop f = .nx σ s := rfl
@[simp] theorem SRes.loop_rt {v : AV} {s : Sto} {f : AS} : (SRes.rt v s).loop f = .rt v s := rfl
@[simp] theorem SRes.loop_err {c : String} {ns : List Str} {vs : List AV} {σ : ASt} {s : Sto} {f : AS} : (SRes.err c ns vs σ s).loop f = .err c ns vs σ s := rfl
@[simp] theorem SRes.loop_stuck {f : AS} : SRes.stuck.loop f = .stuck := rfl
theorem P_loop {r : SRes} {k : AS} {w : Wd} {D : Ends} (h : (r.loop k).P W w D E) (N : L2.St → Hp → Prop) (hN : ∀ w' σ σc s, Ext w w' → Sim W w' s → RSt W w' σ σc → (k σ s).P W w D E → N σc w'.H) : r.P W w { D with nx := N, ct := N, bk := D.nx } E := by
  cases r with
  | nx σ s => exact fun w' σc e S R => hN w' σ σc s e S R h
  | ct σ s => exact fun w' σc e S R => hN w' σ σc s e S R h
  | bk σ s => exact h
  | rt v s => exact h
  | err c ns vs σ s => exact h
  | stuck => exact h
def forI (G : Sto → Prop) (g : AV → AS) (b : AS) : List AV → AS
  | [] => fun σ s => if G s then .nx σ s else .stuck
  | x :: r => fun σ s => if G s then (aSeq (g x) b σ s).loop (forI G g b r) else .stuck
theorem forI_nil {G : Sto → Prop} {g : AV → AS} {b : AS} {σ : ASt} {s : Sto} (h : G s) : forI G g b [] σ s = .nx σ s := if_pos h
theorem forI_cons {G : Sto → Prop} {g : AV → AS} {b : AS} {x : AV} {r : List AV} {σ : ASt} {s : Sto} (h : G s) : forI G g b (x :: r) σ s = (aSeq (g x) b σ s).loop (forI G g b r) := if_pos h
def aFor (fi : AI) (g : AV → AS) (b : AS) : AS := fun σ s => (fi σ s).st σ fun p s1 => forI p.2 g b p.1 σ s1
theorem goes_nx {r : SRes} {w : Wd} {D : Ends} {k : AS} (h : (r.thn k).P W w D E) (g : (∃ σ' s', r = .nx σ' s') ∨ r = .stuck) (Q : L2.St → Hp → Prop) (hQ : ∀ w' σ σc s, Ext w w' → Sim W w' s → RSt W w' σ σc → (k σ s).P W w' D E → Q σc w'.H) : r.P W w ⟨Q, fun _ _ => False, fun _ _ => False, fun _ _ => False⟩ (fun _ _ _ _ => False) := by
  rcases g with ⟨σ', s', rfl⟩ | rfl
  · exact fun w' σc e S R => hQ w' σ' σc s' e S R (P.mono e h)
  · exact h
theorem DS.forS (hi : DI W E wi fi) (hg : DG W tg g) (hn : Goes g) (hb : DS W E ts fs) : DS W E (tFor wi tg ts) (aFor fi g fs) := fun w s σ σc D S R h => by
  refine hi w s σ σc _ S R ((exp_post R h).mono (fun p s1 h1 w1 J e1 S1 it => ?_) fun _ _ _ _ z => z)
  obtain ⟨items, G⟩ := p
  obtain ⟨n, GC, Y, wk, hn', hG, hY⟩ := it
  simp only at hn' hG hY h1
  refine for_it wk (fun i σc H => ∃ w' s' σ', H = w'.H ∧ Ext w1 w' ∧ Sim W w' s' ∧ RSt W w' σ' σc ∧ (forI G g fs (items.drop i) σ' s').P W w' D E) ⟨w1, s1, σ, rfl, .refl w1, S1, R.mono e1, by rw [List.drop_zero]; exact P.mono e1 h1⟩ ?_ ?_ ?_
  · rintro i σc' H hi ⟨w', s', σ', rfl, e', S', R', h'⟩
    refine hG w' s' e' S' ?_
    refine Classical.byContradiction fun ng => ?_
    cases hd : items.drop i with
    | nil => rw [hd] at h'; exact (show False from by unfold forI at h'; rw [if_neg ng] at h'; exact h')
    | cons x r => rw [hd] at h'; exact (show False from by unfold forI at h'; rw [if_neg ng] at h'; exact h')
  · rintro i x σc' H H' hi ⟨w', s', σ', rfl, e', S', R', h'⟩ hy
    have hg' : G s' := Classical.byContradiction fun ng => by
      cases hd : items.drop i with
      | nil => rw [hd] at h'; exact (show False from by unfold forI at h'; rw [if_neg ng] at h'; exact h')
      | cons x r => rw [hd] at h'; exact (show False from by unfold forI at h'; rw [if_neg ng] at h'; exact h')
    obtain ⟨y, w2, q1, rfl, e2, S2, r2⟩ := hY w' s' i x H' e' S' hg' hi hy
    have hd : items.drop i = y :: items.drop (i + 1) := by
      obtain ⟨hlt, q⟩ := List.getElem?_eq_some_iff.mp q1
      rw [List.drop_eq_getElem_cons hlt, q]
    rw [hd, forI_cons hg'] at h'
    have R2 := R'.mono e2
    refine hg w2 s' σ' σc' y x _ S2 R2 r2 ?_
    have h2 := P.mono e2 h'
    have h3 := P_loop h2 (fun σc H => ∃ w3 s3 σ3, H = w3.H ∧ Ext w1 w3 ∧ Sim W w3 s3 ∧ RSt W w3 σ3 σc ∧ (forI G g fs (items.drop (i + 1)) σ3 s3).P W w3 D E) (fun w3 σ3 σc3 s3 e3 S3 R3 k3 => ⟨w3, s3, σ3, rfl, (e'.trans e2).trans e3, S3, R3, P.mono e3 k3⟩)
    exact goes_nx h3 (hn y σ' s') _ fun w3 σ3 σc3 s3 e3 S3 R3 k3 => hb w3 s3 σ3 σc3 _ S3 R3 k3
  · rintro σc' H ⟨w', s', σ', rfl, e', S', R', h'⟩
    rw [hn', List.drop_length] at h'
    unfold forI at h'
    split at h'
    · exact h' w' σc' (.refl w') S' R'
    · exact (show False from h').elim
def whileN (c : AT) (b : AS) : Nat → AS
  | 0 => fun _ _ => .stuck
  | k + 1 => fun σ s => (c σ s).st σ fun r s1 => if r = true then (b σ s1).loop (whileN c b k) else .nx σ s1
def aWhile (c : AT) (b : AS) : AS := fun σ s => if h : ∃ k, whileN c b k σ s ≠ .stuck then whileN c b (Classical.choose h) σ s else .stuck
theorem loop_mono {r : SRes} {k1 k2 : AS} (h : ∀ σ s, k1 σ s ≠ .stuck → k2 σ s = k1 σ s) (n : r.loop k1 ≠ .stuck) : r.loop k2 = r.loop k1 := by
  cases r with
  | nx σ s => exact h σ s n
  | ct σ s => exact h σ s n
  | _ => rfl
theorem whileN_succ {c : AT} {b : AS} : ∀ (k : Nat) (σ : ASt) (s : Sto), whileN c b k σ s ≠ .stuck → whileN c b (k + 1) σ s = whileN c b k σ s
  | 0, σ, s, h => absurd rfl h
  | k + 1, σ, s, h => by
    have h' : (c σ s).st σ (fun r s1 => if r = true then (b σ s1).loop (whileN c b k) else .nx σ s1) ≠ .stuck := h
    show (c σ s).st σ (fun r s1 => if r = true then (b σ s1).loop (whileN c b (k + 1)) else .nx σ s1) = (c σ s).st σ (fun r s1 => if r = true then (b σ s1).loop (whileN c b k) else .nx σ s1)
    cases e : c σ s with
    | ok r s1 =>
      rw [e] at h'
      simp only [Res.st_ok] at h' ⊢
      cases r with
      | true =>
        simp only [if_pos] at h' ⊢
        exact loop_mono (whileN_succ k) h'
      | false => rfl
    | err => rfl
    | stuck => rfl
theorem DS.whileS (hc : DT W E t ft) (hb : DS W E ts fs) : DS W E (tWhile t ts) (aWhile ft fs) := fun w s σ σc D S R h => by
  unfold aWhile at h
  split at h
  · rename_i hex
    refine ⟨fun m σc H => ∃ w' s' σ', H = w'.H ∧ Ext w w' ∧ Sim W w' s' ∧ RSt W w' σ' σc ∧ (whileN ft fs m σ' s').P W w' D E, ⟨_, w, s, σ, rfl, .refl w, S, R, h⟩, ?_⟩
    rintro m σc' H ⟨w', s', σ', rfl, e', S', R', h'⟩
    cases m with
    | zero => exact (show False from h').elim
    | succ m =>
      have h' : ((ft σ' s').st σ' fun r s1 => if r = true then (fs σ' s1).loop (whileN ft fs m) else .nx σ' s1).P W w' D E := h'
      refine hc w' s' σ' σc' _ S' R' ((exp_post R' h').mono (fun b s1 hb1 w1 e1 S1 => ?_) fun _ _ _ _ z => z)
      cases b with
      | false => exact iteF ((show (SRes.nx σ' s1).P W w' D E from by simpa using hb1) w1 σc' e1 S1 (R'.mono e1))
      | true =>
        refine iteT ⟨fun σc H => ∃ w3 s3 σ3, H = w3.H ∧ Ext w w3 ∧ Sim W w3 s3 ∧ RSt W w3 σ3 σc ∧ (whileN ft fs m σ3 s3).P W w3 D E, fun σ2 H2 z => ⟨m, Nat.lt_succ_self m, z⟩, ?_⟩
        have h2 : ((fs σ' s1).loop (whileN ft fs m)).P W w1 D E := P.mono e1 (by simpa using hb1)
        exact hb w1 s1 σ' σc' _ S1 (R'.mono e1) (P_loop h2 _ fun w3 σ3 σc3 s3 e3 S3 R3 k3 => ⟨w3, s3, σ3, rfl, (e'.trans e1).trans e3, S3, R3, P.mono e3 k3⟩)
  · exact h.elim
end
end
end Ab
set_option Elab.async false
set_option linter.all false
set_option maxRecDepth 100000
set_option maxHeartbeats 1000000
namespace Ab
open PySem PySem.Spec PyProof.Rows L2
open Classical
noncomputable section
theorem wipe_get (σ : L2.St) (j : Nat) : ∀ vs : List Nat, (wipe σ vs)[j]? = if j ∈ vs ∧ j < σ.length then some none else σ[j]?
  | [] => by simp [wipe]
  | v :: vs => by
    have ih := wipe_get σ j vs
    have hl := wipe_length σ vs
    show ((wipe σ vs).set v none)[j]? = _
    rw [List.getElem?_set, hl, ih]
    by_cases hv : v = j
    · subst hv
      by_cases hj : v < σ.length
      · simp [hj]
      · simp [hj]
    · have : (j ∈ v :: vs) = (j ∈ vs) := by
        simp only [List.mem_cons, eq_iff_iff]
        exact ⟨fun z => z.elim (fun z => absurd z.symm hv) id, .inr⟩
      simp only [if_neg hv, this]
theorem wipe_set {σ : L2.St} {i : Nat} {x : Option V} {vs : List Nat} (h : i ∈ vs) : wipe (σ.set i x) vs = wipe σ vs := by
  refine List.ext_getElem? fun j => ?_
  rw [wipe_get, wipe_get, List.length_set, List.getElem?_set]
  by_cases hij : i = j
  · subst hij
    by_cases hl : i < σ.length
    · simp [h, hl]
    · simp [hl]
  · simp [hij]
theorem wipe_wipe {σ : L2.St} {vs : List Nat} : wipe (wipe σ vs) vs = wipe σ vs := by
  refine List.ext_getElem? fun j => ?_
  rw [wipe_get, wipe_length]
  by_cases h : j ∈ vs ∧ j < σ.length
  · rw [if_pos h, wipe_get, if_pos h]
  · rw [if_neg h]
/-- a target that stores in these slots alone -/
def WT (tg : TG) (vs : List Nat) : Prop := ∀ v σ H (Q Q' : L2.St → Hp → Prop), (∀ σ2 H2, wipe σ2 vs = wipe σ vs → Q σ2 H2 → Q' σ2 H2) → tg v σ H Q → tg v σ H Q'
def WTs (tg : TGs) (vs : List Nat) : Prop := ∀ v σ H (Q Q' : L2.St → Hp → Prop), (∀ σ2 H2, wipe σ2 vs = wipe σ vs → Q σ2 H2 → Q' σ2 H2) → tg v σ H Q → tg v σ H Q'
theorem WT.name {i : Nat} {vs : List Nat} (h : i ∈ vs) : WT (gName i) vs := fun v σ H Q Q' f q => f _ _ (wipe_set h) q
theorem WTs.nil {vs : List Nat} : WTs gNil vs := fun v σ H Q Q' f q => ⟨q.1, f _ _ rfl q.2⟩
theorem WTs.cons {t : TG} {u : TGs} {vs : List Nat} (h1 : WT t vs) (h2 : WTs u vs) : WTs (gCons t u) vs := fun v σ H Q Q' f q => by
  obtain ⟨x, r, e, q⟩ := q
  exact ⟨x, r, e, h1 x σ H _ _ (fun σ2 H2 e2 q2 => h2 r σ2 H2 Q Q' (fun σ3 H3 e3 q3 => f σ3 H3 (e3.trans e2) q3) q2) q⟩
theorem WT.tup {K : PySem.W.Frag} {n : Nat} {u : TGs} {vs : List Nat} (h : WTs u vs) : WT (gTup K n u) vs := fun v σ H Q Q' f q => by
  obtain ⟨a, xs, e, h1, h2, q⟩ := q
  exact ⟨a, xs, e, h1, h2, h xs σ H Q Q' f q⟩
def aYes : AT := fun _ s => .ok true s
theorem DT.yes {W : Wl} {E : L2.St → XK} : DT W E tYes aYes := fun w s σ σc Q S R h => h w (.refl w) S
def lcI (k : Nat) (G : Sto → Prop) (g : AV → AS) (ft : AT) (fe : AE) (σ0 : ASt) : List AV → Sto → Option Sto
  | [] => fun s => if G s then some s else none
  | x :: r => fun s => if G s then (match g x σ0 s with
    | .nx σ2 s2 => (match ft σ2 s2 with
      | .ok true s3 => (match fe σ2 s3 with
        | .ok y s4 => (match s4.c k with | .lst acc => if acc.length < sizeLine then lcI k G g ft fe σ0 r (s4.set k (.lst (acc ++ [y]))) else none | _ => none)
        | _ => none)
      | .ok false s3 => lcI k G g ft fe σ0 r s3
      | _ => none)
    | _ => none) else none
def oObj (k : Nat) : Option Sto → Res AV
  | some s => .ok (.obj k) s
  | none => .stuck
@[simp] theorem oObj_some {k : Nat} {s : Sto} : oObj k (some s) = .ok (.obj k) s := rfl
def aLc (fi : AI) (g : AV → AS) (ft : AT) (fe : AE) (vs : List Nat) : AE := fun σ s => (fi σ s).bind fun p s1 => oObj s1.n (lcI s1.n p.2 g ft fe (wipeA σ vs) p.1 (s1.new (.lst [])))
section
variable {W : Wl} {E : L2.St → XK} {ta tb te : TE} {fa fb fe : AE} {tr : TA} {fr : AA} {t : TT} {ft : AT} {ts : TS} {fs : AS} {tg : TG} {g : AV → AS} {wi : TI} {fi : AI}
theorem lcI_G {k : Nat} {G : Sto → Prop} {σ0 : ASt} {l : List AV} {s s' : Sto} (h : lcI k G g ft fe σ0 l s = some s') : G s := Classical.byContradiction fun ng => by
  cases l with
  | nil => rw [show lcI k G g ft fe σ0 [] s = none from if_neg ng] at h; cases h
  | cons x r =>
    unfold lcI at h
    rw [if_neg ng] at h
    cases h
theorem DE.lc {vs : List Nat} (hi : DI W E wi fi) (hg : DG W tg g) (hn : Goes g) (hw : WT tg vs) (ht : DT W (fun _ _ _ _ => False) t ft) (he : DE W (fun _ _ _ _ => False) te fe) : DE W E (tLc wi tg t te vs) (aLc fi g ft fe vs) := fun w s σ σc Q S R h => by
  refine hi w s σ σc _ S R ((post_bind_ok h).mono (fun p s1 h1 w1 J e1 S1 it => ?_) fun _ _ _ _ z => z)
  obtain ⟨items, G⟩ := p
  obtain ⟨n, GC, Y, wk, hn', hG, hY⟩ := it
  simp only at hn' hG hY h1
  cases el : lcI s1.n G g ft fe (wipeA σ vs) items (s1.new (.lst [])) with
  | none => rw [el] at h1; exact (show False from h1).elim
  | some sf =>
    rw [el] at h1
    have h1 : OkP W w Q (.obj s1.n) sf := h1
    intro D hD
    have gr := grow_upd (o := .lst []) hD
    have e2 : Ext w1 (w1.new D (upd w1.H D (.lst []))) := .new gr
    have S2 : Sim W (w1.new D (upd w1.H D (.lst []))) (s1.new (.lst [])) := S1.new hD gr upd_same (.lst .nil)
    have rD : Rel W (w1.new D (upd w1.H D (.lst []))) (.obj s1.n) (.ref D) := Rel.new D _ S1.n
    refine lc_it wk (fun i H => ∃ w' s', H = w'.H ∧ Ext (w1.new D (upd w1.H D (.lst []))) w' ∧ Sim W w' s' ∧ lcI s1.n G g ft fe (wipeA σ vs) (items.drop i) s' = some sf) ⟨_, _, rfl, .refl _, S2, by rw [List.drop_zero]; exact el⟩ ?_ ?_ ?_
    · rintro i H hi ⟨w', s', rfl, e', S', h'⟩
      exact hG w' s' (e2.trans e') S' (lcI_G h')
    · rintro i x H H' hi ⟨w', s', rfl, e', S', h'⟩ hy
      have hg' := lcI_G h'
      obtain ⟨y, w2, q1, rfl, e3, S3, r3⟩ := hY w' s' i x H' (e2.trans e') S' hg' hi hy
      have hd : items.drop i = y :: items.drop (i + 1) := by
        obtain ⟨hlt, q⟩ := List.getElem?_eq_some_iff.mp q1
        rw [List.drop_eq_getElem_cons hlt, q]
      rw [hd] at h'
      unfold lcI at h'
      rw [if_pos hg'] at h'
      have R3 : RSt W w2 (wipeA σ vs) (wipe σc vs) := ((((R.mono e1).mono e2).mono e').mono e3).wipe vs
      refine hw x (wipe σc vs) w2.H _ _ (fun σ2 H2 ew q => ⟨by rw [ew, wipe_wipe], q⟩) (hg w2 s' (wipeA σ vs) (wipe σc vs) y x _ S3 R3 r3 ?_)
      split at h'
      · rename_i σ2 s2 eg
        rw [eg]
        intro w3 σ3c x3 S4 R4
        refine ht w3 s2 σ2 σ3c _ S4 R4 ?_
        split at h'
        · rename_i s3 et
          rw [et]
          intro w4 x4 S5
          refine iteT (he w4 s3 σ2 σ3c _ S5 (R4.mono x4) ?_)
          split at h'
          · rename_i z s4 ee
            rw [ee]
            intro w5 zc x5 S6 r6
            split at h'
            · rename_i acc ec
              split at h'
              · rename_i hl
                have xx := (((e'.trans e3).trans x3).trans x4).trans x5
                obtain ⟨accc, k1, k2, k3, k4⟩ := lstO_at S6 (rD.mono xx) ec
                have ed : D = w5.m s1.n := by cases k2; rfl
                refine ⟨accc, by rw [ed]; exact k3, by rw [← k4.length]; exact hl, ?_⟩
                exact ⟨{ w5 with H := upd w5.H (w5.m s1.n) (.lst (accc ++ [zc])) }, _, by rw [← ed], xx.trans (.wr S6 k1), S6.wr k1 (.lst (k4.append (.cons r6 .nil))), h'⟩
              · cases h'
            · cases h'
          · cases h'
        · rename_i s3 et
          rw [et]
          intro w4 x4 S5
          exact iteF ⟨w4, s3, rfl, ((e'.trans e3).trans x3).trans x4, S5, h'⟩
        · cases h'
      · cases h'
    · rintro H ⟨w', s', rfl, e', S', h'⟩
      rw [hn', List.drop_length] at h'
      have hg' := lcI_G h'
      have : lcI s1.n G g ft fe (wipeA σ vs) [] s' = some s' := if_pos hg'
      rw [this] at h'
      cases h'
      exact h1 w' _ ((e1.trans e2).trans e') S' (rD.mono e')
def bnames : List String := ["NoneType", "bool", "int", "str", "tuple", "list", "dict"]
def cvl (W : Wl) (n : String) : Value := if n ∈ bnames then .type n else .ref (W.κ n)
structure KitOk (W : Wl) (kit : String → String → Option Bool) : Prop where
  kit : ∀ a b r, (a ∈ bnames ∨ a ∈ W.live ∨ a ∈ W.xlive) → kit a b = some r → PySem.W.kitOne W.K (cvl W a) (cvl W b) = some r
  ins : ∀ c ∈ W.live, c ∉ bnames ∧ C8.InsC W.K (W.κ c)
  exc : ∀ c ∈ W.xlive, c ∉ bnames ∧ ExcC W.K (W.κ c)
def tyN (s : Sto) : AV → Option String
  | .non => some "NoneType"
  | .bl _ => some "bool"
  | .int _ => some "int"
  | .str _ => some "str"
  | .tup _ => some "tuple"
  | .obj i => (match s.c i with | .lst _ => some "list" | .dic _ => some "dict" | .ins c _ => some c)
  | .exn c _ _ => some c
  | _ => none
def clsN : AV → Option String
  | .ty n => some n
  | .cls c => some c
  | _ => none
def clsOk : AV → Bool
  | .ty n => decide (n ∈ bnames)
  | .cls n => decide (n ∉ bnames)
  | _ => false
def gIsi (kit : String → String → Option Bool) : List AV → Sto → Res AV := fun xs s => match xs with
  | [x, c] => (match tyN s x, clsN c with | some a, some b => (match kit a b with | some r => if clsOk c = true then .ok (.bl r) s else .stuck | none => .stuck) | _, _ => .stuck)
  | _ => .stuck
theorem NEL.isi {kit : String → String → Option Bool} : NEL (gIsi kit) := fun x s c ns vs s' h => by 
  unfold gIsi at h
  repeat' split at h
  all_goals first | cases h | (unfold newL at h; cases h)
theorem gIsi_ty {kit : String → String → Option Bool} {x : AV} {a n : String} {r : Bool} {s : Sto} (h1 : tyN s x = some a) (h2 : kit a n = some r) (h3 : n ∈ bnames) : gIsi kit [x, .ty n] s = .ok (.bl r) s := by
  unfold gIsi
  simp only [h1, clsN, h2]
  exact if_pos (decide_eq_true h3)
def rIsiU (K : PySem.W.Frag) : List V → Hp → VK → Prop := fun xs H Q => rIsi K xs H Q ∨ Gx.rIsK K xs H Q
theorem call_isiU {X : Cx} : CallR X (.builtin "isinstance") (rIsiU X.K) := CallR.or call_isi Gx.call_isK
theorem sqt_ty {K : PySem.W.Frag} {H : Hp} {a : Addr} {vs : List V} (h : SqT K H a vs) : TyX K H (.ref a) (.type "tuple") := by
  rcases h with (h | ⟨o, h⟩) | ⟨o, its, n, h1, h2, h3, h4⟩
  · exact .base (.tup h)
  · exact .fTuple h
  · exact .kTuple h1 h2
theorem DB.isi {kit : String → String → Option Bool} (ko : KitOk W kit) : DB W (rIsiU W.K) (gIsi kit) := fun w s xs v Q S r h => by
  unfold gIsi at h
  split at h
  · rename_i x c
    cases r with
    | @cons _ vx _ _ r1 r2 => cases r2 with
      | @cons _ vcl _ _ r2 r3 =>
        cases r3
        split at h
        · rename_i a b ea eb
          split at h
          · rename_i rr ek
            split at h
            · rename_i hc
              have hq := h w (.bl rr) (.refl w) S (.bl _)
              have hcl : ∃ u, ClsV vcl u ∧ u = cvl W b := by
                cases r2 with
                | ty =>
                  cases eb
                  exact ⟨_, .ty _, (if_pos (of_decide_eq_true hc)).symm⟩
                | cls =>
                  cases eb
                  exact ⟨_, .own _, (if_neg (of_decide_eq_true hc)).symm⟩
                | _ => cases hc
              obtain ⟨u, u1, rfl⟩ := hcl
              have base : ∀ {T : Value}, TyX W.K w.H vx T → T = cvl W a → (a ∈ bnames ∨ a ∈ W.live ∨ a ∈ W.xlive) → rIsiU W.K [vx, vcl] w.H Q := fun {T} hT e hm => by
                subst e
                exact .inl ⟨vx, vcl, _, _, rr, rfl, u1, hT, ko.kit a b rr hm ek, hq⟩
              cases r1 with
              | non => cases ea; exact base (.base .non) (if_pos (by decide)).symm (.inl (by decide))
              | bl => cases ea; exact base (.base (.bl _)) (if_pos (by decide)).symm (.inl (by decide))
              | int => cases ea; exact base (.base (.int _)) (if_pos (by decide)).symm (.inl (by decide))
              | str => cases ea; exact base (.base (.str _)) (if_pos (by decide)).symm (.inl (by decide))
              | ty => cases ea
              | cls => cases ea
              | raw => cases ea
              | scr => cases ea
              | tup h1 h2 => cases ea; exact base (sqt_ty h1) (if_pos (by decide)).symm (.inl (by decide))
              | @obj i hi =>
                have ea : (match s.c i with | .lst _ => some "list" | .dic _ => some "dict" | .ins c _ => some c : Option String) = some a := ea
                cases ec : s.c i with
                | lst xs =>
                  rw [ec] at ea
                  cases ea
                  obtain ⟨vs, k1, k2, k3, k4⟩ := lstO_at S (.obj hi) ec
                  exact base (.base (.lst k3)) (if_pos (by decide)).symm (.inl (by decide))
                | dic kvs =>
                  rw [ec] at ea
                  cases ea
                  obtain ⟨o, k1, k2, k3, k4⟩ := cell_at S (.obj hi) ec
                  cases k4
                  exact base (.base (.dK k3)) (if_pos (by decide)).symm (.inl (by decide))
                | ins c fs =>
                  rw [ec] at ea
                  cases ea
                  obtain ⟨o, k1, k2, k3, k4⟩ := cell_at S (.obj hi) ec
                  cases k4 with
                  | ins hl rf =>
                    obtain ⟨n1, ic⟩ := ko.ins _ hl
                    exact base (.base (.ins k3 ic.cl ic.ha ic.hn ic.htk ic.hm)) (if_neg n1).symm (.inr (.inl hl))
              | @exn _ ax d ns xs vs hl hx hd hln rv =>
                cases ea
                obtain ⟨n1, ec⟩ := ko.exc _ hl
                refine .inr ⟨ax, _, d, _, vcl, _, rr, rfl, ec, hx, hd, fun u hu => u1.eq hu, ?_, hq⟩
                have := ko.kit _ b rr (.inr (.inr hl)) ek
                rw [show cvl W _ = .ref (W.κ _) from if_neg n1] at this
                exact this
            · exact h.elim
          · exact h.elim
        · exact h.elim
  · exact h.elim
def gBits (x : AV) (s : Sto) : Res AV := match x with | .int i => .ok (.int (Builtin.Int.intBits i : Nat)) s | _ => .stuck
@[simp] theorem gBits_int {i : Int} {s : Sto} : gBits (.int i) s = .ok (.int (Builtin.Int.intBits i : Nat)) s := rfl
theorem DE.bits (ha : DE W E ta fa) : DE W E (tBits ta) (aUn gBits fa) := fun w s σ σc Q S R h => by
  refine ha w s σ σc _ S R ((post_bind_ok h).mono (fun x s1 h1 w1 v e1 S1 r1 => ?_) fun _ _ _ _ z => z)
  cases r1 with
  | int i => exact ⟨i, rfl, h1 w1 _ e1 S1 (.int _)⟩
  | _ => exact (show False from h1).elim
/-- raise C(v) -/
def raiseK (c : String) (fl : Str) (σ : ASt) : List AV → Sto → SRes
  | [v], s => .err c [fl] [v] σ s
  | _, _ => .stuck
def aRaise (c : String) (fl : Str) (fr : AA) : AS := fun σ s => (fr σ s).st σ (raiseK c fl σ)
theorem DS.raise {c : String} {fl : Str} {Wx : WX} (hc : c ∈ W.xlive) (ha : DA W (fun σ cls d H => Wx cls d σ H) tr fr) : DS W (fun σ cls d H => Wx cls d σ H) (fun _ σ H => tMkO (W.κ c) (Gx.spExc (W.κ c) fl) [] tr σ H fun cls d H' => Wx cls d σ H') (aRaise c fl fr) := fun w s σ σc D S R h => by
  refine ha w s σ σc _ S R ((exp_post R h).mono (fun xs s1 h1 w1 vs e1 S1 r1 => ?_) fun _ _ _ _ z => z)
  match xs, vs, r1, h1 with
  | [x], [v], .cons rx .nil, h1 =>
    refine Gx.mkO (C := W.κ c) (fl := fl) (v := v) (H := w1.H) (Q := fun cls d H' => Wx cls d σc H') fun d H' hd ex k => ?_
    exact h1 { w1 with H := H' } σc d (e1.trans (.grow ex)) (S1.grow ex) ((R.mono e1).mono (.grow ex)) ⟨hc, [v], k, rfl, .cons (rx.mono (.grow ex)) .nil⟩
/-- what is caught -/
abbrev HdA := (String → Option Bool) × Option Nat × AS
def SRes.clr (i : Nat) : SRes → SRes
  | .nx σ s => .nx (σ.set i none) s
  | .bk σ s => .bk (σ.set i none) s
  | .ct σ s => .ct (σ.set i none) s
  | .rt v s => .rt v s
  | _ => .stuck
@[simp] theorem SRes.clr_nx {i : Nat} {σ : ASt} {s : Sto} : (SRes.nx σ s).clr i = .nx (σ.set i none) s := rfl
@[simp] theorem SRes.clr_rt {i : Nat} {v : AV} {s : Sto} : (SRes.rt v s).clr i = .rt v s := rfl
def SRes.noX : SRes → SRes
  | .err _ _ _ _ _ => .stuck
  | r => r
@[simp] theorem SRes.noX_nx {σ : ASt} {s : Sto} : (SRes.nx σ s).noX = .nx σ s := rfl
@[simp] theorem SRes.noX_rt {v : AV} {s : Sto} : (SRes.rt v s).noX = .rt v s := rfl
def aHand (c : String) (ns : List Str) (vs : List AV) (σ : ASt) (s : Sto) : List HdA → SRes
  | [] => .err c ns vs σ s
  | (m, none, f) :: r => (match m c with | some true => (f σ s).noX | some false => aHand c ns vs σ s r | none => .stuck)
  | (m, some i, f) :: r => (match m c with | some true => (f (σ.set i (some (.exn c ns vs))) s).clr i | some false => aHand c ns vs σ s r | none => .stuck)
def aTry (f : AS) (hs : List HdA) : AS := fun σ s => match f σ s with | .err c ns vs σ' s' => aHand c ns vs σ' s' hs | r => r
/-- an error forgets the slots -/
def SRes.forget (n : Nat) : SRes → SRes
  | .err c ns vs _ s => .err c ns vs (List.replicate n none) s
  | r => r
@[simp] theorem SRes.forget_nx {n : Nat} {σ : ASt} {s : Sto} : (SRes.nx σ s).forget n = .nx σ s := rfl
@[simp] theorem SRes.forget_rt {n : Nat} {v : AV} {s : Sto} : (SRes.rt v s).forget n = .rt v s := rfl
@[simp] theorem SRes.forget_err {n : Nat} {c : String} {ns : List Str} {vs : List AV} {σ : ASt} {s : Sto} : (SRes.err c ns vs σ s).forget n = .err c ns vs (List.replicate n none) s := rfl
def aForget (n : Nat) (f : AS) : AS := fun σ s => (f σ s).forget n
theorem rst_none {w : Wd} : ∀ (σc : L2.St), RSt W w (List.replicate σc.length none) σc
  | [] => .nil
  | _ :: σc => .cons trivial (rst_none σc)
theorem DS.forget {n : Nat} {Wx : WX} (h : DS W (fun _ cls d H => ∀ σ : L2.St, σ.length = n → Wx cls d σ H) ts fs) : DS W (fun σ cls d H => Wx cls d σ H) ts (aForget n fs) := fun w s σ σc D S R z => by
  refine h w s σ σc D S R ?_
  have z : ((fs σ s).forget n).P W w D _ := z
  cases e : fs σ s with
  | err c ns vs σ' s' =>
    rw [e] at z
    exact fun w' σc' d e' S' R' x σ2 hl => z w' σ2 d e' S' (by rw [← hl]; exact rst_none σ2) x
  | nx σ' s' => rw [e] at z; exact z
  | rt v s' => rw [e] at z; exact z
  | bk σ' s' => rw [e] at z; exact z
  | ct σ' s' => rw [e] at z; exact z
  | stuck => rw [e] at z; exact z
end
/-- a world that has grown out of one -/
abbrev Wl.at (W : Wl) (w0 : Wd) : Wl := { toWc := W.toWc, inv := fun w => Ext w0 w, cl := fun _ _ e h => h.trans e }
theorem Sim.at {W : Wl} {w : Wd} {s : Sto} (S : Sim W w s) : Sim (W.at w) w s := ⟨S.n, S.inj, S.cell, S.tab, .refl w⟩
theorem KitOk.at {W : Wl} {w0 : Wd} {kit : String → String → Option Bool} (k : KitOk W kit) : KitOk (W.at w0) kit := ⟨k.kit, k.ins, k.exc⟩
theorem relL_ints {W : Wc} {w : Wd} : ∀ ns : List Int, RelL W w (ns.map .int) (ns.map V.int)
  | [] => .nil
  | n :: ns => .cons (.int n) (relL_ints ns)
/-- the law is run -/
def s0 : Sto := ⟨0, fun _ => .lst []⟩
theorem law_run {W : Wl} {N : List Str} {k : Nat} {f : AS} {ts : TS} {H : Hp} {a : Addr} {ns : List Int} {Q : VK} (hinv : ∀ w, W.inv w) (hS : SqF W.K H a (ns.map V.int)) (hT : LamX.Tabs W.T H) (hlaw : ∃ s', aDef k f [.scr (ns.map .int)] s0 = .ok (.bl true) s') (hk : 1 + k = N.length)
    (hs : DS W (fun _ _ _ _ => False) ts f) (hQ : ∀ H', Q (.bl true) H') : ts { nx := fun _ H' => Q .non H', rt := Q } (L2.start N [.ref a]) H := by
  obtain ⟨s', e⟩ := hlaw
  refine DS.dfn (k := k) (n := 1) (Ek := fun _ _ _ => False) ⟨⟨fun _ => 0, 0, H⟩, s0, [.scr (ns.map .int)], rfl, ⟨rfl, fun i j hi => absurd hi (Nat.not_lt_zero i), fun i hi => absurd hi (Nat.not_lt_zero i), hT, hinv _⟩, .cons (.scr hS ?_) .nil, rfl, ?_⟩ hk hs
  · exact relL_ints ns
  · rw [e]
    intro w' vc e' S' r
    cases r
    exact hQ _
end
end Ab
set_option Elab.async false
set_option linter.all false
set_option maxRecDepth 100000
set_option maxHeartbeats 1000000
namespace Ab
open PySem PySem.Spec PyProof.Rows L2
open Classical
noncomputable section
/-- a class's bases, itself first -/
def anc : String → List String
  | "Counter" => ["Counter", "Source"]
  | "Draws" => ["Draws"]
  | "PooledDraws" => ["PooledDraws", "Draws"]
  | "DrawError" => ["DrawError", "ValueError", "Exception"]
  | "BadWord" => ["BadWord", "DrawError", "ValueError", "Exception"]
  | "BadState" => ["BadState", "DrawError", "ValueError", "Exception"]
  | "BadSteps" => ["BadSteps", "DrawError", "ValueError", "Exception"]
  | "BadSeed" => ["BadSeed", "DrawError", "ValueError", "Exception"]
  | "BadNumber" => ["BadNumber", "DrawError", "ValueError", "Exception"]
  | "BadThings" => ["BadThings", "DrawError", "ValueError", "Exception"]
  | "BadSource" => ["BadSource", "DrawError", "ValueError", "Exception"]
  | "BadPolynomial" => ["BadPolynomial", "DrawError", "ValueError", "Exception"]
  | "BadDegree" => ["BadDegree", "DrawError", "ValueError", "Exception"]
  | "BadBits" => ["BadBits", "DrawError", "ValueError", "Exception"]
  | "BadRank" => ["BadRank", "DrawError", "ValueError", "Exception"]
  | "BadStep" => ["BadStep", "DrawError", "ValueError", "Exception"]
  | "BadSplit" => ["BadSplit", "DrawError", "ValueError", "Exception"]
  | "BadTape" => ["BadTape", "DrawError", "ValueError", "Exception"]
  | "BadRange" => ["BadRange", "DrawError", "ValueError", "Exception"]
  | "BadRow" => ["BadRow", "DrawError", "ValueError", "Exception"]
  | "BadWeights" => ["BadWeights", "DrawError", "ValueError", "Exception"]
  | "BadOrder" => ["BadOrder", "DrawError", "ValueError", "Exception"]
  | "BadText" => ["BadText", "DrawError", "ValueError", "Exception"]
  | "Shortage" => ["Shortage", "LookupError"]
  | "Exhausted" => ["Exhausted", "Shortage", "LookupError"]
  | "NoRow" => ["NoRow", "Shortage", "LookupError"]
  | "NoStream" => ["NoStream", "Shortage", "LookupError"]
  | "NothingToUndo" => ["NothingToUndo", "Shortage", "LookupError"]
  | "RunError" => ["RunError", "RuntimeError"]
  | "TooLong" => ["TooLong", "RunError", "RuntimeError"]
  | "Unsteady" => ["Unsteady", "RunError", "RuntimeError"]
  | "Aside" => ["Aside"]
  | "Leaping" => ["Leaping", "Source"]
  | "Linear" => ["Linear", "Source"]
  | "Order" => ["Order"]
  | "Reservoir" => ["Reservoir"]
  | "Session" => ["Session"]
  | "Source" => ["Source"]
  | "Scripted" => ["Scripted", "Source"]
  | "Streams" => ["Streams"]
  | "Recording" => ["Recording", "Source"]
  | "Twisted" => ["Twisted", "Source"]
  | "Table" => ["Table"]
  | "Urn" => ["Urn"]
  | "bool" => ["bool", "int"]
  | c => [c]
def xnames : List String := ["ValueError", "LookupError", "RuntimeError", "Exception", "BaseException", "KeyError", "IndexError", "TypeError"]
def kitP (a b : String) : Option Bool := if a ∈ bnames ∧ b ∈ xnames then none else some (decide (b ∈ anc a))
def kitB (b : String) : String → String → Option Bool := fun a b' => if b' = b then kitP a b' else none
theorem kitB_self {a b : String} : kitB b a b = kitP a b := if_pos rfl
theorem kitE {a b : String} {t : Bool} {va vb : Value} {W : Wl} (h : kitP a b = some t) (ha : cvl W a = va) (hb : cvl W b = vb) (f : PySem.W.kitOne W.K va vb = some t) : ∀ r, kitP a b = some r → PySem.W.kitOne W.K (cvl W a) (cvl W b) = some r := fun r e => by
  rw [h] at e
  cases e
  rw [ha, hb]
  exact f
theorem kitOk_of {W : Wl} {b : String} (h1 : All (fun a => ∀ r, kitP a b = some r → PySem.W.kitOne W.K (cvl W a) (cvl W b) = some r) bnames) (h2 : All (fun a => ∀ r, kitP a b = some r → PySem.W.kitOne W.K (cvl W a) (cvl W b) = some r) W.live) (h3 : All (fun a => ∀ r, kitP a b = some r → PySem.W.kitOne W.K (cvl W a) (cvl W b) = some r) W.xlive)
    (hi : All (fun c => c ∉ bnames ∧ C8.InsC W.K (W.κ c)) W.live) (hx : All (fun c => c ∉ bnames ∧ ExcC W.K (W.κ c)) W.xlive) : KitOk W (kitB b) where
  kit := fun a b' r hm e => by
    unfold kitB at e
    split at e
    · rename_i hb
      subst hb
      rcases hm with hm | hm | hm
      · exact h1.at a hm r e
      · exact h2.at a hm r e
      · exact h3.at a hm r e
    · cases e
  ins := fun c hc => hi.at c hc
  exc := fun c hc => hx.at c hc
def tyB (s : Sto) : AV → Option String
  | .non => some "NoneType"
  | .bl _ => some "bool"
  | .int _ => some "int"
  | .str _ => some "str"
  | .tup _ => some "tuple"
  | .obj i => (match s.c i with | .lst _ => some "list" | .dic _ => some "dict" | .ins _ _ => none)
  | _ => none
def isObj : AV → Bool
  | .obj _ => true
  | _ => false
def ownK : AV → Sto → Res AV := fun v s => if isObj v = true then .ok v s else .stuck
@[simp] theorem ownK_obj {i : Nat} {s : Sto} : ownK (.obj i) s = .ok (.obj i) s := rfl
def gOwn (c : String) (ts : List String) (F : List AV → Sto → Res AV) (x y : AV) (s : Sto) : Res AV := if isI s x c = true then (match tyB s y with | some t => if t ∈ ts then (F [x, y] s).bind ownK else .stuck | none => .stuck) else .stuck
def aOwn (c : String) (ts : List String) (n : Nat) (F : List AV → Sto → Res AV) (fa fb : AE) : AE := fun σ s => (fa σ s).bind fun x s1 => (fb σ s1).bind fun y s2 => gOwn c ts F x y s2
theorem tyB_rel {W : Wl} {w : Wd} {s : Sto} {x : AV} {v : V} {t : String} (S : Sim W w s) (r : Rel W w x v) (h : tyB s x = some t) : TyX W.K w.H v (.type t) := by
  cases r with
  | non => cases h; exact .base .non
  | bl => cases h; exact .base (.bl _)
  | int => cases h; exact .base (.int _)
  | str => cases h; exact .base (.str _)
  | ty => cases h
  | cls => cases h
  | raw => cases h
  | scr => cases h
  | exn => cases h
  | tup h1 h2 => cases h; exact sqt_ty h1
  | @obj i hi =>
    have h : (match s.c i with | .lst _ => some "list" | .dic _ => some "dict" | .ins _ _ => none : Option String) = some t := h
    cases ec : s.c i with
    | lst xs =>
      rw [ec] at h
      cases h
      obtain ⟨vs, k1, k2, k3, k4⟩ := lstO_at S (.obj hi) ec
      exact .base (.lst k3)
    | dic kvs =>
      rw [ec] at h
      cases h
      obtain ⟨o, k1, k2, k3, k4⟩ := cell_at S (.obj hi) ec
      cases k4
      exact .base (.dK k3)
    | ins c fs => rw [ec] at h; cases h
theorem DE.own {W : Wl} {Ek : XK} {ta tb : TE} {fa fb : AE} {c : String} {nm : String} {ts : List String} {F : List AV → Sto → Res AV} {k : Nat} (ht : All (fun t => Gx.OwnT W.K (W.κ c) nm t) ts) (ha : DE W (fun _ => Ek) ta fa) (hb : DE W (fun _ => Ek) tb fb) :
    DE W (fun _ => Ek) (tOp (Gx.rOwnX W.K (W.κ c) nm (spF W 2 F) Ek) ta tb) (aOwn c ts k F fa fb) := fun w s σ σc Q S R h => by
  refine ha w s σ σc _ S R ((post_bind_ok h).mono (fun x s1 h1 w1 v e1 S1 r1 => ?_) fun _ _ _ _ z => z)
  refine hb w1 s1 σ σc _ S1 (R.mono e1) ((post_bind_ok h1).mono (fun y s2 h2 w2 u e2 S2 r2 => ?_) fun _ _ _ _ z => z.mono e1)
  unfold gOwn at h2
  split at h2
  · rename_i hi
    split at h2
    · rename_i t et
      split at h2
      · rename_i htm
        have hx : ∃ fs, insAt s2 x = some (c, fs) := by
          unfold isI at hi
          split at hi
          · rename_i d fs e
            cases of_decide_eq_true hi
            exact ⟨fs, e⟩
          · cases hi
        obtain ⟨fs, hx⟩ := hx
        obtain ⟨i, dx, gs, rfl, k2, rfl, k3, k4, k5⟩ := ins_at S2 (r1.mono e2) hx
        refine ⟨_, dx, gs, t, rfl, tyB_rel S2 r2 et, ht.at t htm, k3, w2, s2, [.obj i, y], rfl, S2, (.cons (r1.mono e2) (.cons r2 .nil)), rfl, ?_⟩
        refine (post_bind_ok h2).mono (fun v' s3 h3 w3 vc e3 S3 r3 => ?_) fun _ _ _ _ z => (z.mono e1).mono e2
        unfold ownK at h3
        split at h3
        · rename_i ho
          cases r3 with
          | obj hj => exact ⟨⟨_, rfl⟩, h3 w3 _ ((e1.trans e2).trans e3) S3 (.obj hj)⟩
          | _ => cases ho
        · exact (show False from h3).elim
      · exact (show False from h2).elim
    · exact (show False from h2).elim
  · exact (show False from h2).elim
/-- a property's promise: no error -/
theorem spF_noErr {W : Wl} {n : Nat} {F : List AV → Sto → Res AV} {vs : List V} {H : Hp} {Q : VK} {E E' : XK} (h : spF W n (fun xs s => noErr (F xs s)) vs H Q E) : spF W n F vs H Q E' := by
  obtain ⟨w, s, args, e, S, R, hn, p⟩ := h
  exact ⟨w, s, args, e, S, R, hn, noErr_post p⟩
end
end Ab
set_option Elab.async false
set_option linter.all false
set_option maxRecDepth 100000
set_option maxHeartbeats 1000000
namespace Ab
open PySem PySem.Spec PyProof.Rows L2
open Classical
mutual
def Cl (n : Nat) : AV → Prop
  | .obj i => i < n
  | .tup xs => ClL n xs
  | .scr xs => ClL n xs
  | .exn _ _ xs => ClL n xs
  | _ => True
def ClL (n : Nat) : List AV → Prop
  | [] => True
  | x :: xs => Cl n x ∧ ClL n xs
end
@[simp] theorem Cl_non {n : Nat} : Cl n .non = True := by simp only [Cl]
@[simp] theorem Cl_bl {n : Nat} {b : Bool} : Cl n (.bl b) = True := by simp only [Cl]
@[simp] theorem Cl_int {n : Nat} {b : Int} : Cl n (.int b) = True := by simp only [Cl]
@[simp] theorem Cl_str {n : Nat} {b : Str} : Cl n (.str b) = True := by simp only [Cl]
@[simp] theorem Cl_cls {n : Nat} {b : String} : Cl n (.cls b) = True := by simp only [Cl]
@[simp] theorem Cl_obj {n i : Nat} : Cl n (.obj i) = (i < n) := by simp only [Cl]
@[simp] theorem Cl_tup {n : Nat} {xs : List AV} : Cl n (.tup xs) = ClL n xs := by simp only [Cl]
@[simp] theorem ClL_nil {n : Nat} : ClL n [] = True := by simp only [ClL]
@[simp] theorem ClL_cons {n : Nat} {x : AV} {xs : List AV} : ClL n (x :: xs) = (Cl n x ∧ ClL n xs) := by simp only [ClL]
theorem ClL_all {n : Nat} : ∀ {xs : List AV}, ClL n xs ↔ ∀ x ∈ xs, Cl n x
  | [] => by simp
  | x :: xs => by simp [ClL_all (xs := xs)]
def ClC (n : Nat) : Cell → Prop
  | .lst xs => ClL n xs
  | .ins _ fs => ∀ p ∈ fs, Cl n p.2
  | .dic kvs => ∀ p ∈ kvs, Cl n p.2
section
variable {W : Wc} {w : Wd}
mutual
theorem Rel.cl {W : Wc} {w : Wd} : ∀ {x : AV} {v : V}, Rel W w x v → Cl w.n x
  | _, _, .non => by simp
  | _, _, .bl b => by simp
  | _, _, .int i => by simp
  | _, _, .str s => by simp
  | _, _, .ty n => by simp only [Cl]
  | _, _, .cls c => by simp
  | _, _, .raw a => by simp only [Cl]
  | _, _, .obj h => by simp only [Cl]; exact h
  | _, _, .tup h r => by simp only [Cl]; exact RelL.cl r
  | _, _, .scr h r => by simp only [Cl]; exact RelL.cl r
  | _, _, .exn hc h hd hl r => by simp only [Cl]; exact RelL.cl r
theorem RelL.cl {W : Wc} {w : Wd} : ∀ {x : List AV} {v : List V}, RelL W w x v → ClL w.n x
  | _, _, .nil => by simp
  | _, _, .cons h r => by simp only [ClL]; exact ⟨Rel.cl h, RelL.cl r⟩
end
mutual
theorem Rel.cut {W : Wc} {w : Wd} {n : Nat} : ∀ {x : AV} {v : V}, Rel W w x v → Cl n x → Rel W { w with n := n } x v
  | _, _, .non, _ => .non
  | _, _, .bl b, _ => .bl b
  | _, _, .int i, _ => .int i
  | _, _, .str s, _ => .str s
  | _, _, .ty n, _ => .ty n
  | _, _, .cls c, _ => .cls c
  | _, _, .raw a, _ => .raw a
  | _, _, .obj h, c => .obj (w := { w with n := n }) (by simp only [Cl] at c; exact c)
  | _, _, .tup h r, c => .tup h (RelL.cut r (by simp only [Cl] at c; exact c))
  | _, _, .scr h r, c => .scr h (RelL.cut r (by simp only [Cl] at c; exact c))
  | _, _, .exn hc h hd hl r, c => .exn hc h hd hl (RelL.cut r (by simp only [Cl] at c; exact c))
theorem RelL.cut {W : Wc} {w : Wd} {n : Nat} : ∀ {x : List AV} {v : List V}, RelL W w x v → ClL n x → RelL W { w with n := n } x v
  | _, _, .nil, _ => .nil
  | _, _, .cons h r, c => .cons (Rel.cut h (by simp only [ClL] at c; exact c.1)) (RelL.cut r (by simp only [ClL] at c; exact c.2))
end
theorem RelF.cl : ∀ {fs : List (Str × AV)} {gs : List (Str × V)}, RelF W w fs gs → ∀ p ∈ fs, Cl w.n p.2
  | _, _, .nil, p, h => by cases h
  | _, _, .cons h r, p, hp => by
    rcases List.mem_cons.mp hp with rfl | hp
    · exact h.2.cl
    · exact RelF.cl r p hp
theorem RelK.cl : ∀ {fs : List (Key × AV)} {gs : List (Key × V)}, RelK W w fs gs → ∀ p ∈ fs, Cl w.n p.2
  | _, _, .nil, p, h => by cases h
  | _, _, .cons h r, p, hp => by
    rcases List.mem_cons.mp hp with rfl | hp
    · exact h.2.cl
    · exact RelK.cl r p hp
theorem RelF.cut {n : Nat} : ∀ {fs : List (Str × AV)} {gs : List (Str × V)}, RelF W w fs gs → (∀ p ∈ fs, Cl n p.2) → RelF W { w with n := n } fs gs
  | _, _, .nil, _ => .nil
  | _, _, .cons h r, c => .cons ⟨h.1, h.2.cut (c _ List.mem_cons_self)⟩ (RelF.cut r fun p hp => c p (List.mem_cons_of_mem _ hp))
theorem RelK.cut {n : Nat} : ∀ {fs : List (Key × AV)} {gs : List (Key × V)}, RelK W w fs gs → (∀ p ∈ fs, Cl n p.2) → RelK W { w with n := n } fs gs
  | _, _, .nil, _ => .nil
  | _, _, .cons h r, c => .cons ⟨h.1, h.2.cut (c _ List.mem_cons_self)⟩ (RelK.cut r fun p hp => c p (List.mem_cons_of_mem _ hp))
theorem CRel.cl {c : Cell} {o : HO} (h : CRel W w c o) : ClC w.n c := by
  cases h with
  | lst r => exact r.cl
  | ins hc r => exact RelF.cl r
  | dic r => exact RelK.cl r
theorem CRel.cut {c : Cell} {o : HO} {n : Nat} (h : CRel W w c o) (k : ClC n c) : CRel W { w with n := n } c o := by
  cases h with
  | lst r => exact .lst (r.cut k)
  | ins hc r => exact .ins hc (RelF.cut r k)
  | dic r => exact .dic (RelK.cut r k)
end
/-- what stood is as it was, or names what stood alone -/
def Clean (s s' : Sto) : Prop := s.n ≤ s'.n ∧ ∀ i, i < s.n → s'.c i = s.c i ∨ ClC s.n (s'.c i)
def Sto.cut (s' s : Sto) : Sto := ⟨s.n, fun i => if i < s.n then s'.c i else s.c i⟩
theorem Clean.refl (s : Sto) : Clean s s := ⟨Nat.le_refl _, fun _ _ => .inl rfl⟩
theorem Clean.new {s t : Sto} {x : Cell} (h : Clean s t) : Clean s (t.new x) := ⟨Nat.le_succ_of_le h.1, fun i hi => by
  show (if i = t.n then x else t.c i) = s.c i ∨ ClC s.n (if i = t.n then x else t.c i)
  rw [if_neg (by have := h.1; omega)]
  exact h.2 i hi⟩
theorem Clean.set {s t : Sto} {i : Nat} {x : Cell} (h : Clean s t) (c : s.n ≤ i ∨ ClC s.n x) : Clean s (t.set i x) := ⟨h.1, fun j hj => by
  show (if j = i then x else t.c j) = s.c j ∨ ClC s.n (if j = i then x else t.c j)
  by_cases e : j = i
  · rw [if_pos e]
    rcases c with c | c
    · omega
    · exact .inr c
  · rw [if_neg e]
    exact h.2 j hj⟩
theorem cut_self (s : Sto) : s.cut s = s := by
  unfold Sto.cut
  simp
theorem cut_set_old {s t : Sto} {i : Nat} {x : Cell} (h : i < s.n) : (t.set i x).cut s = (t.cut s).set i x := by
  unfold Sto.cut Sto.set
  simp only [Sto.mk.injEq, true_and]
  funext j
  by_cases e : j = i
  · subst e
    simp [h]
  · simp only [if_neg e]
theorem cut_eq {s t : Sto} (h : ∀ i, i < s.n → t.c i = s.c i) : t.cut s = s := by
  unfold Sto.cut
  cases s with
  | mk n c =>
    simp only [Sto.mk.injEq, true_and]
    funext i
    by_cases hi : i < n
    · simp only [if_pos hi]; exact h i hi
    · simp only [if_neg hi]
noncomputable section
def gcR {α : Type} (cl : Nat → α → Prop) (s : Sto) : Res α → Res α
  | .ok v s' => if cl s.n v ∧ Clean s s' then .ok v (s'.cut s) else .ok v s'
  | .err c ns vs s' => if ClL s.n vs ∧ Clean s s' then .err c ns vs (s'.cut s) else .err c ns vs s'
  | .stuck => .stuck
def gcF (F : List AV → Sto → Res AV) : List AV → Sto → Res AV := fun args s => gcR Cl s (F args s)
def gcE (f : AE) : AE := fun σ s => gcR Cl s (f σ s)
def gcB (s : Sto) : Res Bool → Res Bool
  | .ok v s' => if Clean s s' then .ok v (s'.cut s) else .ok v s'
  | .err c ns vs s' => .err c ns vs s'
  | .stuck => .stuck
def gcT (f : AT) : AT := fun σ s => gcB s (f σ s)
theorem gcF_eq {F : List AV → Sto → Res AV} {args : List AV} {s s' : Sto} {v : AV} (h : F args s = .ok v s') (hv : Cl s.n v) (hc : Clean s s') : gcF F args s = .ok v (s'.cut s) := by
  unfold gcF gcR
  rw [h]
  exact if_pos ⟨hv, hc⟩
theorem gcT_eq {f : AT} {σ : ASt} {s s' : Sto} {b : Bool} (h : f σ s = .ok b s') (hc : Clean s s') : gcT f σ s = .ok b (s'.cut s) := by
  unfold gcT gcB
  rw [h]
  exact if_pos hc
section
variable {W : Wl}
theorem sim_cut {w w' : Wd} {s s' : Sto} (S : Sim W w s) (e : Ext w w') (S' : Sim W w' s') (hc : Clean s s') : Ext w { w' with n := s.n } ∧ Sim W { w' with n := s.n } (s'.cut s) := by
  have en : Ext w { w' with n := s.n } := ⟨Nat.le_of_eq S.n, e.m, e.im⟩
  refine ⟨en, rfl, fun i j hi hj q => S'.inj i j (Nat.lt_of_lt_of_le hi hc.1) (Nat.lt_of_lt_of_le hj hc.1) q, fun i hi => ?_, S'.tab, W.cl _ _ en S.inv⟩
  have hi : i < s.n := hi
  obtain ⟨o, h1, h2⟩ := S'.cell i (Nat.lt_of_lt_of_le hi hc.1)
  have ec : (s'.cut s).c i = s'.c i := if_pos hi
  refine ⟨o, h1, ?_⟩
  rw [ec]
  refine h2.cut ?_
  rcases hc.2 i hi with h | h
  · rw [h]
    obtain ⟨o', k1, k2⟩ := S.cell i hi
    rw [← S.n]
    exact k2.cl
  · exact h
theorem gc_post {w : Wd} {s : Sto} {r : Res AV} {Q : VK} {E : XK} (S : Sim W w s) (h : (gcR Cl s r).Post (OkP W w Q) (ErrP W w E)) : r.Post (OkP W w Q) (ErrP W w E) := by
  cases r with
  | ok v s' =>
    have h : (if Cl s.n v ∧ Clean s s' then .ok v (s'.cut s) else .ok v s' : Res AV).Post (OkP W w Q) (ErrP W w E) := h
    split at h
    · rename_i hc
      intro w' vc e' S' r'
      obtain ⟨k1, k2⟩ := sim_cut S e' S' hc.2
      exact (show OkP W w Q v (s'.cut s) from h) { w' with n := s.n } vc k1 k2 (r'.cut hc.1)
    · exact h
  | err c ns vs s' =>
    have h : (if ClL s.n vs ∧ Clean s s' then .err c ns vs (s'.cut s) else .err c ns vs s' : Res AV).Post (OkP W w Q) (ErrP W w E) := h
    split at h
    · rename_i hc
      intro w' d e' S' x
      obtain ⟨k1, k2⟩ := sim_cut S e' S' hc.2
      obtain ⟨x1, us, x2, x3, x4⟩ := x
      exact (show ErrP W w E c ns vs (s'.cut s) from h) { w' with n := s.n } d k1 k2 ⟨x1, us, x2, x3, x4.cut hc.1⟩
    · exact h
  | stuck => exact h
theorem spF_gc {n : Nat} {F : List AV → Sto → Res AV} {vs : List V} {H : Hp} {Q : VK} {E : XK} (h : spF W n (gcF F) vs H Q E) : spF W n F vs H Q E := by
  obtain ⟨w, s, args, e, S, R, hn, p⟩ := h
  exact ⟨w, s, args, e, S, R, hn, gc_post S p⟩
theorem DE.gc {E : L2.St → XK} {te : TE} {f : AE} (h : DE W E te f) : DE W E te (gcE f) := fun w s σ σc Q S R p => h w s σ σc Q S R (gc_post S p)
theorem DT.gc {E : L2.St → XK} {tt : TT} {f : AT} (h : DT W E tt f) : DT W E tt (gcT f) := fun w s σ σc Q S R p => by
  refine h w s σ σc Q S R ?_
  have p : (gcB s (f σ s)).Post (OkB W w Q) (ErrP W w (E σc)) := p
  cases e : f σ s with
  | ok v s' =>
    rw [e] at p
    have p : (if Clean s s' then .ok v (s'.cut s) else .ok v s' : Res Bool).Post (OkB W w Q) (ErrP W w (E σc)) := p
    split at p
    · rename_i hc
      intro w' e' S'
      obtain ⟨k1, k2⟩ := sim_cut S e' S' hc
      exact (show OkB W w Q v (s'.cut s) from p) { w' with n := s.n } k1 k2
    · exact p
  | err c ns vs s' => rw [e] at p; exact p
  | stuck => rw [e] at p; exact p
end
end
end Ab
set_option Elab.async false
set_option linter.all false
set_option maxRecDepth 100000
set_option maxHeartbeats 1000000
namespace Gx
open PySem PySem.Spec PyProof.Rows L2
end Gx
namespace Ab
open PySem PySem.Spec PyProof.Rows L2
open Classical
noncomputable section
inductive CL : List AV → List String → Prop
  | nil : CL [] []
  | ty {n : String} {xs : List AV} {bs : List String} (h : n ∈ bnames) (r : CL xs bs) : CL (.ty n :: xs) (n :: bs)
  | cls {n : String} {xs : List AV} {bs : List String} (h : n ∉ bnames) (r : CL xs bs) : CL (.cls n :: xs) (n :: bs)
end
end Ab
set_option Elab.async false
set_option linter.all false
set_option maxRecDepth 100000
set_option maxHeartbeats 4000000
namespace Gx
open PySem PySem.Spec PyProof.Rows L2
section
variable {P : Program} {w : World} {K : PySem.W.Frag} {mg mb : Str → Option Value} {k : Nat} {fa a : Addr} {cs : List (Addr × Addr)} {fd : FuncData} {x : Str} {sp : Sp} {t : Shared} {vs : List Value} {ns : List Int}
/-- the abstract heap at the law's call: the script and the tables -/
structure Hp0F (P : Program) (w : World) (K : PySem.W.Frag) (cs : List (Addr × Addr)) (a : Addr) (ns : List Int) (h : Heap) (H : Hp) : Prop where
  tab : ∀ p ∈ cs, H p.2 = some (.tbl #[])
  only : ∀ b, H b = none ∨ b ∈ cs.map (·.2) ∨ ∃ o xs, H b = some (.frz o (.lst xs))
  seq : Ab.SqF K H a (ns.map V.int)
  ok : HOk P w H h
  dom : ∀ b, H b ≠ none → b = a ∨ b ∈ cs.map (·.2)
  scr : H a ≠ none → K.lookup a = none
theorem hp0F (KX : K.In t.heap) (hT : ∀ p ∈ cs, t.heap.get? p.2 = some { cls := .none, data := .fields #[] }) (ha : t.heap.get? a = some { cls := .type "list", data := .seq vs.toArray }) (hi : IntsAre vs ns) (hl : ns.length ≤ sizeLine) :
    ∃ H, Hp0F P w K cs a ns t.heap H := by
  have rv := vals_ints hi
  have isT : ∀ b ∈ cs.map (·.2), t.heap.get? b = some { cls := .none, data := .fields #[] } := fun b hb => by
    obtain ⟨p, hp, rfl⟩ := List.mem_map.mp hb
    exact hT p hp
  have aT : a ∉ cs.map (·.2) := fun z => by
    have q := isT a z
    rw [ha] at q
    cases congrArg Obj.data (Option.some.inj q)
  have mem : ∀ p ∈ cs, p.2 ∈ cs.map (·.2) := fun p hp => List.mem_map.mpr ⟨p, hp, rfl⟩
  cases hk : K.lookup a with
  | some o =>
    have e := KX a o hk
    rw [ha] at e
    cases e
    refine ⟨fun b => if b ∈ cs.map (·.2) then some (.tbl #[]) else none, fun p hp => if_pos (mem p hp), fun b => ?_,
      .inr ⟨_, vs.toArray, _, hk, rfl, rfl, rfl, by rw [List.size_toArray, hi.length]; exact hl, by simpa using rv⟩, fun b u z => ?_, fun b z => ?_, fun z => absurd (if_neg aT) z⟩
    · by_cases hb : b ∈ cs.map (·.2)
      · exact .inr (.inl hb)
      · exact .inl (if_neg hb)
    · by_cases hb : b ∈ cs.map (·.2)
      · cases (if_pos hb).symm.trans z
        exact isT b hb
      · cases (if_neg hb).symm.trans z
    · by_cases hb : b ∈ cs.map (·.2)
      · exact .inr hb
      · exact absurd (if_neg hb) z
  | none =>
    refine ⟨fun b => if b = a then some (.frz { cls := .type "list", data := .seq vs.toArray } (.lst (ns.map V.int))) else if b ∈ cs.map (·.2) then some (.tbl #[]) else none,
      fun p hp => ?_, fun b => ?_, .inl ⟨{ cls := .type "list", data := .seq vs.toArray }, if_pos rfl⟩, fun b u z => ?_, fun b z => ?_, fun _ => hk⟩
    · have np : ¬ p.2 = a := fun z => aT (z ▸ mem p hp)
      exact (if_neg np).trans (if_pos (mem p hp))
    · by_cases hb : b = a
      · exact .inr (.inr ⟨_, _, if_pos hb⟩)
      · by_cases hc : b ∈ cs.map (·.2)
        · exact .inr (.inl hc)
        · exact .inl ((if_neg hb).trans (if_neg hc))
    · by_cases hb : b = a
      · cases (if_pos hb).symm.trans z
        subst hb
        exact ⟨ha, by rw [List.length_map]; exact hl, vs, _, rv, ha⟩
      · have z1 := (if_neg hb).symm.trans z
        by_cases hc : b ∈ cs.map (·.2)
        · cases (if_pos hc).symm.trans z1
          exact isT b hc
        · cases (if_neg hc).symm.trans z1
    · by_cases hb : b = a
      · exact .inl hb
      · by_cases hc : b ∈ cs.map (·.2)
        · exact .inr hc
        · exact absurd ((if_neg hb).trans (if_neg hc)) z
theorem callF (KX : K.In t.heap) (hns : t.heap.Ns mainGlobals mg) (hb : t.heap.Ns builtinsNs mb) (hbb : ∀ x : Str, x ≠ "__name__" → mb x = bootBuiltins x) (hlim : t.heap.NoLimit) (hg : t.gens = #[])
    (hT : ∀ p ∈ cs, t.heap.get? p.2 = some { cls := .none, data := .fields #[] }) (nT : ∀ p ∈ cs, K.lookup p.2 = none) (C : ∀ p ∈ cs, PySem.W.CodeHd t.heap p.1 p.2)
    (hbm : ∃ (bm : Addr) (ob : Obj), mg "__builtins__" = some (.ref bm) ∧ bm ≠ builtinsNs ∧ t.heap.get? bm = some ob ∧ ob.cls = .type "module" ∧ ob.dict = some builtinsNs ∧ ob.data = .plain)
    (ha : t.heap.get? a = some { cls := .type "list", data := .seq vs.toArray }) (hi : IntsAre vs ns) (hl : ns.length ≤ sizeLine) (hr : Room k callerA)
    (F : ∀ base : Heap, K.In base → base.Ns mainGlobals mg → (∀ p ∈ cs, LamX.TabB base mg p.1 p.2) → FnG P w K mg base k fa fd [x] sp) (hbind : ∀ (s : Shared) (u : Value), BindsTo s fd ⟨[u], []⟩ [(x, u)])
    (hsp : ∀ H : Hp, (∀ p ∈ cs, H p.2 = some (.tbl #[])) → Ab.SqF K H a (ns.map V.int) → sp [.ref a] H (fun v _ => v = .bl true) C8.E0) :
    codeAny (model P w) callerA (.call (.ref fa) ⟨[.ref a], []⟩) (fun r s' => r = .ok (.ret (.bool true)) ∧ OldK t.heap s'.heap ∧ s'.os = t.os ∧ AllBare s'.gens) t := by
  obtain ⟨H, Z⟩ := hp0F (P := P) (w := w) KX hT ha hi hl
  have see : ∀ {b : Addr} {o : Obj}, t.heap.get? b = some o → H b = none → (hidT t.heap H).get? b = some o := fun e n => hidT_get e n
  -- what is neither a list nor a table is not tracked
  have off : ∀ {b : Addr} {o : Obj}, t.heap.get? b = some o → (∀ ws n, o.data ≠ .seq ws n) → o.data ≠ .fields #[] → H b = none := fun {b o} e h1 h2 => by
    cases q : H b with
    | none => rfl
    | some u =>
      rcases Z.dom b (by rw [q]; simp) with e1 | e1
      · rw [e1, ha] at e
        cases e
        exact (h1 _ _ rfl).elim
      · obtain ⟨p, hp, rfl⟩ := List.mem_map.mp e1
        rw [hT p hp] at e
        cases e
        exact (h2 rfl).elim
  have offD : ∀ {b : Addr} {o : Obj} {es : Array DictEntry} {ep : Nat}, t.heap.get? b = some o → o.data = .dict es ep → H b = none := fun {b o es ep} e d =>
    off e (fun ws n z => by rw [d] at z; cases z) (fun z => by rw [d] at z; cases z)
  have nsOk : ∀ {b : Addr} {m : Str → Option Value}, t.heap.Ns b m → (hidT t.heap H).Ns b m := fun {b m} hh => by
    obtain ⟨o, es, ep, e, d, r⟩ := hh
    exact ⟨o, es, ep, see e (offD e d), d, r⟩
  have kOk : K.In (hidT t.heap H) := fun b o e => by
    refine see (KX b o e) ?_
    cases q : H b with
    | none => rfl
    | some u =>
      rcases Z.dom b (by rw [q]; simp) with e1 | e1
      · subst e1
        rw [Z.scr (by rw [q]; simp)] at e
        cases e
      · obtain ⟨p, hp, rfl⟩ := List.mem_map.mp e1
        rw [nT p hp] at e
        cases e
  have lim : (hidT t.heap H).NoLimit := by
    obtain ⟨mc, h1, h2⟩ := hlim
    exact ⟨mc, nsOk h1, h2⟩
  have hM : L2.Mod K mg (hidT t.heap H) := ⟨kOk, nsOk hns, ⟨mb, nsOk hb, hbb⟩, lim⟩
  have TB : ∀ p ∈ cs, LamX.TabB (hidT t.heap H) mg p.1 p.2 := fun p hp => by
    have hp2 := hT p hp
    refine ⟨?_, ?_, fun z => ?_⟩
    · obtain ⟨o, us, file, tf, flags, tg, inF, text, tt, e1, r1, r2, r3, r4, r5, r6, r7, r8, hne⟩ := C p hp
      refine ⟨o, us, file, tf, flags, tg, inF, text, tt, see e1 (off e1 (fun ws n z => ?_) fun z => ?_), r1, r2, r3, r4, r5, r6, r7, r8, hne⟩
      · rw [r2] at z; cases z
      · rw [r2] at z; cases z; simp at r3
    · obtain ⟨bm, ob, b1, b2, b3, b4, b5, b6⟩ := hbm
      refine ⟨bm, ob, b1, b2, fun q => ?_, fun q => ?_, see b3 (off b3 (fun ws n z => ?_) fun z => ?_), b4, b5, b6⟩
      · obtain ⟨o, es, ep, e, hd, _⟩ := hns
        rw [q, e] at b3; cases b3; rw [hd] at b6; cases b6
      · rw [q, hp2] at b3; cases b3; cases b6
      · rw [b6] at z; cases z
      · rw [b6] at z; cases z
    · obtain ⟨o, es, ep, e, hd, _⟩ := hns
      rw [z, hp2] at e; cases e; cases hd
  have nil : ∀ b : Addr, b ∉ ([] : List Addr) := fun b z => by simp at z
  have e0 : Env0 P w K mg (hidT t.heap H) callerA [] t H := ⟨rfl, hM, fun b o e => of_hidT e, Nat.le_of_eq (hidT_size _ _), trivial, fun b z => absurd z (nil b), Z.ok, .of_eq hg⟩
  have go := (F _ kOk (nsOk hns) TB).run callerA [] t H ⟨[.ref a], []⟩ [.ref a] [.ref a] _ rfl hr e0 (hbind t (.ref a)) (.cons rfl .nil) (hsp H Z.tab Z.seq)
  refine codeAny_mono go fun res s2 hres => ?_
  match res, hres with
  | .ok .next, h => exact h.elim
  | .ok .brk, h => exact h.elim
  | .ok .cont, h => exact h.elim
  | .error e, h => exact (show False from h).elim
  | .ok (.ret u), h =>
    obtain ⟨v, H', os, bare, un, ok2, r', q⟩ := h
    obtain rfl : v = .bl true := q
    obtain rfl : u = Value.bool true := r'
    have same : ∀ b o, b ∉ cs.map (·.2) → t.heap.get? b = some o → s2.heap.get? b = some o := fun b o nb e => by
      rcases Z.only b with z | z | ⟨ob, xs, z⟩
      · exact un.keep b o e z (nil b) (nil b)
      · exact absurd z nb
      · obtain ⟨e1, _⟩ := Z.ok b _ z
        obtain ⟨e2, _⟩ := ok2 b _ (un.frzs b ob _ z)
        rw [e] at e1
        cases e1
        exact e2
    have grown : ∀ p ∈ cs, ∃ more : Array Value, s2.heap.get? p.2 = some { cls := .none, data := .fields more } := fun p hp => by
      obtain ⟨more, z⟩ := un.tbls p.2 #[] (Z.tab p hp)
      exact ⟨_, ok2 p.2 _ z⟩
    refine ⟨rfl, ⟨fun b o e => ?_, fun b o e => ?_⟩, os, bare⟩
    · by_cases hb : b ∈ cs.map (·.2)
      · obtain ⟨p, hp, rfl⟩ := List.mem_map.mp hb
        obtain ⟨more, hm⟩ := grown p hp
        rw [hT p hp] at e
        cases e
        exact .inr (.inl ⟨((C p hp).tab (hT p hp)).isCodeTable, rfl, #[], more, rfl, by rw [Array.empty_append]; exact hm⟩)
      · exact .inl (same b o hb e)
    · by_cases hb : b ∈ cs.map (·.2)
      · obtain ⟨p, hp, rfl⟩ := List.mem_map.mp hb
        obtain ⟨more, hm⟩ := grown p hp
        exact ⟨_, hm⟩
      · exact ⟨o, same b o hb e⟩
end
/-- what is known of the law's promise -/
def LawF (l : PySem.W.OpenLaw) (w : World) (K : PySem.W.Frag) (k : Nat) (x : Str) (mg : Str → Option Value) (fa : Addr) (h : Heap) : Prop :=
  ∃ (fd : FuncData) (cs : List (Addr × Addr)) (sp : Sp), (∀ p ∈ cs, h.get? p.2 = some { cls := .none, data := .fields #[] }) ∧ (∀ p ∈ cs, K.lookup p.2 = none) ∧ (∀ p ∈ cs, PySem.W.CodeHd h p.1 p.2) ∧
    (∀ (s : Shared) (u : Value), BindsTo s fd ⟨[u], []⟩ [(x, u)]) ∧
    (∀ (H : Hp) (a : Addr) (ns : List Int), ns.length ≤ 63 → (∀ z ∈ ns, Builtin.Int.intBits z ≤ 1048576) → (∀ p ∈ cs, H p.2 = some (.tbl #[])) → Ab.SqF K H a (ns.map V.int) → sp [.ref a] H (fun v _ => v = .bl true) C8.E0) ∧
    ∀ base : Heap, K.In base → base.Ns mainGlobals mg → (∀ p ∈ cs, LamX.TabB base mg p.1 p.2) → FnG l.prog w K mg base k fa fd [x] sp
theorem walkF {l : PySem.W.OpenLaw} {k : Nat} {q : Program} {loose : List Str} {XP : (Str → Option Value) → Heap → Prop} {YP : World → Heap → Prop} {d : DefRec} {K : Params → PySem.W.Frag} {x : Str}
    (hn : l.most = some 63) (hdf : d.params.defaults = []) (hr : Room k callerA) (hY : ∀ (w : World) (h : Heap), YP w h → (K w.params).In h)
    (F : ∀ (w : World) (mg : Str → Option Value) (fa : Addr) (h : Heap), YP w h → (K w.params).In h → h.Ns mainGlobals mg → mg d.name = some (.ref fa) → LawF l w (K w.params) k x mg fa h) :
    PySem.W.WalkO q loose XP YP l.row.toRowW d [] (fun f vs => PySem.call f vs) := by
  refine Att.attach_callB hn hdf ?_
  intro w s0 t mg mb fa o pm cd doc a vs ns G Y ho hd hcd hmg hobj hints hlen hbits hg
  have KX := hY w _ Y
  obtain ⟨fd, cs, sp, hT, nT, C, hb, hsp, hF⟩ := F w mg fa _ Y KX G.T.g hmg
  exact callF KX G.T.g G.T.b G.T.builtins G.T.nolimit hg hT nT C G.T.bmain hobj hints (Nat.le_trans hlen (by decide)) hr hF hb fun H hH hS => hsp H a ns hlen hbits hH hS
end Gx
set_option Elab.async false
set_option linter.all false
set_option maxRecDepth 100000
set_option maxHeartbeats 1000000
namespace Ab
open PySem PySem.Spec PyProof.Rows L2
theorem gc0 {F : List AV → Sto → Res AV} {args : List AV} {s : Sto} {v : AV} (h : F args s = .ok v s) (hv : Cl s.n v) : gcF F args s = .ok v s := by
  rw [gcF_eq h hv (.refl s), cut_self]
theorem gcT0 {f : AT} {σ : ASt} {s s' : Sto} {b : Bool} (h : f σ s = .ok b s') (hc : Clean s s') (e : s'.cut s = s) : gcT f σ s = .ok b s := by
  rw [gcT_eq h hc, e]
@[simp] theorem Sto.new_n {s : Sto} {x : Cell} : (s.new x).n = s.n + 1 := rfl
@[simp] theorem Sto.set_n {s : Sto} {i : Nat} {x : Cell} : (s.set i x).n = s.n := rfl
@[simp] theorem Sto.new_at {s : Sto} {x : Cell} : (s.new x).c s.n = x := if_pos rfl
@[simp] theorem Sto.set_at {s : Sto} {x : Cell} {i : Nat} : (s.set i x).c i = x := if_pos rfl
theorem Sto.set_ne {s : Sto} {x : Cell} {i j : Nat} (h : j ≠ i) : (s.set i x).c j = s.c j := if_neg h
end Ab
namespace Ab
open PySem PySem.Spec PyProof.Rows L2
/-- a small number of things -/
theorem sizeLine_ge {n : Nat} : ((n ≤ sizeLine) = (n ≤ sizeLine)) := rfl
theorem kz : True = True := rfl
@[simp] theorem lookA_hd {f : Str} {v : AV} {r : List (Str × AV)} : lookA f ((f, v) :: r) = some v := if_pos rfl
theorem lookA_tl {f g : Str} {v : AV} {r : List (Str × AV)} (h : g ≠ f) : lookA f ((g, v) :: r) = lookA f r := if_neg h
/-- data that is not scalar -/
theorem eqB_of {x y : AV} {s : Sto} {d e : PyData} {b : Bool} (h1 : dat 12 s x = some d) (h2 : dat 12 s y = some e) (c1 : SeqAt.shaped d = true) (c2 : SeqAt.shaped e = true) (hb : PyData.eqv d e = b) (h0 : scalA x y = false) : eqB x y s = some b := by
  rw [eqB_dat h0 h1 h2 c1 c2, hb]
end Ab
set_option Elab.async false
set_option linter.all false
set_option maxRecDepth 100000
set_option maxHeartbeats 1000000
namespace Ab
open PySem PySem.Spec PyProof.Rows L2
open Classical
structure Dn where
  nx : ASt → Sto → Prop
  rt : AV → Sto → Prop
  bk : ASt → Sto → Prop
  ct : ASt → Sto → Prop
  er : String → List Str → List AV → ASt → Sto → Prop
def SRes.A : SRes → Dn → Prop
  | .nx σ s, D => D.nx σ s
  | .rt v s, D => D.rt v s
  | .bk σ s, D => D.bk σ s
  | .ct σ s, D => D.ct σ s
  | .err c ns vs σ s, D => D.er c ns vs σ s
  | .stuck, _ => False
section
variable {α β : Type} {r r' : Res α} {P : α → Sto → Prop} {R : String → List Str → List AV → Sto → Prop} {q q' : SRes} {D : Dn}
theorem post_ok {a : α} {s : Sto} : (Res.ok a s).Post P R ↔ P a s := Iff.rfl
theorem post_err {c : String} {ns : List Str} {vs : List AV} {s : Sto} : (Res.err c ns vs s : Res α).Post P R ↔ R c ns vs s := Iff.rfl
theorem A_nx {σ : ASt} {s : Sto} : (SRes.nx σ s).A D ↔ D.nx σ s := Iff.rfl
theorem A_rt {v : AV} {s : Sto} : (SRes.rt v s).A D ↔ D.rt v s := Iff.rfl
theorem A_bk {σ : ASt} {s : Sto} : (SRes.bk σ s).A D ↔ D.bk σ s := Iff.rfl
theorem A_ct {σ : ASt} {s : Sto} : (SRes.ct σ s).A D ↔ D.ct σ s := Iff.rfl
theorem A_err {c : String} {ns : List Str} {vs : List AV} {σ : ASt} {s : Sto} : (SRes.err c ns vs σ s).A D ↔ D.er c ns vs σ s := Iff.rfl
theorem A_thn {f : AS} : (q.thn f).A D ↔ q.A ⟨fun σ s => (f σ s).A D, D.rt, D.bk, D.ct, D.er⟩ := by cases q <;> exact Iff.rfl
theorem A_st {σ : ASt} {k : α → Sto → SRes} : (r.st σ k).A D ↔ r.Post (fun a s => (k a s).A D) (fun c ns vs s => D.er c ns vs σ s) := by cases r <;> exact Iff.rfl
theorem A_loop {f : AS} : (q.loop f).A D ↔ q.A ⟨fun σ s => (f σ s).A D, D.rt, D.nx, fun σ s => (f σ s).A D, D.er⟩ := by cases q <;> exact Iff.rfl
theorem post_fn {q : SRes} {P : AV → Sto → Prop} : q.fn.Post P R ↔ q.A ⟨fun _ s => P .non s, P, fun _ _ => False, fun _ _ => False, fun c ns vs _ s => R c ns vs s⟩ := by cases q <;> exact Iff.rfl
theorem A_forget {n : Nat} : (q.forget n).A D ↔ q.A ⟨D.nx, D.rt, D.bk, D.ct, fun c ns vs _ s => D.er c ns vs (List.replicate n none) s⟩ := by cases q <;> exact Iff.rfl
theorem A_clr {i : Nat} : (q.clr i).A D ↔ q.A ⟨fun σ s => D.nx (σ.set i none) s, D.rt, fun σ s => D.bk (σ.set i none) s, fun σ s => D.ct (σ.set i none) s, fun _ _ _ _ _ => False⟩ := by cases q <;> exact Iff.rfl
theorem A_noX : q.noX.A D ↔ q.A ⟨D.nx, D.rt, D.bk, D.ct, fun _ _ _ _ _ => False⟩ := by cases q <;> exact Iff.rfl
theorem A_try {f : AS} {hs : List HdA} {σ : ASt} {s : Sto} : (aTry f hs σ s).A D ↔ (f σ s).A ⟨D.nx, D.rt, D.bk, D.ct, fun c ns vs σ' s' => (aHand c ns vs σ' s' hs).A D⟩ := by
  unfold aTry
  cases f σ s <;> exact Iff.rfl
theorem post_noErr : (noErr r).Post P R ↔ r.Post P (fun _ _ _ _ => False) := by cases r <;> exact Iff.rfl
theorem post_ite {c : Prop} [Decidable c] {a b : Res α} : (if c then a else b).Post P R ↔ (c → a.Post P R) ∧ (¬ c → b.Post P R) := by
  by_cases h : c
  · simp [h]
  · simp [h]
theorem A_ite {c : Prop} [Decidable c] {a b : SRes} : (if c then a else b).A D ↔ (c → a.A D) ∧ (¬ c → b.A D) := by
  by_cases h : c
  · simp [h]
  · simp [h]
end
@[simp] theorem Clean_refl (s : Sto) : Clean s s = True := eq_true (.refl s)
theorem new_set_at {s : Sto} {x y : Cell} : (s.new x).set s.n y = s.new y := by
  unfold Sto.new Sto.set
  simp only [Sto.mk.injEq, true_and]
  funext j
  by_cases hj : j = s.n
  · simp [hj]
  · simp [hj]
/-- a cell of a store that grew -/
theorem at_new {s : Sto} {x : Cell} {i : Nat} (h : i < s.n) : (s.new x).c i = s.c i := if_neg (Nat.ne_of_lt h)
section
variable {P : AV → Sto → Prop} {R : String → List Str → List AV → Sto → Prop}
theorem post_gcF {F : List AV → Sto → Res AV} {args : List AV} {s : Sto} : (gcF F args s).Post P R ↔ (F args s).Post (fun v s' => if Cl s.n v ∧ Clean s s' then P v (s'.cut s) else P v s') (fun c ns vs s' => if ClL s.n vs ∧ Clean s s' then R c ns vs (s'.cut s) else R c ns vs s') := by
  unfold gcF gcR
  cases F args s with
  | ok v s' =>
    show (if Cl s.n v ∧ Clean s s' then (Res.ok v (s'.cut s) : Res AV) else .ok v s').Post P R ↔ if Cl s.n v ∧ Clean s s' then P v (s'.cut s) else P v s'
    split <;> exact Iff.rfl
  | err c ns vs s' =>
    show (if ClL s.n vs ∧ Clean s s' then (Res.err c ns vs (s'.cut s) : Res AV) else .err c ns vs s').Post P R ↔ if ClL s.n vs ∧ Clean s s' then R c ns vs (s'.cut s) else R c ns vs s'
    split <;> exact Iff.rfl
  | stuck => exact Iff.rfl
theorem post_gcE {f : AE} {σ : ASt} {s : Sto} : (gcE f σ s).Post P R ↔ (f σ s).Post (fun v s' => if Cl s.n v ∧ Clean s s' then P v (s'.cut s) else P v s') (fun c ns vs s' => if ClL s.n vs ∧ Clean s s' then R c ns vs (s'.cut s) else R c ns vs s') := by
  unfold gcE gcR
  cases f σ s with
  | ok v s' =>
    show (if Cl s.n v ∧ Clean s s' then (Res.ok v (s'.cut s) : Res AV) else .ok v s').Post P R ↔ if Cl s.n v ∧ Clean s s' then P v (s'.cut s) else P v s'
    split <;> exact Iff.rfl
  | err c ns vs s' =>
    show (if ClL s.n vs ∧ Clean s s' then (Res.err c ns vs (s'.cut s) : Res AV) else .err c ns vs s').Post P R ↔ if ClL s.n vs ∧ Clean s s' then R c ns vs (s'.cut s) else R c ns vs s'
    split <;> exact Iff.rfl
  | stuck => exact Iff.rfl
theorem post_gcT {f : AT} {P : Bool → Sto → Prop} {σ : ASt} {s : Sto} : (gcT f σ s).Post P R ↔ (f σ s).Post (fun v s' => if Clean s s' then P v (s'.cut s) else P v s') R := by
  unfold gcT gcB
  cases f σ s with
  | ok v s' =>
    show (if Clean s s' then (Res.ok v (s'.cut s) : Res Bool) else .ok v s').Post P R ↔ if Clean s s' then P v (s'.cut s) else P v s'
    split <;> exact Iff.rfl
  | err c ns vs s' => exact Iff.rfl
  | stuck => exact Iff.rfl
/-- what a def returns, as an equation -/
theorem res_ok {r : Res AV} {v : AV} {s : Sto} (h : r.Post (fun v' s' => v' = v ∧ s' = s) (fun _ _ _ _ => False)) : r = .ok v s := by
  cases r with
  | ok v' s' => obtain ⟨rfl, rfl⟩ := h; rfl
  | err => exact h.elim
  | stuck => exact h.elim
end
theorem forI_A {G : Sto → Prop} {g : AV → AS} {b : AS} {D : Dn} (I : Nat → ASt → Sto → Prop) : ∀ (xs : List AV) (k : Nat) {σ : ASt} {s : Sto}, I k σ s →
    (∀ i x σ s, xs[i]? = some x → I (k + i) σ s → G s ∧ (aSeq (g x) b σ s).A ⟨I (k + i + 1), D.rt, D.nx, I (k + i + 1), D.er⟩) → (∀ σ s, I (k + xs.length) σ s → G s ∧ D.nx σ s) → (forI G g b xs σ s).A D
  | [], k, σ, s, h, st, fin => by
    obtain ⟨g, h⟩ := fin σ s h
    rw [forI_nil g]
    exact h
  | x :: xs, k, σ, s, h, st, fin => by
    obtain ⟨g0, h0⟩ := st 0 x σ s rfl h
    rw [forI_cons g0, A_loop]
    have nxt : ∀ σ s, I (k + 1) σ s → (forI G g b xs σ s).A D := fun σ s h => forI_A I xs (k + 1) h (fun i y σ s e hI => by
      have := st (i + 1) y σ s (by simpa using e) (by rw [show k + (i + 1) = k + 1 + i by omega]; exact hI)
      rw [show k + (i + 1) = k + 1 + i by omega] at this
      exact this) (fun σ s hI => fin σ s (by rw [List.length_cons, show k + (xs.length + 1) = k + 1 + xs.length by omega]; exact hI))
    cases e : aSeq (g x) b σ s with
    | nx σ' s' => rw [e] at h0; exact nxt _ _ h0
    | ct σ' s' => rw [e] at h0; exact nxt _ _ h0
    | bk σ' s' => rw [e] at h0; exact h0
    | rt v s' => rw [e] at h0; exact h0
    | err c ns vs σ' s' => rw [e] at h0; exact h0
    | stuck => rw [e] at h0; exact h0
/-- a loop, its turns counted -/
theorem for_A {G : Sto → Prop} {g : AV → AS} {b : AS} {D : Dn} {xs : List AV} {σ : ASt} {s : Sto} (I : Nat → ASt → Sto → Prop) (h : I 0 σ s)
    (st : ∀ i x σ s, xs[i]? = some x → I i σ s → G s ∧ (aSeq (g x) b σ s).A ⟨I (i + 1), D.rt, D.nx, I (i + 1), D.er⟩) (fin : ∀ σ s, I xs.length σ s → G s ∧ D.nx σ s) : (forI G g b xs σ s).A D :=
  forI_A I xs 0 h (fun i x σ s e hI => by rw [Nat.zero_add] at hI ⊢; exact st i x σ s e hI) (fun σ s hI => fin σ s (by rw [Nat.zero_add] at hI; exact hI))
theorem rngA_get {lo : Int} {n i : Nat} {x : AV} (h : (rngA lo n)[i]? = some x) : i < n ∧ x = .int (lo + i) := by
  unfold rngA at h
  rw [List.getElem?_map] at h
  by_cases hi : i < n
  · rw [List.getElem?_range hi] at h
    exact ⟨hi, (Option.some.inj h).symm⟩
  · rw [List.getElem?_eq_none (by rw [List.length_range]; omega)] at h
    cases h
theorem rngA_len {lo : Int} {n : Nat} : (rngA lo n).length = n := by
  unfold rngA
  rw [List.length_map, List.length_range]
theorem enumA_get {xs : List AV} {i : Nat} {x : AV} (h : (enumA xs)[i]? = some x) : ∃ y, xs[i]? = some y ∧ x = .tup [.int i, y] := by
  unfold enumA at h
  rw [List.getElem?_mapIdx] at h
  cases e : xs[i]? with
  | none => rw [e] at h; cases h
  | some y => rw [e] at h; exact ⟨y, rfl, (Option.some.inj h).symm⟩
theorem enumA_len {xs : List AV} : (enumA xs).length = xs.length := by
  unfold enumA
  rw [List.length_mapIdx]
/-- for x in range(n) -/
theorem for_rng {G : Sto → Prop} {g : AV → AS} {b : AS} {D : Dn} {n : Nat} {lo : Int} {σ : ASt} {s : Sto} (I : Nat → ASt → Sto → Prop) (h : I 0 σ s)
    (st : ∀ (i : Nat) σ s, i < n → I i σ s → G s ∧ (aSeq (g (.int (lo + i))) b σ s).A ⟨I (i + 1), D.rt, D.nx, I (i + 1), D.er⟩) (fin : ∀ σ s, I n σ s → G s ∧ D.nx σ s) : (forI G g b (rngA lo n) σ s).A D :=
  for_A I h (fun i x σ s e hI => by
    obtain ⟨hi, rfl⟩ := rngA_get e
    exact st i σ s hi hI) (fun σ s hI => fin σ s (by rw [rngA_len] at hI; exact hI))
/-- [.. for x in ..]: the rows are told one by one -/
theorem lcI_P {k : Nat} {G : Sto → Prop} {g : AV → AS} {ft : AT} {fe : AE} {σ0 : ASt} {P : AV → Sto → Prop} {R : String → List Str → List AV → Sto → Prop} (I : Nat → List AV → Sto → Prop) : ∀ (xs : List AV) (j : Nat) (acc : List AV) {s : Sto}, I j acc s → s.c k = .lst acc → acc.length + xs.length ≤ sizeLine →
    (∀ i x acc s, xs[i]? = some x → I (j + i) acc s → s.c k = .lst acc → G s ∧ (g x σ0 s).A ⟨fun σ2 s2 => (ft σ2 s2).Post (fun b s3 => (b = true → (fe σ2 s3).Post (fun y s4 => s4.c k = .lst acc ∧ I (j + i + 1) (acc ++ [y]) (s4.set k (.lst (acc ++ [y])))) (fun _ _ _ _ => False)) ∧ (b = false → s3.c k = .lst acc ∧ I (j + i + 1) acc s3)) (fun _ _ _ _ => False), fun _ _ => False, fun _ _ => False, fun _ _ => False, fun _ _ _ _ _ => False⟩) →
    (∀ acc s, I (j + xs.length) acc s → s.c k = .lst acc → G s ∧ P (.obj k) s) → (oObj k (lcI k G g ft fe σ0 xs s)).Post P R
  | [], j, acc, s, h, hk, hl, st, fin => by
    obtain ⟨g0, h0⟩ := fin acc s h hk
    rw [show lcI k G g ft fe σ0 [] s = some s from if_pos g0]
    exact h0
  | x :: xs, j, acc, s, h, hk, hl, st, fin => by
    obtain ⟨g0, h0⟩ := st 0 x acc s rfl h hk
    have hl' : acc.length + xs.length + 1 ≤ sizeLine := by simpa [Nat.add_assoc] using hl
    have nxt : ∀ acc' s', acc'.length ≤ acc.length + 1 → I (j + 1) acc' s' → s'.c k = .lst acc' → (oObj k (lcI k G g ft fe σ0 xs s')).Post P R := fun acc' s' hl2 h hk =>
      lcI_P I xs (j + 1) acc' h hk (by omega) (fun i y acc s e hI hk => by
        have := st (i + 1) y acc s (by simpa using e) (by rw [show j + (i + 1) = j + 1 + i by omega]; exact hI) hk
        rw [show j + (i + 1) = j + 1 + i by omega] at this
        exact this) (fun acc s hI hk => fin acc s (by rw [List.length_cons, show j + (xs.length + 1) = j + 1 + xs.length by omega]; exact hI) hk)
    rw [show lcI k G g ft fe σ0 (x :: xs) s = (match g x σ0 s with
      | .nx σ2 s2 => (match ft σ2 s2 with
        | .ok true s3 => (match fe σ2 s3 with
          | .ok y s4 => (match s4.c k with | .lst acc => if acc.length < sizeLine then lcI k G g ft fe σ0 xs (s4.set k (.lst (acc ++ [y]))) else none | _ => none)
          | _ => none)
        | .ok false s3 => lcI k G g ft fe σ0 xs s3
        | _ => none)
      | _ => none) from if_pos g0]
    cases e : g x σ0 s with
    | nx σ2 s2 =>
      rw [e] at h0
      have h0 : (ft σ2 s2).Post _ _ := h0
      cases e2 : ft σ2 s2 with
      | ok b s3 =>
        rw [e2] at h0
        cases b with
        | true =>
          have h1 := h0.1 rfl
          cases e3 : fe σ2 s3 with
          | ok y s4 =>
            rw [e3] at h1
            obtain ⟨k1, k2⟩ := h1
            simp only [e2, e3, k1]
            rw [if_pos (by omega)]
            exact nxt _ _ (by simp) k2 Sto.set_at
          | err => rw [e3] at h1; exact h1.elim
          | stuck => rw [e3] at h1; exact h1.elim
        | false =>
          obtain ⟨k1, k2⟩ := h0.2 rfl
          simp only [e2]
          exact nxt _ _ (Nat.le_succ _) k2 k1
      | err => rw [e2] at h0; exact h0.elim
      | stuck => rw [e2] at h0; exact h0.elim
    | rt => rw [e] at h0; exact h0.elim
    | bk => rw [e] at h0; exact h0.elim
    | ct => rw [e] at h0; exact h0.elim
    | err => rw [e] at h0; exact h0.elim
    | stuck => rw [e] at h0; exact h0.elim
/-- while: the turns that are left -/
theorem whileN_A {c : AT} {b : AS} {D : Dn} (I : Nat → ASt → Sto → Prop) (st : ∀ n σ s, I n σ s → (c σ s).Post (fun r s1 => (r = true → (b σ s1).A ⟨fun σ s => ∃ m, m < n ∧ I m σ s, D.rt, D.nx, fun σ s => ∃ m, m < n ∧ I m σ s, D.er⟩) ∧ (r = false → D.nx σ s1)) (fun c ns vs s => D.er c ns vs σ s)) :
    ∀ (n : Nat) (σ : ASt) (s : Sto), I n σ s → ∃ k, (whileN c b k σ s).A D := fun n => by
  induction n using Nat.strongRecOn with
  | _ n ih =>
    intro σ s h
    have h0 := st n σ s h
    cases e : c σ s with
    | ok r s1 =>
      rw [e] at h0
      cases r with
      | false =>
        refine ⟨1, ?_⟩
        show ((c σ s).st σ fun r s1 => if r = true then (b σ s1).loop (whileN c b 0) else .nx σ s1).A D
        rw [e]
        exact h0.2 rfl
      | true =>
        have h1 := h0.1 rfl
        have big : ∀ (k : Nat), ((b σ s1).loop (whileN c b k)).A D → ∃ k, (whileN c b k σ s).A D := fun k hk => ⟨k + 1, by
          show ((c σ s).st σ fun r s1 => if r = true then (b σ s1).loop (whileN c b k) else .nx σ s1).A D
          rw [e]
          exact hk⟩
        cases e1 : b σ s1 with
        | nx σ' s' =>
          rw [e1] at h1
          obtain ⟨m, hm, hI⟩ := h1
          obtain ⟨k, hk⟩ := ih m hm σ' s' hI
          exact big k (by rw [e1]; exact hk)
        | ct σ' s' =>
          rw [e1] at h1
          obtain ⟨m, hm, hI⟩ := h1
          obtain ⟨k, hk⟩ := ih m hm σ' s' hI
          exact big k (by rw [e1]; exact hk)
        | bk σ' s' => rw [e1] at h1; exact big 0 (by rw [e1]; exact h1)
        | rt v s' => rw [e1] at h1; exact big 0 (by rw [e1]; exact h1)
        | err c ns vs σ' s' => rw [e1] at h1; exact big 0 (by rw [e1]; exact h1)
        | stuck => rw [e1] at h1; exact h1.elim
    | err c' ns vs s1 =>
      rw [e] at h0
      refine ⟨1, ?_⟩
      show ((c σ s).st σ fun r s1 => if r = true then (b σ s1).loop (whileN c b 0) else .nx σ s1).A D
      rw [e]
      exact h0
    | stuck => rw [e] at h0; exact h0.elim
theorem A_ne {q : SRes} {D : Dn} (h : q.A D) : q ≠ .stuck := fun e => by rw [e] at h; exact h
theorem whileN_le {c : AT} {b : AS} {k : Nat} {σ : ASt} {s : Sto} (h : whileN c b k σ s ≠ .stuck) : ∀ m, whileN c b (k + m) σ s = whileN c b k σ s
  | 0 => rfl
  | m + 1 => by
    have ih := whileN_le h m
    rw [← ih, show k + (m + 1) = k + m + 1 from rfl]
    exact whileN_succ _ _ _ (by rw [ih]; exact h)
theorem while_A {c : AT} {b : AS} {D : Dn} {σ : ASt} {s : Sto} (I : Nat → ASt → Sto → Prop) (n : Nat) (h : I n σ s) (st : ∀ n σ s, I n σ s → (c σ s).Post (fun r s1 => (r = true → (b σ s1).A ⟨fun σ s => ∃ m, m < n ∧ I m σ s, D.rt, D.nx, fun σ s => ∃ m, m < n ∧ I m σ s, D.er⟩) ∧ (r = false → D.nx σ s1)) (fun c ns vs s => D.er c ns vs σ s)) :
    (aWhile c b σ s).A D := by
  obtain ⟨k, hk⟩ := whileN_A I st n σ s h
  have hx : ∃ k, whileN c b k σ s ≠ .stuck := ⟨k, A_ne hk⟩
  unfold aWhile
  rw [dif_pos hx]
  have hc := Classical.choose_spec hx
  rcases Nat.le_total (Classical.choose hx) k with hle | hle
  · have := whileN_le hc (k - Classical.choose hx)
    rw [Nat.add_sub_cancel' hle] at this
    rw [← this]
    exact hk
  · have := whileN_le (A_ne hk) (Classical.choose hx - k)
    rw [Nat.add_sub_cancel' hle] at this
    rw [this]
    exact hk
/-- an index in bounds, of a row whose values are alike -/
theorem atI_all {xs : List AV} {i : Int} (h0 : 0 ≤ i) (h1 : i < xs.length) : ∃ x, x ∈ xs ∧ atI xs i = some x := by
  obtain ⟨j, rfl⟩ := Int.eq_ofNat_of_zero_le h0
  have hi : j < xs.length := by omega
  exact ⟨xs[j], List.getElem_mem hi, atI_nat (List.getElem?_eq_getElem hi)⟩
/-- nothing that stood has changed -/
structure Gb (s s' : Sto) : Prop where
  n : s.n ≤ s'.n
  c : ∀ i, i < s.n → s'.c i = s.c i
theorem Gb.refl (s : Sto) : Gb s s := ⟨Nat.le_refl _, fun _ _ => rfl⟩
theorem Gb.trans {s t u : Sto} (a : Gb s t) (b : Gb t u) : Gb s u := ⟨Nat.le_trans a.n b.n, fun i h => (b.c i (Nat.lt_of_lt_of_le h a.n)).trans (a.c i h)⟩
theorem Gb.new {s t : Sto} {x : Cell} (a : Gb s t) : Gb s (t.new x) := a.trans ⟨Nat.le_succ _, fun i h => at_new h⟩
theorem Gb.set {s t : Sto} {i : Nat} {x : Cell} (a : Gb s t) (h : s.n ≤ i) : Gb s (t.set i x) := ⟨a.n, fun j hj => (Sto.set_ne (by omega)).trans (a.c j hj)⟩
theorem Gb.clean {s t : Sto} (a : Gb s t) : Clean s t := ⟨a.n, fun i h => .inl (a.c i h)⟩
theorem Gb.cut {s t : Sto} (a : Gb s t) : t.cut s = s := cut_eq a.c
section
variable {P : AV → Sto → Prop} {R : String → List Str → List AV → Sto → Prop}
theorem gcF_g {F : List AV → Sto → Res AV} {args : List AV} {s : Sto} (h : (F args s).Post (fun v s' => Cl s.n v ∧ Gb s s' ∧ P v s) (fun c ns vs s' => ClL s.n vs ∧ Gb s s' ∧ R c ns vs s)) : (gcF F args s).Post P R :=
  post_gcF.mpr (h.mono (fun v s' z => by rw [if_pos ⟨z.1, z.2.1.clean⟩, z.2.1.cut]; exact z.2.2) fun c ns vs s' z => by rw [if_pos ⟨z.1, z.2.1.clean⟩, z.2.1.cut]; exact z.2.2)
theorem gcE_g {f : AE} {σ : ASt} {s : Sto} (h : (f σ s).Post (fun v s' => Cl s.n v ∧ Gb s s' ∧ P v s) (fun c ns vs s' => ClL s.n vs ∧ Gb s s' ∧ R c ns vs s)) : (gcE f σ s).Post P R :=
  post_gcE.mpr (h.mono (fun v s' z => by rw [if_pos ⟨z.1, z.2.1.clean⟩, z.2.1.cut]; exact z.2.2) fun c ns vs s' z => by rw [if_pos ⟨z.1, z.2.1.clean⟩, z.2.1.cut]; exact z.2.2)
theorem gcT_g {f : AT} {P : Bool → Sto → Prop} {σ : ASt} {s : Sto} (h : (f σ s).Post (fun v s' => Gb s s' ∧ P v s) R) : (gcT f σ s).Post P R :=
  post_gcT.mpr (h.mono (fun v s' z => by rw [if_pos z.1.clean, z.1.cut]; exact z.2) fun _ _ _ _ z => z)
end
/-- nothing that stood has changed, but what is at d -/
structure Gd (d : Nat) (s s' : Sto) : Prop where
  n : s.n ≤ s'.n
  c : ∀ i, i < s.n → i ≠ d → s'.c i = s.c i
theorem Gd.refl (d : Nat) (s : Sto) : Gd d s s := ⟨Nat.le_refl _, fun _ _ _ => rfl⟩
theorem Gd.trans {d : Nat} {s t u : Sto} (a : Gd d s t) (b : Gd d t u) : Gd d s u := ⟨Nat.le_trans a.n b.n, fun i h e => (b.c i (Nat.lt_of_lt_of_le h a.n) e).trans (a.c i h e)⟩
theorem Gd.set {d : Nat} {s t : Sto} {x : Cell} (a : Gd d s t) : Gd d s (t.set d x) := ⟨a.n, fun i h e => (Sto.set_ne e).trans (a.c i h e)⟩
theorem Gd.new {d : Nat} {s t : Sto} {x : Cell} (a : Gd d s t) : Gd d s (t.new x) := ⟨Nat.le_succ_of_le a.n, fun i h e => (at_new (Nat.lt_of_lt_of_le h a.n)).trans (a.c i h e)⟩
theorem Gd.cut {d : Nat} {s t : Sto} (a : Gd d s t) (h : d < s.n) : t.cut s = s.set d (t.c d) := by
  unfold Sto.cut Sto.set
  simp only [Sto.mk.injEq, true_and]
  funext i
  by_cases e : i = d
  · subst e; simp [h]
  · by_cases hi : i < s.n
    · simp [hi, e, a.c i hi e]
    · simp [hi, e]
theorem Gd.clean {d : Nat} {s t : Sto} (a : Gd d s t) (h : ClC s.n (t.c d)) : Clean s t := ⟨a.n, fun i hi => by
  by_cases e : i = d
  · subst e; exact .inr h
  · exact .inl (a.c i hi e)⟩
theorem ok_of_post {r : Res AV} {v : AV} (h : r.Post (fun v' _ => v' = v) (fun _ _ _ _ => False)) : ∃ s', r = .ok v s' := by
  cases r with
  | ok v' s' => cases (show v' = v from h); exact ⟨s', rfl⟩
  | err => exact h.elim
  | stuck => exact h.elim
theorem ex_of_post {α : Type} {r : Res α} {P : α → Sto → Prop} (h : r.Post P (fun _ _ _ _ => False)) : ∃ v s', P v s' ∧ r = .ok v s' := by
  cases r with
  | ok v s' => exact ⟨v, s', h, rfl⟩
  | err => exact h.elim
  | stuck => exact h.elim
section
variable {P : AV → Sto → Prop} {R : String → List Str → List AV → Sto → Prop}
theorem post_ix {x : AV} {xs : List AV} {i : Int} {s : Sto} (h : seqOf s x = some xs) (h0 : 0 ≤ i) (h1 : i < xs.length) (q : ∀ v, v ∈ xs → P v s) : (gIx x (.int i) s).Post P R := by
  obtain ⟨v, h2, h3⟩ := atI_all h0 h1
  rw [gIx_seq h h3]
  exact q v h2
end
theorem at_old {s : Sto} {x : Cell} {i : Nat} {c : Cell} (h : i < s.n) (e : s.c i = c) : (s.new x).c i = c := (at_new h).trans e
/-- a comprehension, its rows counted -/
theorem lc_P {k : Nat} {G : Sto → Prop} {g : AV → AS} {ft : AT} {fe : AE} {σ0 : ASt} {P : AV → Sto → Prop} {R : String → List Str → List AV → Sto → Prop} {xs : List AV} {s : Sto} (I : Nat → List AV → Sto → Prop) (h : I 0 [] s) (hk : s.c k = .lst []) (hl : xs.length ≤ 1000)
    (st : ∀ i x acc s, xs[i]? = some x → I i acc s → s.c k = .lst acc → G s ∧ (g x σ0 s).A ⟨fun σ2 s2 => (ft σ2 s2).Post (fun b s3 => (b = true → (fe σ2 s3).Post (fun y s4 => s4.c k = .lst acc ∧ I (i + 1) (acc ++ [y]) (s4.set k (.lst (acc ++ [y])))) (fun _ _ _ _ => False)) ∧ (b = false → s3.c k = .lst acc ∧ I (i + 1) acc s3)) (fun _ _ _ _ => False), fun _ _ => False, fun _ _ => False, fun _ _ => False, fun _ _ _ _ _ => False⟩)
    (fin : ∀ acc s, I xs.length acc s → s.c k = .lst acc → G s ∧ P (.obj k) s) : (oObj k (lcI k G g ft fe σ0 xs s)).Post P R :=
  lcI_P I xs 0 [] h hk (Nat.le_trans (show _ ≤ 1000 by simpa using hl) (by decide)) (fun i x acc s e hI hc => by
    rw [Nat.zero_add] at hI ⊢
    exact st i x acc s e hI hc) (fun acc s hI hc => by
    rw [Nat.zero_add] at hI
    exact fin acc s hI hc)
end Ab
set_option Elab.async false
set_option linter.all false
set_option maxRecDepth 100000
set_option maxHeartbeats 1000000
namespace Ab
open PySem PySem.Spec PyProof.Rows L2
open Classical
noncomputable section
def Kb {α β : Type} (k : α → Sto → Res β) (P : β → Sto → Prop) (R : String → List Str → List AV → Sto → Prop) : α → Sto → Prop := fun a s => (k a s).Post P R
def Kst {α : Type} (k : α → Sto → SRes) (D : Dn) : α → Sto → Prop := fun a s => (k a s).A D
def Rst (σ : ASt) (D : Dn) : String → List Str → List AV → Sto → Prop := fun c ns vs s => D.er c ns vs σ s
def Dn.thn (f : AS) (D : Dn) : Dn := ⟨fun σ s => (f σ s).A D, D.rt, D.bk, D.ct, D.er⟩
def Dn.lp (f : AS) (D : Dn) : Dn := ⟨fun σ s => (f σ s).A D, D.rt, D.nx, fun σ s => (f σ s).A D, D.er⟩
def Dn.fn (P : AV → Sto → Prop) (R : String → List Str → List AV → Sto → Prop) : Dn := ⟨fun _ s => P .non s, P, fun _ _ => False, fun _ _ => False, fun c ns vs _ s => R c ns vs s⟩
def Dn.fg (n : Nat) (D : Dn) : Dn := ⟨D.nx, D.rt, D.bk, D.ct, fun c ns vs _ s => D.er c ns vs (List.replicate n none) s⟩
def Dn.cl (i : Nat) (D : Dn) : Dn := ⟨fun σ s => D.nx (σ.set i none) s, D.rt, fun σ s => D.bk (σ.set i none) s, fun σ s => D.ct (σ.set i none) s, fun _ _ _ _ _ => False⟩
def Dn.nX (D : Dn) : Dn := ⟨D.nx, D.rt, D.bk, D.ct, fun _ _ _ _ _ => False⟩
def Dn.tr (hs : List HdA) (D : Dn) : Dn := ⟨D.nx, D.rt, D.bk, D.ct, fun c ns vs σ' s' => (aHand c ns vs σ' s' hs).A D⟩
section
variable {α β : Type} {r r' : Res α} {q q' : SRes} {D : Dn}
theorem k_bind {k : α → Sto → Res β} {P : β → Sto → Prop} {R : String → List Str → List AV → Sto → Prop} : (r.bind k).Post P R ↔ r.Post (Kb k P R) R := Res.post_bind
theorem k_Kb {k : α → Sto → Res β} {P : β → Sto → Prop} {R : String → List Str → List AV → Sto → Prop} {a : α} {s : Sto} : Kb k P R a s ↔ (k a s).Post P R := Iff.rfl
theorem k_st {σ : ASt} {k : α → Sto → SRes} : (r.st σ k).A D ↔ r.Post (Kst k D) (Rst σ D) := A_st
theorem k_Kst {k : α → Sto → SRes} {a : α} {s : Sto} : Kst k D a s ↔ (k a s).A D := Iff.rfl
theorem k_Rst {σ : ASt} {c : String} {ns : List Str} {vs : List AV} {s : Sto} : Rst σ D c ns vs s ↔ D.er c ns vs σ s := Iff.rfl
theorem k_thn {f : AS} : (q.thn f).A D ↔ q.A (D.thn f) := A_thn
theorem k_loop {f : AS} : (q.loop f).A D ↔ q.A (D.lp f) := A_loop
theorem k_fn {P : AV → Sto → Prop} {R : String → List Str → List AV → Sto → Prop} : q.fn.Post P R ↔ q.A (Dn.fn P R) := post_fn
theorem k_forget {n : Nat} : (q.forget n).A D ↔ q.A (D.fg n) := A_forget
theorem k_clr {i : Nat} : (q.clr i).A D ↔ q.A (D.cl i) := A_clr
theorem k_noX : q.noX.A D ↔ q.A D.nX := A_noX
theorem k_try {f : AS} {hs : List HdA} {σ : ASt} {s : Sto} : (aTry f hs σ s).A D ↔ (f σ s).A (D.tr hs) := A_try
theorem k_stuck {P : α → Sto → Prop} {R : String → List Str → List AV → Sto → Prop} : (Res.stuck : Res α).Post P R ↔ False := Iff.rfl
theorem k_Astuck : SRes.stuck.A D ↔ False := Iff.rfl
theorem k_iteS {c : Prop} [Decidable c] {a : Res α} {P : α → Sto → Prop} {R : String → List Str → List AV → Sto → Prop} : (if c then a else Res.stuck).Post P R ↔ c ∧ a.Post P R := by
  by_cases h : c
  · simp [h]
  · simp [h, k_stuck]
theorem k_AiteS {c : Prop} [Decidable c] {a : SRes} : (if c then a else SRes.stuck).A D ↔ c ∧ a.A D := by
  by_cases h : c
  · simp [h]
  · simp [h, k_Astuck]
end
def grd {α : Type} (c : Prop) [Decidable c] (r : Res α) : Res α := if c then r else .stuck
def grdS (c : Prop) [Decidable c] (r : SRes) : SRes := if c then r else .stuck
theorem grd_pos {α : Type} {c : Prop} [Decidable c] {a : Res α} (h : c) : grd c a = a := if_pos h
theorem grdS_pos {c : Prop} [Decidable c] {a : SRes} (h : c) : grdS c a = a := if_pos h
theorem k_grd {α : Type} {c : Prop} [Decidable c] {a : Res α} {P : α → Sto → Prop} {R : String → List Str → List AV → Sto → Prop} : (grd c a).Post P R ↔ c ∧ a.Post P R := k_iteS
theorem k_grdS {c : Prop} [Decidable c] {a : SRes} {D : Dn} : (grdS c a).A D ↔ c ∧ a.A D := k_AiteS
theorem k_ite {α : Type} {c : Prop} [Decidable c] {x y : Res α} {P : α → Sto → Prop} {R : String → List Str → List AV → Sto → Prop} : (if c then x else y).Post P R ↔ (c → x.Post P R) ∧ (¬ c → y.Post P R) := post_ite
theorem k_Aite {c : Prop} [Decidable c] {x y : SRes} {D : Dn} : (if c then x else y).A D ↔ (c → x.A D) ∧ (¬ c → y.A D) := A_ite
theorem d_thn_nx {D : Dn} {f : AS} {σ : ASt} {s : Sto} : (D.thn f).nx σ s ↔ (f σ s).A D := Iff.rfl
theorem d_thn_bk {D : Dn} {f : AS} {σ : ASt} {s : Sto} : (D.thn f).bk σ s ↔ D.bk σ s := Iff.rfl
theorem d_thn_ct {D : Dn} {f : AS} {σ : ASt} {s : Sto} : (D.thn f).ct σ s ↔ D.ct σ s := Iff.rfl
theorem d_thn_rt {D : Dn} {f : AS} {v : AV} {s : Sto} : (D.thn f).rt v s ↔ D.rt v s := Iff.rfl
theorem d_thn_er {D : Dn} {f : AS} {σ : ASt} {s : Sto} {c : String} {ns : List Str} {vs : List AV} : (D.thn f).er c ns vs σ s ↔ D.er c ns vs σ s := Iff.rfl
theorem d_lp_nx {D : Dn} {f : AS} {σ : ASt} {s : Sto} : (D.lp f).nx σ s ↔ (f σ s).A D := Iff.rfl
theorem d_lp_bk {D : Dn} {f : AS} {σ : ASt} {s : Sto} : (D.lp f).bk σ s ↔ D.nx σ s := Iff.rfl
theorem d_lp_ct {D : Dn} {f : AS} {σ : ASt} {s : Sto} : (D.lp f).ct σ s ↔ (f σ s).A D := Iff.rfl
theorem d_lp_rt {D : Dn} {f : AS} {v : AV} {s : Sto} : (D.lp f).rt v s ↔ D.rt v s := Iff.rfl
theorem d_lp_er {D : Dn} {f : AS} {σ : ASt} {s : Sto} {c : String} {ns : List Str} {vs : List AV} : (D.lp f).er c ns vs σ s ↔ D.er c ns vs σ s := Iff.rfl
theorem d_fg_nx {D : Dn} {f : Nat} {σ : ASt} {s : Sto} : (D.fg f).nx σ s ↔ D.nx σ s := Iff.rfl
theorem d_fg_bk {D : Dn} {f : Nat} {σ : ASt} {s : Sto} : (D.fg f).bk σ s ↔ D.bk σ s := Iff.rfl
theorem d_fg_ct {D : Dn} {f : Nat} {σ : ASt} {s : Sto} : (D.fg f).ct σ s ↔ D.ct σ s := Iff.rfl
theorem d_fg_rt {D : Dn} {f : Nat} {v : AV} {s : Sto} : (D.fg f).rt v s ↔ D.rt v s := Iff.rfl
theorem d_fg_er {D : Dn} {f : Nat} {σ : ASt} {s : Sto} {c : String} {ns : List Str} {vs : List AV} : (D.fg f).er c ns vs σ s ↔ D.er c ns vs (List.replicate f none) s := Iff.rfl
theorem d_cl_nx {D : Dn} {f : Nat} {σ : ASt} {s : Sto} : (D.cl f).nx σ s ↔ D.nx (σ.set f none) s := Iff.rfl
theorem d_cl_bk {D : Dn} {f : Nat} {σ : ASt} {s : Sto} : (D.cl f).bk σ s ↔ D.bk (σ.set f none) s := Iff.rfl
theorem d_cl_ct {D : Dn} {f : Nat} {σ : ASt} {s : Sto} : (D.cl f).ct σ s ↔ D.ct (σ.set f none) s := Iff.rfl
theorem d_cl_rt {D : Dn} {f : Nat} {v : AV} {s : Sto} : (D.cl f).rt v s ↔ D.rt v s := Iff.rfl
theorem d_cl_er {D : Dn} {f : Nat} {σ : ASt} {s : Sto} {c : String} {ns : List Str} {vs : List AV} : (D.cl f).er c ns vs σ s ↔ False := Iff.rfl
theorem d_tr_nx {D : Dn} {f : List HdA} {σ : ASt} {s : Sto} : (D.tr f).nx σ s ↔ D.nx σ s := Iff.rfl
theorem d_tr_bk {D : Dn} {f : List HdA} {σ : ASt} {s : Sto} : (D.tr f).bk σ s ↔ D.bk σ s := Iff.rfl
theorem d_tr_ct {D : Dn} {f : List HdA} {σ : ASt} {s : Sto} : (D.tr f).ct σ s ↔ D.ct σ s := Iff.rfl
theorem d_tr_rt {D : Dn} {f : List HdA} {v : AV} {s : Sto} : (D.tr f).rt v s ↔ D.rt v s := Iff.rfl
theorem d_tr_er {D : Dn} {f : List HdA} {σ : ASt} {s : Sto} {c : String} {ns : List Str} {vs : List AV} : (D.tr f).er c ns vs σ s ↔ (aHand c ns vs σ s f).A D := Iff.rfl
theorem d_nX_nx {D : Dn} {σ : ASt} {s : Sto} : D.nX.nx σ s ↔ D.nx σ s := Iff.rfl
theorem d_nX_bk {D : Dn} {σ : ASt} {s : Sto} : D.nX.bk σ s ↔ D.bk σ s := Iff.rfl
theorem d_nX_ct {D : Dn} {σ : ASt} {s : Sto} : D.nX.ct σ s ↔ D.ct σ s := Iff.rfl
theorem d_nX_rt {D : Dn} {v : AV} {s : Sto} : D.nX.rt v s ↔ D.rt v s := Iff.rfl
theorem d_nX_er {D : Dn} {σ : ASt} {s : Sto} {c : String} {ns : List Str} {vs : List AV} : D.nX.er c ns vs σ s ↔ False := Iff.rfl
theorem d_fn_nx {P : AV → Sto → Prop} {R : String → List Str → List AV → Sto → Prop} {σ : ASt} {s : Sto} : (Dn.fn P R).nx σ s ↔ P .non s := Iff.rfl
theorem d_fn_bk {P : AV → Sto → Prop} {R : String → List Str → List AV → Sto → Prop} {σ : ASt} {s : Sto} : (Dn.fn P R).bk σ s ↔ False := Iff.rfl
theorem d_fn_ct {P : AV → Sto → Prop} {R : String → List Str → List AV → Sto → Prop} {σ : ASt} {s : Sto} : (Dn.fn P R).ct σ s ↔ False := Iff.rfl
theorem d_fn_rt {P : AV → Sto → Prop} {R : String → List Str → List AV → Sto → Prop} {v : AV} {s : Sto} : (Dn.fn P R).rt v s ↔ P v s := Iff.rfl
theorem d_fn_er {P : AV → Sto → Prop} {R : String → List Str → List AV → Sto → Prop} {σ : ASt} {s : Sto} {c : String} {ns : List Str} {vs : List AV} : (Dn.fn P R).er c ns vs σ s ↔ R c ns vs s := Iff.rfl
def opK1 (g : AV → AV → Sto → Res AV) (fb : AE) (σ : ASt) : AV → Sto → Res AV := fun x s1 => (fb σ s1).bind (g x)
theorem e_op {fa fb : AE} {σ : ASt} {s : Sto} {g : AV → AV → Sto → Res AV} : aOp g fa fb σ s = (fa σ s).bind (opK1 g fb σ) := rfl
theorem e_opK {fb : AE} {σ : ASt} {s : Sto} {g : AV → AV → Sto → Res AV} {x : AV} : opK1 g fb σ x s = (fb σ s).bind (g x) := rfl
theorem e_un {fa : AE} {σ : ASt} {s : Sto} {g : AV → Sto → Res AV} : aUn g fa σ s = (fa σ s).bind g := rfl
theorem e_cb {fr : AA} {σ : ASt} {s : Sto} {g : List AV → Sto → Res AV} : aCB g fr σ s = (fr σ s).bind g := rfl
theorem e_nil {σ : ASt} {s : Sto} : aNil σ s = .ok [] s := rfl
theorem e_c {v : AV} {σ : ASt} {s : Sto} : aC v σ s = .ok v s := rfl
def consK2 (x : AV) : List AV → Sto → Res (List AV) := fun xs s => .ok (x :: xs) s
def consK1 (fr : AA) (σ : ASt) : AV → Sto → Res (List AV) := fun x s1 => (fr σ s1).bind (consK2 x)
theorem e_cons {fa : AE} {fr : AA} {σ : ASt} {s : Sto} : aCons fa fr σ s = (fa σ s).bind (consK1 fr σ) := rfl
theorem e_consK {fr : AA} {σ : ASt} {s : Sto} {x : AV} : consK1 fr σ x s = (fr σ s).bind (consK2 x) := rfl
theorem e_consK2 {x : AV} {xs : List AV} {s : Sto} : consK2 x xs s = .ok (x :: xs) s := rfl
def andK (fb : AE) (σ : ASt) : AV → Sto → Res AV := fun x s1 => match x with | .bl true => fb σ s1 | .bl false => .ok (.bl false) s1 | _ => .stuck
def orK (fb : AE) (σ : ASt) : AV → Sto → Res AV := fun x s1 => match x with | .bl false => fb σ s1 | .bl true => .ok (.bl true) s1 | _ => .stuck
theorem e_and {fa fb : AE} {σ : ASt} {s : Sto} : aAndV fa fb σ s = (fa σ s).bind (andK fb σ) := rfl
theorem e_or {fa fb : AE} {σ : ASt} {s : Sto} : aOrV fa fb σ s = (fa σ s).bind (orK fb σ) := rfl
theorem e_andK {fb : AE} {σ : ASt} {s : Sto} {b : Bool} : andK fb σ (.bl b) s = if b = true then fb σ s else .ok (.bl false) s := by cases b <;> rfl
theorem e_orK {fb : AE} {σ : ASt} {s : Sto} {b : Bool} : orK fb σ (.bl b) s = if b = true then .ok (.bl true) s else fb σ s := by cases b <;> rfl
def notK  : AV → Sto → Res AV := fun x s1 => match x with | .bl b => .ok (.bl (!b)) s1 | _ => .stuck
theorem e_not {fa : AE} {σ : ASt} {s : Sto} : aNotV fa σ s = (fa σ s).bind notK := rfl
theorem e_notK {b : Bool} {s : Sto} : notK (.bl b) s = .ok (.bl (!b)) s := rfl
def testK  : AV → Sto → Res Bool := fun x s1 => match x with | .bl b => .ok b s1 | _ => .stuck
theorem e_test {fa : AE} {σ : ASt} {s : Sto} : aTest fa σ s = (fa σ s).bind testK := rfl
theorem e_testK {b : Bool} {s : Sto} : testK (.bl b) s = .ok b s := rfl
def tandK (u : AT) (σ : ASt) : Bool → Sto → Res Bool := fun b s1 => if b = true then u σ s1 else .ok false s1
def torK (u : AT) (σ : ASt) : Bool → Sto → Res Bool := fun b s1 => if b = true then .ok true s1 else u σ s1
def tnotK  : Bool → Sto → Res Bool := fun b s1 => .ok (!b) s1
theorem e_tand {t u : AT} {σ : ASt} {s : Sto} : aAnd t u σ s = (t σ s).bind (tandK u σ) := rfl
theorem e_tandK {u : AT} {σ : ASt} {s : Sto} {b : Bool} : tandK u σ b s = if b = true then u σ s else .ok false s := rfl
theorem e_tor {t u : AT} {σ : ASt} {s : Sto} : aOr t u σ s = (t σ s).bind (torK u σ) := rfl
theorem e_torK {u : AT} {σ : ASt} {s : Sto} {b : Bool} : torK u σ b s = if b = true then .ok true s else u σ s := rfl
theorem e_tnot {t : AT} {σ : ASt} {s : Sto} : aNot t σ s = (t σ s).bind tnotK := rfl
theorem e_tnotK {b : Bool} {s : Sto} : tnotK b s = .ok (!b) s := rfl
theorem e_yes {σ : ASt} {s : Sto} : aYes σ s = .ok true s := rfl
def ifK (fa fb : AE) (σ : ASt) : Bool → Sto → Res AV := fun b s1 => if b = true then fa σ s1 else fb σ s1
theorem e_if {fa fb : AE} {t : AT} {σ : ASt} {s : Sto} : aIf t fa fb σ s = (t σ s).bind (ifK fa fb σ) := rfl
theorem e_ifK {fa fb : AE} {σ : ASt} {s : Sto} {b : Bool} : ifK fa fb σ b s = if b = true then fa σ s else fb σ s := rfl
def chK3 (r' : AV → AV → Sto → Res AV) (fc : AE) (σ : ASt) (y : AV) : AV → Sto → Res AV := fun z s3 => match z with | .bl true => (fc σ s3).bind (r' y) | .bl false => .ok (.bl false) s3 | _ => .stuck
def chK2 (r r' : AV → AV → Sto → Res AV) (fc : AE) (σ : ASt) (x : AV) : AV → Sto → Res AV := fun y s2 => (r x y s2).bind (chK3 r' fc σ y)
def chK1 (r r' : AV → AV → Sto → Res AV) (fb fc : AE) (σ : ASt) : AV → Sto → Res AV := fun x s1 => (fb σ s1).bind (chK2 r r' fc σ x)
theorem e_ch {fa fb fc : AE} {σ : ASt} {s : Sto} {r r' : AV → AV → Sto → Res AV} : aChain r r' fa fb fc σ s = (fa σ s).bind (chK1 r r' fb fc σ) := rfl
theorem e_chK1 {fb fc : AE} {σ : ASt} {s : Sto} {r r' : AV → AV → Sto → Res AV} {x : AV} : chK1 r r' fb fc σ x s = (fb σ s).bind (chK2 r r' fc σ x) := rfl
theorem e_chK2 {fc : AE} {σ : ASt} {s : Sto} {r r' : AV → AV → Sto → Res AV} {x y : AV} : chK2 r r' fc σ x y s = (r x y s).bind (chK3 r' fc σ y) := rfl
theorem e_chK3 {fc : AE} {σ : ASt} {s : Sto} {r' : AV → AV → Sto → Res AV} {y : AV} {b : Bool} : chK3 r' fc σ y (.bl b) s = if b = true then (fc σ s).bind (r' y) else .ok (.bl false) s := by cases b <;> rfl
def tupK  : List AV → Sto → Res AV := fun xs s1 => if xs.length ≤ sizeLine then .ok (.tup xs) s1 else .stuck
def lstK  : List AV → Sto → Res AV := fun xs s1 => if xs.length ≤ sizeLine then newL xs s1 else .stuck
theorem e_tup {fr : AA} {σ : ASt} {s : Sto} : aTup fr σ s = (fr σ s).bind tupK := rfl
theorem e_tupK {xs : List AV} {s : Sto} : tupK xs s = grd (xs.length ≤ sizeLine) (.ok (.tup xs) s) := rfl
theorem e_lst {fr : AA} {σ : ASt} {s : Sto} : aLst fr σ s = (fr σ s).bind lstK := rfl
theorem e_lstK {xs : List AV} {s : Sto} : lstK xs s = grd (xs.length ≤ sizeLine) (newL xs s) := rfl
theorem e_newL {xs : List AV} {s : Sto} : newL xs s = .ok (.obj s.n) (s.new (.lst xs)) := rfl
def callK (n : Nat) (F : List AV → Sto → Res AV) (dvs : List AV) : List AV → Sto → Res AV := fun xs s1 => if (xs ++ dvs).length = n then F (xs ++ dvs) s1 else .stuck
theorem e_call {fr : AA} {σ : ASt} {s : Sto} {n : Nat} {F : List AV → Sto → Res AV} {dvs : List AV} : aCall n F dvs fr σ s = (fr σ s).bind (callK n F dvs) := rfl
theorem e_callK {n : Nat} {F : List AV → Sto → Res AV} {dvs : List AV} {xs : List AV} {s : Sto} : callK n F dvs xs s = grd ((xs ++ dvs).length = n) (F (xs ++ dvs) s) := rfl
def methK2 (n : Nat) (F : List AV → Sto → Res AV) (dvs : List AV) (x : AV) : List AV → Sto → Res AV := fun xs s2 => if (x :: (xs ++ dvs)).length = n then F (x :: (xs ++ dvs)) s2 else .stuck
def methK (c : String) (m : Str) (n : Nat) (F : List AV → Sto → Res AV) (dvs : List AV) (fr : AA) (σ : ASt) : AV → Sto → Res AV := fun x s1 => if clsIs s1 x c m = true then (fr σ s1).bind (methK2 n F dvs x) else .stuck
theorem e_meth {fa : AE} {fr : AA} {σ : ASt} {s : Sto} {n : Nat} {F : List AV → Sto → Res AV} {dvs : List AV} {c : String} {m : Str} : aMeth c m n F dvs fa fr σ s = (fa σ s).bind (methK c m n F dvs fr σ) := rfl
theorem e_methK {fr : AA} {σ : ASt} {s : Sto} {n : Nat} {F : List AV → Sto → Res AV} {dvs : List AV} {c : String} {m : Str} {x : AV} : methK c m n F dvs fr σ x s = grd (clsIs s x c m = true) ((fr σ s).bind (methK2 n F dvs x)) := rfl
theorem e_methK2 {n : Nat} {F : List AV → Sto → Res AV} {dvs : List AV} {x : AV} {xs : List AV} {s : Sto} : methK2 n F dvs x xs s = grd ((x :: (xs ++ dvs)).length = n) (F (x :: (xs ++ dvs)) s) := rfl
def propK (c : String) (F : List AV → Sto → Res AV) : AV → Sto → Res AV := fun x s1 => if isI s1 x c = true then noErr (F [x] s1) else .stuck
theorem e_prop {fa : AE} {σ : ASt} {s : Sto} {F : List AV → Sto → Res AV} {c : String} : aProp c F fa σ s = (fa σ s).bind (propK c F) := rfl
theorem e_propK {F : List AV → Sto → Res AV} {c : String} {x : AV} {s : Sto} : propK c F x s = grd (isI s x c = true) (noErr (F [x] s)) := rfl
def makeK2 (o : Nat) : AV → Sto → Res AV := fun v s2 => if isNon v = true then .ok (.obj o) s2 else .stuck
def makeK (c : String) (n : Nat) (F : List AV → Sto → Res AV) (dvs : List AV) : List AV → Sto → Res AV := fun xs s1 => if (AV.obj s1.n :: (xs ++ dvs)).length = n then (F (.obj s1.n :: (xs ++ dvs)) (s1.new (.ins c []))).bind (makeK2 s1.n) else .stuck
theorem e_make {fr : AA} {σ : ASt} {s : Sto} {n : Nat} {F : List AV → Sto → Res AV} {dvs : List AV} {c : String} : aMake c n F dvs fr σ s = (fr σ s).bind (makeK c n F dvs) := rfl
theorem e_makeK {n : Nat} {F : List AV → Sto → Res AV} {dvs : List AV} {c : String} {xs : List AV} {s : Sto} : makeK c n F dvs xs s = grd ((AV.obj s.n :: (xs ++ dvs)).length = n) ((F (.obj s.n :: (xs ++ dvs)) (s.new (.ins c []))).bind (makeK2 s.n)) := rfl
theorem e_makeK2 {o : Nat} {s : Sto} : makeK2 o .non s = .ok (.obj o) s := rfl
theorem e_makeV {fr : AA} {σ : ASt} {s : Sto} {n : Nat} {F : List AV → Sto → Res AV} {c : String} {i : Nat} {d : String} : aMakeV i c n F fr σ s = match σ[i]? with | some (some (.cls d)) => if d = c then aMake c n F [] fr σ s else .stuck | _ => .stuck := rfl
def smK2 (n : Nat) (F : List AV → Sto → Res AV) : List AV → Sto → Res AV := fun xs s2 => if (xs ++ []).length = n then F (xs ++ []) s2 else .stuck
def smK (c : String) (n : Nat) (F : List AV → Sto → Res AV) (fr : AA) (σ : ASt) : AV → Sto → Res AV := fun x s1 => if isCls c x = true then (fr σ s1).bind (smK2 n F) else .stuck
theorem e_sm {fa : AE} {fr : AA} {σ : ASt} {s : Sto} {n : Nat} {F : List AV → Sto → Res AV} {c : String} : aSMeth c n F fa fr σ s = (fa σ s).bind (smK c n F fr σ) := rfl
theorem e_smK {fr : AA} {σ : ASt} {s : Sto} {n : Nat} {F : List AV → Sto → Res AV} {c : String} {x : AV} : smK c n F fr σ x s = grd (isCls c x = true) ((fr σ s).bind (smK2 n F)) := rfl
theorem e_smK2 {n : Nat} {F : List AV → Sto → Res AV} {xs : List AV} {s : Sto} : smK2 n F xs s = grd ((xs ++ []).length = n) (F (xs ++ []) s) := rfl
def cmK2 (c : String) (n : Nat) (F : List AV → Sto → Res AV) : List AV → Sto → Res AV := fun xs s2 => if (AV.cls c :: (xs ++ [])).length = n then F (.cls c :: (xs ++ [])) s2 else .stuck
def cmK (c : String) (n : Nat) (F : List AV → Sto → Res AV) (fr : AA) (σ : ASt) : AV → Sto → Res AV := fun x s1 => if isCls c x = true then (fr σ s1).bind (cmK2 c n F) else .stuck
theorem e_cm {fa : AE} {fr : AA} {σ : ASt} {s : Sto} {n : Nat} {F : List AV → Sto → Res AV} {c : String} : aCMeth c n F fa fr σ s = (fa σ s).bind (cmK c n F fr σ) := rfl
theorem e_cmK {fr : AA} {σ : ASt} {s : Sto} {n : Nat} {F : List AV → Sto → Res AV} {c : String} {x : AV} : cmK c n F fr σ x s = grd (isCls c x = true) ((fr σ s).bind (cmK2 c n F)) := rfl
theorem e_cmK2 {n : Nat} {F : List AV → Sto → Res AV} {c : String} {xs : List AV} {s : Sto} : cmK2 c n F xs s = grd ((AV.cls c :: (xs ++ [])).length = n) (F (.cls c :: (xs ++ [])) s) := rfl
def slK3 (x : AV) (l : Option Int) : Option Int → Sto → Res AV := fun u s3 => gSl x l u s3
def slK2 (fh : AO) (σ : ASt) (x : AV) : Option Int → Sto → Res AV := fun l s2 => (fh σ s2).bind (slK3 x l)
def slK1 (fl fh : AO) (σ : ASt) : AV → Sto → Res AV := fun x s1 => (fl σ s1).bind (slK2 fh σ x)
theorem e_sl {fa : AE} {σ : ASt} {s : Sto} {fl fh : AO} : aSl fa fl fh σ s = (fa σ s).bind (slK1 fl fh σ) := rfl
theorem e_slK1 {σ : ASt} {s : Sto} {fl fh : AO} {x : AV} : slK1 fl fh σ x s = (fl σ s).bind (slK2 fh σ x) := rfl
theorem e_slK2 {σ : ASt} {s : Sto} {fh : AO} {x : AV} {l : Option Int} : slK2 fh σ x l s = (fh σ s).bind (slK3 x l) := rfl
theorem e_slK3 {s : Sto} {x : AV} {l h : Option Int} : slK3 x l h s = gSl x l h s := rfl
def partK  : AV → Sto → Res (Option Int) := fun x s1 => match x with | .int i => .ok (some i) s1 | _ => .stuck
theorem e_part {fa : AE} {σ : ASt} {s : Sto} : aPart fa σ s = (fa σ s).bind partK := rfl
theorem e_partK {i : Int} {s : Sto} : partK (.int i) s = .ok (some i) s := rfl
theorem e_nopart {σ : ASt} {s : Sto} : aNoPart σ s = .ok none s := rfl
def revK  : AV → Sto → Res AV := fun x s1 => match lstOf s1 x with | some xs => newL xs.reverse s1 | none => .stuck
theorem e_rev {fa : AE} {σ : ASt} {s : Sto} : aRev fa σ s = (fa σ s).bind revK := rfl
def bmK (g : AV → List AV → Sto → Res AV) (fr : AA) (σ : ASt) : AV → Sto → Res AV := fun x s1 => if isSeqL s1 x = true then (fr σ s1).bind (g x) else .stuck
theorem e_bm {fa : AE} {fr : AA} {σ : ASt} {s : Sto} {g : AV → List AV → Sto → Res AV} : aBM g fa fr σ s = (fa σ s).bind (bmK g fr σ) := rfl
theorem e_bmK {fr : AA} {σ : ASt} {s : Sto} {g : AV → List AV → Sto → Res AV} {x : AV} : bmK g fr σ x s = grd (isSeqL s x = true) ((fr σ s).bind (g x)) := rfl
def prK3 (x y : AV) : List (AV × AV) → Sto → Res (List (AV × AV)) := fun ps s3 => .ok ((x, y) :: ps) s3
def prK2 (r : List (AE × AE)) (σ : ASt) (x : AV) : AV → Sto → Res (List (AV × AV)) := fun y s2 => (aPairs r σ s2).bind (prK3 x y)
def prK1 (fv : AE) (r : List (AE × AE)) (σ : ASt) : AV → Sto → Res (List (AV × AV)) := fun x s1 => (fv σ s1).bind (prK2 r σ x)
def dispK (n : Nat) : List (AV × AV) → Sto → Res AV := fun ps s1 => match s1.c n, keysA ps with | .dic [], some kvs => if kvs.length ≤ 15 then .ok (.obj n) (s1.set n (.dic (mergeA [] kvs))) else .stuck | _, _ => .stuck
theorem e_pr {fa fb : AE} {σ : ASt} {s : Sto} {r : List (AE × AE)} : aPairs ((fa, fb) :: r) σ s = (fa σ s).bind (prK1 fb r σ) := rfl
theorem e_pr0 {σ : ASt} {s : Sto} : aPairs [] σ s = .ok [] s := rfl
theorem e_prK1 {fb : AE} {σ : ASt} {s : Sto} {r : List (AE × AE)} {x : AV} : prK1 fb r σ x s = (fb σ s).bind (prK2 r σ x) := rfl
theorem e_prK2 {σ : ASt} {s : Sto} {r : List (AE × AE)} {x y : AV} : prK2 r σ x y s = (aPairs r σ s).bind (prK3 x y) := rfl
theorem e_prK3 {s : Sto} {x y : AV} {ps : List (AV × AV)} : prK3 x y ps s = .ok ((x, y) :: ps) s := rfl
theorem e_disp {σ : ASt} {s : Sto} {fs : List (AE × AE)} : aDisp fs σ s = (aPairs fs σ (s.new (.dic []))).bind (dispK s.n) := rfl
theorem e_dispK {s1 : Sto} {n : Nat} {ps : List (AV × AV)} {kvs : List (Key × AV)} (h : s1.c n = .dic []) (k : keysA ps = some kvs) (l : kvs.length ≤ 15) : dispK n ps s1 = .ok (.obj n) (s1.set n (.dic (mergeA [] kvs))) := by unfold dispK; simp only [h, k, if_pos l]
theorem e_dnew {σ : ASt} {s : Sto} : aDNew σ s = .ok (.obj s.n) (s.new (.dic [])) := rfl
def ownK1 (c : String) (ts : List String) (F : List AV → Sto → Res AV) (fb : AE) (σ : ASt) : AV → Sto → Res AV := fun x s1 => (fb σ s1).bind (gOwn c ts F x)
theorem e_own {fa fb : AE} {σ : ASt} {s : Sto} {n : Nat} {F : List AV → Sto → Res AV} {c : String} {ts : List String} : aOwn c ts n F fa fb σ s = (fa σ s).bind (ownK1 c ts F fb σ) := rfl
theorem e_ownK {fb : AE} {σ : ASt} {s : Sto} {F : List AV → Sto → Res AV} {c : String} {ts : List String} {x : AV} : ownK1 c ts F fb σ x s = (fb σ s).bind (gOwn c ts F x) := rfl
def lcK (g : AV → AS) (ft : AT) (fe : AE) (vs : List Nat) (σ : ASt) : List AV × (Sto → Prop) → Sto → Res AV := fun p s1 => oObj s1.n (lcI s1.n p.2 g ft fe (wipeA σ vs) p.1 (s1.new (.lst [])))
theorem e_lc {fa : AE} {t : AT} {σ : ASt} {s : Sto} {fi : AI} {g : AV → AS} {vs : List Nat} : aLc fi g t fa vs σ s = (fi σ s).bind (lcK g t fa vs σ) := rfl
theorem e_lcK {fa : AE} {t : AT} {σ : ASt} {s : Sto} {g : AV → AS} {vs : List Nat} {xs : List AV} {G : Sto → Prop} : lcK g t fa vs σ (xs, G) s = oObj s.n (lcI s.n G g t fa (wipeA σ vs) xs (s.new (.lst []))) := rfl
theorem e_iter {fa : AE} {σ : ASt} {s : Sto} : aIter fa σ s = (fa σ s).bind iterOf := rfl
def rng1K  : List AV → Sto → Res (List AV × (Sto → Prop)) := fun xs s1 => match xs with | [.int j] => if -(2 ^ 62) ≤ j ∧ j < 2 ^ 62 then .ok (rngA 0 j.toNat, fun _ => True) s1 else .stuck | _ => .stuck
def rng2K  : List AV → Sto → Res (List AV × (Sto → Prop)) := fun xs s1 => match xs with | [.int i, .int j] => if -(2 ^ 62) ≤ i ∧ i < 2 ^ 62 ∧ -(2 ^ 62) ≤ j ∧ j < 2 ^ 62 then .ok (rngA i (j - i).toNat, fun _ => True) s1 else .stuck | _ => .stuck
theorem e_rng1 {fr : AA} {σ : ASt} {s : Sto} : aRng1 fr σ s = (fr σ s).bind rng1K := rfl
theorem e_rng1K {j : Int} {s : Sto} : rng1K [.int j] s = grd (-(2 ^ 62) ≤ j ∧ j < 2 ^ 62) (.ok (rngA 0 j.toNat, fun _ => True) s) := rfl
theorem e_rng2 {fr : AA} {σ : ASt} {s : Sto} : aRng2 fr σ s = (fr σ s).bind rng2K := rfl
theorem e_rng2K {i j : Int} {s : Sto} : rng2K [.int i, .int j] s = grd (-(2 ^ 62) ≤ i ∧ i < 2 ^ 62 ∧ -(2 ^ 62) ≤ j ∧ j < 2 ^ 62) (.ok (rngA i (j - i).toNat, fun _ => True) s) := rfl
def enumK  : List AV → Sto → Res (List AV × (Sto → Prop)) := fun xs s1 => match xs with | [x] => (match lstOf s1 x with | some ys => .ok (enumA ys, fun s2 => lstOf s2 x = some ys) s1 | none => .stuck) | _ => .stuck
theorem e_enum {fr : AA} {σ : ASt} {s : Sto} : aEnum fr σ s = (fr σ s).bind enumK := rfl
theorem e_enumK {x : AV} {ys : List AV} {s : Sto} (h : lstOf s x = some ys) : enumK [x] s = .ok (enumA ys, fun s2 => lstOf s2 x = some ys) s := by unfold enumK; simp only [h]
theorem post_enum {x : AV} {ys : List AV} {s : Sto} {P : List AV × (Sto → Prop) → Sto → Prop} {R : String → List Str → List AV → Sto → Prop} (h : lstOf s x = some ys) (q : P (enumA ys, fun s2 => lstOf s2 x = some ys) s) : (enumK [x] s).Post P R := by rw [e_enumK h]; exact q
theorem iterOf_l {i : Nat} {ys : List AV} {s : Sto} (h : lstOf s (.obj i) = some ys) : iterOf (.obj i) s = .ok (ys, fun s2 => lstOf s2 (.obj i) = some ys) s := by
  show (match lstOf s (.obj i) with | some xs => (.ok (xs, fun s2 => lstOf s2 (.obj i) = some xs) s : Res (List AV × (Sto → Prop))) | none => .stuck) = _
  rw [h]
def dropK (σ : ASt) : AV → Sto → SRes := fun _ s1 => .nx σ s1
theorem s_drop {fa : AE} {σ : ASt} {s : Sto} : aDrop fa σ s = (fa σ s).st σ (dropK σ) := rfl
theorem s_dropK {σ : ASt} {s : Sto} {v : AV} : dropK σ v s = .nx σ s := rfl
def retK  : AV → Sto → SRes := fun v s1 => .rt v s1
theorem s_ret {fa : AE} {σ : ASt} {s : Sto} : aRet fa σ s = (fa σ s).st σ retK := rfl
theorem s_retK {v : AV} {s : Sto} : retK v s = .rt v s := rfl
theorem s_retN {σ : ASt} {s : Sto} : aRetN σ s = .rt .non s := rfl
theorem s_next {σ : ASt} {s : Sto} : aNext σ s = .nx σ s := rfl
theorem s_break {σ : ASt} {s : Sto} : aBreak σ s = .bk σ s := rfl
theorem s_cont {σ : ASt} {s : Sto} : aCont σ s = .ct σ s := rfl
theorem s_seq {f1 f2 : AS} {σ : ASt} {s : Sto} : aSeq f1 f2 σ s = (f1 σ s).thn f2 := rfl
def ifSK (f g : AS) (σ : ASt) : Bool → Sto → SRes := fun b s1 => if b = true then f σ s1 else g σ s1
theorem s_if {t : AT} {f1 f2 : AS} {σ : ASt} {s : Sto} : aIfS t f1 f2 σ s = (t σ s).st σ (ifSK f1 f2 σ) := rfl
theorem s_ifK {f1 f2 : AS} {σ : ASt} {s : Sto} {b : Bool} : ifSK f1 f2 σ b s = if b = true then f1 σ s else f2 σ s := rfl
def asgK (g : AV → AS) (σ : ASt) : AV → Sto → SRes := fun v s1 => g v σ s1
theorem s_asg {fa : AE} {σ : ASt} {s : Sto} {g : AV → AS} : aAsg fa g σ s = (fa σ s).st σ (asgK g σ) := rfl
theorem s_asgK {σ : ASt} {s : Sto} {g : AV → AS} {v : AV} : asgK g σ v s = g v σ s := rfl
theorem s_name {σ : ASt} {s : Sto} {i : Nat} {v : AV} : agName i v σ s = .nx (σ.set i (some v)) s := rfl
theorem s_par {fr : AA} {σ : ASt} {s : Sto} {i j : Nat} : aPar i j fr σ s = (fr σ s).st σ (parK i j σ) := rfl
theorem s_parK {σ : ASt} {s : Sto} {i j : Nat} {v u : AV} : parK i j σ [v, u] s = .nx ((σ.set i (some v)).set j (some u)) s := rfl
theorem s_par3 {fr : AA} {σ : ASt} {s : Sto} {i j l : Nat} : aPar3 i j l fr σ s = (fr σ s).st σ (parK3 i j l σ) := rfl
theorem s_parK3 {σ : ASt} {s : Sto} {i j l : Nat} {v u w : AV} : parK3 i j l σ [v, u, w] s = .nx (((σ.set i (some v)).set j (some u)).set l (some w)) s := rfl
theorem s_gnil {σ : ASt} {s : Sto} : agNil [] σ s = .nx σ s := rfl
theorem s_gcons {σ : ASt} {s : Sto} {g : AV → AS} {h : List AV → AS} {x : AV} {r : List AV} : agCons g h (x :: r) σ s = (g x σ s).thn (h r) := rfl
theorem s_gtup {σ : ASt} {s : Sto} {n : Nat} {g : List AV → AS} {xs : List AV} : agTup n g (.tup xs) σ s = grdS (xs.length = n) (g xs σ s) := rfl
def forK (g : AV → AS) (b : AS) (σ : ASt) : List AV × (Sto → Prop) → Sto → SRes := fun p s1 => forI p.2 g b p.1 σ s1
theorem s_for {f1 : AS} {σ : ASt} {s : Sto} {fi : AI} {g : AV → AS} : aFor fi g f1 σ s = (fi σ s).st σ (forK g f1 σ) := rfl
theorem s_forK {f1 : AS} {σ : ASt} {s : Sto} {g : AV → AS} {xs : List AV} {G : Sto → Prop} : forK g f1 σ (xs, G) s = forI G g f1 xs σ s := rfl
theorem s_raise {fr : AA} {σ : ASt} {s : Sto} {c : String} {fl : Str} : aRaise c fl fr σ s = (fr σ s).st σ (raiseK c fl σ) := rfl
theorem s_raiseK {σ : ASt} {s : Sto} {c : String} {fl : Str} {v : AV} : raiseK c fl σ [v] s = .err c [fl] [v] σ s := rfl
def sfK2 (cs : List String) (f : Str) (σ : ASt) (y : AV) : AV → Sto → SRes := fun x s2 => oNx σ (setF cs f x y s2)
def sfK1 (cs : List String) (f : Str) (fo : AE) (σ : ASt) : AV → Sto → SRes := fun y s1 => (fo σ s1).st σ (sfK2 cs f σ y)
theorem s_sf {fa fb : AE} {σ : ASt} {s : Sto} {cs : List String} {f : Str} : aSFld cs f fa fb σ s = (fb σ s).st σ (sfK1 cs f fa σ) := rfl
theorem s_sfK1 {fa : AE} {σ : ASt} {s : Sto} {cs : List String} {f : Str} {y : AV} : sfK1 cs f fa σ y s = (fa σ s).st σ (sfK2 cs f σ y) := rfl
theorem s_sfK2 {σ : ASt} {s : Sto} {cs : List String} {f : Str} {x y : AV} : sfK2 cs f σ y x s = oNx σ (setF cs f x y s) := rfl
def dpK3 (σ : ASt) (z x : AV) : AV → Sto → SRes := fun y s3 => oNx σ (setD x y z s3)
def dpK2 (fy : AE) (σ : ASt) (z : AV) : AV → Sto → SRes := fun x s2 => (fy σ s2).st σ (dpK3 σ z x)
def dpK1 (fd fy : AE) (σ : ASt) : AV → Sto → SRes := fun z s1 => (fd σ s1).st σ (dpK2 fy σ z)
theorem s_dp {fa fb fc : AE} {σ : ASt} {s : Sto} : aDPut fa fb fc σ s = (fc σ s).st σ (dpK1 fa fb σ) := rfl
theorem s_dpK1 {fa fb : AE} {σ : ASt} {s : Sto} {z : AV} : dpK1 fa fb σ z s = (fa σ s).st σ (dpK2 fb σ z) := rfl
theorem s_dpK2 {fb : AE} {σ : ASt} {s : Sto} {x z : AV} : dpK2 fb σ z x s = (fb σ s).st σ (dpK3 σ z x) := rfl
theorem s_dpK3 {σ : ASt} {s : Sto} {x y z : AV} : dpK3 σ z x y s = oNx σ (setD x y z s) := rfl
theorem s_forget {f1 : AS} {σ : ASt} {s : Sto} {n : Nat} : aForget n f1 σ s = (f1 σ s).forget n := rfl
theorem s_def {k : Nat} {f : AS} {args : List AV} {s : Sto} : aDef k f args s = (f (args.map some ++ List.replicate k none) s).fn := rfl
theorem s_fld {fa : AE} {σ : ASt} {s : Sto} {cs : List String} {f : Str} : aFld cs f fa σ s = (fa σ s).bind (gFld cs f) := rfl
end
end Ab
set_option Elab.async false
set_option linter.all false
set_option maxRecDepth 100000
set_option maxHeartbeats 1000000
namespace Ab
open PySem PySem.Spec PyProof.Rows L2
open Classical
theorem u65 {k : Nat} {A : Around} (r : Room k A) : A.units + 65 < cLine := by have := r.un; omega
noncomputable section
section
variable {W : Wl} {E : L2.St → XK} {ta tb to tv te : TE} {fa fb fo fv : AE} {tr : TA} {fr : AA}
def augK (i : Nat) (g : AV → AV → Sto → Res AV) (σ : ASt) (x : AV) : AV → Sto → SRes := fun y s1 => (g x y s1).st σ fun z s2 => .nx (σ.set i (some z)) s2
def aAug (i : Nat) (g : AV → AV → Sto → Res AV) (fa : AE) : AS := fun σ s => (aVar i σ s).st σ fun x _ => (fa σ s).st σ (augK i g σ x)
theorem DS.aug {i : Nat} {r : R2} {g : AV → AV → Sto → Res AV} (hr : DR W r g) (hg : NE2 g) (ha : DE W E ta fa) : DS W E (tAug i ta r) (aAug i g fa) := fun w s σ σc D S R h => by
  unfold aAug aVar at h
  split at h
  · rename_i x e
    obtain ⟨vc, h1, h2⟩ := R.get i x e
    have h : ((fa σ s).st σ (augK i g σ x)).P W w D E := h
    refine ⟨vc, h1, ha w s σ σc _ S R ((exp_post R h).mono (fun y s1 k1 w1 u e1 S1 r1 => ?_) fun _ _ _ _ z => z)⟩
    refine hr w1 s1 x y vc u _ S1 (h2.mono e1) r1 ?_
    have k1 : ((g x y s1).st σ fun z s2 => .nx (σ.set i (some z)) s2).P W w D E := k1
    cases hh : g x y s1 with
    | err c ns vs s3 => exact absurd hh (hg _ _ _ _ _ _ _)
    | stuck => rw [hh] at k1; exact k1.elim
    | ok z s2 =>
      rw [hh] at k1
      intro w2 zc e2 S2 r2
      exact k1 w2 _ (e1.trans e2) S2 ((R.mono (e1.trans e2)).set (x := some z) (v := some zc) r2 i)
  · exact h.elim
end
def gMulT : AV → AV → Sto → Res AV := fun x y s => match x, y with
  | .tup a, .int k => if a ≠ [] ∧ 2 ≤ k ∧ k ≤ 1000 ∧ a.length ≤ 1000 then .ok (.tup (List.replicate k.toNat a).flatten) s else .stuck
  | x, y => gMul x y s
theorem gMulT_tup {a : List AV} {k : Int} {s : Sto} (h : a ≠ [] ∧ 2 ≤ k ∧ k ≤ 1000 ∧ a.length ≤ 1000) : gMulT (.tup a) (.int k) s = .ok (.tup (List.replicate k.toNat a).flatten) s := if_pos h
@[simp] theorem gMulT_int {i j : Int} {s : Sto} : gMulT (.int i) (.int j) s = gMul (.int i) (.int j) s := rfl
@[simp] theorem gMulT_str {i : Str} {j : Int} {s : Sto} : gMulT (.str i) (.int j) s = gMul (.str i) (.int j) s := rfl
@[simp] theorem gMulT_obj {i : Nat} {j : Int} {s : Sto} : gMulT (.obj i) (.int j) s = gMul (.obj i) (.int j) s := rfl
def rMulT (K : PySem.W.Frag) : R2 := fun x y H Q => rRepT K x y H Q ∨ rMulU x y H Q
theorem op_mulT {X : Cx} : OpR X (binaryOp .Mult) (rMulT X.K) := OpR.or op_repT op_mulU
theorem DR.mulT {W : Wl} : DR W (rMulT W.K) gMulT := fun w s x y v u Q S rx ry h => by
  unfold gMulT at h
  split at h
  · split at h
    · rename_i a k hl
      cases ry
      cases rx with
      | @tup a' xs vs h1 r1 =>
        refine .inl ⟨_, _, vs, rfl, rfl, h1, ?_, hl.2.1, hl.2.2.1, by rw [← r1.length]; exact hl.2.2.2, newT S (r1.rep _) h⟩
        intro z
        subst z
        cases r1
        exact hl.1 rfl
    · exact h.elim
  · exact .inr (DR.mul w s x y v u Q S rx ry h)
end
end Ab
namespace Ab
open PySem PySem.Spec PyProof.Rows L2
open Classical
end Ab
namespace Gx
open PySem PySem.Spec PyProof.Rows L2
def StarB (fd : FuncData) (pv : Str) : Prop := ∀ rest : List Value, bindArgs fd ⟨rest, []⟩ = (newTuple rest >>= fun t => pure [(pv, t)])
theorem starB_of {fd : FuncData} {pv : Str} (h0 : bindArgs fd ⟨[], []⟩ = (newTuple [] >>= fun t => pure [(pv, t)])) (h1 : ∀ r rs, bindArgs fd ⟨r :: rs, []⟩ = (newTuple (r :: rs) >>= fun t => pure [(pv, t)])) : StarB fd pv
  | [] => h0
  | r :: rs => h1 r rs
structure CalXS (P : Program) (w : World) (K : PySem.W.Frag) (mg : Str → Option Value) (base : Heap) (k : Nat) (x : Str) (sp : Sp) : Prop where
  ex : ∃ f, FnR P w K mg base (CX P w) k f sp ∧ mg x = some (.ref f) ∧ PySem.W.keepIn K (.ref f) = true
theorem calXS {P : Program} {w : World} {K : PySem.W.Frag} {mg : Str → Option Value} {base : Heap} {x pv : Str} {st : Stmt} {f : Addr} {fd : FuncData} {N : List Str} {k : Nat} {sp : Sp} (F : C8.Def K mg x st f fd) (b : StarB fd pv) (S : FnScope N [pv] (C8.fnScope st))
    (hbody : ∀ (cdv : Value) (A : Around) (outer : List Env) (s : Shared) (H : Hp) (vs : List V) (Q : VK) (E : XK), Room k (A.deeper (envOfC x (C8.fnScope st) s.heap.objs.size f cdv)) → sp vs H Q E →
      ∃ t, PSs (cxOf (CX P w) P w K mg base N x (C8.fnScope st) f cdv A outer s H E) (C8.fnBody st) t ∧ t { nx := fun _ H' => Q .non H', rt := Q } (start N vs) H) :
    CalXS P w K mg base (k + 1) x (fun vs H Q E => vs.length ≤ sizeLine ∧ ∀ p, H p = Option.none → sp [V.ref p] (upd H p (.tup vs)) Q E) := by
  obtain ⟨oc, od, dV, kV, doc, pm, an, cdv, ct, osl, rfl, lk, hcd⟩ := F.fn.ex
  refine ⟨f, ?_, F.mgf, F.kp⟩
  have h := StX.fn_star (ps := []) lk hcd S StX.cxUp (fun us rest hl => by
    cases us with
    | nil => exact b rest
    | cons => cases hl) (hbody cdv)
  exact fun A outer s H us vs Q E hr e0 r hs => h A outer s H us vs Q E hr e0 r ⟨[], vs, rfl, rfl, hs.1, hs.2⟩
def tCallR (sp : Sp) (E : XK) (t : TA) : TE := fun σ H Q => t σ H fun vs H1 => sp vs H1 Q E
theorem pe_cxS {X : Cx} {k j : Nat} {x : Str} {sp : Sp} {p pos : Pos} {e : Expr} {es : List Expr} {t : TA} {W : WX} {E : XK} (c : CalXS X.prog X.w X.K X.mg X.base k x sp) (tk : Takes X W) (hW : ∀ cls d σ H, E cls d H → W cls d σ H) (hr : Room j X.A) (hk : k ≤ j) (hg : Gl X x) (ha : PA X (e :: es) t)
    (hdb : (x == ("__debug__" : Str)) = false := by decide) (he : starEach (e :: es) X.env = (false, eval e X.env) :: starEach es X.env := by rfl) (hpl : (backTo pos (starEach es X.env)).any (·.1) = false := by rfl) :
    PE X (.Call (.Name x p) (e :: es) [] pos) (tCallR sp E t) := by
  obtain ⟨f, F, hm, kp⟩ := c.ex
  refine ⟨fun pins s σ H Q I h => ?_⟩
  exact wpAny_Call_Name_kw (ld_glob I hg hm (PySem.W.callWith_K (h₀ := X.base) I.ok.mod.kin kp (thn (ha.run pos pins s σ H _ I h) fun us s1 ⟨vs, H1, I1, r, q⟩ => ⟨I1.kIn, wpAny_call (run_fnR F (hr.mono hk) (passes_call tk hW) I1 r q)⟩) he hpl) hdb)
end Gx
namespace Ab
open PySem PySem.Spec PyProof.Rows L2
open Classical
noncomputable section
def spS (W : Wl) (F : List AV → Sto → Res AV) : Sp := fun vs H Q E => vs.length ≤ sizeLine ∧ ∀ p, H p = none → spF W 1 F [V.ref p] (upd H p (.tup vs)) Q E
def callSK (F : List AV → Sto → Res AV) : List AV → Sto → Res AV := fun xs s1 => if xs.length ≤ sizeLine then F [.tup xs] s1 else .stuck
def aCallS (F : List AV → Sto → Res AV) (fr : AA) : AE := fun σ s => (fr σ s).bind (callSK F)
theorem e_callS {F : List AV → Sto → Res AV} {fr : AA} {σ : ASt} {s : Sto} : aCallS F fr σ s = (fr σ s).bind (callSK F) := rfl
theorem e_callSK {F : List AV → Sto → Res AV} {xs : List AV} {s : Sto} : callSK F xs s = grd (xs.length ≤ sizeLine) (F [.tup xs] s) := rfl
theorem DE.callStar {W : Wl} {F : List AV → Sto → Res AV} {Ek : XK} {tr : TA} {fr : AA} (ha : DA W (fun _ => Ek) tr fr) : DE W (fun _ => Ek) (Gx.tCallR (spS W F) Ek tr) (aCallS F fr) := fun w s σ σc Q S R h => by
  refine ha w s σ σc _ S R ((post_bind_ok h).mono (fun xs s1 h1 w1 vs e1 S1 r1 => ?_) fun _ _ _ _ z => z)
  unfold callSK at h1
  split at h1
  · rename_i hl
    refine ⟨by rw [← r1.length]; exact hl, fun p hp => ?_⟩
    have g := grow_upd (o := .tup vs) hp
    exact ⟨{ w1 with H := upd w1.H p (.tup vs) }, s1, [.tup xs], rfl, S1.grow g, .cons (.tup (.inl (.inl upd_same)) (r1.mono (.grow g))) .nil, rfl, post_mono (e1.trans (.grow g)) h1⟩
  · exact (show False from h1).elim
end
end Ab
namespace Ab
open PySem PySem.Spec PyProof.Rows L2
open Classical
section
variable {W : Wl} {tgs : TGs} {gs : List AV → AS}
def agTupL (n : Nat) (g : List AV → AS) : AV → AS := fun v σ s => match lstOf s v with | some xs => if xs.length = n then g xs σ s else .stuck | none => .stuck
theorem s_gtupL {n : Nat} {g : List AV → AS} {σ : ASt} {s : Sto} {x : AV} {xs : List AV} (h : lstOf s x = some xs) : agTupL n g x σ s = grdS (xs.length = n) (g xs σ s) := by
  unfold agTupL
  rw [h]
  rfl
theorem DG.tupL {n : Nat} (hs : DGs W tgs gs) : DG W (Un.gTupL W.K n tgs) (agTupL n gs) := fun w s σ σc x v Q S R r h => by
  unfold agTupL at h
  split at h
  · rename_i xs e
    split at h
    · rename_i hl
      obtain ⟨a, vs, rfl, h1, h2⟩ := lst_at S r e
      exact ⟨a, vs, rfl, h1, by rw [← h2.length]; exact hl, hs w s σ σc xs vs Q S R h2 h⟩
    · exact h.elim
  · exact h.elim
theorem Goes.tupL {n : Nat} (h : GoesL gs) : Goes (agTupL n gs) := fun x σ s => by
  unfold agTupL
  split
  · rename_i xs e
    split
    · rcases h xs σ s with h | h
      · exact .inl h
      · exact .inr h
    · exact .inr rfl
  · exact .inr rfl
end
end Ab
set_option Elab.async false
set_option linter.all false
set_option maxRecDepth 100000
set_option maxHeartbeats 1000000
namespace Gx
open PySem PySem.Spec PyProof.Rows L2 GenW
end Gx
namespace Ab
open PySem PySem.Spec PyProof.Rows L2
open Classical
noncomputable section
def SRes.hd (y : Option AV) : SRes → SRes
  | .nx σ s => .nx (y :: σ) s
  | .bk σ s => .bk (y :: σ) s
  | .ct σ s => .ct (y :: σ) s
  | .err c ns vs σ s => .err c ns vs (y :: σ) s
  | .rt _ _ => .stuck
  | .stuck => .stuck
def aPl (f : AS) : AS := fun σ s => match σ with
  | some (.tup ys) :: σ' => (f σ' s).hd (some (.tup ys))
  | _ => .stuck
@[simp] theorem aPl_at {f : AS} {ys : List AV} {σ : ASt} {s : Sto} : aPl f (some (.tup ys) :: σ) s = (f σ s).hd (some (.tup ys)) := rfl
def SRes.PG (W : Wl) (r : SRes) (w : Wd) (D : GEnds) (E : XK) : Prop := match r with
  | .nx σ s => ∃ ys σ0, σ = some (.tup ys) :: σ0 ∧ ∀ w' σc ysc, Ext w w' → Sim W w' s → RSt W.toWc w' σ0 σc → RelL W.toWc w' ys ysc → D.nx ysc σc w'.H
  | .bk σ s => ∃ ys σ0, σ = some (.tup ys) :: σ0 ∧ ∀ w' σc ysc, Ext w w' → Sim W w' s → RSt W.toWc w' σ0 σc → RelL W.toWc w' ys ysc → D.bk ysc σc w'.H
  | .ct σ s => ∃ ys σ0, σ = some (.tup ys) :: σ0 ∧ ∀ w' σc ysc, Ext w w' → Sim W w' s → RSt W.toWc w' σ0 σc → RelL W.toWc w' ys ysc → D.ct ysc σc w'.H
  | .err c ns vs σ s => ErrP W w E c ns vs s
  | .rt _ _ => False
  | .stuck => False
theorem SRes.PG.mono {W : Wl} {r : SRes} {w w2 : Wd} {D : GEnds} {E : XK} (e : Ext w w2) (h : r.PG W w D E) : r.PG W w2 D E := by
  cases r with
  | nx σ s => obtain ⟨ys, σ0, rfl, k⟩ := h; exact ⟨ys, σ0, rfl, fun w' σc ysc e' => k w' σc ysc (e.trans e')⟩
  | bk σ s => obtain ⟨ys, σ0, rfl, k⟩ := h; exact ⟨ys, σ0, rfl, fun w' σc ysc e' => k w' σc ysc (e.trans e')⟩
  | ct σ s => obtain ⟨ys, σ0, rfl, k⟩ := h; exact ⟨ys, σ0, rfl, fun w' σc ysc e' => k w' σc ysc (e.trans e')⟩
  | err c ns vs σ s => exact fun w' d e' => h w' d (e.trans e')
  | rt v s => exact h
  | stuck => exact h
def Frm (f : AS) : Prop := ∀ σ s, f σ s = .stuck ∨ ∃ ys σ0, σ = some (AV.tup ys) :: σ0
theorem frm_match {k : List AV → ASt → SRes} {σ : ASt} : (match σ with | some (.tup ys) :: σ' => k ys σ' | _ => .stuck : SRes) = .stuck ∨ ∃ ys σ0, σ = some (AV.tup ys) :: σ0 := by
  match σ with
  | some (.tup ys) :: σ' => exact .inr ⟨_, _, rfl⟩
  | [] => exact .inl rfl
  | none :: _ => exact .inl rfl
  | some (.non) :: _ => exact .inl rfl
  | some (.bl _) :: _ => exact .inl rfl
  | some (.int _) :: _ => exact .inl rfl
  | some (.str _) :: _ => exact .inl rfl
  | some (.ty _) :: _ => exact .inl rfl
  | some (.cls _) :: _ => exact .inl rfl
  | some (.obj _) :: _ => exact .inl rfl
  | some (.raw _) :: _ => exact .inl rfl
  | some (.scr _) :: _ => exact .inl rfl
  | some (.exn _ _ _) :: _ => exact .inl rfl
theorem Frm.pl {f : AS} : Frm (aPl f) := fun σ s => frm_match
theorem Frm.seq {f g : AS} (h : Frm f) : Frm (aSeq f g) := fun σ s => by
  rcases h σ s with e | e
  · left; unfold aSeq; rw [e]; rfl
  · exact .inr e
structure DGn (W : Wl) (E : XK) (tg : TGn) (f : AS) : Prop where
  frm : Frm f
  run : ∀ (w : Wd) (s : Sto) (σ : ASt) (σc : L2.St) (ys : List AV) (ysc : List V) (D : GEnds), Sim W w s → RSt W.toWc w σ σc → RelL W.toWc w ys ysc → (f (some (.tup ys) :: σ) s).PG W w D E → tg D ysc σc w.H
section
variable {W : Wl} {E : XK} {ts : TS} {f g : AS} {te : TE} {fe : AE} {tg ug : TGn}
theorem DGn.pl (hs : DS W (fun _ => E) ts f) : DGn W E (tPlain ts) (aPl f) := ⟨Frm.pl, fun w s σ σc ys ysc D S R Y h => by
  refine hs w s σ σc (D.at ysc) S R ?_
  have h : ((f σ s).hd (some (.tup ys))).PG W w D E := h
  cases e : f σ s with
  | nx σ' s' =>
    rw [e] at h
    obtain ⟨ys', σ0, e2, k⟩ := h
    cases e2
    exact fun w' σc' e' S' R' => k w' σc' ysc e' S' R' (Y.mono e')
  | bk σ' s' =>
    rw [e] at h
    obtain ⟨ys', σ0, e2, k⟩ := h
    cases e2
    exact fun w' σc' e' S' R' => k w' σc' ysc e' S' R' (Y.mono e')
  | ct σ' s' =>
    rw [e] at h
    obtain ⟨ys', σ0, e2, k⟩ := h
    cases e2
    exact fun w' σc' e' S' R' => k w' σc' ysc e' S' R' (Y.mono e')
  | rt v s' => rw [e] at h; exact (show False from h).elim
  | err c ns vs σ' s' => rw [e] at h; exact fun w' σc' d e' S' R' x => h w' d e' S' x
  | stuck => rw [e] at h; exact (show False from h).elim⟩
theorem DGn.nil : DGn W E (tPlain fun D σ H => D.nx σ H) (aPl aNext) := DGn.pl DS.next
theorem DGn.seq (hf : DGn W E tg f) (hg : DGn W E ug g) : DGn W E (tGThen tg ug) (aSeq f g) := ⟨hf.frm.seq, fun w s σ σc ys ysc D S R Y h => by
  refine hf.run w s σ σc ys ysc _ S R Y ?_
  have h : ((f (some (.tup ys) :: σ) s).thn g).PG W w D E := h
  cases e : f (some (.tup ys) :: σ) s with
  | nx σ' s' =>
    rw [e] at h
    have h : (g σ' s').PG W w D E := h
    rcases hg.frm σ' s' with e2 | ⟨ys', σ0, rfl⟩
    · rw [e2] at h; exact (show False from h).elim
    · exact ⟨ys', σ0, rfl, fun w' σc' ysc' e' S' R' Y' => hg.run w' s' σ0 σc' ys' ysc' D S' R' Y' (h.mono e')⟩
  | bk σ' s' => rw [e] at h; exact h
  | ct σ' s' => rw [e] at h; exact h
  | rt v s' => rw [e] at h; exact h
  | err c ns vs σ' s' => rw [e] at h; exact h
  | stuck => rw [e] at h; exact h⟩
/-- a generator's promise -/
def spGF (W : Wl) (n : Nat) (F : List AV → Sto → Res AV) : SpG := fun vs H cont E => ∃ (w : Wd) (s : Sto) (args : List AV), H = w.H ∧ Sim W w s ∧ RelL W.toWc w args vs ∧ args.length = n ∧
  (F args s).Post (fun v s' => ∃ ys, v = .tup ys ∧ ∀ w' ysc, Ext w w' → Sim W w' s' → RelL W.toWc w' ys ysc → cont ysc w'.H) (ErrP W w E)
theorem spGF.len {n : Nat} {F : List AV → Sto → Res AV} {vs : List V} {H : Hp} {Q : List V → Hp → Prop} {E : XK} (h : spGF W n F vs H Q E) : vs.length = n := by
  obtain ⟨w, s, args, rfl, S, R, hn, p⟩ := h
  rw [← R.length]; exact hn
def toL (r : Res AV) : Res AV := r.bind fun v s => match v with | .tup ys => newL ys s | _ => .stuck
@[simp] theorem toL_ok {ys : List AV} {s : Sto} : toL (.ok (.tup ys) s) = newL ys s := rfl
@[simp] theorem toL_err {c : String} {ns : List Str} {vs : List AV} {s : Sto} : toL (.err c ns vs s) = .err c ns vs s := rfl
variable {ta : TE} {tr : TA} {fa : AE} {fr : AA}
end
end
end Ab
namespace Ab
open PySem PySem.Spec PyProof.Rows L2
open Classical
end Ab
namespace Ab
open PySem PySem.Spec PyProof.Rows L2
open Classical
end Ab
namespace Gx
open PySem PySem.Spec PyProof.Rows L2
end Gx
namespace Ab
open PySem PySem.Spec PyProof.Rows L2
open Classical
noncomputable section
def Rows (xs : List AV) : Prop := ∃ rows : List (List Int), xs = rows.map (fun r => AV.tup (r.map AV.int)) ∧ rows.Nodup ∧ rows.length < 64
end
end Ab
namespace Ab
open PySem PySem.Spec PyProof.Rows L2 GenW
/-- int of a whole number or of True, False -/
def gIntOf : List AV → Sto → Res AV := fun xs s => match xs with | [.int i] => .ok (.int i) s | [.bl b] => .ok (.int (if b then 1 else 0)) s | _ => .stuck
@[simp] theorem gIntOf_int {i : Int} {s : Sto} : gIntOf [.int i] s = .ok (.int i) s := rfl
@[simp] theorem gIntOf_bl {b : Bool} {s : Sto} : gIntOf [.bl b] s = .ok (.int (if b then 1 else 0)) s := rfl
end Ab
set_option Elab.async false
set_option linter.all false
set_option maxRecDepth 100000
set_option maxHeartbeats 1000000
set_option Elab.async false
set_option linter.all false
set_option maxRecDepth 100000
set_option maxHeartbeats 1000000
namespace Ab
open PySem PySem.Spec PyProof.Rows L2
open Classical
noncomputable section
section
variable {W : Wl} {E : L2.St → XK} {ta te : TE} {fa fe : AE} {t1 t2 : TA} {f1 f2 : AA}
theorem RelL.at {w : Wd} {xs : List AV} {vs : List V} (h : RelL W w xs vs) : ∀ i : Nat, (xs[i]? = none ∧ vs[i]? = none) ∨ ∃ x v, xs[i]? = some x ∧ vs[i]? = some v ∧ Rel W w x v := by
  induction xs generalizing vs with
  | nil => cases h; exact fun i => .inl ⟨rfl, rfl⟩
  | cons x xs ih =>
    cases h with
    | cons h t =>
      intro i
      cases i with
      | zero => exact .inr ⟨_, _, rfl, rfl, h⟩
      | succ i => exact ih t i
end
end
end Ab
set_option Elab.async false
set_option linter.all false
set_option maxRecDepth 100000
set_option maxHeartbeats 1000000
namespace Gx
open PySem PySem.Spec PyProof.Rows L2 GenW
end Gx
namespace Ab
open PySem PySem.Spec PyProof.Rows L2 GenW
open Classical
noncomputable section
/-- max of a list of whole numbers -/
def gMaxL : List AV → Sto → Res AV := fun xs s => match xs with | [x] => (match lstOf s x with | some ys => (match intsOf ys with | some ns => if h : ∃ m, m ∈ ns ∧ ∀ y, y ∈ ns → y ≤ m then .ok (.int (choose h)) s else .stuck | none => .stuck) | none => .stuck) | _ => .stuck
theorem gMaxL_ok {x : AV} {ns : List Int} {m : Int} {s : Sto} (e : lstOf s x = some (ns.map .int)) (h1 : m ∈ ns) (h2 : ∀ y, y ∈ ns → y ≤ m) : gMaxL [x] s = .ok (.int m) s := by
  have hx : ∃ m, m ∈ ns ∧ ∀ y, y ∈ ns → y ≤ m := ⟨m, h1, h2⟩
  unfold gMaxL
  simp only [e, intsOf_map]
  rw [dif_pos hx]
  have hc := choose_spec hx
  rw [show choose hx = m from Int.le_antisymm (h2 _ hc.1) (hc.2 _ h1)]
theorem NEL.maxL : NEL gMaxL := fun x s c ns vs s' h => by 
  unfold gMaxL at h
  repeat' split at h
  all_goals first | cases h | (unfold newL at h; cases h)
theorem DB.maxL {W : Wl} : DB W (rMax W.K) gMaxL := fun w s x v Q S r h => by
  unfold gMaxL at h
  split at h
  · cases r with
    | cons r1 r2 =>
      cases r2
      split at h
      · rename_i ys e
        split at h
        · rename_i ns e2
          split at h
          · rename_i hx
            obtain ⟨a, vs, h1, h2, h3⟩ := lst_at S r1 e
            subst h1
            have hc := choose_spec hx
            refine ⟨a, ns, rfl, ?_, ?_, fun m m1 m2 => ?_⟩
            · rw [← ints_rel h3 e2]; exact h2
            · exact List.length_pos_of_mem hc.1
            · rw [show m = choose hx from Int.le_antisymm (hc.2 _ m1) (m2 _ hc.1)]
              exact h w _ (.refl w) S (.int _)
          · exact h.elim
        · exact h.elim
      · exact h.elim
  · exact h.elim
end
end Ab
set_option Elab.async false
set_option linter.all false
set_option maxRecDepth 100000
set_option maxHeartbeats 1000000
namespace PySem
theorem newE_any {v : Value} {o : Obj} {HH : Heap → Prop} (B : Begins v o HH) :
    Meets (Builtin.«enumerate.__new__» ⟨[.type "enumerate", v], []⟩) (fun _ R s => HH s.heap ∧
      R (.ok (.ret (.ref (s.heap.push o).objs.size))) { s with heap := (s.heap.push o).push { cls := .type "enumerate", data := .fields #[.none, .bool false, .ref s.heap.objs.size, rawInt 0, .none, .none] } }) :=
  .of_wp fun P w A R st => fun ⟨g1, g2⟩ => by
    obtain ⟨hp, a1, a2, a3, a4⟩ := st
    have hsub := sub_enumerate
    have go : ∀ {A' : Around} {E Q : Value → Shared → Prop}, Q (.ref hp.objs.size) ⟨hp.push o, a1, a2, a3, a4⟩ → wpAny (model P w) A' (pyIter v) Q E ⟨hp, a1, a2, a3, a4⟩ := fun q => B.iter P w _ _ ⟨hp, a1, a2, a3, a4⟩ _ g1 q
    wp_walk using go
    refine wpAny_stack_any fun _ => wpAny_pure ?_
    split
    · rename_i c _ _ _ _ _
      cases (c == Value.type "enumerate")
      all_goals wp_walk using go
      all_goals exact ⟨_, rfl, g2⟩
    · wp_walk using go
      exact ⟨_, rfl, g2⟩
end PySem
namespace Gx
open PySem PySem.Spec PyProof.Rows L2
/-- the tuple at a, its items in new pairs -/
def ItE (K : PySem.W.Frag) (a : Addr) : It :=
  ⟨fun i H => ∃ (xs : List V) (x : V), SqT K H a xs ∧ xs[i]? = some x, fun i H v H' => ∃ T x, v = .ref T ∧ H T = none ∧ H' = upd H T (.tup [.int (i : Nat), x]) ∧ ∀ xs, SqT K H a xs → xs[i]? = some x, fun i H => ∃ xs : List V, SqT K H a xs ∧ xs.length ≤ i⟩
theorem turnE {P : Program} {w : World} {K : PySem.W.Frag} {es : List Expr} {n : Nat} {ps : Pos} (a e it : Addr) :
    Turn P w K (.Tuple es n ps) (ItE K a) [e, it] e (fun i h => (∃ old, IsEnum h e it ((i : Nat) : Int) old) ∧ h.IsTupleIter it a i ∧ e ≠ it ∧ e ≠ a ∧ a ≠ it) where
  mem := List.mem_cons_self
  obj := fun i h st b hb => by
    obtain ⟨⟨old, k1⟩, ⟨o, k2, _, k3⟩, _⟩ := st
    simp only [List.mem_cons, List.not_mem_nil, or_false] at hb
    rcases hb with rfl | rfl
    · exact ⟨_, k1, fun v q => nomatch q⟩
    · exact ⟨o, k2, fun v q => by rw [k3] at q; cases q⟩
  keep := fun i h h' ⟨⟨old, k1⟩, k2, k3⟩ k => ⟨⟨old, k e List.mem_cons_self _ k1⟩, k2.at fun o q => k it (.tail _ List.mem_cons_self) o q, k3⟩
  item := by
    rintro X rfl rfl rfl hc i pins s σ H E I hf ⟨⟨old, k1⟩, k2, n1, n2, n3⟩ ⟨xs, x, hq, hx⟩
    obtain ⟨its, rv, p, hz⟩ := I.tuple hq
    have p : s.heap.IsTuple a its.toArray := p
    obtain ⟨u, hu, ru⟩ := rv.get hx
    have le : e < s.heap.objs.size := Heap.lt_size k1
    have li : it < s.heap.objs.size := by obtain ⟨_, q, _⟩ := k2; exact Heap.lt_size q
    have il : i < its.toArray.size := by
      have := (List.getElem?_eq_some_iff.mp hu).1
      simpa using this
    refine wpAny_pyNext_enum_itemD (Draws.tuple (prog := X.prog) (w := X.w) (A := X.A.in1) (show X.A.in1.handled = none from I.ok.hd hc) it a n3 its.toArray) k1 ⟨k2, p⟩ il n1 (by simp [n1, n2]) fun y h' tk hy ho ⟨hit', _⟩ hT hsz hk => ?_
    have hy : u = y := by
      have hy : its.toArray[i]? = some y := hy
      rw [List.getElem?_toArray, hu] at hy
      exact Option.some.inj hy
    subst hy
    refine ⟨_, rfl, wpAny_letOwnedTupleGo_enum (s := { s with heap := h', toks := tk + 1 }) ho fun h'' he' sb => ?_⟩
    have hT2 : h''.get? s.heap.objs.size = some { cls := .type "tuple", data := .seq #[.int i tk, u] } := (sb.2 _ (Nat.ne_of_gt le)).trans hT
    have new : ObjOk X.prog X.w (upd H s.heap.objs.size (.tup [.int (i : Nat), x])) h'' s.heap.objs.size (.tup [.int (i : Nat), x]) :=
      ⟨show 2 ≤ sizeLine by decide, [.int i tk, u], .cons ⟨_, rfl⟩ (.cons ru .nil), ⟨_, hT2, rfl, _, rfl⟩⟩
    have I1 : Inv X pins σ (upd H s.heap.objs.size (.tup [.int (i : Nat), x])) { s with heap := h'', toks := tk + 1 } :=
      I.turnedNew (t' := tk + 1) (ch := [e, it]) (fun b ob hb q => (sb.2 b fun z => hb (by simp [z])).trans (hk b ob (fun z => hb (by simp [z])) (fun z => hb (by simp [z])) q)) hf (Nat.le_refl _) new
    refine ⟨.ref s.heap.objs.size, _, I1, rfl, ⟨_, x, rfl, I.hok.fresh (Nat.le_refl _), rfl, fun ys hy => by rw [I.tuple_inj hy hq]; exact hx⟩, ⟨⟨u, ?_⟩, hit'.at fun o q => (sb.2 it (Ne.symm n1)).trans q, n1, n2, n3⟩, fun b hb => ?_⟩
    · rw [show ((i + 1 : Nat) : Int) = (i : Int) + 1 by omega]
      exact he'
    · have hb' : b < s.heap.objs.size := by
        simp only [List.mem_cons, List.not_mem_nil, or_false] at hb
        rcases hb with rfl | rfl
        · exact le
        · exact li
      rw [upd_ne (Nat.ne_of_lt hb')]
      exact (hf b hb).1
  done := by
    rintro X rfl rfl rfl hc i pins s σ H E I hf ⟨⟨old, k1⟩, k2, n1, n2, n3⟩ ⟨xs, hq, hx⟩
    obtain ⟨its, rv, p, hz⟩ := I.tuple hq
    have p : s.heap.IsTuple a its.toArray := p
    obtain ⟨f0, f1, f2, f3, f4, f5⟩ := hf it (.tail _ List.mem_cons_self)
    have hl := rv.length
    have hne : its.toArray[i]? = none := by simp; omega
    exact endE (I.ok.hd hc) k1 k2 p hne fun h' eb => ⟨rfl, I.turned (t' := s.toks) (fun b o hb q => eb b o hb q) f0 f1 f3 f4 f5⟩
  self := fun A i s Q E ⟨⟨_, k1⟩, _⟩ h => wpAny_pyIter_enum k1 h
where
  endE {P : Program} {w : World} {A : Around} {E : Value → Shared → Prop} {s : Shared} {e it l : Addr} {i : Nat} {items : Array Value} {old : Value} {Q : Option Value → Shared → Prop} (hh : A.handled = none)
    (he : IsEnum s.heap e it i old) (hit : s.heap.IsTupleIter it l i) (hl : s.heap.IsTuple l items) (hx : items[i]? = none) (hQ : ∀ h', Heap.ExtBut it s.heap h' → Q none { s with heap := h' }) :
    wpAny (model P w) A (pyNext (.ref e)) Q E s := by
    unfold pyNext
    refine wpAny_bind (wpAny_attempt (wpAny_callSpecial?_slot (name := Str.ofString "__next__") ⟨_, he, rfl⟩ F.slot_enumerate_next (wpAny_call_entry F.slot_enumerate_next ⟨_, he, rfl⟩ F.entry_enumerate_next ?_ (F.args_enumerate_next_1 _))))
    show wpAny _ _ (field (.ref e) 2 >>= _) _ _ _
    refine wpAny_bind (wpAny_field he rfl (x := .ref it) rfl ?_)
    refine wpAny_bind (wpAny_nextOf_tuple_end hh hit hl hx fun h' x k1 ⟨o, k2, k3⟩ => ?_)
    exact wpAny_bind (wpAny_isInstance (T := "StopIteration") (b := true) ⟨o, k2, k3⟩ isSubtype_stop (wpAny_pure (hQ _ k1)))
def iEnT (K : PySem.W.Frag) (ta : TA) : TI := fun σ H R => ta σ H fun vs H1 => ∃ a xs, vs = [.ref a] ∧ SqT K H1 a xs ∧ R (ItE K a) H1
theorem pi_enT {X : Cx} {e : Expr} {ta : TA} {p pos tp : Pos} {es : List Expr} {n : Nat} (hg : Gl X "enumerate") (hm : X.mg "enumerate" = none) (ha : PA X [e] ta) (hs : starEach [e] X.env = [(false, eval e X.env)] := by rfl) :
    PI X (.Tuple es n tp) (.Call (.Name "enumerate" p) [e] [] pos) (iEnT X.K ta) := ⟨fun pins s σ H R I h => by
  refine Call_ (ld_blt I hg hm boot_enumerate (PyProof.Rows.callWith_type1 (thn (ha.run pos pins s σ H _ I h) fun us s1 ⟨vs, H1, I1, r1, a, xs, ex, hq, q⟩ => ?_) hs rfl))
  subst ex
  cases r1 with
  | cons r rr =>
    cases rr
    cases r
    obtain ⟨its, rv, p', hz⟩ := I1.tuple hq
    have p' : s1.heap.IsTuple a its.toArray := p'
    have la : a < s1.heap.objs.size := by obtain ⟨o, q, _⟩ := id p'; exact Heap.lt_size q
    refine callType_new F.called_enumerate (by decide) (F.typeCall_enumerate_1 _) (F.newCall_enumerate_1 _) (fun obj => F.args_object_init_2 obj _) F.entry_enumerate_new (newE_any (begins_tuple a its.toArray)) ⟨p', ?_⟩
    obtain ⟨o, ho⟩ : ∃ o : Obj, o = { cls := .type "tuple_iterator", data := .fields #[.ref a, .int 0 0] } := ⟨_, rfl⟩
    rw [← ho]
    have of : o.isFreed = false := by rw [ho]; rfl
    have sz : (s1.heap.push o).objs.size = s1.heap.objs.size + 1 := Heap.size_push ..
    show _ ∧ _
    rw [sz]
    have he : IsEnum ((s1.heap.push o).push { cls := .type "enumerate", data := .fields #[.none, .bool false, .ref s1.heap.objs.size, rawInt 0, .none, .none] }) (s1.heap.objs.size + 1) s1.heap.objs.size 0 .none := by
      have := Heap.get?_push_size (s1.heap.push o) (o := { cls := .type "enumerate", data := .fields #[.none, .bool false, .ref s1.heap.objs.size, rawInt 0, .none, .none] }) rfl
      rw [sz] at this; exact this
    refine ⟨⟨_, he, rfl⟩, wpAny_pyIter_enum he ?_⟩
    have kk : ∀ b ob, s1.heap.get? b = some ob → ((s1.heap.push o).push { cls := .type "enumerate", data := .fields #[.none, .bool false, .ref s1.heap.objs.size, rawInt 0, .none, .none] }).get? b = some ob := fun b ob q => Heap.get?_push_of_some _ (Heap.get?_push_of_some _ q)
    have hti : ((s1.heap.push o).push { cls := .type "enumerate", data := .fields #[.none, .bool false, .ref s1.heap.objs.size, rawInt 0, .none, .none] }).IsTupleIter s1.heap.objs.size a 0 := ⟨o, Heap.get?_push_of_some _ (Heap.get?_push_size _ of), by rw [ho]; first | done | rfl, by rw [ho]; first | done | rfl⟩
    refine ⟨s1.heap.objs.size + 1, [s1.heap.objs.size + 1, s1.heap.objs.size], _, _, H1, rfl, I1.kept (t' := s1.toks) kk, turnE a (s1.heap.objs.size + 1) s1.heap.objs.size, ⟨⟨.none, he⟩, hti, Nat.succ_ne_self _, Nat.ne_of_gt (Nat.lt_succ_of_lt la), Nat.ne_of_lt la⟩, fun b hb => ?_, q⟩
    have hle : s1.heap.objs.size ≤ b := by
      simp only [List.mem_cons, List.not_mem_nil, or_false] at hb
      rcases hb with rfl | rfl
      · exact Nat.le_succ _
      · exact Nat.le_refl _
    exact I1.fpOk hle (I1.hok.fresh hle)⟩
end Gx
set_option Elab.async false
set_option linter.all false
set_option maxRecDepth 100000
set_option maxHeartbeats 4000000
namespace Gx
open PySem PySem.Spec PyProof.Rows L2
theorem mulT1 (l : Addr) (items : Array Value) (n : Nat) (dd : Option Addr) (sl : Array (Option Value)) (u : Tok) :
    Meets (Builtin.«tuple.__mul__» ⟨[.ref l, .int 1 u], []⟩) (fun _ R s => s.heap.get? l = some { cls := .type "tuple", dict := dd, data := .seq items n, slots := sl } ∧ R (.ok (.ret (.ref l))) s) :=
  .of_wp fun P w A R st => fun ⟨g1, g2⟩ => by
    obtain ⟨hp, a1, a2, a3, a4⟩ := st
    have f1 := AutoSeq1.idx_int
    wp_walk using wpAny_loadPart' g1
    exact ⟨_, rfl, g2⟩
theorem mulT0 (l : Addr) (items : Array Value) (n : Nat) (dd : Option Addr) (sl : Array (Option Value)) (x : Int) (u : Tok) (c0 : (decide (x < -(2 ^ 63)) || decide (x ≥ 2 ^ 63)) = false) (c1 : (items.isEmpty || x == 1) = false) (c2 : (decide (x ≤ 0) || items.isEmpty) = true) :
    Meets (Builtin.«tuple.__mul__» ⟨[.ref l, .int x u], []⟩) (fun _ R s => s.heap.get? l = some { cls := .type "tuple", dict := dd, data := .seq items n, slots := sl } ∧ R (.ok (.ret (Value.ref s.heap.objs.size))) { s with heap := s.heap.push { cls := Value.type "tuple", data := Data.seq #[] }, toks := s.toks }) :=
  .of_wp fun P w A R st => fun ⟨g1, g2⟩ => by
    obtain ⟨hp, a1, a2, a3, a4⟩ := st
    have f1 := AutoSeq1.idx_int
    wp_walk using wpAny_loadPart' g1
    repeat (first
      | (refine wpAny_ite_false (decide_eq_false (by rw [c0]; exact Bool.false_ne_true)) ?_; wp_walk using wpAny_loadPart' g1)
      | (refine wpAny_ite_false (decide_eq_false (by rw [c1]; exact Bool.false_ne_true)) ?_; wp_walk using wpAny_loadPart' g1)
      | (refine wpAny_ite_true (decide_eq_true c2) ?_; wp_walk using wpAny_loadPart' g1))
    exact ⟨_, rfl, g2⟩
def rT1 (K : PySem.W.Frag) : R2 := fun x y H Q => ∃ l xs, x = .ref l ∧ y = .int 1 ∧ SqT K H l xs ∧ Q (.ref l) H
def rT0 (K : PySem.W.Frag) : R2 := fun x y H Q => ∃ l k xs, x = .ref l ∧ y = .int k ∧ SqT K H l xs ∧ xs ≠ [] ∧ k ≤ 0 ∧ -1000 ≤ k ∧ ∀ p, H p = none → Q (.ref p) (upd H p (.tup []))
section
variable {X : Cx}
theorem op_T1 : OpR X (binaryOp .Mult) (rT1 X.K) := by
  intro pins s σ H x y v u Q I rx ry h
  obtain ⟨l, xs, rfl, rfl, hT, q⟩ := h
  cases rx
  obtain ⟨t, rfl⟩ := ry
  obtain ⟨its, r, ⟨⟨cls, dd, data, sl⟩, ho, hc, n, hd⟩, hs⟩ := I.tuple hT
  simp only at hc hd
  subst hc hd
  exact wpAny_binaryOp_repeat_ref (T := "tuple") (U := "int") (by decide) ⟨_, ho, rfl⟩ (fun s' => typeIs_int s' 1 t) noFill_tuple_mul F.fills_int_mul F.slot_int_rmul repeat_tuple F.slot_int_index.lookup
    (call_meets F.slot_int_rmul (typeIs_int s 1 t) F.entry_int_rmul (F.args_int_rmul_2 _ _) (int_rmul_tuple 1 t l its.toArray n dd sl)
      ⟨ho, rfl, ⟨_, ho, rfl⟩, call_meets F.slot_tuple_mul ⟨_, ho, rfl⟩ F.entry_tuple_mul (F.args_tuple_mul_2 _ _) (mulT1 l its.toArray n dd sl t) ⟨ho, .ref l, _, I, rfl, q⟩⟩)
theorem op_T0 : OpR X (binaryOp .Mult) (rT0 X.K) := by
  intro pins s σ H x y v u Q I rx ry h
  obtain ⟨l, k, xs, rfl, rfl, hT, hne, h1, h2, q⟩ := h
  cases rx
  obtain ⟨t, rfl⟩ := ry
  obtain ⟨its, r, ⟨⟨cls, dd, data, sl⟩, ho, hc, n, hd⟩, hs⟩ := I.tuple hT
  simp only at hc hd
  subst hc hd
  have hle := r.length
  have hi : its.toArray.isEmpty = false := by
    cases its with
    | nil => exact absurd (List.eq_nil_of_length_eq_zero hle) hne
    | cons a b => rfl
  have c0 : (decide (k < -(2 ^ 63)) || decide (k ≥ 2 ^ 63)) = false := by
    rw [decide_eq_false (by omega), decide_eq_false (by omega)] <;> rfl
  have c1 : (its.toArray.isEmpty || k == 1) = false := by
    rw [hi, Bool.false_or]
    exact beq_eq_false_iff_ne.mpr (by omega)
  have c2 : (decide (k ≤ 0) || its.toArray.isEmpty) = true := by
    rw [decide_eq_true h1, Bool.true_or]
  refine wpAny_binaryOp_repeat_ref (T := "tuple") (U := "int") (by decide) ⟨_, ho, rfl⟩ (fun s' => typeIs_int s' k t) noFill_tuple_mul F.fills_int_mul F.slot_int_rmul repeat_tuple F.slot_int_index.lookup
    (call_meets F.slot_int_rmul (typeIs_int s k t) F.entry_int_rmul (F.args_int_rmul_2 _ _) (int_rmul_tuple k t l its.toArray n dd sl)
      ⟨ho, rfl, ⟨_, ho, rfl⟩, call_meets F.slot_tuple_mul ⟨_, ho, rfl⟩ F.entry_tuple_mul (F.args_tuple_mul_2 _ _) (mulT0 l its.toArray n dd sl k t c0 c1 c2) ⟨ho, ?_⟩⟩)
  refine ⟨.ref s.heap.objs.size, _, I.laid (t' := s.toks) (o := .tup []) (fun b ob q => Heap.get?_push_of_some _ q) (Nat.le_refl _) ?_, rfl, q _ (I.hok.fresh (Nat.le_refl _))⟩
  exact ⟨Nat.zero_le _, [], .nil, IsTup.new _ _⟩
end
end Gx
set_option Elab.async false
set_option linter.all false
set_option maxRecDepth 100000
set_option maxHeartbeats 4000000
set_option exponentiation.threshold 2000
namespace Gx
open PySem PySem.Spec PyProof.Rows L2
end Gx
set_option Elab.async false
set_option linter.all false
set_option maxRecDepth 100000
set_option maxHeartbeats 4000000
set_option exponentiation.threshold 2000
namespace Gx
open PySem PySem.Spec PyProof.Rows L2
end Gx
set_option Elab.async false
set_option linter.all false
set_option maxRecDepth 100000
set_option maxHeartbeats 1000000
namespace Ab
open PySem PySem.Spec PyProof.Rows L2
open Classical
noncomputable section
section
variable {W : Wl} {E : L2.St → XK} {tr : TA} {fr : AA}
def enumUK : List AV → Sto → Res (List AV × (Sto → Prop)) := fun xs s1 => match xs with
  | [.tup ys] => .ok (enumA ys, fun _ => True) s1
  | xs => enumK xs s1
theorem enumUK_of {xs : List AV} {s1 : Sto} (c : ¬ ∃ ys, xs = [.tup ys]) : enumUK xs s1 = enumK xs s1 := by
  unfold enumUK
  split
  · exact absurd ⟨_, rfl⟩ c
  · rfl
def aEnumU (fr : AA) : AI := fun σ s => (fr σ s).bind enumUK
def enU (K : PySem.W.Frag) (ta : TA) : TI := fun σ H R => iEnum K ta σ H R ∨ Gx.iEnT K ta σ H R
theorem itw_enT {w0 : Wd} {a : Addr} {xs : List AV} {vs : List V} (h : SqT W.K w0.H a vs) (r : RelL W w0 xs vs) (G : Sto → Prop) : ItW W w0 (Gx.ItE W.K a) (enumA xs) G := by
  have hl := r.length
  refine ⟨xs.length, fun H => ∃ e, SqT W.K H a vs ∧ e = vs.length, fun i H v H' => ∃ T x, v = .ref T ∧ H T = none ∧ H' = upd H T (.tup [.int (i : Nat), x]) ∧ vs[i]? = some x, ⟨fun i H hi ⟨_, h1, h2⟩ => ⟨vs, vs[i], h1, by simp⟩, fun H ⟨_, h1, h2⟩ => ⟨vs, h1, Nat.le_of_eq hl.symm⟩, fun i H x H' hi ⟨_, h1, _⟩ ⟨T, x', y1, y2, y3, y4⟩ => ⟨T, x', y1, y2, y3, y4 vs h1⟩⟩, by simp [enumA], fun w s e S' g => ⟨_, sqt_ext e h, rfl⟩, fun w s i y H' e S' g hi hy => ?_⟩
  obtain ⟨T, u, rfl, hT, rfl, h2⟩ := hy
  obtain ⟨z, y1, y2⟩ := (r.mono e).getv i u h2
  have gr := grow_upd (o := .tup [.int (i : Nat), u]) hT
  refine ⟨.tup [.int (i : Nat), z], _, ?_, rfl, .grow gr, S'.grow gr, .tup (.inl (.inl upd_same)) (.cons (.int _) (.cons (y2.mono (.grow gr)) .nil))⟩
  unfold enumA
  rw [List.getElem?_mapIdx, y1]
  rfl
theorem DI.enumU (ha : DA W E tr fr) : DI W E (enU W.K tr) (aEnumU fr) := fun w s σ σc R S Rs h => by
  cases e : fr σ s with
  | stuck =>
    have : aEnumU fr σ s = .stuck := by unfold aEnumU; rw [e]; rfl
    rw [this] at h; exact h.elim
  | err c ns vs s1 =>
    have : aEnumU fr σ s = .err c ns vs s1 := by unfold aEnumU; rw [e]; rfl
    rw [this] at h
    exact .inl (ha w s σ σc _ S Rs (by rw [e]; exact h))
  | ok xs s1 =>
    have e1 : aEnumU fr σ s = enumUK xs s1 := by unfold aEnumU; rw [e]; rfl
    rw [e1] at h
    by_cases c : ∃ ys, xs = [.tup ys]
    · obtain ⟨ys, rfl⟩ := c
      refine .inr (ha w s σ σc _ S Rs ?_)
      rw [e]
      intro w1 v x1 S1 r1
      cases r1 with
      | cons r1 r2 =>
        cases r2
        cases r1 with
        | @tup a _ vs k1 k2 => exact ⟨a, vs, rfl, k1, h w1 _ x1 S1 (itw_enT k1 k2 _)⟩
    · have e2 : aEnum fr σ s = enumUK xs s1 := by
        rw [e_enum, e, Res.bind_ok, enumUK_of c]
      rw [← e2] at h
      exact .inl (DI.enum ha w s σ σc R S Rs h)
theorem e_enumU {σ : ASt} {s : Sto} : aEnumU fr σ s = (fr σ s).bind enumUK := rfl
theorem e_enumUT {ys : List AV} {s : Sto} : enumUK [.tup ys] s = .ok (enumA ys, fun _ => True) s := rfl
def gMulV : AV → AV → Sto → Res AV := fun x y s => match x, y with
  | .tup a, .int k => if a ≠ [] ∧ -1000 ≤ k ∧ k ≤ 1000 ∧ a.length ≤ 1000 then .ok (.tup (List.replicate k.toNat a).flatten) s else .stuck
  | x, y => gMul x y s
theorem gMulV_tup {a : List AV} {k : Int} {s : Sto} (h : a ≠ [] ∧ -1000 ≤ k ∧ k ≤ 1000 ∧ a.length ≤ 1000) : gMulV (.tup a) (.int k) s = .ok (.tup (List.replicate k.toNat a).flatten) s := if_pos h
@[simp] theorem gMulV_int {i j : Int} {s : Sto} : gMulV (.int i) (.int j) s = gMul (.int i) (.int j) s := rfl
@[simp] theorem gMulV_str {i : Str} {j : Int} {s : Sto} : gMulV (.str i) (.int j) s = gMul (.str i) (.int j) s := rfl
@[simp] theorem gMulV_obj {i : Nat} {j : Int} {s : Sto} : gMulV (.obj i) (.int j) s = gMul (.obj i) (.int j) s := rfl
theorem NE2.mulV : NE2 gMulV := fun x y s c ns vs s' h => by
  unfold gMulV at h
  split at h
  · split at h <;> cases h
  · exact NE2.mul _ _ _ _ _ _ _ h
def rMulV (K : PySem.W.Frag) : R2 := fun x y H Q => Gx.rT1 K x y H Q ∨ Gx.rT0 K x y H Q ∨ rMulT K x y H Q
theorem op_mulV {X : Cx} : OpR X (binaryOp .Mult) (rMulV X.K) := OpR.or Gx.op_T1 (OpR.or Gx.op_T0 op_mulT)
theorem DR.mulV {W : Wl} : DR W (rMulV W.K) gMulV := fun w s x y v u Q S rx ry h => by
  unfold gMulV at h
  split at h
  · rename_i a k
    split at h
    · rename_i hl
      by_cases k1 : k = 1
      · subst k1
        rw [show (1 : Int).toNat = 1 from rfl, List.replicate_succ, List.replicate_zero, List.flatten_cons, List.flatten_nil, List.append_nil] at h
        cases ry
        cases rx with
        | @tup a' xs vs h1 r1 => exact .inl ⟨_, vs, rfl, rfl, h1, h w _ (.refl w) S (.tup h1 r1)⟩
      · by_cases k0 : k ≤ 0
        · rw [show k.toNat = 0 by omega, List.replicate_zero, List.flatten_nil] at h
          cases ry
          cases rx with
          | @tup a' xs vs h1 r1 =>
            refine .inr (.inl ⟨_, _, vs, rfl, rfl, h1, ?_, k0, hl.2.1, newT S .nil h⟩)
            intro z
            subst z
            cases r1
            exact hl.1 rfl
        · exact .inr (.inr (DR.mulT w s _ _ v u Q S rx ry (by rw [gMulT_tup ⟨hl.1, by omega, hl.2.2.1, hl.2.2.2⟩]; exact h)))
    · exact h.elim
  · rename_i hn
    exact .inr (.inr (.inr (DR.mul w s x y v u Q S rx ry h)))
theorem s_aug {i : Nat} {g : AV → AV → Sto → Res AV} {fa : AE} {σ : ASt} {s : Sto} {x : AV} (h : σ[i]? = some (some x)) : aAug i g fa σ s = (fa σ s).st σ (augK i g σ x) := by
  unfold aAug aVar
  simp only [h]
  rfl
end
end
end Ab
set_option Elab.async false
set_option linter.all false
set_option maxRecDepth 100000
set_option maxHeartbeats 1000000
namespace Gx
open PySem PySem.Spec PyProof.Rows L2
def rMaxT (K : PySem.W.Frag) : List V → Hp → VK → Prop := fun vs H Q => ∃ (a : Addr) (ns : List Int), vs = [V.ref a] ∧ SqT K H a (ns.map V.int) ∧ 0 < ns.length ∧ ∀ m, m ∈ ns → (∀ y, y ∈ ns → y ≤ m) → Q (.int m) H
theorem cr_maxT {X : Cx} (hc : X.calm = true) : CallR X (.builtin "max") (rMaxT X.K) := by
  intro pins s σ H vs us Q I r h
  obtain ⟨a, ns, rfl, hs, hne, q⟩ := h
  rw [Vals.ref1 r]
  obtain ⟨its, rv, p, _⟩ := I.tuple hs
  have p : s.heap.IsTuple a its.toArray := p
  have ha : a < s.heap.objs.size := by obtain ⟨o, e, _⟩ := id p; exact Heap.lt_size e
  have hl := rv.length
  rw [List.length_map] at hl
  have hP : ∀ (i : Nat) (v : Value), i < its.toArray.size → its.toArray[i]? = some v → ∃ t, v = .int (ns.getD i 0) t := fun i v hi e => by
    have hi : i < its.length := by simpa using hi
    have e : its[i]? = some v := by simpa using e
    have hn : i < ns.length := by omega
    obtain ⟨u, hu, ru⟩ := rv.get (i := i) (x := V.int ns[i]) (by rw [List.getElem?_map, List.getElem?_eq_getElem hn]; rfl)
    rw [hu] at e
    cases e
    obtain ⟨t, rfl⟩ := ru
    refine ⟨t, ?_⟩
    rw [List.getD_eq_getElem?_getD, List.getElem?_eq_getElem hn]
    rfl
  refine call_max_walk (wpAny_pyIter_tuple p ?_)
  refine ⟨s.heap.objs.size, [s.heap.objs.size, a], [s.heap.objs.size], its.toArray.size, fun i v => ∃ t, v = .int (ns.getD i 0) t, _, fun i j => decide (ns.getD i 0 > ns.getD j 0), rfl, Walks.mono_item (Walks.tuple (A := X.A.in1) (show X.A.in1.handled = none from I.ok.hd hc) s.heap.objs.size a (Nat.ne_of_lt ha) its.toArray) hP, ⟨⟨_, Heap.get?_push_size _ rfl, rfl, rfl⟩, p.at fun o e => Heap.get?_push_of_some _ e⟩, fun b hb => ?_, by simp; omega, CmpOf.ints_gt (fun i => ns.getD i 0) (fun i v z => z), fun v h' tk hv hk => ?_⟩
  · show b < (s.heap.push _).objs.size
    rw [size_push']
    simp only [List.mem_cons, List.not_mem_nil, or_false] at hb
    rcases hb with rfl | rfl
    · exact Nat.lt_succ_self _
    · exact Nat.lt_succ_of_lt ha
  · obtain ⟨t, rfl⟩ := hv
    have sz : its.toArray.size = ns.length := by simp; omega
    rw [sz]
    obtain ⟨m1, m2⟩ := argBest_gt (fun i => ns.getD i 0) (ns.length - 1)
    have m1 : argBest (fun i j => decide (ns.getD i 0 > ns.getD j 0)) (ns.length - 1) ≤ ns.length - 1 := m1
    have m2 : ∀ j, j ≤ ns.length - 1 → ns.getD j 0 ≤ ns.getD (argBest (fun i j => decide (ns.getD i 0 > ns.getD j 0)) (ns.length - 1)) 0 := m2
    have kk : ∀ b o, s.heap.get? b = some o → h'.get? b = some o := fun b o e => hk b o (fun z => by rw [List.mem_singleton.mp z] at e; exact absurd (Heap.lt_size e) (Nat.lt_irrefl _)) (Heap.get?_push_of_some _ e)
    refine ⟨.int _, H, I.kept (t' := tk) kk, ⟨t, rfl⟩, q _ (PySem.getD_mem (by omega)) fun y hy => ?_⟩
    obtain ⟨j, hj, e⟩ := List.mem_iff_getElem.mp hy
    have z := m2 j (by omega)
    have e3 : ns.getD j 0 = y := by rw [List.getD_eq_getElem?_getD, List.getElem?_eq_getElem hj, ← e]; rfl
    rw [e3] at z
    exact z
end Gx
set_option Elab.async false
set_option linter.all false
set_option maxRecDepth 100000
set_option maxHeartbeats 1000000
namespace Ab
open PySem PySem.Spec PyProof.Rows L2
open Classical
noncomputable section
def gMaxU : List AV → Sto → Res AV := fun xs s => match xs with
  | [.tup ys] => (match intsOf ys with | some ns => if h : ∃ m, m ∈ ns ∧ ∀ y, y ∈ ns → y ≤ m then .ok (.int (choose h)) s else .stuck | none => .stuck)
  | xs => gMaxL xs s
theorem gMaxU_tup {ns : List Int} {m : Int} {s : Sto} (h1 : m ∈ ns) (h2 : ∀ y, y ∈ ns → y ≤ m) : gMaxU [.tup (ns.map .int)] s = .ok (.int m) s := by
  have hx : ∃ m, m ∈ ns ∧ ∀ y, y ∈ ns → y ≤ m := ⟨m, h1, h2⟩
  unfold gMaxU
  simp only [intsOf_map]
  rw [dif_pos hx]
  have hc := choose_spec hx
  rw [show choose hx = m from Int.le_antisymm (h2 _ hc.1) (hc.2 _ h1)]
theorem gMaxU_lst {x : AV} {ns : List Int} {m : Int} {s : Sto} (e : lstOf s x = some (ns.map .int)) (h1 : m ∈ ns) (h2 : ∀ y, y ∈ ns → y ≤ m) : gMaxU [x] s = .ok (.int m) s := by
  cases x with
  | tup ys => cases e
  | _ => exact gMaxL_ok e h1 h2
theorem NEL.maxU : NEL gMaxU := fun x s c ns vs s' h => by
  unfold gMaxU at h
  split at h
  · split at h
    · split at h <;> cases h
    · cases h
  · exact NEL.maxL _ _ _ _ _ _ h
def rMaxU (K : PySem.W.Frag) : List V → Hp → VK → Prop := fun xs H Q => rMax K xs H Q ∨ Gx.rMaxT K xs H Q
theorem call_maxU {X : Cx} (hc : X.calm = true) : CallR X (.builtin "max") (rMaxU X.K) := CallR.or (cr_max hc) (Gx.cr_maxT hc)
theorem DB.maxU {W : Wl} : DB W (rMaxU W.K) gMaxU := fun w s x v Q S r h => by
  unfold gMaxU at h
  split at h
  · rename_i ys
    cases r with
    | cons r1 r2 =>
      cases r2
      cases r1 with
      | @tup a _ vs k1 k2 =>
        split at h
        · rename_i ns e2
          split at h
          · rename_i hx
            have hc := choose_spec hx
            refine .inr ⟨a, ns, rfl, ?_, List.length_pos_of_mem hc.1, fun m m1 m2 => ?_⟩
            · rw [← ints_rel k2 e2]; exact k1
            · rw [show m = choose hx from Int.le_antisymm (hc.2 _ m1) (m2 _ hc.1)]
              exact h w _ (.refl w) S (.int _)
          · exact h.elim
        · exact h.elim
  · exact .inl (DB.maxL w s _ v Q S r h)
end
end Ab
set_option Elab.async false
set_option linter.all false
set_option maxRecDepth 100000
set_option maxHeartbeats 4000000
set_option exponentiation.threshold 3000
namespace Pf
open PySem PySem.Spec PyProof.Rows L2 Ab
noncomputable section
def B_is_integer : AS := (aRet (aAndV (aCB (gIsi (kitB "int")) (aCons (aVar 0) (aCons (aC (.ty "int")) aNil))) (aNotV (aCB (gIsi (kitB "bool")) (aCons (aVar 0) (aCons (aC (.ty "bool")) aNil))))))
def F_is_integer : List AV → Sto → Res AV := gcF (aDef 0 B_is_integer)
def B_own_tempered : AS := (aSeq (aAsg (aOp gAnd (aOp gMul (aOp gXor (aVar 0) (aOp gShr (aVar 0) (aC (.int 13)))) (aC (.int 3486784401))) (aOp gMinus (aC (.int 4294967296)) (aC (.int 1)))) (agName 0))
  (aRet (aOp gXor (aVar 0) (aOp gShr (aVar 0) (aC (.int 16))))))
def F_own_tempered : List AV → Sto → Res AV := gcF (aDef 0 B_own_tempered)
def B_undo_factor : AS := (aSeq (aAsg (aC (.int 3486784401)) (agName 0))
  (aSeq (aFor (aRng1 (aCons (aC (.int 4)) aNil)) (agName 1) (aAsg (aOp gAnd (aOp gMul (aVar 0) (aOp gMinus (aC (.int 2)) (aOp gMul (aC (.int 3486784401)) (aVar 0)))) (aOp gMinus (aC (.int 4294967296)) (aC (.int 1)))) (agName 0)))
  (aRet (aVar 0))))
def F_undo_factor : List AV → Sto → Res AV := gcF (aDef 2 B_undo_factor)
def B_s3_product : AS := (aSeq (aAsg (aC (.int 0)) (agName 2))
  (aSeq (aAsg (aVar 0) (agName 3))
  (aSeq (aAsg (aVar 1) (agName 4))
  (aSeq (aWhile (aTest (aOp gGt (aVar 4) (aC (.int 0)))) (aSeq (aIfS (aTest (aOp gEq (aOp gAnd (aVar 4) (aC (.int 1))) (aC (.int 1)))) (aAsg (aOp gXor (aVar 2) (aVar 3)) (agName 2)) aNext)
  (aSeq (aAsg (aOp gShl (aVar 3) (aC (.int 1))) (agName 3))
  (aAsg (aOp gShr (aVar 4) (aC (.int 1))) (agName 4)))))
  (aRet (aVar 2))))))
def F_s3_product : List AV → Sto → Res AV := gcF (aDef 3 B_s3_product)
def B_s3_parts : AS := (aSeq (aAsg (aC (.int 0)) (agName 2))
  (aSeq (aAsg (aVar 0) (agName 3))
  (aSeq (aAsg (aUn gBits (aVar 1)) (agName 4))
  (aSeq (aWhile (aTest (aOp gGe (aUn gBits (aVar 3)) (aVar 4))) (aSeq (aAsg (aOp gMinus (aUn gBits (aVar 3)) (aVar 4)) (agName 5))
  (aSeq (aAsg (aOp gOr (aVar 2) (aOp gShl (aC (.int 1)) (aVar 5))) (agName 2))
  (aAsg (aOp gXor (aVar 3) (aOp gShl (aVar 1) (aVar 5))) (agName 3)))))
  (aRet (aTup (aCons (aVar 2) (aCons (aVar 3) aNil))))))))
def F_s3_parts : List AV → Sto → Res AV := gcF (aDef 4 B_s3_parts)
def B_Twisted_state : AS := (aRet (aFld ["Twisted"] "s3_state" (aVar 0)))
def F_Twisted_state : List AV → Sto → Res AV := gcF (aDef 0 B_Twisted_state)
def B__law_begun : AS := (aSeq (aAsg (aOp gAdd (aC (.int 32452843)) (aOp gMul (aC (.int 41)) (aCB gLen (aCons (aVar 0) aNil)))) (agName 1))
  (aSeq (aFor (aEnumU (aCons (aVar 0) aNil)) (agTup 2 (agCons (agName 2) (agCons (agName 3) agNil))) (aAsg (aOp gMod (aOp gAdd (aOp gAdd (aOp gMul (aVar 1) (aC (.int 998244353))) (aVar 3)) (aOp gMul (aC (.int 104723)) (aVar 2))) (aC (.int 2305843009213693951))) (agName 1)))
  (aRet (aDisp [((aC (.str "mixed")), (aVar 1)), ((aC (.str "great")), (aLc (aIter (aVar 0)) (agName 3) (aTest (aOp gGe (aVar 3) (aOp gPow (aC (.int 10)) (aC (.int 18))))) (aVar 3) [3])), ((aC (.str "turn")), (aC (.int 0)))]))))
def F__law_begun : List AV → Sto → Res AV := gcF (aDef 3 B__law_begun)
def B__law_next : AS := (aSeq (aAsg (aTup (aCons (aOp gAdd (aOp gDGet (aVar 0) (aC (.str "turn"))) (aC (.int 1))) (aCons (aOp gDGet (aVar 0) (aC (.str "great"))) aNil))) (agTup 2 (agCons (agSub setD (aVar 0) (aC (.str "turn"))) (agCons (agName 2) agNil))))
  (aSeq (aAsg (aOp gMod (aOp gDGet (aVar 0) (aC (.str "turn"))) (aCB gMax2 (aCons (aC (.int 1)) (aCons (aCB gLen (aCons (aVar 2) aNil)) aNil)))) (agName 3))
  (aSeq (aIfS (gcT (aAnd (aTest (aOp gNe (aVar 2) (aLst aNil))) (aTest (aOp gGt (aOp gIx (aVar 2) (aVar 3)) (aC (.int 0)))))) (aSeq (aAsg (aOp gMod (aOp gIx (aVar 2) (aVar 3)) (aVar 1)) (agName 4))
  (aSeq (aAsg (aOp gFdiv (aOp gIx (aVar 2) (aVar 3)) (aVar 1)) (agSub setL (aVar 2) (aVar 3)))
  (aRet (aVar 4)))) aNext)
  (aSeq (aAsg (aOp gAdd (aOp gAdd (aOp gMul (aOp gDGet (aVar 0) (aC (.str "mixed"))) (aC (.int 6364136223846793))) (aOp gMul (aC (.int 1442695040888963)) (aOp gDGet (aVar 0) (aC (.str "turn"))))) (aC (.int 11))) (agName 5))
  (aSeq (aDPut (aVar 0) (aC (.str "mixed")) (aOp gMod (aVar 5) (aC (.int 2305843009213693951))))
  (aRet (aOp gMod (aOp gFdiv (aOp gDGet (aVar 0) (aC (.str "mixed"))) (aC (.int 32749))) (aVar 1))))))))
def F__law_next : List AV → Sto → Res AV := gcF (aDef 4 B__law_next)
def B__law_joined : AS := (aRet (aCB gTuple (aCons (aLc (aEnumU (aCons (aVar 0) aNil)) (agTup 2 (agCons (agName 2) (agCons (agName 3) agNil))) aYes (aOp gXor (aVar 3) (aOp gIx (aVar 1) (aVar 2))) [2, 3]) aNil)))
def F__law_joined : List AV → Sto → Res AV := gcF (aDef 2 B__law_joined)
def B_is_word : AS := (aRet (aAndV (aCall 1 F_is_integer [] (aCons (aVar 0) aNil)) (aChain gLe gLt (aC (.int 0)) (aVar 0) (aC (.int 4294967296)))))
def F_is_word : List AV → Sto → Res AV := gcF (aDef 0 B_is_word)
def B_s3_is_whole : AS := (aRet (aAndV (aCall 1 F_is_integer [] (aCons (aVar 0) aNil)) (aChain gLe gLe (aVar 1) (aVar 0) (aVar 2))))
def F_s3_is_whole : List AV → Sto → Res AV := gcF (aDef 0 B_s3_is_whole)
def B_s3_power : AS := (aSeq (aAsg (gcE (aOp gIx (aCall 2 F_s3_parts [] (aCons (aC (.int 1)) (aCons (aVar 2) aNil))) (aC (.int 1)))) (agName 3))
  (aSeq (aAsg (gcE (aOp gIx (aCall 2 F_s3_parts [] (aCons (aVar 0) (aCons (aVar 2) aNil))) (aC (.int 1)))) (agName 4))
  (aSeq (aAsg (aVar 1) (agName 5))
  (aSeq (aWhile (aTest (aOp gGt (aVar 5) (aC (.int 0)))) (aSeq (aIfS (aTest (aOp gEq (aOp gAnd (aVar 5) (aC (.int 1))) (aC (.int 1)))) (aAsg (gcE (aOp gIx (aCall 2 F_s3_parts [] (aCons (aCall 2 F_s3_product [] (aCons (aVar 3) (aCons (aVar 4) aNil))) (aCons (aVar 2) aNil))) (aC (.int 1)))) (agName 3)) aNext)
  (aSeq (aAsg (gcE (aOp gIx (aCall 2 F_s3_parts [] (aCons (aCall 2 F_s3_product [] (aCons (aVar 4) (aCons (aVar 4) aNil))) (aCons (aVar 2) aNil))) (aC (.int 1)))) (agName 4))
  (aAsg (aOp gShr (aVar 5) (aC (.int 1))) (agName 5)))))
  (aRet (aVar 3))))))
def F_s3_power : List AV → Sto → Res AV := gcF (aDef 3 B_s3_power)
def B__law_start : AS := (aSeq (aPar 1 2 (aCons (aCall 2 F__law_next [] (aCons (aVar 0) (aCons (aC (.int 4)) aNil))) (aCons (aLst aNil) aNil)))
  (aSeq (aFor (aRng1 (aCons (aC (.int 31)) aNil)) (agName 3) (aSeq (aAsg (gcE (aIf (aTest (aOp gEq (aVar 1) (aC (.int 0)))) (aOp gIx (aLst (aCons (aC (.int 0)) (aCons (aC (.int 1)) (aCons (aC (.int 4294967295)) aNil)))) (aCall 2 F__law_next [] (aCons (aVar 0) (aCons (aC (.int 3)) aNil)))) (aCall 2 F__law_next [] (aCons (aVar 0) (aCons (aOp gIx (aLst (aCons (aC (.int 2)) (aCons (aC (.int 256)) (aCons (aC (.int 4294967296)) aNil)))) (aOp gMinus (aVar 1) (aC (.int 1)))) aNil))))) (agName 4))
  (aDrop (aBM gAppend (aVar 2) (aCons (aVar 4) aNil)))))
  (aRet (aIf (aTest (aOp gGt (aCB gMaxU (aCons (aVar 2) aNil)) (aC (.int 0)))) (aCB gTuple (aCons (aVar 2) aNil)) (aOp gAdd (aTup (aCons (aC (.int 1)) aNil)) (aCB gTuple (aCons (aSl (aVar 2) (aPart (aC (.int 1))) aNoPart) aNil)))))))
def F__law_start : List AV → Sto → Res AV := gcF (aDef 4 B__law_start)
def B_need_word : AS := (aIfS (gcT (aNot (aTest (aCall 1 F_is_word [] (aCons (aVar 0) aNil))))) (aRaise "BadWord" "given" (aCons (aVar 0) aNil)) aNext)
def F_need_word : List AV → Sto → Res AV := gcF (aDef 0 B_need_word)
def B_is_polynomial : AS := (aRet (aCall 3 F_s3_is_whole [] (aCons (aVar 0) (aCons (aC (.int 0)) (aCons (aOp gMinus (aOp gShl (aC (.int 1)) (aC (.int 512))) (aC (.int 1))) aNil)))))
def F_is_polynomial : List AV → Sto → Res AV := gcF (aDef 0 B_is_polynomial)
def B_s3_need_bits : AS := (aIfS (gcT (aOr (aNot (aTest (aCB (gIsi (kitB "tuple")) (aCons (aVar 0) (aCons (aC (.ty "tuple")) aNil))))) (aOr (aTest (aOp gGt (aCB gLen (aCons (aVar 0) aNil)) (aC (.int 512)))) (aNot (aTest (aCB gAll (aCons (aLc (aIter (aVar 0)) (agName 1) aYes (aCall 3 F_s3_is_whole [] (aCons (aVar 1) (aCons (aC (.int 0)) (aCons (aC (.int 1)) aNil)))) [1]) aNil))))))) (aRaise "BadBits" "given" (aCons (aVar 0) aNil)) aNext)
def F_s3_need_bits : List AV → Sto → Res AV := gcF (aDef 1 B_s3_need_bits)
def B_need_steps : AS := (aIfS (gcT (aOr (aNot (aTest (aCall 1 F_is_integer [] (aCons (aVar 0) aNil)))) (aNot (aTest (aChain gLe gLe (aC (.int 0)) (aVar 0) (aC (.int 18446744073709551616))))))) (aRaise "BadSteps" "given" (aCons (aVar 0) aNil)) aNext)
def F_need_steps : List AV → Sto → Res AV := gcF (aDef 0 B_need_steps)
def B_s3_need_row : AS := (aSeq (aIfS (gcT (aOr (aNot (aTest (aCB (gIsi (kitB "tuple")) (aCons (aVar 0) (aCons (aC (.ty "tuple")) aNil))))) (aOr (aTest (aOp gNe (aCB gLen (aCons (aVar 0) aNil)) (aC (.int 31)))) (aNot (aTest (aCB gAll (aCons (aLc (aIter (aVar 0)) (agName 1) aYes (aCall 1 F_is_word [] (aCons (aVar 1) aNil)) [1]) aNil))))))) (aRaise "BadState" "given" (aCons (aVar 0) aNil)) aNext)
  (aIfS (gcT (aTest (aCB gAll (aCons (aLc (aIter (aVar 0)) (agName 1) aYes (aOp gEq (aVar 1) (aC (.int 0))) [1]) aNil)))) (aRaise "BadState" "given" (aCons (aVar 0) aNil)) aNext))
def F_s3_need_row : List AV → Sto → Res AV := gcF (aDef 1 B_s3_need_row)
def B_Twisted_lane : AS := (aSeq (aIfS (gcT (aOr (aNot (aTest (aCall 1 F_is_integer [] (aCons (aVar 1) aNil)))) (aNot (aTest (aChain gLe gLt (aC (.int 0)) (aVar 1) (aC (.int 32))))))) (aRaise "BadNumber" "given" (aCons (aVar 1) aNil)) aNext)
  (aRet (aCB gTuple (aCons (aLc (aIter (aFld ["Twisted"] "s3_state" (aVar 0))) (agName 2) aYes (aOp gAnd (aOp gShr (aVar 2) (aVar 1)) (aC (.int 1))) [2]) aNil))))
def F_Twisted_lane : List AV → Sto → Res AV := gcF (aDef 1 B_Twisted_lane)
def B_tempered : AS := (aSeq (aDrop (aCall 1 F_need_word [] (aCons (aVar 0) aNil)))
  (aRet (aCall 1 F_own_tempered [] (aCons (aVar 0) aNil))))
def F_tempered : List AV → Sto → Res AV := gcF (aDef 0 B_tempered)
def B_untempered : AS := (aSeq (aDrop (aCall 1 F_need_word [] (aCons (aVar 0) aNil)))
  (aSeq (aAsg (aOp gAnd (aOp gMul (aOp gXor (aVar 0) (aOp gShr (aVar 0) (aC (.int 16)))) (aCall 0 F_undo_factor [] aNil)) (aOp gMinus (aC (.int 4294967296)) (aC (.int 1)))) (agName 0))
  (aRet (aOp gXor (aOp gXor (aVar 0) (aOp gShr (aVar 0) (aC (.int 13)))) (aOp gShr (aVar 0) (aC (.int 26)))))))
def F_untempered : List AV → Sto → Res AV := gcF (aDef 0 B_untempered)
def B_s3_need : AS := (aFor (aIter (aVar 0)) (agName 1) (aIfS (gcT (aNot (aTest (aCall 1 F_is_polynomial [] (aCons (aVar 1) aNil))))) (aRaise "BadPolynomial" "given" (aCons (aVar 1) aNil)) aNext))
def F_s3_need : List AV → Sto → Res AV := gcF (aDef 1 B_s3_need)
def B_s3_need_modulus : AS := (aIfS (gcT (aOr (aNot (aTest (aCall 1 F_is_polynomial [] (aCons (aVar 0) aNil)))) (aTest (aOp gEq (aVar 0) (aC (.int 0)))))) (aRaise "BadPolynomial" "given" (aCons (aVar 0) aNil)) aNext)
def F_s3_need_modulus : List AV → Sto → Res AV := gcF (aDef 0 B_s3_need_modulus)
def B_shortest_rule : AS := (aSeq (aDrop (aCall 1 F_s3_need_bits [] (aCons (aVar 0) aNil)))
  (aSeq (aAsg (aTup (aCons (aC (.int 1)) (aCons (aC (.int 1)) (aCons (aC (.int 0)) (aCons (aC (.int 1)) aNil))))) (agTup 4 (agCons (agName 1) (agCons (agName 2) (agCons (agName 3) (agCons (agName 4) agNil))))))
  (aSeq (aFor (aEnumU (aCons (aVar 0) aNil)) (agTup 2 (agCons (agName 5) (agCons (agName 6) agNil))) (aSeq (aAsg (aLc (aRng2 (aCons (aC (.int 1)) (aCons (aOp gAdd (aVar 3) (aC (.int 1))) aNil))) (agName 8) (aTest (aOp gEq (aOp gAnd (aOp gShr (aVar 1) (aVar 8)) (aC (.int 1))) (aC (.int 1)))) (aOp gIx (aVar 0) (aOp gMinus (aVar 5) (aVar 8))) [8]) (agName 7))
  (aSeq (aIfS (aTest (aOp gEq (aOp gMod (aOp gAdd (aVar 6) (aCB gSum (aCons (aVar 7) aNil))) (aC (.int 2))) (aC (.int 0)))) (aSeq (aAug 4 (gI0 fun i j => .int (i + j)) (aC (.int 1)))
  aCont) aNext)
  (aSeq (aAsg (aVar 1) (agName 9))
  (aSeq (aAsg (aOp gXor (aVar 1) (aOp gShl (aVar 2) (aVar 4))) (agName 1))
  (aIfS (aTest (aOp gLe (aOp gMul (aC (.int 2)) (aVar 3)) (aVar 5))) (aAsg (aTup (aCons (aVar 9) (aCons (aOp gMinus (aOp gAdd (aVar 5) (aC (.int 1))) (aVar 3)) (aCons (aC (.int 1)) aNil)))) (agTup 3 (agCons (agName 2) (agCons (agName 3) (agCons (agName 4) agNil))))) (aAug 4 (gI0 fun i j => .int (i + j)) (aC (.int 1)))))))))
  (aRet (aCB gSum (aCons (aLc (aRng1 (aCons (aOp gAdd (aVar 3) (aC (.int 1))) aNil)) (agName 8) (aTest (aOp gEq (aOp gAnd (aOp gShr (aVar 1) (aVar 8)) (aC (.int 1))) (aC (.int 1)))) (aOp gShl (aC (.int 1)) (aOp gMinus (aVar 3) (aVar 8))) [8]) aNil))))))
def F_shortest_rule : List AV → Sto → Res AV := gcF (aDef 9 B_shortest_rule)
def B_Twisted___init__ : AS := (aSeq (aDrop (aCall 1 F_s3_need_row [] (aCons (aVar 1) aNil)))
  (aSFld ["Twisted"] "s3_state" (aVar 0) (aVar 1)))
def F_Twisted___init__ : List AV → Sto → Res AV := gcF (aDef 0 B_Twisted___init__)
def B_power_of : AS := (aSeq (aDrop (aCallS F_s3_need (aCons (aVar 0) aNil)))
  (aSeq (aIfS (gcT (aNot (aTest (aCall 3 F_s3_is_whole [] (aCons (aVar 1) (aCons (aC (.int 0)) (aCons (aOp gShl (aC (.int 1)) (aC (.int 64))) aNil))))))) (aRaise "BadSteps" "given" (aCons (aVar 1) aNil)) aNext)
  (aSeq (aDrop (aCall 1 F_s3_need_modulus [] (aCons (aVar 2) aNil)))
  (aRet (aCall 3 F_s3_power [] (aCons (aVar 0) (aCons (aVar 1) (aCons (aVar 2) aNil))))))))
def F_power_of : List AV → Sto → Res AV := gcF (aDef 0 B_power_of)
def B_follows : AS := (aSeq (aDrop (aCall 1 F_s3_need_bits [] (aCons (aVar 0) aNil)))
  (aSeq (aDrop (aCall 1 F_s3_need_modulus [] (aCons (aVar 1) aNil)))
  (aSeq (aAsg (aOp gMinus (aUn gBits (aVar 1)) (aC (.int 1))) (agName 2))
  (aSeq (aFor (aRng1 (aCons (aOp gMinus (aCB gLen (aCons (aVar 0) aNil)) (aVar 2)) aNil)) (agName 3) (aSeq (aAsg (aLc (aRng1 (aCons (aOp gAdd (aVar 2) (aC (.int 1))) aNil)) (agName 5) (aTest (aOp gEq (aOp gAnd (aOp gShr (aVar 1) (aVar 5)) (aC (.int 1))) (aC (.int 1)))) (aOp gIx (aVar 0) (aOp gAdd (aVar 3) (aVar 5))) [5]) (agName 4))
  (aIfS (aTest (aOp gEq (aOp gMod (aCB gSum (aCons (aVar 4) aNil)) (aC (.int 2))) (aC (.int 1)))) (aRet (aC (.bl false))) aNext)))
  (aRet (aC (.bl true)))))))
def F_follows : List AV → Sto → Res AV := gcF (aDef 4 B_follows)
def B_rule_length : AS := (aRet (aOp gMinus (aUn gBits (aCall 1 F_shortest_rule [] (aCons (aVar 0) aNil))) (aC (.int 1))))
def F_rule_length : List AV → Sto → Res AV := gcF (aDef 0 B_rule_length)
def B_Twisted_next_word : AS := (aSeq (aAsg (aOp gXor (aOp gIx (aFld ["Twisted"] "s3_state" (aVar 0)) (aC (.int 0))) (aOp gIx (aFld ["Twisted"] "s3_state" (aVar 0)) (aC (.int 3)))) (agName 1))
  (aSeq (aSFld ["Twisted"] "s3_state" (aVar 0) (aOp gAdd (aSl (aFld ["Twisted"] "s3_state" (aVar 0)) (aPart (aC (.int 1))) aNoPart) (aTup (aCons (aVar 1) aNil))))
  (aRet (aCall 1 F_tempered [] (aCons (aVar 1) aNil)))))
def F_Twisted_next_word : List AV → Sto → Res AV := gcF (aDef 1 B_Twisted_next_word)
def B_s3_moved : AS := (aSeq (aAsg (aCall 3 F_power_of [] (aCons (aC (.int 2)) (aCons (aOp gMod (aVar 1) (aC (.int 2147483647))) (aCons (aC (.int 2147483657)) aNil)))) (agName 2))
  (aSeq (aAsg (aCB gList (aCons (aVar 0) aNil)) (agName 3))
  (aSeq (aFor (aRng1 (aCons (aOp gMinus (aC (.int 31)) (aC (.int 1))) aNil)) (agName 4) (aDrop (aBM gAppend (aVar 3) (aCons (aOp gXor (aOp gIx (aVar 3) (aVar 4)) (aOp gIx (aVar 3) (aOp gAdd (aVar 4) (aC (.int 3))))) aNil))))
  (aSeq (aAsg (aLc (aRng1 (aCons (aC (.int 31)) aNil)) (agName 6) (aTest (aOp gEq (aOp gAnd (aOp gShr (aVar 2) (aVar 6)) (aC (.int 1))) (aC (.int 1)))) (aVar 6) [6]) (agName 5))
  (aSeq (aAsg (aLst aNil) (agName 7))
  (aSeq (aFor (aRng1 (aCons (aC (.int 31)) aNil)) (agName 8) (aSeq (aAsg (aC (.int 0)) (agName 9))
  (aSeq (aFor (aIter (aVar 5)) (agName 6) (aAsg (aOp gXor (aVar 9) (aOp gIx (aVar 3) (aOp gAdd (aVar 8) (aVar 6)))) (agName 9)))
  (aDrop (aBM gAppend (aVar 7) (aCons (aVar 9) aNil))))))
  (aRet (aCB gTuple (aCons (aVar 7) aNil)))))))))
def F_s3_moved : List AV → Sto → Res AV := gcF (aDef 8 B_s3_moved)
def B_Twisted_state_after : AS := (aSeq (aDrop (aCall 1 F_s3_need_row [] (aCons (aVar 0) aNil)))
  (aSeq (aDrop (aCall 1 F_need_steps [] (aCons (aVar 1) aNil)))
  (aRet (aCall 2 F_s3_moved [] (aCons (aVar 0) (aCons (aVar 1) aNil))))))
def F_Twisted_state_after : List AV → Sto → Res AV := gcF (aDef 0 B_Twisted_state_after)
def B__law_sums_right : AS := (aSeq (aAsg (aCall 2 F__law_joined [] (aCons (aVar 0) (aCons (aVar 1) aNil))) (agName 3))
  (aSeq (aIfS (aTest (aOp gEq (aCB gMaxU (aCons (aVar 3) aNil)) (aC (.int 0)))) (aRet (aC (.bl true))) aNext)
  (aSeq (aAsg (aCall 2 F__law_joined [] (aCons (aSMeth "Twisted" 2 F_Twisted_state_after (aC (.cls "Twisted")) (aCons (aVar 0) (aCons (aVar 2) aNil))) (aCons (aSMeth "Twisted" 2 F_Twisted_state_after (aC (.cls "Twisted")) (aCons (aVar 1) (aCons (aVar 2) aNil))) aNil))) (agName 4))
  (aSeq (aIfS (gcT (aTest (aOp gNe (aSMeth "Twisted" 2 F_Twisted_state_after (aC (.cls "Twisted")) (aCons (aVar 3) (aCons (aVar 2) aNil))) (aVar 4)))) (aRet (aC (.bl false))) aNext)
  (aSeq (aAsg (aLst (aCons (aMake "Twisted" 2 F_Twisted___init__ [] (aCons (aVar 0) aNil)) (aCons (aMake "Twisted" 2 F_Twisted___init__ [] (aCons (aVar 1) aNil)) (aCons (aMake "Twisted" 2 F_Twisted___init__ [] (aCons (aVar 3) aNil)) aNil)))) (agName 5))
  (aSeq (aFor (aRng1 (aCons (aC (.int 40)) aNil)) (agName 6) (aSeq (aAsg (aLc (aIter (aVar 5)) (agName 10) aYes (aCall 1 F_untempered [] (aCons (aMeth "Twisted" "next_word" 1 F_Twisted_next_word [] (aVar 10) aNil) aNil)) [10]) (agTupL 3 (agCons (agName 7) (agCons (agName 8) (agCons (agName 9) agNil)))))
  (aIfS (aTest (aOp gNe (aOp gXor (aVar 7) (aVar 8)) (aVar 9))) (aRet (aC (.bl false))) aNext)))
  (aRet (aOp gEq (aProp "Twisted" (fun xs s => noErr (F_Twisted_state xs s)) (aOp gIx (aVar 5) (aC (.int 2)))) (aCall 2 F__law_joined [] (aCons (aProp "Twisted" (fun xs s => noErr (F_Twisted_state xs s)) (aOp gIx (aVar 5) (aC (.int 0)))) (aCons (aProp "Twisted" (fun xs s => noErr (F_Twisted_state xs s)) (aOp gIx (aVar 5) (aC (.int 1)))) aNil)))))))))))
def F__law_sums_right : List AV → Sto → Res AV := gcF (aDef 8 B__law_sums_right)
def B__law_lane_right : AS := (aSeq (aAsg (aMake "Twisted" 2 F_Twisted___init__ [] (aCons (aVar 0) aNil)) (agName 3))
  (aSeq (aAsg (aLc (aRng1 (aCons (aC (.int 62)) aNil)) (agName 5) aYes (aCall 1 F_untempered [] (aCons (aMeth "Twisted" "next_word" 1 F_Twisted_next_word [] (aVar 3) aNil) aNil)) [5]) (agName 4))
  (aSeq (aAsg (aOp gAdd (aMeth "Twisted" "lane" 2 F_Twisted_lane [] (aMake "Twisted" 2 F_Twisted___init__ [] (aCons (aVar 0) aNil)) (aCons (aVar 1) aNil)) (aCB gTuple (aCons (aLc (aIter (aVar 4)) (agName 7) aYes (aOp gAnd (aOp gShr (aVar 7) (aVar 1)) (aC (.int 1))) [7]) aNil))) (agName 6))
  (aSeq (aIfS (gcT (aOr (aTest (aOp gNotB (aCall 2 F_follows [] (aCons (aVar 6) (aCons (aC (.int 2147483657)) aNil))) (aC (.bl true)))) (aTest (aOp gNe (aMeth "Twisted" "lane" 2 F_Twisted_lane [] (aVar 3) (aCons (aVar 1) aNil)) (aSl (aVar 6) (aPart (aC (.int 62))) aNoPart))))) (aRet (aC (.bl false))) aNext)
  (aSeq (aIfS (aTest (aOp gEq (aCB gMaxU (aCons (aVar 6) aNil)) (aC (.int 0)))) (aRet (aOp gEq (aMeth "Twisted" "lane" 2 F_Twisted_lane [] (aMake "Twisted" 2 F_Twisted___init__ [] (aCons (aSMeth "Twisted" 2 F_Twisted_state_after (aC (.cls "Twisted")) (aCons (aVar 0) (aCons (aVar 2) aNil))) aNil)) (aCons (aVar 1) aNil)) (aOp gMulV (aTup (aCons (aC (.int 0)) aNil)) (aC (.int 31))))) aNext)
  (aRet (aOp gEq (aLst (aCons (aCall 1 F_shortest_rule [] (aCons (aVar 6) aNil)) (aCons (aCall 1 F_rule_length [] (aCons (aSl (aVar 6) (aPart (aC (.int 31))) aNoPart) aNil)) aNil))) (aLst (aCons (aC (.int 2147483657)) (aCons (aC (.int 31)) aNil))))))))))
def F__law_lane_right : List AV → Sto → Res AV := gcF (aDef 5 B__law_lane_right)
def B__law_alone_right : AS := (aSeq (aAsg (aCB gTuple (aCons (aLc (aIter (aVar 0)) (agName 4) aYes (aOp gAnd (aVar 4) (aOp gShl (aC (.int 1)) (aVar 1))) [4]) aNil)) (agName 3))
  (aSeq (aIfS (aTest (aOp gEq (aCB gMaxU (aCons (aVar 3) aNil)) (aC (.int 0)))) (aRet (aC (.bl true))) aNext)
  (aSeq (aAsg (aSMeth "Twisted" 2 F_Twisted_state_after (aC (.cls "Twisted")) (aCons (aVar 0) (aCons (aVar 2) aNil))) (agName 5))
  (aRet (aOp gEq (aSMeth "Twisted" 2 F_Twisted_state_after (aC (.cls "Twisted")) (aCons (aVar 3) (aCons (aVar 2) aNil))) (aCB gTuple (aCons (aLc (aIter (aVar 5)) (agName 4) aYes (aOp gAnd (aVar 4) (aOp gShl (aC (.int 1)) (aVar 1))) [4]) aNil)))))))
def F__law_alone_right : List AV → Sto → Res AV := gcF (aDef 3 B__law_alone_right)
def B_law : AS := (aSeq (aAsg (aCall 1 F__law_begun [] (aCons (aVar 0) aNil)) (agName 1))
  (aSeq (aFor (aRng1 (aCons (aOp gAdd (aC (.int 1)) (aCB gMin2 (aCons (aC (.int 4)) (aCons (aCB gLen (aCons (aVar 0) aNil)) aNil)))) aNil)) (agName 2) (aSeq (aPar3 3 4 5 (aCons (aCall 1 F__law_start [] (aCons (aVar 1) aNil)) (aCons (aCall 1 F__law_start [] (aCons (aVar 1) aNil)) (aCons (aCall 2 F__law_next [] (aCons (aVar 1) (aCons (aOp gShl (aC (.int 1)) (aC (.int 40))) aNil))) aNil))))
  (aSeq (aAsg (aCall 2 F__law_next [] (aCons (aVar 1) (aCons (aC (.int 32)) aNil))) (agName 6))
  (aSeq (aIfS (gcT (aOr (aNot (aTest (aCall 3 F__law_sums_right [] (aCons (aVar 3) (aCons (aVar 4) (aCons (aVar 5) aNil)))))) (aNot (aTest (aCall 3 F__law_lane_right [] (aCons (aVar 3) (aCons (aVar 6) (aCons (aVar 5) aNil)))))))) (aRet (aC (.bl false))) aNext)
  (aIfS (gcT (aOr (aNot (aTest (aCall 3 F__law_lane_right [] (aCons (aVar 4) (aCons (aOp gMod (aVar 6) (aC (.int 8))) (aCons (aVar 5) aNil)))))) (aNot (aTest (aCall 3 F__law_alone_right [] (aCons (aVar 3) (aCons (aVar 6) (aCons (aVar 5) aNil)))))))) (aRet (aC (.bl false))) aNext)))))
  (aRet (aAndV (aCall 3 F__law_lane_right [] (aCons (aOp gMulV (aTup (aCons (aC (.int 2)) aNil)) (aC (.int 31))) (aCons (aC (.int 0)) (aCons (aC (.int 5)) aNil)))) (aCall 3 F__law_lane_right [] (aCons (aOp gAdd (aTup (aCons (aC (.int 2)) aNil)) (aOp gMulV (aTup (aCons (aC (.int 0)) aNil)) (aC (.int 30)))) (aCons (aC (.int 1)) (aCons (aC (.int 5)) aNil))))))))
def F_law : List AV → Sto → Res AV := aDef 6 B_law
end
end Pf
set_option Elab.async false
set_option linter.all false
set_option maxRecDepth 100000
set_option maxHeartbeats 4000000
set_option exponentiation.threshold 3000
namespace Pf
open PySem PySem.Spec PyProof.Rows L2 Ab
def top (i : Nat) : Stmt := PySem.Challenge.pw_drawstate_k28_whole_lanes_of_twisted_sou.main.body.getD i (.Pass ⟨0, 0, 0, 0⟩)
abbrev s_BadWord___init__ : Stmt := inClass (top 3) 0
theorem sc_BadWord___init__ : FnScope ["self", "given"] ["self", "given"] (C8.fnScope s_BadWord___init__) := C8.fnScope_by (by decide +kernel)
abbrev s_BadState___init__ : Stmt := inClass (top 4) 0
theorem sc_BadState___init__ : FnScope ["self", "given"] ["self", "given"] (C8.fnScope s_BadState___init__) := C8.fnScope_by (by decide +kernel)
abbrev s_BadSteps___init__ : Stmt := inClass (top 5) 0
theorem sc_BadSteps___init__ : FnScope ["self", "given"] ["self", "given"] (C8.fnScope s_BadSteps___init__) := C8.fnScope_by (by decide +kernel)
abbrev s_BadNumber___init__ : Stmt := inClass (top 6) 0
theorem sc_BadNumber___init__ : FnScope ["self", "given"] ["self", "given"] (C8.fnScope s_BadNumber___init__) := C8.fnScope_by (by decide +kernel)
abbrev s_BadPolynomial___init__ : Stmt := inClass (top 7) 0
theorem sc_BadPolynomial___init__ : FnScope ["self", "given"] ["self", "given"] (C8.fnScope s_BadPolynomial___init__) := C8.fnScope_by (by decide +kernel)
abbrev s_BadBits___init__ : Stmt := inClass (top 8) 0
theorem sc_BadBits___init__ : FnScope ["self", "given"] ["self", "given"] (C8.fnScope s_BadBits___init__) := C8.fnScope_by (by decide +kernel)
abbrev s_is_integer : Stmt := top 14
theorem sc_is_integer : FnScope ["value"] ["value"] (C8.fnScope s_is_integer) := C8.fnScope_by (by decide +kernel)
abbrev s_is_word : Stmt := top 15
theorem sc_is_word : FnScope ["value"] ["value"] (C8.fnScope s_is_word) := C8.fnScope_by (by decide +kernel)
abbrev s_need_word : Stmt := top 16
theorem sc_need_word : FnScope ["word"] ["word"] (C8.fnScope s_need_word) := C8.fnScope_by (by decide +kernel)
abbrev s_own_tempered : Stmt := top 17
theorem sc_own_tempered : FnScope ["word"] ["word"] (C8.fnScope s_own_tempered) := C8.fnScope_by (by decide +kernel)
abbrev s_tempered : Stmt := top 18
theorem sc_tempered : FnScope ["word"] ["word"] (C8.fnScope s_tempered) := C8.fnScope_by (by decide +kernel)
abbrev s_undo_factor : Stmt := top 19
theorem sc_undo_factor : FnScope ["found", "turn"] [] (C8.fnScope s_undo_factor) := C8.fnScope_by (by decide +kernel)
abbrev s_untempered : Stmt := top 20
theorem sc_untempered : FnScope ["word"] ["word"] (C8.fnScope s_untempered) := C8.fnScope_by (by decide +kernel)
abbrev s_s3_is_whole : Stmt := top 24
theorem sc_s3_is_whole : FnScope ["value", "least", "most"] ["value", "least", "most"] (C8.fnScope s_s3_is_whole) := C8.fnScope_by (by decide +kernel)
abbrev s_is_polynomial : Stmt := top 25
theorem sc_is_polynomial : FnScope ["value"] ["value"] (C8.fnScope s_is_polynomial) := C8.fnScope_by (by decide +kernel)
abbrev s_s3_need : Stmt := top 26
theorem sc_s3_need : FnScope ["values", "value"] ["values"] (C8.fnScope s_s3_need) := C8.fnScope_by (by decide +kernel)
abbrev s_s3_need_modulus : Stmt := top 27
theorem sc_s3_need_modulus : FnScope ["value"] ["value"] (C8.fnScope s_s3_need_modulus) := C8.fnScope_by (by decide +kernel)
abbrev s_s3_product : Stmt := top 28
theorem sc_s3_product : FnScope ["first", "second", "found", "shifted", "rest"] ["first", "second"] (C8.fnScope s_s3_product) := C8.fnScope_by (by decide +kernel)
abbrev s_s3_parts : Stmt := top 29
theorem sc_s3_parts : FnScope ["number", "modulus", "quotient", "rest", "width", "shift"] ["number", "modulus"] (C8.fnScope s_s3_parts) := C8.fnScope_by (by decide +kernel)
abbrev s_s3_power : Stmt := top 30
theorem sc_s3_power : FnScope ["number", "steps", "modulus", "found", "square", "left"] ["number", "steps", "modulus"] (C8.fnScope s_s3_power) := C8.fnScope_by (by decide +kernel)
abbrev s_power_of : Stmt := top 31
theorem sc_power_of : FnScope ["number", "steps", "modulus"] ["number", "steps", "modulus"] (C8.fnScope s_power_of) := C8.fnScope_by (by decide +kernel)
abbrev s_s3_need_bits : Stmt := top 32
theorem sc_s3_need_bits : FnScope ["bits", "bit"] ["bits"] (C8.fnScope s_s3_need_bits) := C8.fnScope_by (by decide +kernel)
abbrev s_follows : Stmt := top 33
theorem sc_follows : FnScope ["bits", "rule", "size", "begin", "ones", "place"] ["bits", "rule"] (C8.fnScope s_follows) := C8.fnScope_by (by decide +kernel)
abbrev s_shortest_rule : Stmt := top 34
theorem sc_shortest_rule : FnScope ["bits", "rule", "old", "length", "gap", "at", "bit", "ones", "place", "before"] ["bits"] (C8.fnScope s_shortest_rule) := C8.fnScope_by (by decide +kernel)
abbrev s_rule_length : Stmt := top 35
theorem sc_rule_length : FnScope ["bits"] ["bits"] (C8.fnScope s_rule_length) := C8.fnScope_by (by decide +kernel)
abbrev s_need_steps : Stmt := top 39
theorem sc_need_steps : FnScope ["steps"] ["steps"] (C8.fnScope s_need_steps) := C8.fnScope_by (by decide +kernel)
abbrev s_s3_need_row : Stmt := top 46
theorem sc_s3_need_row : FnScope ["row", "word"] ["row"] (C8.fnScope s_s3_need_row) := C8.fnScope_by (by decide +kernel)
abbrev s_s3_moved : Stmt := top 47
theorem sc_s3_moved : FnScope ["state", "steps", "power", "row", "at", "places", "place", "found", "begin", "word"] ["state", "steps"] (C8.fnScope s_s3_moved) := C8.fnScope_by (by decide +kernel)
abbrev s_Twisted___init__ : Stmt := inClass (top 48) 1
theorem sc_Twisted___init__ : FnScope ["self", "state"] ["self", "state"] (C8.fnScope s_Twisted___init__) := C8.fnScope_by (by decide +kernel)
abbrev s_Twisted_state_after : Stmt := inClass (top 48) 5
theorem sc_Twisted_state_after : FnScope ["state", "steps"] ["state", "steps"] (C8.fnScope s_Twisted_state_after) := C8.fnScope_by (by decide +kernel)
abbrev s_Twisted_state : Stmt := inClass (top 48) 6
theorem sc_Twisted_state : FnScope ["self"] ["self"] (C8.fnScope s_Twisted_state) := C8.fnScope_by (by decide +kernel)
abbrev s_Twisted_next_word : Stmt := inClass (top 48) 9
theorem sc_Twisted_next_word : FnScope ["self", "found"] ["self"] (C8.fnScope s_Twisted_next_word) := C8.fnScope_by (by decide +kernel)
abbrev s_Twisted_lane : Stmt := inClass (top 48) 19
theorem sc_Twisted_lane : FnScope ["self", "place", "word"] ["self", "place"] (C8.fnScope s_Twisted_lane) := C8.fnScope_by (by decide +kernel)
abbrev s__law_begun : Stmt := top 50
theorem sc__law_begun : FnScope ["_law_script", "_law_blend", "_law_k", "_law_cell"] ["_law_script"] (C8.fnScope s__law_begun) := C8.fnScope_by (by decide +kernel)
abbrev s__law_next : Stmt := top 51
theorem sc__law_next : FnScope ["_law_draw", "_law_below", "_law_great", "_law_at", "_law_found", "_law_blend"] ["_law_draw", "_law_below"] (C8.fnScope s__law_next) := C8.fnScope_by (by decide +kernel)
abbrev s__law_start : Stmt := top 55
theorem sc__law_start : FnScope ["_law_draw", "_law_way", "_law_found", "_law_at", "_law_word"] ["_law_draw"] (C8.fnScope s__law_start) := C8.fnScope_by (by decide +kernel)
abbrev s__law_joined : Stmt := top 56
theorem sc__law_joined : FnScope ["_law_row", "_law_other", "_law_at", "_law_word"] ["_law_row", "_law_other"] (C8.fnScope s__law_joined) := C8.fnScope_by (by decide +kernel)
abbrev s__law_sums_right : Stmt := top 57
theorem sc__law_sums_right : FnScope ["_law_row", "_law_other", "_law_n", "_law_both", "_law_due", "_law_sources", "_law_turn", "_law_one", "_law_far", "_law_whole", "_law_source"] ["_law_row", "_law_other", "_law_n"] (C8.fnScope s__law_sums_right) := C8.fnScope_by (by decide +kernel)
abbrev s__law_lane_right : Stmt := top 58
theorem sc__law_lane_right : FnScope ["_law_row", "_law_place", "_law_n", "_law_source", "_law_raw", "_law_turn", "_law_bits", "_law_word"] ["_law_row", "_law_place", "_law_n"] (C8.fnScope s__law_lane_right) := C8.fnScope_by (by decide +kernel)
abbrev s__law_alone_right : Stmt := top 59
theorem sc__law_alone_right : FnScope ["_law_row", "_law_place", "_law_n", "_law_alone", "_law_word", "_law_far"] ["_law_row", "_law_place", "_law_n"] (C8.fnScope s__law_alone_right) := C8.fnScope_by (by decide +kernel)
abbrev s_law : Stmt := top 60
theorem sc_law : FnScope ["_law_script", "_law_draw", "_law_turn", "_law_row", "_law_other", "_law_n", "_law_place"] ["_law_script"] (C8.fnScope s_law) := C8.fnScope_by (by decide +kernel)
structure Txt (K : PySem.W.Frag) (mg : Str → Option Value) (C_Twisted C_DrawError C_BadWord C_BadState C_BadSteps C_BadNumber C_BadPolynomial C_BadBits : Addr) : Prop where
  d_BadWord___init__ : ∃ f fd, PySem.W.findIn K (.ref C_BadWord) "__init__" = some (some (.ref f)) ∧ PySem.W.typeIn K (.ref f) = some (.type "function") ∧ C8.Fun K "__init__" "BadWord.__init__" s_BadWord___init__ f fd ∧ Binds K fd ["self", "given"] []
  d_BadState___init__ : ∃ f fd, PySem.W.findIn K (.ref C_BadState) "__init__" = some (some (.ref f)) ∧ PySem.W.typeIn K (.ref f) = some (.type "function") ∧ C8.Fun K "__init__" "BadState.__init__" s_BadState___init__ f fd ∧ Binds K fd ["self", "given"] []
  d_BadSteps___init__ : ∃ f fd, PySem.W.findIn K (.ref C_BadSteps) "__init__" = some (some (.ref f)) ∧ PySem.W.typeIn K (.ref f) = some (.type "function") ∧ C8.Fun K "__init__" "BadSteps.__init__" s_BadSteps___init__ f fd ∧ Binds K fd ["self", "given"] []
  d_BadNumber___init__ : ∃ f fd, PySem.W.findIn K (.ref C_BadNumber) "__init__" = some (some (.ref f)) ∧ PySem.W.typeIn K (.ref f) = some (.type "function") ∧ C8.Fun K "__init__" "BadNumber.__init__" s_BadNumber___init__ f fd ∧ Binds K fd ["self", "given"] []
  d_BadPolynomial___init__ : ∃ f fd, PySem.W.findIn K (.ref C_BadPolynomial) "__init__" = some (some (.ref f)) ∧ PySem.W.typeIn K (.ref f) = some (.type "function") ∧ C8.Fun K "__init__" "BadPolynomial.__init__" s_BadPolynomial___init__ f fd ∧ Binds K fd ["self", "given"] []
  d_BadBits___init__ : ∃ f fd, PySem.W.findIn K (.ref C_BadBits) "__init__" = some (some (.ref f)) ∧ PySem.W.typeIn K (.ref f) = some (.type "function") ∧ C8.Fun K "__init__" "BadBits.__init__" s_BadBits___init__ f fd ∧ Binds K fd ["self", "given"] []
  d_is_integer : ∃ f fd, C8.Def K mg "is_integer" s_is_integer f fd ∧ Binds K fd ["value"] []
  d_is_word : ∃ f fd, C8.Def K mg "is_word" s_is_word f fd ∧ Binds K fd ["value"] []
  d_need_word : ∃ f fd, C8.Def K mg "need_word" s_need_word f fd ∧ Binds K fd ["word"] []
  d_own_tempered : ∃ f fd, C8.Def K mg "own_tempered" s_own_tempered f fd ∧ Binds K fd ["word"] []
  d_tempered : ∃ f fd, C8.Def K mg "tempered" s_tempered f fd ∧ Binds K fd ["word"] []
  d_undo_factor : ∃ f fd, C8.Def K mg "undo_factor" s_undo_factor f fd ∧ Binds K fd [] []
  d_untempered : ∃ f fd, C8.Def K mg "untempered" s_untempered f fd ∧ Binds K fd ["word"] []
  d_s3_is_whole : ∃ f fd, C8.Def K mg "s3_is_whole" s_s3_is_whole f fd ∧ Binds K fd ["value", "least", "most"] []
  d_is_polynomial : ∃ f fd, C8.Def K mg "is_polynomial" s_is_polynomial f fd ∧ Binds K fd ["value"] []
  d_s3_need : ∃ f fd, C8.Def K mg "s3_need" s_s3_need f fd ∧ Gx.StarB fd "values"
  d_s3_need_modulus : ∃ f fd, C8.Def K mg "s3_need_modulus" s_s3_need_modulus f fd ∧ Binds K fd ["value"] []
  d_s3_product : ∃ f fd, C8.Def K mg "s3_product" s_s3_product f fd ∧ Binds K fd ["first", "second"] []
  d_s3_parts : ∃ f fd, C8.Def K mg "s3_parts" s_s3_parts f fd ∧ Binds K fd ["number", "modulus"] []
  d_s3_power : ∃ f fd, C8.Def K mg "s3_power" s_s3_power f fd ∧ Binds K fd ["number", "steps", "modulus"] []
  d_power_of : ∃ f fd, C8.Def K mg "power_of" s_power_of f fd ∧ Binds K fd ["number", "steps", "modulus"] []
  d_s3_need_bits : ∃ f fd, C8.Def K mg "s3_need_bits" s_s3_need_bits f fd ∧ Binds K fd ["bits"] []
  d_follows : ∃ f fd, C8.Def K mg "follows" s_follows f fd ∧ Binds K fd ["bits", "rule"] []
  d_shortest_rule : ∃ f fd, C8.Def K mg "shortest_rule" s_shortest_rule f fd ∧ Binds K fd ["bits"] []
  d_rule_length : ∃ f fd, C8.Def K mg "rule_length" s_rule_length f fd ∧ Binds K fd ["bits"] []
  d_need_steps : ∃ f fd, C8.Def K mg "need_steps" s_need_steps f fd ∧ Binds K fd ["steps"] []
  d_s3_need_row : ∃ f fd, C8.Def K mg "s3_need_row" s_s3_need_row f fd ∧ Binds K fd ["row"] []
  d_s3_moved : ∃ f fd, C8.Def K mg "s3_moved" s_s3_moved f fd ∧ Binds K fd ["state", "steps"] []
  d_Twisted___init__ : ∃ f fd, Mk K C_Twisted f ∧ C8.Fun K "__init__" "Twisted.__init__" s_Twisted___init__ f fd ∧ Binds K fd ["self", "state"] []
  d_Twisted_state_after : ∃ f fd, Gx.SAt K C_Twisted "state_after" f ∧ C8.Fun K "state_after" "Twisted.state_after" s_Twisted_state_after f fd ∧ Binds K fd ["state", "steps"] []
  d_Twisted_state : ∃ p f fd, PropOf K C_Twisted "state" p f ∧ C8.Fun K "state" "Twisted.state" s_Twisted_state f fd ∧ Binds K fd ["self"] []
  d_Twisted_next_word : ∃ f fd, Meth K C_Twisted "next_word" f ∧ C8.Fun K "next_word" "Twisted.next_word" s_Twisted_next_word f fd ∧ Binds K fd ["self"] []
  d_Twisted_lane : ∃ f fd, Meth K C_Twisted "lane" f ∧ C8.Fun K "lane" "Twisted.lane" s_Twisted_lane f fd ∧ Binds K fd ["self", "place"] []
  d__law_begun : ∃ f fd, C8.Def K mg "_law_begun" s__law_begun f fd ∧ Binds K fd ["_law_script"] []
  d__law_next : ∃ f fd, C8.Def K mg "_law_next" s__law_next f fd ∧ Binds K fd ["_law_draw", "_law_below"] []
  d__law_start : ∃ f fd, C8.Def K mg "_law_start" s__law_start f fd ∧ Binds K fd ["_law_draw"] []
  d__law_joined : ∃ f fd, C8.Def K mg "_law_joined" s__law_joined f fd ∧ Binds K fd ["_law_row", "_law_other"] []
  d__law_sums_right : ∃ f fd, C8.Def K mg "_law_sums_right" s__law_sums_right f fd ∧ Binds K fd ["_law_row", "_law_other", "_law_n"] []
  d__law_lane_right : ∃ f fd, C8.Def K mg "_law_lane_right" s__law_lane_right f fd ∧ Binds K fd ["_law_row", "_law_place", "_law_n"] []
  d__law_alone_right : ∃ f fd, C8.Def K mg "_law_alone_right" s__law_alone_right f fd ∧ Binds K fd ["_law_row", "_law_place", "_law_n"] []
  d_law : ∃ f fd, C8.Def K mg "law" s_law f fd ∧ Binds K fd ["_law_script"] [] ∧ ∀ (s : Shared) (v : Value), BindsTo s fd ⟨[v], []⟩ [("_law_script", v)]
  c_WORDS : ∃ u, mg "WORDS" = some u ∧ RelV (.int 4294967296) u
  c_FACTOR : ∃ u, mg "FACTOR" = some u ∧ RelV (.int 3486784401) u
  c_MOST_DIGITS : ∃ u, mg "MOST_DIGITS" = some u ∧ RelV (.int 512) u
  c_MOST_BITS : ∃ u, mg "MOST_BITS" = some u ∧ RelV (.int 512) u
  c_MOST_STEPS : ∃ u, mg "MOST_STEPS" = some u ∧ RelV (.int 18446744073709551616) u
  c_SIZE : ∃ u, mg "SIZE" = some u ∧ RelV (.int 31) u
  c_TAP : ∃ u, mg "TAP" = some u ∧ RelV (.int 3) u
  c_RULE : ∃ u, mg "RULE" = some u ∧ RelV (.int 2147483657) u
  c_PERIOD : ∃ u, mg "PERIOD" = some u ∧ RelV (.int 2147483647) u
  k_Twisted : ∃ u, mg "Twisted" = some u ∧ RelV (.ref C_Twisted) u
  cl_Twisted : Cls K C_Twisted
  is_Twisted : C8.InsC K C_Twisted
  n_Twisted_s3_state : NoAttr K C_Twisted "s3_state"
  k_DrawError : ∃ u, mg "DrawError" = some u ∧ RelV (.ref C_DrawError) u
  g_DrawError : mg "DrawError" = some (.ref C_DrawError)
  r_DrawError : ClX.CRead K C_DrawError (.type "type")
  i_DrawError : PySem.W.findCls K (.ref C_DrawError) (.type "type") "__init__" = some (.val (.builtin "ValueError.__init__"))
  e_BadWord : ExcC K C_BadWord
  e_BadState : ExcC K C_BadState
  e_BadSteps : ExcC K C_BadSteps
  e_BadNumber : ExcC K C_BadNumber
  e_BadPolynomial : ExcC K C_BadPolynomial
  e_BadBits : ExcC K C_BadBits
  k_BadWord : ∃ u, mg "BadWord" = some u ∧ RelV (.ref C_BadWord) u
  g_BadWord : mg "BadWord" = some (.ref C_BadWord)
  y_BadWord : Gx.YexC K C_BadWord "ValueError.__init__"
  f_BadWord : XfC K C_BadWord
  n_BadWord_given : PySem.W.findIn K (.ref C_BadWord) "given" = some none
  t_BadWord_given : PySem.W.takerIn K C_BadWord "given" = some none
  m_BadWord : PySem.W.exmOne K (.ref C_BadWord) (.ref C_BadWord) = some true
  k_BadState : ∃ u, mg "BadState" = some u ∧ RelV (.ref C_BadState) u
  g_BadState : mg "BadState" = some (.ref C_BadState)
  y_BadState : Gx.YexC K C_BadState "ValueError.__init__"
  f_BadState : XfC K C_BadState
  n_BadState_given : PySem.W.findIn K (.ref C_BadState) "given" = some none
  t_BadState_given : PySem.W.takerIn K C_BadState "given" = some none
  m_BadState : PySem.W.exmOne K (.ref C_BadState) (.ref C_BadState) = some true
  k_BadSteps : ∃ u, mg "BadSteps" = some u ∧ RelV (.ref C_BadSteps) u
  g_BadSteps : mg "BadSteps" = some (.ref C_BadSteps)
  y_BadSteps : Gx.YexC K C_BadSteps "ValueError.__init__"
  f_BadSteps : XfC K C_BadSteps
  n_BadSteps_given : PySem.W.findIn K (.ref C_BadSteps) "given" = some none
  t_BadSteps_given : PySem.W.takerIn K C_BadSteps "given" = some none
  m_BadSteps : PySem.W.exmOne K (.ref C_BadSteps) (.ref C_BadSteps) = some true
  k_BadNumber : ∃ u, mg "BadNumber" = some u ∧ RelV (.ref C_BadNumber) u
  g_BadNumber : mg "BadNumber" = some (.ref C_BadNumber)
  y_BadNumber : Gx.YexC K C_BadNumber "ValueError.__init__"
  f_BadNumber : XfC K C_BadNumber
  n_BadNumber_given : PySem.W.findIn K (.ref C_BadNumber) "given" = some none
  t_BadNumber_given : PySem.W.takerIn K C_BadNumber "given" = some none
  m_BadNumber : PySem.W.exmOne K (.ref C_BadNumber) (.ref C_BadNumber) = some true
  k_BadPolynomial : ∃ u, mg "BadPolynomial" = some u ∧ RelV (.ref C_BadPolynomial) u
  g_BadPolynomial : mg "BadPolynomial" = some (.ref C_BadPolynomial)
  y_BadPolynomial : Gx.YexC K C_BadPolynomial "ValueError.__init__"
  f_BadPolynomial : XfC K C_BadPolynomial
  n_BadPolynomial_given : PySem.W.findIn K (.ref C_BadPolynomial) "given" = some none
  t_BadPolynomial_given : PySem.W.takerIn K C_BadPolynomial "given" = some none
  m_BadPolynomial : PySem.W.exmOne K (.ref C_BadPolynomial) (.ref C_BadPolynomial) = some true
  k_BadBits : ∃ u, mg "BadBits" = some u ∧ RelV (.ref C_BadBits) u
  g_BadBits : mg "BadBits" = some (.ref C_BadBits)
  y_BadBits : Gx.YexC K C_BadBits "ValueError.__init__"
  f_BadBits : XfC K C_BadBits
  n_BadBits_given : PySem.W.findIn K (.ref C_BadBits) "given" = some none
  t_BadBits_given : PySem.W.takerIn K C_BadBits "given" = some none
  m_BadBits : PySem.W.exmOne K (.ref C_BadBits) (.ref C_BadBits) = some true
  b_all : mg "all" = none
  b_bool : mg "bool" = none
  b_enumerate : mg "enumerate" = none
  b_int : mg "int" = none
  b_isinstance : mg "isinstance" = none
  b_len : mg "len" = none
  b_list : mg "list" = none
  b_max : mg "max" = none
  b_min : mg "min" = none
  b_range : mg "range" = none
  b_sum : mg "sum" = none
  b_tuple : mg "tuple" = none
  kt_Twisted_int : PySem.W.kitOne K (.ref C_Twisted) (.type "int") = some false
  kt_BadWord_int : PySem.W.kitOne K (.ref C_BadWord) (.type "int") = some false
  kt_BadState_int : PySem.W.kitOne K (.ref C_BadState) (.type "int") = some false
  kt_BadSteps_int : PySem.W.kitOne K (.ref C_BadSteps) (.type "int") = some false
  kt_BadNumber_int : PySem.W.kitOne K (.ref C_BadNumber) (.type "int") = some false
  kt_BadPolynomial_int : PySem.W.kitOne K (.ref C_BadPolynomial) (.type "int") = some false
  kt_BadBits_int : PySem.W.kitOne K (.ref C_BadBits) (.type "int") = some false
  kt_Twisted_bool : PySem.W.kitOne K (.ref C_Twisted) (.type "bool") = some false
  kt_BadWord_bool : PySem.W.kitOne K (.ref C_BadWord) (.type "bool") = some false
  kt_BadState_bool : PySem.W.kitOne K (.ref C_BadState) (.type "bool") = some false
  kt_BadSteps_bool : PySem.W.kitOne K (.ref C_BadSteps) (.type "bool") = some false
  kt_BadNumber_bool : PySem.W.kitOne K (.ref C_BadNumber) (.type "bool") = some false
  kt_BadPolynomial_bool : PySem.W.kitOne K (.ref C_BadPolynomial) (.type "bool") = some false
  kt_BadBits_bool : PySem.W.kitOne K (.ref C_BadBits) (.type "bool") = some false
  kt_Twisted_tuple : PySem.W.kitOne K (.ref C_Twisted) (.type "tuple") = some false
  kt_BadWord_tuple : PySem.W.kitOne K (.ref C_BadWord) (.type "tuple") = some false
  kt_BadState_tuple : PySem.W.kitOne K (.ref C_BadState) (.type "tuple") = some false
  kt_BadSteps_tuple : PySem.W.kitOne K (.ref C_BadSteps) (.type "tuple") = some false
  kt_BadNumber_tuple : PySem.W.kitOne K (.ref C_BadNumber) (.type "tuple") = some false
  kt_BadPolynomial_tuple : PySem.W.kitOne K (.ref C_BadPolynomial) (.type "tuple") = some false
  kt_BadBits_tuple : PySem.W.kitOne K (.ref C_BadBits) (.type "tuple") = some false
abbrev Wk (K : PySem.W.Frag) (κ : String → Addr) : Wl := { K := K, κ := κ, T := [], live := ["Twisted"], xlive := ["BadWord", "BadState", "BadSteps", "BadNumber", "BadPolynomial", "BadBits"], inv := fun _ => True, cl := fun _ _ _ _ => trivial }
section
variable {P : Program} {w : World} {K : PySem.W.Frag} {mg : Str → Option Value} {base : Heap} {κ : String → Addr}
theorem kit_int (T : Txt K mg (κ "Twisted") (κ "DrawError") (κ "BadWord") (κ "BadState") (κ "BadSteps") (κ "BadNumber") (κ "BadPolynomial") (κ "BadBits")) : KitOk (Wk K κ) (kitB "int") := kitOk_of (.cons (kitE (show kitP "NoneType" "int" = some false by decide) (if_pos (by decide)) (if_pos (by decide)) Sx.kb_NoneType_int) (.cons (kitE (show kitP "bool" "int" = some true by decide) (if_pos (by decide)) (if_pos (by decide)) Sx.kb_bool_int) (.cons (kitE (show kitP "int" "int" = some true by decide) (if_pos (by decide)) (if_pos (by decide)) Sx.kb_int_int) (.cons (kitE (show kitP "str" "int" = some false by decide) (if_pos (by decide)) (if_pos (by decide)) Sx.kb_str_int) (.cons (kitE (show kitP "tuple" "int" = some false by decide) (if_pos (by decide)) (if_pos (by decide)) Sx.kb_tuple_int) (.cons (kitE (show kitP "list" "int" = some false by decide) (if_pos (by decide)) (if_pos (by decide)) Sx.kb_list_int) (.cons (kitE (show kitP "dict" "int" = some false by decide) (if_pos (by decide)) (if_pos (by decide)) Sx.kb_dict_int) .nil))))))) (.cons (kitE (show kitP "Twisted" "int" = some false by decide) (if_neg (by decide)) (if_pos (by decide)) T.kt_Twisted_int) .nil) (.cons (kitE (show kitP "BadWord" "int" = some false by decide) (if_neg (by decide)) (if_pos (by decide)) T.kt_BadWord_int) (.cons (kitE (show kitP "BadState" "int" = some false by decide) (if_neg (by decide)) (if_pos (by decide)) T.kt_BadState_int) (.cons (kitE (show kitP "BadSteps" "int" = some false by decide) (if_neg (by decide)) (if_pos (by decide)) T.kt_BadSteps_int) (.cons (kitE (show kitP "BadNumber" "int" = some false by decide) (if_neg (by decide)) (if_pos (by decide)) T.kt_BadNumber_int) (.cons (kitE (show kitP "BadPolynomial" "int" = some false by decide) (if_neg (by decide)) (if_pos (by decide)) T.kt_BadPolynomial_int) (.cons (kitE (show kitP "BadBits" "int" = some false by decide) (if_neg (by decide)) (if_pos (by decide)) T.kt_BadBits_int) .nil)))))) (.cons ⟨by decide, T.is_Twisted⟩ .nil) (.cons ⟨by decide, T.e_BadWord⟩ (.cons ⟨by decide, T.e_BadState⟩ (.cons ⟨by decide, T.e_BadSteps⟩ (.cons ⟨by decide, T.e_BadNumber⟩ (.cons ⟨by decide, T.e_BadPolynomial⟩ (.cons ⟨by decide, T.e_BadBits⟩ .nil))))))
theorem kit_bool (T : Txt K mg (κ "Twisted") (κ "DrawError") (κ "BadWord") (κ "BadState") (κ "BadSteps") (κ "BadNumber") (κ "BadPolynomial") (κ "BadBits")) : KitOk (Wk K κ) (kitB "bool") := kitOk_of (.cons (kitE (show kitP "NoneType" "bool" = some false by decide) (if_pos (by decide)) (if_pos (by decide)) Sx.kb_NoneType_bool) (.cons (kitE (show kitP "bool" "bool" = some true by decide) (if_pos (by decide)) (if_pos (by decide)) Sx.kb_bool_bool) (.cons (kitE (show kitP "int" "bool" = some false by decide) (if_pos (by decide)) (if_pos (by decide)) Sx.kb_int_bool) (.cons (kitE (show kitP "str" "bool" = some false by decide) (if_pos (by decide)) (if_pos (by decide)) Sx.kb_str_bool) (.cons (kitE (show kitP "tuple" "bool" = some false by decide) (if_pos (by decide)) (if_pos (by decide)) Sx.kb_tuple_bool) (.cons (kitE (show kitP "list" "bool" = some false by decide) (if_pos (by decide)) (if_pos (by decide)) Sx.kb_list_bool) (.cons (kitE (show kitP "dict" "bool" = some false by decide) (if_pos (by decide)) (if_pos (by decide)) Sx.kb_dict_bool) .nil))))))) (.cons (kitE (show kitP "Twisted" "bool" = some false by decide) (if_neg (by decide)) (if_pos (by decide)) T.kt_Twisted_bool) .nil) (.cons (kitE (show kitP "BadWord" "bool" = some false by decide) (if_neg (by decide)) (if_pos (by decide)) T.kt_BadWord_bool) (.cons (kitE (show kitP "BadState" "bool" = some false by decide) (if_neg (by decide)) (if_pos (by decide)) T.kt_BadState_bool) (.cons (kitE (show kitP "BadSteps" "bool" = some false by decide) (if_neg (by decide)) (if_pos (by decide)) T.kt_BadSteps_bool) (.cons (kitE (show kitP "BadNumber" "bool" = some false by decide) (if_neg (by decide)) (if_pos (by decide)) T.kt_BadNumber_bool) (.cons (kitE (show kitP "BadPolynomial" "bool" = some false by decide) (if_neg (by decide)) (if_pos (by decide)) T.kt_BadPolynomial_bool) (.cons (kitE (show kitP "BadBits" "bool" = some false by decide) (if_neg (by decide)) (if_pos (by decide)) T.kt_BadBits_bool) .nil)))))) (.cons ⟨by decide, T.is_Twisted⟩ .nil) (.cons ⟨by decide, T.e_BadWord⟩ (.cons ⟨by decide, T.e_BadState⟩ (.cons ⟨by decide, T.e_BadSteps⟩ (.cons ⟨by decide, T.e_BadNumber⟩ (.cons ⟨by decide, T.e_BadPolynomial⟩ (.cons ⟨by decide, T.e_BadBits⟩ .nil))))))
theorem kit_tuple (T : Txt K mg (κ "Twisted") (κ "DrawError") (κ "BadWord") (κ "BadState") (κ "BadSteps") (κ "BadNumber") (κ "BadPolynomial") (κ "BadBits")) : KitOk (Wk K κ) (kitB "tuple") := kitOk_of (.cons (kitE (show kitP "NoneType" "tuple" = some false by decide) (if_pos (by decide)) (if_pos (by decide)) Sx.kb_NoneType_tuple) (.cons (kitE (show kitP "bool" "tuple" = some false by decide) (if_pos (by decide)) (if_pos (by decide)) Sx.kb_bool_tuple) (.cons (kitE (show kitP "int" "tuple" = some false by decide) (if_pos (by decide)) (if_pos (by decide)) Sx.kb_int_tuple) (.cons (kitE (show kitP "str" "tuple" = some false by decide) (if_pos (by decide)) (if_pos (by decide)) Sx.kb_str_tuple) (.cons (kitE (show kitP "tuple" "tuple" = some true by decide) (if_pos (by decide)) (if_pos (by decide)) Sx.kb_tuple_tuple) (.cons (kitE (show kitP "list" "tuple" = some false by decide) (if_pos (by decide)) (if_pos (by decide)) Sx.kb_list_tuple) (.cons (kitE (show kitP "dict" "tuple" = some false by decide) (if_pos (by decide)) (if_pos (by decide)) Sx.kb_dict_tuple) .nil))))))) (.cons (kitE (show kitP "Twisted" "tuple" = some false by decide) (if_neg (by decide)) (if_pos (by decide)) T.kt_Twisted_tuple) .nil) (.cons (kitE (show kitP "BadWord" "tuple" = some false by decide) (if_neg (by decide)) (if_pos (by decide)) T.kt_BadWord_tuple) (.cons (kitE (show kitP "BadState" "tuple" = some false by decide) (if_neg (by decide)) (if_pos (by decide)) T.kt_BadState_tuple) (.cons (kitE (show kitP "BadSteps" "tuple" = some false by decide) (if_neg (by decide)) (if_pos (by decide)) T.kt_BadSteps_tuple) (.cons (kitE (show kitP "BadNumber" "tuple" = some false by decide) (if_neg (by decide)) (if_pos (by decide)) T.kt_BadNumber_tuple) (.cons (kitE (show kitP "BadPolynomial" "tuple" = some false by decide) (if_neg (by decide)) (if_pos (by decide)) T.kt_BadPolynomial_tuple) (.cons (kitE (show kitP "BadBits" "tuple" = some false by decide) (if_neg (by decide)) (if_pos (by decide)) T.kt_BadBits_tuple) .nil)))))) (.cons ⟨by decide, T.is_Twisted⟩ .nil) (.cons ⟨by decide, T.e_BadWord⟩ (.cons ⟨by decide, T.e_BadState⟩ (.cons ⟨by decide, T.e_BadSteps⟩ (.cons ⟨by decide, T.e_BadNumber⟩ (.cons ⟨by decide, T.e_BadPolynomial⟩ (.cons ⟨by decide, T.e_BadBits⟩ .nil))))))
theorem exc_BadWord (T : Txt K mg (κ "Twisted") (κ "DrawError") (κ "BadWord") (κ "BadState") (κ "BadSteps") (κ "BadNumber") (κ "BadPolynomial") (κ "BadBits")) : Gx.ExcMkY P w K mg base 1 "BadWord" (κ "BadWord") "given" := by
  obtain ⟨f, fd, hi, ht, F, b⟩ := T.d_BadWord___init__
  refine ⟨f, fd, _, _, T.y_BadWord, hi, ht, C8.fn0 F sc_BadWord___init__ (fun vs H Q E h => ?_) (fun cdv A outer s H vs Q E hr h => ?_), b, T.g_BadWord⟩
  · obtain ⟨p, v, rfl, _⟩ := h; rfl
  · obtain ⟨p, v, rfl, hp, q⟩ := h
    refine ⟨_, (pss_cons (ps_expr (Gx.pe_bi (by rfl) T.g_DrawError T.r_DrawError T.i_DrawError (by decide +kernel) (pa_cons (pv 0) (pa_cons pe_str pa_nil)))) (pss_one (Gx.ps_ostY (initId := "ValueError.__init__") (pv 0) (pv 1)))), ?_⟩
    exact ⟨_, rfl, p, (κ "BadWord"), [.str "not a word"], rfl, Nat.le_of_ble_eq_true rfl, T.y_BadWord, hp, _, rfl, _, rfl, p, (κ "BadWord"), rfl, T.y_BadWord, T.t_BadWord_given, hp, q⟩
theorem exc_BadState (T : Txt K mg (κ "Twisted") (κ "DrawError") (κ "BadWord") (κ "BadState") (κ "BadSteps") (κ "BadNumber") (κ "BadPolynomial") (κ "BadBits")) : Gx.ExcMkY P w K mg base 1 "BadState" (κ "BadState") "given" := by
  obtain ⟨f, fd, hi, ht, F, b⟩ := T.d_BadState___init__
  refine ⟨f, fd, _, _, T.y_BadState, hi, ht, C8.fn0 F sc_BadState___init__ (fun vs H Q E h => ?_) (fun cdv A outer s H vs Q E hr h => ?_), b, T.g_BadState⟩
  · obtain ⟨p, v, rfl, _⟩ := h; rfl
  · obtain ⟨p, v, rfl, hp, q⟩ := h
    refine ⟨_, (pss_cons (ps_expr (Gx.pe_bi (by rfl) T.g_DrawError T.r_DrawError T.i_DrawError (by decide +kernel) (pa_cons (pv 0) (pa_cons pe_str pa_nil)))) (pss_one (Gx.ps_ostY (initId := "ValueError.__init__") (pv 0) (pv 1)))), ?_⟩
    exact ⟨_, rfl, p, (κ "BadState"), [.str "not a state"], rfl, Nat.le_of_ble_eq_true rfl, T.y_BadState, hp, _, rfl, _, rfl, p, (κ "BadState"), rfl, T.y_BadState, T.t_BadState_given, hp, q⟩
theorem exc_BadSteps (T : Txt K mg (κ "Twisted") (κ "DrawError") (κ "BadWord") (κ "BadState") (κ "BadSteps") (κ "BadNumber") (κ "BadPolynomial") (κ "BadBits")) : Gx.ExcMkY P w K mg base 1 "BadSteps" (κ "BadSteps") "given" := by
  obtain ⟨f, fd, hi, ht, F, b⟩ := T.d_BadSteps___init__
  refine ⟨f, fd, _, _, T.y_BadSteps, hi, ht, C8.fn0 F sc_BadSteps___init__ (fun vs H Q E h => ?_) (fun cdv A outer s H vs Q E hr h => ?_), b, T.g_BadSteps⟩
  · obtain ⟨p, v, rfl, _⟩ := h; rfl
  · obtain ⟨p, v, rfl, hp, q⟩ := h
    refine ⟨_, (pss_cons (ps_expr (Gx.pe_bi (by rfl) T.g_DrawError T.r_DrawError T.i_DrawError (by decide +kernel) (pa_cons (pv 0) (pa_cons pe_str pa_nil)))) (pss_one (Gx.ps_ostY (initId := "ValueError.__init__") (pv 0) (pv 1)))), ?_⟩
    exact ⟨_, rfl, p, (κ "BadSteps"), [.str "not a number of steps"], rfl, Nat.le_of_ble_eq_true rfl, T.y_BadSteps, hp, _, rfl, _, rfl, p, (κ "BadSteps"), rfl, T.y_BadSteps, T.t_BadSteps_given, hp, q⟩
theorem exc_BadNumber (T : Txt K mg (κ "Twisted") (κ "DrawError") (κ "BadWord") (κ "BadState") (κ "BadSteps") (κ "BadNumber") (κ "BadPolynomial") (κ "BadBits")) : Gx.ExcMkY P w K mg base 1 "BadNumber" (κ "BadNumber") "given" := by
  obtain ⟨f, fd, hi, ht, F, b⟩ := T.d_BadNumber___init__
  refine ⟨f, fd, _, _, T.y_BadNumber, hi, ht, C8.fn0 F sc_BadNumber___init__ (fun vs H Q E h => ?_) (fun cdv A outer s H vs Q E hr h => ?_), b, T.g_BadNumber⟩
  · obtain ⟨p, v, rfl, _⟩ := h; rfl
  · obtain ⟨p, v, rfl, hp, q⟩ := h
    refine ⟨_, (pss_cons (ps_expr (Gx.pe_bi (by rfl) T.g_DrawError T.r_DrawError T.i_DrawError (by decide +kernel) (pa_cons (pv 0) (pa_cons pe_str pa_nil)))) (pss_one (Gx.ps_ostY (initId := "ValueError.__init__") (pv 0) (pv 1)))), ?_⟩
    exact ⟨_, rfl, p, (κ "BadNumber"), [.str "not an allowed number"], rfl, Nat.le_of_ble_eq_true rfl, T.y_BadNumber, hp, _, rfl, _, rfl, p, (κ "BadNumber"), rfl, T.y_BadNumber, T.t_BadNumber_given, hp, q⟩
theorem exc_BadPolynomial (T : Txt K mg (κ "Twisted") (κ "DrawError") (κ "BadWord") (κ "BadState") (κ "BadSteps") (κ "BadNumber") (κ "BadPolynomial") (κ "BadBits")) : Gx.ExcMkY P w K mg base 1 "BadPolynomial" (κ "BadPolynomial") "given" := by
  obtain ⟨f, fd, hi, ht, F, b⟩ := T.d_BadPolynomial___init__
  refine ⟨f, fd, _, _, T.y_BadPolynomial, hi, ht, C8.fn0 F sc_BadPolynomial___init__ (fun vs H Q E h => ?_) (fun cdv A outer s H vs Q E hr h => ?_), b, T.g_BadPolynomial⟩
  · obtain ⟨p, v, rfl, _⟩ := h; rfl
  · obtain ⟨p, v, rfl, hp, q⟩ := h
    refine ⟨_, (pss_cons (ps_expr (Gx.pe_bi (by rfl) T.g_DrawError T.r_DrawError T.i_DrawError (by decide +kernel) (pa_cons (pv 0) (pa_cons pe_str pa_nil)))) (pss_one (Gx.ps_ostY (initId := "ValueError.__init__") (pv 0) (pv 1)))), ?_⟩
    exact ⟨_, rfl, p, (κ "BadPolynomial"), [.str "not an allowed polynomial"], rfl, Nat.le_of_ble_eq_true rfl, T.y_BadPolynomial, hp, _, rfl, _, rfl, p, (κ "BadPolynomial"), rfl, T.y_BadPolynomial, T.t_BadPolynomial_given, hp, q⟩
theorem exc_BadBits (T : Txt K mg (κ "Twisted") (κ "DrawError") (κ "BadWord") (κ "BadState") (κ "BadSteps") (κ "BadNumber") (κ "BadPolynomial") (κ "BadBits")) : Gx.ExcMkY P w K mg base 1 "BadBits" (κ "BadBits") "given" := by
  obtain ⟨f, fd, hi, ht, F, b⟩ := T.d_BadBits___init__
  refine ⟨f, fd, _, _, T.y_BadBits, hi, ht, C8.fn0 F sc_BadBits___init__ (fun vs H Q E h => ?_) (fun cdv A outer s H vs Q E hr h => ?_), b, T.g_BadBits⟩
  · obtain ⟨p, v, rfl, _⟩ := h; rfl
  · obtain ⟨p, v, rfl, hp, q⟩ := h
    refine ⟨_, (pss_cons (ps_expr (Gx.pe_bi (by rfl) T.g_DrawError T.r_DrawError T.i_DrawError (by decide +kernel) (pa_cons (pv 0) (pa_cons pe_str pa_nil)))) (pss_one (Gx.ps_ostY (initId := "ValueError.__init__") (pv 0) (pv 1)))), ?_⟩
    exact ⟨_, rfl, p, (κ "BadBits"), [.str "not a row of bits"], rfl, Nat.le_of_ble_eq_true rfl, T.y_BadBits, hp, _, rfl, _, rfl, p, (κ "BadBits"), rfl, T.y_BadBits, T.t_BadBits_given, hp, q⟩
theorem calx_is_integer (T : Txt K mg (κ "Twisted") (κ "DrawError") (κ "BadWord") (κ "BadState") (κ "BadSteps") (κ "BadNumber") (κ "BadPolynomial") (κ "BadBits")) : Gx.CalX P w K mg base 1 "is_integer" (spF (Wk K κ) 1 F_is_integer) := by
  obtain ⟨f, fd, F, b⟩ := T.d_is_integer
  refine Gx.calX F b sc_is_integer (fun vs H Q E h => spF.len h) (fun cdv A outer s H vs Q E hr h => ?_)
  have hu := hu_of hr
  have hu64 := hr.units
  have hu65 := Ab.u65 hr
  exact ⟨_, (pss_one (ps_ret (pe_and (pe_callB (show CallR _ _ (Ab.rIsiU K) by exact Ab.call_isiU) (by rfl) T.b_isinstance (by decide +kernel) (pa_cons (pv 0) (pa_cons (pe_bltn (v := .ty "int") (by rfl) T.b_int (by decide +kernel) rfl) pa_nil))) (pe_one (pe_not (pe_callB (show CallR _ _ (Ab.rIsiU K) by exact Ab.call_isiU) (by rfl) T.b_isinstance (by decide +kernel) (pa_cons (pv 0) (pa_cons (pe_bltn (v := .ty "bool") (by rfl) T.b_bool (by decide +kernel) rfl) pa_nil)))))))), Ab.DS.dfn (spF_gc h) rfl (DS.ret (DE.andV (DE.cb (DB.isi (kit_int T)) (DA.cons DE.var (DA.cons (DE.c fun _ => .ty _) DA.nil)) NEL.isi) (DE.notV (DE.cb (DB.isi (kit_bool T)) (DA.cons DE.var (DA.cons (DE.c fun _ => .ty _) DA.nil)) NEL.isi))))⟩
theorem calx_own_tempered (T : Txt K mg (κ "Twisted") (κ "DrawError") (κ "BadWord") (κ "BadState") (κ "BadSteps") (κ "BadNumber") (κ "BadPolynomial") (κ "BadBits")) : Gx.CalX P w K mg base 1 "own_tempered" (spF (Wk K κ) 1 F_own_tempered) := by
  obtain ⟨f, fd, F, b⟩ := T.d_own_tempered
  refine Gx.calX F b sc_own_tempered (fun vs H Q E h => spF.len h) (fun cdv A outer s H vs Q E hr h => ?_)
  have hu := hu_of hr
  have hu64 := hr.units
  have hu65 := Ab.u65 hr
  exact ⟨_, (pss_cons (ps_set (i := 0) sc_own_tempered.nd rfl (.inl rfl) (pe_op op_and (pe_op Ab.op_mulU (pe_op op_xor (pv 0) (pe_op op_shr (pv 0) pe_int)) (C8.pe_gc (by rfl) T.c_FACTOR)) (pe_op op_sub (C8.pe_gc (by rfl) T.c_WORDS) pe_int)))
      (pss_one (ps_ret (pe_op op_xor (pv 0) (pe_op op_shr (pv 0) pe_int))))), Ab.DS.dfn (spF_gc h) rfl (DS.seq (DS.asg (DE.op (DR.i0 fun _ _ _ => .int _) (DE.op DR.mul (DE.op (DR.i0 fun _ _ _ => .int _) DE.var (DE.op (DR.i fun _ _ _ => .int _) DE.var (DE.c fun _ => .int _) NE2.i) NE2.i0) (DE.c fun _ => .int _) NE2.mul) (DE.op (DR.i0 fun _ _ _ => .int _) (DE.c fun _ => .int _) (DE.c fun _ => .int _) NE2.i0) NE2.i0) DG.name Goes.name)
      (DS.ret (DE.op (DR.i0 fun _ _ _ => .int _) DE.var (DE.op (DR.i fun _ _ _ => .int _) DE.var (DE.c fun _ => .int _) NE2.i) NE2.i0)))⟩
theorem calx_undo_factor (T : Txt K mg (κ "Twisted") (κ "DrawError") (κ "BadWord") (κ "BadState") (κ "BadSteps") (κ "BadNumber") (κ "BadPolynomial") (κ "BadBits")) : Gx.CalX P w K mg base 1 "undo_factor" (spF (Wk K κ) 0 F_undo_factor) := by
  obtain ⟨f, fd, F, b⟩ := T.d_undo_factor
  refine Gx.calX F b sc_undo_factor (fun vs H Q E h => spF.len h) (fun cdv A outer s H vs Q E hr h => ?_)
  have hu := hu_of hr
  have hu64 := hr.units
  have hu65 := Ab.u65 hr
  exact ⟨_, (pss_cons (ps_set (i := 0) sc_undo_factor.nd rfl (.inl rfl) (C8.pe_gc (by rfl) T.c_FACTOR))
      (pss_cons (ps_for (passes_of rfl) rfl (pi_range1 rfl T.b_range (pa_cons pe_int pa_nil)) (pg_name (i := 1) sc_undo_factor.nd rfl (.inl rfl)) (pss_one (ps_set (i := 0) sc_undo_factor.nd rfl (.inl rfl) (pe_op op_and (pe_op Ab.op_mulU (pv 0) (pe_op op_sub pe_int (pe_op Ab.op_mulU (C8.pe_gc (by rfl) T.c_FACTOR) (pv 0)))) (pe_op op_sub (C8.pe_gc (by rfl) T.c_WORDS) pe_int)))))
      (pss_one (ps_ret (pv 0))))), Ab.DS.dfn (spF_gc h) rfl (DS.seq (DS.asg (DE.c fun _ => .int _) DG.name Goes.name)
      (DS.seq (DS.forS (DI.rng1 (DA.cons (DE.c fun _ => .int _) DA.nil)) DG.name Goes.name (DS.asg (DE.op (DR.i0 fun _ _ _ => .int _) (DE.op DR.mul DE.var (DE.op (DR.i0 fun _ _ _ => .int _) (DE.c fun _ => .int _) (DE.op DR.mul (DE.c fun _ => .int _) DE.var NE2.mul) NE2.i0) NE2.mul) (DE.op (DR.i0 fun _ _ _ => .int _) (DE.c fun _ => .int _) (DE.c fun _ => .int _) NE2.i0) NE2.i0) DG.name Goes.name))
      (DS.ret DE.var)))⟩
theorem calx_s3_product (T : Txt K mg (κ "Twisted") (κ "DrawError") (κ "BadWord") (κ "BadState") (κ "BadSteps") (κ "BadNumber") (κ "BadPolynomial") (κ "BadBits")) : Gx.CalX P w K mg base 1 "s3_product" (spF (Wk K κ) 2 F_s3_product) := by
  obtain ⟨f, fd, F, b⟩ := T.d_s3_product
  refine Gx.calX F b sc_s3_product (fun vs H Q E h => spF.len h) (fun cdv A outer s H vs Q E hr h => ?_)
  have hu := hu_of hr
  have hu64 := hr.units
  have hu65 := Ab.u65 hr
  exact ⟨_, (pss_cons (ps_set (i := 2) sc_s3_product.nd rfl (.inl rfl) pe_int)
      (pss_cons (ps_set (i := 3) sc_s3_product.nd rfl (.inl rfl) (pv 0))
      (pss_cons (ps_set (i := 4) sc_s3_product.nd rfl (.inl rfl) (pv 1))
      (pss_cons (ps_while (passes_of rfl) (pt_cmpR op_gt (pv 4) pe_int (nomark _)) (pss_cons (ps_if (pt_cmpR (show OpR _ _ (Ab.rEqU K) by exact Ab.op_eqU hu64) (pe_op op_and (pv 4) pe_int) pe_int (nomark _)) (pss_one (ps_set (i := 2) sc_s3_product.nd rfl (.inl rfl) (pe_op op_xor (pv 2) (pv 3)))) pss_nil)
      (pss_cons (ps_set (i := 3) sc_s3_product.nd rfl (.inl rfl) (pe_op op_shlW (pv 3) pe_int))
      (pss_one (ps_set (i := 4) sc_s3_product.nd rfl (.inl rfl) (pe_op op_shr (pv 4) pe_int))))))
      (pss_one (ps_ret (pv 2))))))), Ab.DS.dfn (spF_gc h) rfl (DS.seq (DS.asg (DE.c fun _ => .int _) DG.name Goes.name)
      (DS.seq (DS.asg DE.var DG.name Goes.name)
      (DS.seq (DS.asg DE.var DG.name Goes.name)
      (DS.seq (DS.whileS (DT.test (DE.op (DR.i0 fun _ _ _ => .bl _) DE.var (DE.c fun _ => .int _) NE2.i0)) (DS.seq (DS.ifs (DT.test (DE.op DR.eq (DE.op (DR.i0 fun _ _ _ => .int _) DE.var (DE.c fun _ => .int _) NE2.i0) (DE.c fun _ => .int _) NE2.eq)) (DS.asg (DE.op (DR.i0 fun _ _ _ => .int _) DE.var DE.var NE2.i0) DG.name Goes.name) DS.next)
      (DS.seq (DS.asg (DE.op (DR.i fun _ _ _ => .int _) DE.var (DE.c fun _ => .int _) NE2.i) DG.name Goes.name)
      (DS.asg (DE.op (DR.i fun _ _ _ => .int _) DE.var (DE.c fun _ => .int _) NE2.i) DG.name Goes.name))))
      (DS.ret DE.var)))))⟩
theorem calx_s3_parts (T : Txt K mg (κ "Twisted") (κ "DrawError") (κ "BadWord") (κ "BadState") (κ "BadSteps") (κ "BadNumber") (κ "BadPolynomial") (κ "BadBits")) : Gx.CalX P w K mg base 1 "s3_parts" (spF (Wk K κ) 2 F_s3_parts) := by
  obtain ⟨f, fd, F, b⟩ := T.d_s3_parts
  refine Gx.calX F b sc_s3_parts (fun vs H Q E h => spF.len h) (fun cdv A outer s H vs Q E hr h => ?_)
  have hu := hu_of hr
  have hu64 := hr.units
  have hu65 := Ab.u65 hr
  exact ⟨_, (pss_cons (ps_set (i := 2) sc_s3_parts.nd rfl (.inl rfl) pe_int)
      (pss_cons (ps_set (i := 3) sc_s3_parts.nd rfl (.inl rfl) (pv 0))
      (pss_cons (ps_set (i := 4) sc_s3_parts.nd rfl (.inl rfl) (pe_bits (pv 1)))
      (pss_cons (ps_while (passes_of rfl) (pt_cmpR op_ge (pe_bits (pv 3)) (pv 4) (nomark _)) (pss_cons (ps_set (i := 5) sc_s3_parts.nd rfl (.inl rfl) (pe_op op_sub (pe_bits (pv 3)) (pv 4)))
      (pss_cons (ps_set (i := 2) sc_s3_parts.nd rfl (.inl rfl) (pe_op op_or (pv 2) (pe_op op_shlW pe_int (pv 5))))
      (pss_one (ps_set (i := 3) sc_s3_parts.nd rfl (.inl rfl) (pe_op op_xor (pv 3) (pe_op op_shlW (pv 1) (pv 5))))))))
      (pss_one (ps_ret (pe_tup (pa_cons (pv 2) (pa_cons (pv 3) pa_nil))))))))), Ab.DS.dfn (spF_gc h) rfl (DS.seq (DS.asg (DE.c fun _ => .int _) DG.name Goes.name)
      (DS.seq (DS.asg DE.var DG.name Goes.name)
      (DS.seq (DS.asg (DE.bits DE.var) DG.name Goes.name)
      (DS.seq (DS.whileS (DT.test (DE.op (DR.i0 fun _ _ _ => .bl _) (DE.bits DE.var) DE.var NE2.i0)) (DS.seq (DS.asg (DE.op (DR.i0 fun _ _ _ => .int _) (DE.bits DE.var) DE.var NE2.i0) DG.name Goes.name)
      (DS.seq (DS.asg (DE.op (DR.i0 fun _ _ _ => .int _) DE.var (DE.op (DR.i fun _ _ _ => .int _) (DE.c fun _ => .int _) DE.var NE2.i) NE2.i0) DG.name Goes.name)
      (DS.asg (DE.op (DR.i0 fun _ _ _ => .int _) DE.var (DE.op (DR.i fun _ _ _ => .int _) DE.var DE.var NE2.i) NE2.i0) DG.name Goes.name))))
      (DS.ret (DE.tup (DA.cons DE.var (DA.cons DE.var DA.nil))))))))⟩
theorem prop_Twisted_state (T : Txt K mg (κ "Twisted") (κ "DrawError") (κ "BadWord") (κ "BadState") (κ "BadSteps") (κ "BadNumber") (κ "BadPolynomial") (κ "BadBits")) : Gx.PrpC P w K mg base 1 (κ "Twisted") "state" (spF (Wk K κ) 1 (fun xs s => noErr (F_Twisted_state xs s))) := by
  obtain ⟨pp, f, fd, pr, F, b⟩ := T.d_Twisted_state
  refine Gx.prp0 T.cl_Twisted pr F b sc_Twisted_state (fun vs H Q E h => spF.len h) (fun cdv A outer s H vs Q E hr h => ?_)
  have hu := hu_of hr
  have hu64 := hr.units
  have hu65 := Ab.u65 hr
  have h := spF_noErr (E' := fun _ _ _ => False) h
  exact ⟨_, (pss_one (ps_ret (pe_fld (pv 0) rfl))), Ab.DS.dfn (spF_gc h) rfl (DS.ret (DE.fld (.cons ⟨T.cl_Twisted, T.n_Twisted_s3_state⟩ .nil) DE.var))⟩
theorem calx__law_begun (T : Txt K mg (κ "Twisted") (κ "DrawError") (κ "BadWord") (κ "BadState") (κ "BadSteps") (κ "BadNumber") (κ "BadPolynomial") (κ "BadBits")) : Gx.CalX P w K mg base 1 "_law_begun" (spF (Wk K κ) 1 F__law_begun) := by
  obtain ⟨f, fd, F, b⟩ := T.d__law_begun
  refine Gx.calX F b sc__law_begun (fun vs H Q E h => spF.len h) (fun cdv A outer s H vs Q E hr h => ?_)
  have hu := hu_of hr
  have hu64 := hr.units
  have hu65 := Ab.u65 hr
  exact ⟨_, (pss_cons (ps_set (i := 1) sc__law_begun.nd rfl (.inl rfl) (pe_op (show OpR _ _ (Ab.rAddU K) by exact Ab.op_addU) pe_int (pe_op Ab.op_mulU pe_int (pe_callB (show CallR _ _ (Ab.rLenU K) by exact Ab.call_lenU) (by rfl) T.b_len PySem.boot_len (pa_cons (pv 0) pa_nil)))))
      (pss_cons (ps_for (passes_of rfl) rfl (show PI _ _ _ (Ab.enU K _) by exact Ab.PI.or (pi_enum (by rfl) T.b_enumerate (pa_cons (pv 0) pa_nil)) (Gx.pi_enT (by rfl) T.b_enumerate (pa_cons (pv 0) pa_nil))) (show PG _ _ (gTup K 2 _) by exact pg_tup rfl (pgs_cons (pg_name (i := 2) sc__law_begun.nd rfl (.inl rfl)) (pgs_cons (pg_name (i := 3) sc__law_begun.nd rfl (.inl rfl)) pgs_nil))) (pss_one (ps_set (i := 1) sc__law_begun.nd rfl (.inl rfl) (pe_op op_mod (pe_op (show OpR _ _ (Ab.rAddU K) by exact Ab.op_addU) (pe_op (show OpR _ _ (Ab.rAddU K) by exact Ab.op_addU) (pe_op Ab.op_mulU (pv 1) pe_int) (pv 3)) (pe_op Ab.op_mulU pe_int (pv 2))) pe_int))))
      (pss_one (ps_ret (pe_disp (pps_cons pe_str (pv 1) (pps_cons pe_str (pe_lc (own := [("_law_cell", 3)]) rfl sc__law_begun.nd (show PI _ _ _ (Ab.iterU K _) by exact Ab.PI.or (pi_list (pv 0)) (Ab.PI.or (pi_tup (pv 0)) (pi_str (pv 0)))) (blkOk_by (N := ["_law_script", "_law_blend", "_law_k", "_law_cell"]) (sc := C8.fnScope s__law_begun) (by decide +kernel)) (fun _ _ _ _ _ => (pg_name (i := 3) sc__law_begun.nd rfl (.inl rfl))) (fun _ _ _ _ _ => (pts_one (pt_cmpR op_ge (pv 3) (pe_op op_pow pe_int pe_int) (nomark _)))) (fun _ _ _ _ _ => (pv 3))) (pps_cons pe_str pe_int pps_nil))) rfl rfl (by simp) (by decide)))))), Ab.DS.dfn (spF_gc h) rfl (DS.seq (DS.asg (DE.op DR.add (DE.c fun _ => .int _) (DE.op DR.mul (DE.c fun _ => .int _) (DE.cb DB.len (DA.cons DE.var DA.nil) NEL.len) NE2.mul) NE2.add) DG.name Goes.name)
      (DS.seq (DS.forS (DI.enumU (DA.cons DE.var DA.nil)) (DG.tup (DGs.cons DG.name (DGs.cons DG.name DGs.nil))) (Goes.tup (GoesL.cons Goes.name (GoesL.cons Goes.name GoesL.nil))) (DS.asg (DE.op (DR.i fun _ _ _ => .int _) (DE.op DR.add (DE.op DR.add (DE.op DR.mul DE.var (DE.c fun _ => .int _) NE2.mul) DE.var NE2.add) (DE.op DR.mul (DE.c fun _ => .int _) DE.var NE2.mul) NE2.add) (DE.c fun _ => .int _) NE2.i) DG.name Goes.name))
      (DS.ret (DE.disp (.cons (DE.c fun _ => .str _) DE.var (.cons (DE.c fun _ => .str _) (DE.lc (DI.iter DE.var) DG.name Goes.name (WT.name (by decide)) (DT.test (DE.op (DR.i0 fun _ _ _ => .bl _) DE.var (DE.op (DR.i fun _ _ _ => .int _) (DE.c fun _ => .int _) (DE.c fun _ => .int _) NE2.i) NE2.i0)) DE.var) (.cons (DE.c fun _ => .str _) (DE.c fun _ => .int _) .nil)))))))⟩
theorem calx__law_next (T : Txt K mg (κ "Twisted") (κ "DrawError") (κ "BadWord") (κ "BadState") (κ "BadSteps") (κ "BadNumber") (κ "BadPolynomial") (κ "BadBits")) : Gx.CalX P w K mg base 1 "_law_next" (spF (Wk K κ) 2 F__law_next) := by
  obtain ⟨f, fd, F, b⟩ := T.d__law_next
  refine Gx.calX F b sc__law_next (fun vs H Q E h => spF.len h) (fun cdv A outer s H vs Q E hr h => ?_)
  have hu := hu_of hr
  have hu64 := hr.units
  have hu65 := Ab.u65 hr
  exact ⟨_, (pss_cons (ps_asg (pe_tup (pa_cons (pe_op (show OpR _ _ (Ab.rAddU K) by exact Ab.op_addU) (pe_dget hu (pv 0) pe_str (fun _ _ => rfl)) pe_int) (pa_cons (pe_dget hu (pv 0) pe_str (fun _ _ => rfl)) pa_nil))) (show PG _ _ (gTup K 2 _) by exact pg_tup rfl (pgs_cons (pg_sub (pv 0) pe_str (set_dict hu)) (pgs_cons (pg_name (i := 2) sc__law_next.nd rfl (.inl rfl)) pgs_nil))))
      (pss_cons (ps_set (i := 3) sc__law_next.nd rfl (.inl rfl) (pe_op op_mod (pe_dget hu (pv 0) pe_str (fun _ _ => rfl)) (pe_callB (Rd.call_mx2 rfl) (by rfl) T.b_max (by decide +kernel) (pa_cons pe_int (pa_cons (pe_callB (show CallR _ _ (Ab.rLenU K) by exact Ab.call_lenU) (by rfl) T.b_len PySem.boot_len (pa_cons (pv 2) pa_nil)) pa_nil)))))
      (pss_cons (ps_if (PW.pt (pw_and (pt_cmpR (show OpR _ _ (Ab.rNeU K) by exact Ab.op_neU hu64) (pv 2) (pe_lst pa_nil) (nomark _)) (pw_and1 (pt_cmpR op_gt (pe_ix (show IxR _ (Ab.rIxU K) by exact Ab.ix_U) (pv 2) (pv 3) (fun _ _ => rfl)) pe_int (nomark _))))) (pss_cons (ps_set (i := 4) sc__law_next.nd rfl (.inl rfl) (pe_op op_mod (pe_ix (show IxR _ (Ab.rIxU K) by exact Ab.ix_U) (pv 2) (pv 3) (fun _ _ => rfl)) (pv 1)))
      (pss_cons (ps_asg (pe_op op_fdivW (pe_ix (show IxR _ (Ab.rIxU K) by exact Ab.ix_U) (pv 2) (pv 3) (fun _ _ => rfl)) (pv 1)) (pg_sub (pv 2) (pv 3) set_list))
      (pss_one (ps_ret (pv 4))))) pss_nil)
      (pss_cons (ps_set (i := 5) sc__law_next.nd rfl (.inl rfl) (pe_op (show OpR _ _ (Ab.rAddU K) by exact Ab.op_addU) (pe_op (show OpR _ _ (Ab.rAddU K) by exact Ab.op_addU) (pe_op Ab.op_mulU (pe_dget hu (pv 0) pe_str (fun _ _ => rfl)) pe_int) (pe_op Ab.op_mulU pe_int (pe_dget hu (pv 0) pe_str (fun _ _ => rfl)))) pe_int))
      (pss_cons (ps_dput hu (pv 0) pe_str (pe_op op_mod (pv 5) pe_int) rfl)
      (pss_one (ps_ret (pe_op op_mod (pe_op op_fdivW (pe_dget hu (pv 0) pe_str (fun _ _ => rfl)) pe_int) (pv 1))))))))), Ab.DS.dfn (spF_gc h) rfl (DS.seq (DS.asg (DE.tup (DA.cons (DE.op DR.add (DE.dget DE.var (DE.c fun _ => .str _)) (DE.c fun _ => .int _) NE2.add) (DA.cons (DE.dget DE.var (DE.c fun _ => .str _)) DA.nil))) (DG.tup (DGs.cons (DG.subD DE.var (DE.c fun _ => .str _)) (DGs.cons DG.name DGs.nil))) (Goes.tup (GoesL.cons Goes.sub (GoesL.cons Goes.name GoesL.nil))))
      (DS.seq (DS.asg (DE.op (DR.i fun _ _ _ => .int _) (DE.dget DE.var (DE.c fun _ => .str _)) (DE.cb DB.max2 (DA.cons (DE.c fun _ => .int _) (DA.cons (DE.cb DB.len (DA.cons DE.var DA.nil) NEL.len) DA.nil)) NEL.max2) NE2.i) DG.name Goes.name)
      (DS.seq (DS.ifs (DT.gc (DT.and (DT.test (DE.op DR.ne DE.var (DE.lst DA.nil) NE2.ne)) (DT.test (DE.op (DR.i0 fun _ _ _ => .bl _) (DE.op DR.ix DE.var DE.var NE2.ix) (DE.c fun _ => .int _) NE2.i0)))) (DS.seq (DS.asg (DE.op (DR.i fun _ _ _ => .int _) (DE.op DR.ix DE.var DE.var NE2.ix) DE.var NE2.i) DG.name Goes.name)
      (DS.seq (DS.asg (DE.op (DR.i fun _ _ _ => .int _) (DE.op DR.ix DE.var DE.var NE2.ix) DE.var NE2.i) (DG.subL DE.var DE.var) Goes.sub)
      (DS.ret DE.var))) DS.next)
      (DS.seq (DS.asg (DE.op DR.add (DE.op DR.add (DE.op DR.mul (DE.dget DE.var (DE.c fun _ => .str _)) (DE.c fun _ => .int _) NE2.mul) (DE.op DR.mul (DE.c fun _ => .int _) (DE.dget DE.var (DE.c fun _ => .str _)) NE2.mul) NE2.add) (DE.c fun _ => .int _) NE2.add) DG.name Goes.name)
      (DS.seq (DS.dput DE.var (DE.c fun _ => .str _) (DE.op (DR.i fun _ _ _ => .int _) DE.var (DE.c fun _ => .int _) NE2.i))
      (DS.ret (DE.op (DR.i fun _ _ _ => .int _) (DE.op (DR.i fun _ _ _ => .int _) (DE.dget DE.var (DE.c fun _ => .str _)) (DE.c fun _ => .int _) NE2.i) DE.var NE2.i)))))))⟩
theorem calx__law_joined (T : Txt K mg (κ "Twisted") (κ "DrawError") (κ "BadWord") (κ "BadState") (κ "BadSteps") (κ "BadNumber") (κ "BadPolynomial") (κ "BadBits")) : Gx.CalX P w K mg base 1 "_law_joined" (spF (Wk K κ) 2 F__law_joined) := by
  obtain ⟨f, fd, F, b⟩ := T.d__law_joined
  refine Gx.calX F b sc__law_joined (fun vs H Q E h => spF.len h) (fun cdv A outer s H vs Q E hr h => ?_)
  have hu := hu_of hr
  have hu64 := hr.units
  have hu65 := Ab.u65 hr
  exact ⟨_, (pss_one (ps_ret (pe_callTy Gx.call_tupOf (by rfl) T.b_tuple (by decide +kernel) (pa_cons (pe_lc (own := [("_law_at", 2), ("_law_word", 3)]) rfl sc__law_joined.nd (show PI _ _ _ (Ab.enU K _) by exact Ab.PI.or (pi_enum (by rfl) T.b_enumerate (pa_cons (pv 0) pa_nil)) (Gx.pi_enT (by rfl) T.b_enumerate (pa_cons (pv 0) pa_nil))) (blkOk_by (N := ["_law_row", "_law_other", "_law_at", "_law_word"]) (sc := C8.fnScope s__law_joined) (by decide +kernel)) (fun _ _ _ _ _ => (show PG _ _ (gTup K 2 _) by exact pg_tup rfl (pgs_cons (pg_name (i := 2) sc__law_joined.nd rfl (.inl rfl)) (pgs_cons (pg_name (i := 3) sc__law_joined.nd rfl (.inl rfl)) pgs_nil)))) (fun _ _ _ _ _ => pts_nil) (fun _ _ _ _ _ => (pe_op op_xor (pv 3) (pe_ix (show IxR _ (Ab.rIxU K) by exact Ab.ix_U) (pv 1) (pv 2) (fun _ _ => rfl))))) pa_nil)))), Ab.DS.dfn (spF_gc h) rfl (DS.ret (DE.cb DB.tuple (DA.cons (DE.lc (DI.enumU (DA.cons DE.var DA.nil)) (DG.tup (DGs.cons DG.name (DGs.cons DG.name DGs.nil))) (Goes.tup (GoesL.cons Goes.name (GoesL.cons Goes.name GoesL.nil))) (WT.tup (WTs.cons (WT.name (by decide)) (WTs.cons (WT.name (by decide)) WTs.nil))) DT.yes (DE.op (DR.i0 fun _ _ _ => .int _) DE.var (DE.op DR.ix DE.var DE.var NE2.ix) NE2.i0)) DA.nil) NEL.tuple))⟩
theorem calx_is_word (T : Txt K mg (κ "Twisted") (κ "DrawError") (κ "BadWord") (κ "BadState") (κ "BadSteps") (κ "BadNumber") (κ "BadPolynomial") (κ "BadBits")) : Gx.CalX P w K mg base 2 "is_word" (spF (Wk K κ) 1 F_is_word) := by
  obtain ⟨f, fd, F, b⟩ := T.d_is_word
  refine Gx.calX F b sc_is_word (fun vs H Q E h => spF.len h) (fun cdv A outer s H vs Q E hr h => ?_)
  have hu := hu_of hr
  have hu64 := hr.units
  have hu65 := Ab.u65 hr
  exact ⟨_, (pss_one (ps_ret (pe_and (Gx.pe_cx (calx_is_integer T) Gx.takes_cx (fun _ _ _ _ h => h) hr (by omega) (by rfl) (pa_cons (pv 0) pa_nil)) (pe_one (pe_chain op_le op_lt pe_int (pv 0) (C8.pe_gc (by rfl) T.c_WORDS)))))), Ab.DS.dfn (spF_gc h) rfl (DS.ret (DE.andV (DE.call (fun _ => .nil) (DA.cons DE.var DA.nil)) (DE.chain (DR.i0 fun _ _ _ => .bl _) (DR.i0 fun _ _ _ => .bl _) (DE.c fun _ => .int _) DE.var (DE.c fun _ => .int _) NE2.i0 NE2.i0)))⟩
theorem calx_s3_is_whole (T : Txt K mg (κ "Twisted") (κ "DrawError") (κ "BadWord") (κ "BadState") (κ "BadSteps") (κ "BadNumber") (κ "BadPolynomial") (κ "BadBits")) : Gx.CalX P w K mg base 2 "s3_is_whole" (spF (Wk K κ) 3 F_s3_is_whole) := by
  obtain ⟨f, fd, F, b⟩ := T.d_s3_is_whole
  refine Gx.calX F b sc_s3_is_whole (fun vs H Q E h => spF.len h) (fun cdv A outer s H vs Q E hr h => ?_)
  have hu := hu_of hr
  have hu64 := hr.units
  have hu65 := Ab.u65 hr
  exact ⟨_, (pss_one (ps_ret (pe_and (Gx.pe_cx (calx_is_integer T) Gx.takes_cx (fun _ _ _ _ h => h) hr (by omega) (by rfl) (pa_cons (pv 0) pa_nil)) (pe_one (pe_chain op_le op_le (pv 1) (pv 0) (pv 2)))))), Ab.DS.dfn (spF_gc h) rfl (DS.ret (DE.andV (DE.call (fun _ => .nil) (DA.cons DE.var DA.nil)) (DE.chain (DR.i0 fun _ _ _ => .bl _) (DR.i0 fun _ _ _ => .bl _) DE.var DE.var DE.var NE2.i0 NE2.i0)))⟩
theorem calx_s3_power (T : Txt K mg (κ "Twisted") (κ "DrawError") (κ "BadWord") (κ "BadState") (κ "BadSteps") (κ "BadNumber") (κ "BadPolynomial") (κ "BadBits")) : Gx.CalX P w K mg base 2 "s3_power" (spF (Wk K κ) 3 F_s3_power) := by
  obtain ⟨f, fd, F, b⟩ := T.d_s3_power
  refine Gx.calX F b sc_s3_power (fun vs H Q E h => spF.len h) (fun cdv A outer s H vs Q E hr h => ?_)
  have hu := hu_of hr
  have hu64 := hr.units
  have hu65 := Ab.u65 hr
  exact ⟨_, (pss_cons (ps_set (i := 3) sc_s3_power.nd rfl (.inl rfl) (pe_ix (show IxR _ (Ab.rIxU K) by exact Ab.ix_U) (Gx.pe_cx (calx_s3_parts T) Gx.takes_cx (fun _ _ _ _ h => h) hr (by omega) (by rfl) (pa_cons pe_int (pa_cons (pv 2) pa_nil))) pe_int (fun _ _ => rfl)))
      (pss_cons (ps_set (i := 4) sc_s3_power.nd rfl (.inl rfl) (pe_ix (show IxR _ (Ab.rIxU K) by exact Ab.ix_U) (Gx.pe_cx (calx_s3_parts T) Gx.takes_cx (fun _ _ _ _ h => h) hr (by omega) (by rfl) (pa_cons (pv 0) (pa_cons (pv 2) pa_nil))) pe_int (fun _ _ => rfl)))
      (pss_cons (ps_set (i := 5) sc_s3_power.nd rfl (.inl rfl) (pv 1))
      (pss_cons (ps_while (passes_of rfl) (pt_cmpR op_gt (pv 5) pe_int (nomark _)) (pss_cons (ps_if (pt_cmpR (show OpR _ _ (Ab.rEqU K) by exact Ab.op_eqU hu64) (pe_op op_and (pv 5) pe_int) pe_int (nomark _)) (pss_one (ps_set (i := 3) sc_s3_power.nd rfl (.inl rfl) (pe_ix (show IxR _ (Ab.rIxU K) by exact Ab.ix_U) (Gx.pe_cx (calx_s3_parts T) Gx.takes_cx (fun _ _ _ _ h => h) hr (by omega) (by rfl) (pa_cons (Gx.pe_cx (calx_s3_product T) Gx.takes_cx (fun _ _ _ _ h => h) hr (by omega) (by rfl) (pa_cons (pv 3) (pa_cons (pv 4) pa_nil))) (pa_cons (pv 2) pa_nil))) pe_int (fun _ _ => rfl)))) pss_nil)
      (pss_cons (ps_set (i := 4) sc_s3_power.nd rfl (.inl rfl) (pe_ix (show IxR _ (Ab.rIxU K) by exact Ab.ix_U) (Gx.pe_cx (calx_s3_parts T) Gx.takes_cx (fun _ _ _ _ h => h) hr (by omega) (by rfl) (pa_cons (Gx.pe_cx (calx_s3_product T) Gx.takes_cx (fun _ _ _ _ h => h) hr (by omega) (by rfl) (pa_cons (pv 4) (pa_cons (pv 4) pa_nil))) (pa_cons (pv 2) pa_nil))) pe_int (fun _ _ => rfl)))
      (pss_one (ps_set (i := 5) sc_s3_power.nd rfl (.inl rfl) (pe_op op_shr (pv 5) pe_int))))))
      (pss_one (ps_ret (pv 3))))))), Ab.DS.dfn (spF_gc h) rfl (DS.seq (DS.asg (DE.gc (DE.op DR.ix (DE.call (fun _ => .nil) (DA.cons (DE.c fun _ => .int _) (DA.cons DE.var DA.nil))) (DE.c fun _ => .int _) NE2.ix)) DG.name Goes.name)
      (DS.seq (DS.asg (DE.gc (DE.op DR.ix (DE.call (fun _ => .nil) (DA.cons DE.var (DA.cons DE.var DA.nil))) (DE.c fun _ => .int _) NE2.ix)) DG.name Goes.name)
      (DS.seq (DS.asg DE.var DG.name Goes.name)
      (DS.seq (DS.whileS (DT.test (DE.op (DR.i0 fun _ _ _ => .bl _) DE.var (DE.c fun _ => .int _) NE2.i0)) (DS.seq (DS.ifs (DT.test (DE.op DR.eq (DE.op (DR.i0 fun _ _ _ => .int _) DE.var (DE.c fun _ => .int _) NE2.i0) (DE.c fun _ => .int _) NE2.eq)) (DS.asg (DE.gc (DE.op DR.ix (DE.call (fun _ => .nil) (DA.cons (DE.call (fun _ => .nil) (DA.cons DE.var (DA.cons DE.var DA.nil))) (DA.cons DE.var DA.nil))) (DE.c fun _ => .int _) NE2.ix)) DG.name Goes.name) DS.next)
      (DS.seq (DS.asg (DE.gc (DE.op DR.ix (DE.call (fun _ => .nil) (DA.cons (DE.call (fun _ => .nil) (DA.cons DE.var (DA.cons DE.var DA.nil))) (DA.cons DE.var DA.nil))) (DE.c fun _ => .int _) NE2.ix)) DG.name Goes.name)
      (DS.asg (DE.op (DR.i fun _ _ _ => .int _) DE.var (DE.c fun _ => .int _) NE2.i) DG.name Goes.name))))
      (DS.ret DE.var)))))⟩
theorem calx__law_start (T : Txt K mg (κ "Twisted") (κ "DrawError") (κ "BadWord") (κ "BadState") (κ "BadSteps") (κ "BadNumber") (κ "BadPolynomial") (κ "BadBits")) : Gx.CalX P w K mg base 2 "_law_start" (spF (Wk K κ) 1 F__law_start) := by
  obtain ⟨f, fd, F, b⟩ := T.d__law_start
  refine Gx.calX F b sc__law_start (fun vs H Q E h => spF.len h) (fun cdv A outer s H vs Q E hr h => ?_)
  have hu := hu_of hr
  have hu64 := hr.units
  have hu65 := Ab.u65 hr
  exact ⟨_, (pss_cons (ps_par (i := 1) (j := 2) rfl sc__law_start.nd rfl rfl (by decide) rfl rfl (pa_cons (Gx.pe_cx (calx__law_next T) Gx.takes_cx (fun _ _ _ _ h => h) hr (by omega) (by rfl) (pa_cons (pv 0) (pa_cons pe_int pa_nil))) (pa_cons (pe_lst pa_nil) pa_nil)) (by rfl))
      (pss_cons (ps_for (passes_of rfl) rfl (pi_range1 rfl T.b_range (pa_cons pe_int pa_nil)) (pg_name (i := 3) sc__law_start.nd rfl (.inl rfl)) (pss_cons (ps_set (i := 4) sc__law_start.nd rfl (.inl rfl) (pe_ifExp (pt_cmpR (show OpR _ _ (Ab.rEqU K) by exact Ab.op_eqU hu64) (pv 1) pe_int (nomark _)) (pe_ix (show IxR _ (Ab.rIxU K) by exact Ab.ix_U) (pe_lst (pa_cons pe_int (pa_cons pe_int (pa_cons pe_int pa_nil)))) (Gx.pe_cx (calx__law_next T) Gx.takes_cx (fun _ _ _ _ h => h) hr (by omega) (by rfl) (pa_cons (pv 0) (pa_cons pe_int pa_nil))) (fun _ _ => rfl)) (Gx.pe_cx (calx__law_next T) Gx.takes_cx (fun _ _ _ _ h => h) hr (by omega) (by rfl) (pa_cons (pv 0) (pa_cons (pe_ix (show IxR _ (Ab.rIxU K) by exact Ab.ix_U) (pe_lst (pa_cons pe_int (pa_cons pe_int (pa_cons pe_int pa_nil)))) (pe_op op_sub (pv 1) pe_int) (fun _ _ => rfl)) pa_nil)))))
      (pss_one (ps_expr (show PE _ _ (tBM K "list" _ _ _) by exact pe_bm PySem.F.plainAttrs_list PySem.F.slot_list_append PySem.F.type_list_append mt_append (pv 2) (pa_cons (pv 4) pa_nil))))))
      (pss_one (ps_ret (pe_ifExp (pt_cmpR op_gt (pe_callB (show CallR _ _ (Ab.rMaxU K) by exact Ab.call_maxU rfl) (by rfl) T.b_max (by decide +kernel) (pa_cons (pv 2) pa_nil)) pe_int (nomark _)) (pe_callTy Gx.call_tupOf (by rfl) T.b_tuple (by decide +kernel) (pa_cons (pv 2) pa_nil)) (pe_op (show OpR _ _ (Ab.rAddU K) by exact Ab.op_addU) (pe_tup (pa_cons pe_int pa_nil)) (pe_callTy Gx.call_tupOf (by rfl) T.b_tuple (by decide +kernel) (pa_cons (pe_slice (show SlR _ (Ab.rSlU K) by exact Ab.sl_U) (pv 2) (po_some pe_int) po_none) pa_nil)))))))), Ab.DS.dfn (spF_gc h) rfl (DS.seq (DS.par (DA.cons (DE.call (fun _ => .nil) (DA.cons DE.var (DA.cons (DE.c fun _ => .int _) DA.nil))) (DA.cons (DE.lst DA.nil) DA.nil)))
      (DS.seq (DS.forS (DI.rng1 (DA.cons (DE.c fun _ => .int _) DA.nil)) DG.name Goes.name (DS.seq (DS.asg (DE.gc (DE.ifE (DT.test (DE.op DR.eq DE.var (DE.c fun _ => .int _) NE2.eq)) (DE.op DR.ix (DE.lst (DA.cons (DE.c fun _ => .int _) (DA.cons (DE.c fun _ => .int _) (DA.cons (DE.c fun _ => .int _) DA.nil)))) (DE.call (fun _ => .nil) (DA.cons DE.var (DA.cons (DE.c fun _ => .int _) DA.nil))) NE2.ix) (DE.call (fun _ => .nil) (DA.cons DE.var (DA.cons (DE.op DR.ix (DE.lst (DA.cons (DE.c fun _ => .int _) (DA.cons (DE.c fun _ => .int _) (DA.cons (DE.c fun _ => .int _) DA.nil)))) (DE.op (DR.i0 fun _ _ _ => .int _) DE.var (DE.c fun _ => .int _) NE2.i0) NE2.ix) DA.nil))))) DG.name Goes.name)
      (DS.drop (DE.bm DM.append NEM.append DE.var (DA.cons DE.var DA.nil)))))
      (DS.ret (DE.ifE (DT.test (DE.op (DR.i0 fun _ _ _ => .bl _) (DE.cb DB.maxU (DA.cons DE.var DA.nil) NEL.maxU) (DE.c fun _ => .int _) NE2.i0)) (DE.cb DB.tuple (DA.cons DE.var DA.nil) NEL.tuple) (DE.op DR.add (DE.tup (DA.cons (DE.c fun _ => .int _) DA.nil)) (DE.cb DB.tuple (DA.cons (DE.sl DE.var (DO.part (DE.c fun _ => .int _)) DO.no) DA.nil) NEL.tuple) NE2.add)))))⟩
theorem calx_need_word (T : Txt K mg (κ "Twisted") (κ "DrawError") (κ "BadWord") (κ "BadState") (κ "BadSteps") (κ "BadNumber") (κ "BadPolynomial") (κ "BadBits")) : Gx.CalX P w K mg base 3 "need_word" (spF (Wk K κ) 1 F_need_word) := by
  obtain ⟨f, fd, F, b⟩ := T.d_need_word
  refine Gx.calX F b sc_need_word (fun vs H Q E h => spF.len h) (fun cdv A outer s H vs Q E hr h => ?_)
  have hu := hu_of hr
  have hu64 := hr.units
  have hu65 := Ab.u65 hr
  exact ⟨_, (pss_one (ps_if (pt_not (pt_val (Gx.pe_cx (calx_is_word T) Gx.takes_cx (fun _ _ _ _ h => h) hr (by omega) (by rfl) (pa_cons (pv 0) pa_nil)))) (pss_one (ps_raise rfl Gx.takes_cx (Gx.pmk_exY (exc_BadWord T) hr (by omega) (by rfl) (pa_cons (pv 0) pa_nil)))) pss_nil)), Ab.DS.dfn (spF_gc h) rfl (DS.ifs (DT.gc (DT.not (DT.b (DE.call (fun _ => .nil) (DA.cons DE.var DA.nil))))) (DS.raise (Wx := fun cls d _ H => E cls d H) (show "BadWord" ∈ (["BadWord", "BadState", "BadSteps", "BadNumber", "BadPolynomial", "BadBits"] : List String) by decide) (DA.cons DE.var DA.nil)) DS.next)⟩
theorem calx_is_polynomial (T : Txt K mg (κ "Twisted") (κ "DrawError") (κ "BadWord") (κ "BadState") (κ "BadSteps") (κ "BadNumber") (κ "BadPolynomial") (κ "BadBits")) : Gx.CalX P w K mg base 3 "is_polynomial" (spF (Wk K κ) 1 F_is_polynomial) := by
  obtain ⟨f, fd, F, b⟩ := T.d_is_polynomial
  refine Gx.calX F b sc_is_polynomial (fun vs H Q E h => spF.len h) (fun cdv A outer s H vs Q E hr h => ?_)
  have hu := hu_of hr
  have hu64 := hr.units
  have hu65 := Ab.u65 hr
  exact ⟨_, (pss_one (ps_ret (Gx.pe_cx (calx_s3_is_whole T) Gx.takes_cx (fun _ _ _ _ h => h) hr (by omega) (by rfl) (pa_cons (pv 0) (pa_cons pe_int (pa_cons (pe_op op_sub (pe_op op_shlW pe_int (C8.pe_gc (by rfl) T.c_MOST_DIGITS)) pe_int) pa_nil)))))), Ab.DS.dfn (spF_gc h) rfl (DS.ret (DE.call (fun _ => .nil) (DA.cons DE.var (DA.cons (DE.c fun _ => .int _) (DA.cons (DE.op (DR.i0 fun _ _ _ => .int _) (DE.op (DR.i fun _ _ _ => .int _) (DE.c fun _ => .int _) (DE.c fun _ => .int _) NE2.i) (DE.c fun _ => .int _) NE2.i0) DA.nil)))))⟩
theorem calx_s3_need_bits (T : Txt K mg (κ "Twisted") (κ "DrawError") (κ "BadWord") (κ "BadState") (κ "BadSteps") (κ "BadNumber") (κ "BadPolynomial") (κ "BadBits")) : Gx.CalX P w K mg base 3 "s3_need_bits" (spF (Wk K κ) 1 F_s3_need_bits) := by
  obtain ⟨f, fd, F, b⟩ := T.d_s3_need_bits
  refine Gx.calX F b sc_s3_need_bits (fun vs H Q E h => spF.len h) (fun cdv A outer s H vs Q E hr h => ?_)
  have hu := hu_of hr
  have hu64 := hr.units
  have hu65 := Ab.u65 hr
  exact ⟨_, (pss_one (ps_if (PW.pt (pw_or (pt_not (pt_val (pe_callB (show CallR _ _ (Ab.rIsiU K) by exact Ab.call_isiU) (by rfl) T.b_isinstance (by decide +kernel) (pa_cons (pv 0) (pa_cons (pe_bltn (v := .ty "tuple") (by rfl) T.b_tuple (by decide +kernel) rfl) pa_nil))))) (pw_or (pt_cmpR op_gt (pe_callB (show CallR _ _ (Ab.rLenU K) by exact Ab.call_lenU) (by rfl) T.b_len PySem.boot_len (pa_cons (pv 0) pa_nil)) (C8.pe_gc (by rfl) T.c_MOST_BITS) (nomark _)) (pw_or1 (pt_not (pt_val (pe_callB (show CallR _ _ (rAll K) by exact cr_all rfl) (by rfl) T.b_all (by decide +kernel) (pa_cons (pe_lc (own := [("bit", 1)]) rfl sc_s3_need_bits.nd (show PI _ _ _ (Ab.iterU K _) by exact Ab.PI.or (pi_list (pv 0)) (Ab.PI.or (pi_tup (pv 0)) (pi_str (pv 0)))) (blkOk_by (N := ["bits", "bit"]) (sc := C8.fnScope s_s3_need_bits) (by decide +kernel)) (fun _ _ _ _ _ => (pg_name (i := 1) sc_s3_need_bits.nd rfl (.inl rfl))) (fun _ _ _ _ _ => pts_nil) (fun _ _ _ _ _ => (Gx.pe_cx (calx_s3_is_whole T) LamX.takes0 (E := fun _ _ _ => False) (fun _ _ _ _ h => h) hr (by omega) (by rfl) (pa_cons (pv 1) (pa_cons pe_int (pa_cons pe_int pa_nil)))))) pa_nil)))))))) (pss_one (ps_raise rfl Gx.takes_cx (Gx.pmk_exY (exc_BadBits T) hr (by omega) (by rfl) (pa_cons (pv 0) pa_nil)))) pss_nil)), Ab.DS.dfn (spF_gc h) rfl (DS.ifs (DT.gc (DT.or (DT.not (DT.b (DE.cb (DB.isi (kit_tuple T)) (DA.cons DE.var (DA.cons (DE.c fun _ => .ty _) DA.nil)) NEL.isi))) (DT.or (DT.test (DE.op (DR.i0 fun _ _ _ => .bl _) (DE.cb DB.len (DA.cons DE.var DA.nil) NEL.len) (DE.c fun _ => .int _) NE2.i0)) (DT.not (DT.b (DE.cb DB.all (DA.cons (DE.lc (DI.iter DE.var) DG.name Goes.name (WT.name (by decide)) DT.yes (DE.call (fun _ => .nil) (DA.cons DE.var (DA.cons (DE.c fun _ => .int _) (DA.cons (DE.c fun _ => .int _) DA.nil))))) DA.nil) NEL.all)))))) (DS.raise (Wx := fun cls d _ H => E cls d H) (show "BadBits" ∈ (["BadWord", "BadState", "BadSteps", "BadNumber", "BadPolynomial", "BadBits"] : List String) by decide) (DA.cons DE.var DA.nil)) DS.next)⟩
theorem calx_need_steps (T : Txt K mg (κ "Twisted") (κ "DrawError") (κ "BadWord") (κ "BadState") (κ "BadSteps") (κ "BadNumber") (κ "BadPolynomial") (κ "BadBits")) : Gx.CalX P w K mg base 3 "need_steps" (spF (Wk K κ) 1 F_need_steps) := by
  obtain ⟨f, fd, F, b⟩ := T.d_need_steps
  refine Gx.calX F b sc_need_steps (fun vs H Q E h => spF.len h) (fun cdv A outer s H vs Q E hr h => ?_)
  have hu := hu_of hr
  have hu64 := hr.units
  have hu65 := Ab.u65 hr
  exact ⟨_, (pss_one (ps_if (PW.pt (pw_or (pt_not (pt_val (Gx.pe_cx (calx_is_integer T) Gx.takes_cx (fun _ _ _ _ h => h) hr (by omega) (by rfl) (pa_cons (pv 0) pa_nil)))) (pw_or1 (pt_not (pt_chain op_le op_le pe_int (pv 0) (C8.pe_gc (by rfl) T.c_MOST_STEPS)))))) (pss_one (ps_raise rfl Gx.takes_cx (Gx.pmk_exY (exc_BadSteps T) hr (by omega) (by rfl) (pa_cons (pv 0) pa_nil)))) pss_nil)), Ab.DS.dfn (spF_gc h) rfl (DS.ifs (DT.gc (DT.or (DT.not (DT.b (DE.call (fun _ => .nil) (DA.cons DE.var DA.nil)))) (DT.not (DT.test (DE.chain (DR.i0 fun _ _ _ => .bl _) (DR.i0 fun _ _ _ => .bl _) (DE.c fun _ => .int _) DE.var (DE.c fun _ => .int _) NE2.i0 NE2.i0))))) (DS.raise (Wx := fun cls d _ H => E cls d H) (show "BadSteps" ∈ (["BadWord", "BadState", "BadSteps", "BadNumber", "BadPolynomial", "BadBits"] : List String) by decide) (DA.cons DE.var DA.nil)) DS.next)⟩
theorem calx_s3_need_row (T : Txt K mg (κ "Twisted") (κ "DrawError") (κ "BadWord") (κ "BadState") (κ "BadSteps") (κ "BadNumber") (κ "BadPolynomial") (κ "BadBits")) : Gx.CalX P w K mg base 3 "s3_need_row" (spF (Wk K κ) 1 F_s3_need_row) := by
  obtain ⟨f, fd, F, b⟩ := T.d_s3_need_row
  refine Gx.calX F b sc_s3_need_row (fun vs H Q E h => spF.len h) (fun cdv A outer s H vs Q E hr h => ?_)
  have hu := hu_of hr
  have hu64 := hr.units
  have hu65 := Ab.u65 hr
  exact ⟨_, (pss_cons (ps_if (PW.pt (pw_or (pt_not (pt_val (pe_callB (show CallR _ _ (Ab.rIsiU K) by exact Ab.call_isiU) (by rfl) T.b_isinstance (by decide +kernel) (pa_cons (pv 0) (pa_cons (pe_bltn (v := .ty "tuple") (by rfl) T.b_tuple (by decide +kernel) rfl) pa_nil))))) (pw_or (pt_cmpR (show OpR _ _ (Ab.rNeU K) by exact Ab.op_neU hu64) (pe_callB (show CallR _ _ (Ab.rLenU K) by exact Ab.call_lenU) (by rfl) T.b_len PySem.boot_len (pa_cons (pv 0) pa_nil)) (C8.pe_gc (by rfl) T.c_SIZE) (nomark _)) (pw_or1 (pt_not (pt_val (pe_callB (show CallR _ _ (rAll K) by exact cr_all rfl) (by rfl) T.b_all (by decide +kernel) (pa_cons (pe_lc (own := [("word", 1)]) rfl sc_s3_need_row.nd (show PI _ _ _ (Ab.iterU K _) by exact Ab.PI.or (pi_list (pv 0)) (Ab.PI.or (pi_tup (pv 0)) (pi_str (pv 0)))) (blkOk_by (N := ["row", "word"]) (sc := C8.fnScope s_s3_need_row) (by decide +kernel)) (fun _ _ _ _ _ => (pg_name (i := 1) sc_s3_need_row.nd rfl (.inl rfl))) (fun _ _ _ _ _ => pts_nil) (fun _ _ _ _ _ => (Gx.pe_cx (calx_is_word T) LamX.takes0 (E := fun _ _ _ => False) (fun _ _ _ _ h => h) hr (by omega) (by rfl) (pa_cons (pv 1) pa_nil)))) pa_nil)))))))) (pss_one (ps_raise rfl Gx.takes_cx (Gx.pmk_exY (exc_BadState T) hr (by omega) (by rfl) (pa_cons (pv 0) pa_nil)))) pss_nil)
      (pss_one (ps_if (pt_val (pe_callB (show CallR _ _ (rAll K) by exact cr_all rfl) (by rfl) T.b_all (by decide +kernel) (pa_cons (pe_lc (own := [("word", 1)]) rfl sc_s3_need_row.nd (show PI _ _ _ (Ab.iterU K _) by exact Ab.PI.or (pi_list (pv 0)) (Ab.PI.or (pi_tup (pv 0)) (pi_str (pv 0)))) (blkOk_by (N := ["row", "word"]) (sc := C8.fnScope s_s3_need_row) (by decide +kernel)) (fun _ _ _ _ _ => (pg_name (i := 1) sc_s3_need_row.nd rfl (.inl rfl))) (fun _ _ _ _ _ => pts_nil) (fun _ _ _ _ _ => (pe_cmpR (show OpR _ _ (Ab.rEqU K) by exact Ab.op_eqU hu64) (pv 1) pe_int (nomark _)))) pa_nil))) (pss_one (ps_raise rfl Gx.takes_cx (Gx.pmk_exY (exc_BadState T) hr (by omega) (by rfl) (pa_cons (pv 0) pa_nil)))) pss_nil))), Ab.DS.dfn (spF_gc h) rfl (DS.seq (DS.ifs (DT.gc (DT.or (DT.not (DT.b (DE.cb (DB.isi (kit_tuple T)) (DA.cons DE.var (DA.cons (DE.c fun _ => .ty _) DA.nil)) NEL.isi))) (DT.or (DT.test (DE.op DR.ne (DE.cb DB.len (DA.cons DE.var DA.nil) NEL.len) (DE.c fun _ => .int _) NE2.ne)) (DT.not (DT.b (DE.cb DB.all (DA.cons (DE.lc (DI.iter DE.var) DG.name Goes.name (WT.name (by decide)) DT.yes (DE.call (fun _ => .nil) (DA.cons DE.var DA.nil))) DA.nil) NEL.all)))))) (DS.raise (Wx := fun cls d _ H => E cls d H) (show "BadState" ∈ (["BadWord", "BadState", "BadSteps", "BadNumber", "BadPolynomial", "BadBits"] : List String) by decide) (DA.cons DE.var DA.nil)) DS.next)
      (DS.ifs (DT.gc (DT.b (DE.cb DB.all (DA.cons (DE.lc (DI.iter DE.var) DG.name Goes.name (WT.name (by decide)) DT.yes (DE.op DR.eq DE.var (DE.c fun _ => .int _) NE2.eq)) DA.nil) NEL.all))) (DS.raise (Wx := fun cls d _ H => E cls d H) (show "BadState" ∈ (["BadWord", "BadState", "BadSteps", "BadNumber", "BadPolynomial", "BadBits"] : List String) by decide) (DA.cons DE.var DA.nil)) DS.next))⟩
theorem metx_Twisted_lane (T : Txt K mg (κ "Twisted") (κ "DrawError") (κ "BadWord") (κ "BadState") (κ "BadSteps") (κ "BadNumber") (κ "BadPolynomial") (κ "BadBits")) : Gx.MetX P w K mg base 3 (κ "Twisted") "lane" (spF (Wk K κ) 2 F_Twisted_lane) := by
  obtain ⟨f, fd, M, F, b⟩ := T.d_Twisted_lane
  refine Gx.metX T.cl_Twisted M F b sc_Twisted_lane (fun vs H Q E h => spF.len h) (fun cdv A outer s H vs Q E hr h => ?_)
  have hu := hu_of hr
  have hu64 := hr.units
  have hu65 := Ab.u65 hr
  exact ⟨_, (pss_cons (ps_if (PW.pt (pw_or (pt_not (pt_val (Gx.pe_cx (calx_is_integer T) Gx.takes_cx (fun _ _ _ _ h => h) hr (by omega) (by rfl) (pa_cons (pv 1) pa_nil)))) (pw_or1 (pt_not (pt_chain op_le op_lt pe_int (pv 1) pe_int))))) (pss_one (ps_raise rfl Gx.takes_cx (Gx.pmk_exY (exc_BadNumber T) hr (by omega) (by rfl) (pa_cons (pv 1) pa_nil)))) pss_nil)
      (pss_one (ps_ret (pe_callTy Gx.call_tupOf (by rfl) T.b_tuple (by decide +kernel) (pa_cons (pe_lc (own := [("word", 2)]) rfl sc_Twisted_lane.nd (show PI _ _ _ (Ab.iterU K _) by exact Ab.PI.or (pi_list (pe_fld (pv 0) rfl)) (Ab.PI.or (pi_tup (pe_fld (pv 0) rfl)) (pi_str (pe_fld (pv 0) rfl)))) (blkOk_by (N := ["self", "place", "word"]) (sc := C8.fnScope s_Twisted_lane) (by decide +kernel)) (fun _ _ _ _ _ => (pg_name (i := 2) sc_Twisted_lane.nd rfl (.inl rfl))) (fun _ _ _ _ _ => pts_nil) (fun _ _ _ _ _ => (pe_op op_and (pe_op op_shr (pv 2) (pv 1)) pe_int))) pa_nil))))), Ab.DS.dfn (spF_gc h) rfl (DS.seq (DS.ifs (DT.gc (DT.or (DT.not (DT.b (DE.call (fun _ => .nil) (DA.cons DE.var DA.nil)))) (DT.not (DT.test (DE.chain (DR.i0 fun _ _ _ => .bl _) (DR.i0 fun _ _ _ => .bl _) (DE.c fun _ => .int _) DE.var (DE.c fun _ => .int _) NE2.i0 NE2.i0))))) (DS.raise (Wx := fun cls d _ H => E cls d H) (show "BadNumber" ∈ (["BadWord", "BadState", "BadSteps", "BadNumber", "BadPolynomial", "BadBits"] : List String) by decide) (DA.cons DE.var DA.nil)) DS.next)
      (DS.ret (DE.cb DB.tuple (DA.cons (DE.lc (DI.iter (DE.fld (.cons ⟨T.cl_Twisted, T.n_Twisted_s3_state⟩ .nil) DE.var)) DG.name Goes.name (WT.name (by decide)) DT.yes (DE.op (DR.i0 fun _ _ _ => .int _) (DE.op (DR.i fun _ _ _ => .int _) DE.var DE.var NE2.i) (DE.c fun _ => .int _) NE2.i0)) DA.nil) NEL.tuple)))⟩
theorem calx_tempered (T : Txt K mg (κ "Twisted") (κ "DrawError") (κ "BadWord") (κ "BadState") (κ "BadSteps") (κ "BadNumber") (κ "BadPolynomial") (κ "BadBits")) : Gx.CalX P w K mg base 4 "tempered" (spF (Wk K κ) 1 F_tempered) := by
  obtain ⟨f, fd, F, b⟩ := T.d_tempered
  refine Gx.calX F b sc_tempered (fun vs H Q E h => spF.len h) (fun cdv A outer s H vs Q E hr h => ?_)
  have hu := hu_of hr
  have hu64 := hr.units
  have hu65 := Ab.u65 hr
  exact ⟨_, (pss_cons (ps_expr (Gx.pe_cx (calx_need_word T) Gx.takes_cx (fun _ _ _ _ h => h) hr (by omega) (by rfl) (pa_cons (pv 0) pa_nil)))
      (pss_one (ps_ret (Gx.pe_cx (calx_own_tempered T) Gx.takes_cx (fun _ _ _ _ h => h) hr (by omega) (by rfl) (pa_cons (pv 0) pa_nil))))), Ab.DS.dfn (spF_gc h) rfl (DS.seq (DS.drop (DE.call (fun _ => .nil) (DA.cons DE.var DA.nil)))
      (DS.ret (DE.call (fun _ => .nil) (DA.cons DE.var DA.nil))))⟩
theorem calx_untempered (T : Txt K mg (κ "Twisted") (κ "DrawError") (κ "BadWord") (κ "BadState") (κ "BadSteps") (κ "BadNumber") (κ "BadPolynomial") (κ "BadBits")) : Gx.CalX P w K mg base 4 "untempered" (spF (Wk K κ) 1 F_untempered) := by
  obtain ⟨f, fd, F, b⟩ := T.d_untempered
  refine Gx.calX F b sc_untempered (fun vs H Q E h => spF.len h) (fun cdv A outer s H vs Q E hr h => ?_)
  have hu := hu_of hr
  have hu64 := hr.units
  have hu65 := Ab.u65 hr
  exact ⟨_, (pss_cons (ps_expr (Gx.pe_cx (calx_need_word T) Gx.takes_cx (fun _ _ _ _ h => h) hr (by omega) (by rfl) (pa_cons (pv 0) pa_nil)))
      (pss_cons (ps_set (i := 0) sc_untempered.nd rfl (.inl rfl) (pe_op op_and (pe_op Ab.op_mulU (pe_op op_xor (pv 0) (pe_op op_shr (pv 0) pe_int)) (Gx.pe_cx0 (calx_undo_factor T) Gx.takes_cx (fun _ _ _ _ h => h) hr (by omega) (by rfl))) (pe_op op_sub (C8.pe_gc (by rfl) T.c_WORDS) pe_int)))
      (pss_one (ps_ret (pe_op op_xor (pe_op op_xor (pv 0) (pe_op op_shr (pv 0) pe_int)) (pe_op op_shr (pv 0) pe_int)))))), Ab.DS.dfn (spF_gc h) rfl (DS.seq (DS.drop (DE.call (fun _ => .nil) (DA.cons DE.var DA.nil)))
      (DS.seq (DS.asg (DE.op (DR.i0 fun _ _ _ => .int _) (DE.op DR.mul (DE.op (DR.i0 fun _ _ _ => .int _) DE.var (DE.op (DR.i fun _ _ _ => .int _) DE.var (DE.c fun _ => .int _) NE2.i) NE2.i0) (DE.call (fun _ => .nil) DA.nil) NE2.mul) (DE.op (DR.i0 fun _ _ _ => .int _) (DE.c fun _ => .int _) (DE.c fun _ => .int _) NE2.i0) NE2.i0) DG.name Goes.name)
      (DS.ret (DE.op (DR.i0 fun _ _ _ => .int _) (DE.op (DR.i0 fun _ _ _ => .int _) DE.var (DE.op (DR.i fun _ _ _ => .int _) DE.var (DE.c fun _ => .int _) NE2.i) NE2.i0) (DE.op (DR.i fun _ _ _ => .int _) DE.var (DE.c fun _ => .int _) NE2.i) NE2.i0))))⟩
theorem calxs_s3_need (T : Txt K mg (κ "Twisted") (κ "DrawError") (κ "BadWord") (κ "BadState") (κ "BadSteps") (κ "BadNumber") (κ "BadPolynomial") (κ "BadBits")) : Gx.CalXS P w K mg base 4 "s3_need" (spS (Wk K κ) F_s3_need) := by
  obtain ⟨f, fd, F, b⟩ := T.d_s3_need
  refine Gx.calXS F b sc_s3_need (fun cdv A outer s H vs Q E hr h => ?_)
  have hu := hu_of hr
  have hu64 := hr.units
  have hu65 := Ab.u65 hr
  exact ⟨_, (pss_one (ps_for (passes_of rfl) rfl (show PI _ _ _ (Ab.iterU K _) by exact Ab.PI.or (pi_list (pv 0)) (Ab.PI.or (pi_tup (pv 0)) (pi_str (pv 0)))) (pg_name (i := 1) sc_s3_need.nd rfl (.inl rfl)) (pss_one (ps_if (pt_not (pt_val (Gx.pe_cx (calx_is_polynomial T) Gx.takes_cx (fun _ _ _ _ h => h) hr (by omega) (by rfl) (pa_cons (pv 1) pa_nil)))) (pss_one (ps_raise rfl Gx.takes_cx (Gx.pmk_exY (exc_BadPolynomial T) hr (by omega) (by rfl) (pa_cons (pv 1) pa_nil)))) pss_nil)))), Ab.DS.dfn (spF_gc h) rfl (DS.forS (DI.iter DE.var) DG.name Goes.name (DS.ifs (DT.gc (DT.not (DT.b (DE.call (fun _ => .nil) (DA.cons DE.var DA.nil))))) (DS.raise (Wx := fun cls d _ H => E cls d H) (show "BadPolynomial" ∈ (["BadWord", "BadState", "BadSteps", "BadNumber", "BadPolynomial", "BadBits"] : List String) by decide) (DA.cons DE.var DA.nil)) DS.next))⟩
theorem calx_s3_need_modulus (T : Txt K mg (κ "Twisted") (κ "DrawError") (κ "BadWord") (κ "BadState") (κ "BadSteps") (κ "BadNumber") (κ "BadPolynomial") (κ "BadBits")) : Gx.CalX P w K mg base 4 "s3_need_modulus" (spF (Wk K κ) 1 F_s3_need_modulus) := by
  obtain ⟨f, fd, F, b⟩ := T.d_s3_need_modulus
  refine Gx.calX F b sc_s3_need_modulus (fun vs H Q E h => spF.len h) (fun cdv A outer s H vs Q E hr h => ?_)
  have hu := hu_of hr
  have hu64 := hr.units
  have hu65 := Ab.u65 hr
  exact ⟨_, (pss_one (ps_if (PW.pt (pw_or (pt_not (pt_val (Gx.pe_cx (calx_is_polynomial T) Gx.takes_cx (fun _ _ _ _ h => h) hr (by omega) (by rfl) (pa_cons (pv 0) pa_nil)))) (pw_or1 (pt_cmpR (show OpR _ _ (Ab.rEqU K) by exact Ab.op_eqU hu64) (pv 0) pe_int (nomark _))))) (pss_one (ps_raise rfl Gx.takes_cx (Gx.pmk_exY (exc_BadPolynomial T) hr (by omega) (by rfl) (pa_cons (pv 0) pa_nil)))) pss_nil)), Ab.DS.dfn (spF_gc h) rfl (DS.ifs (DT.gc (DT.or (DT.not (DT.b (DE.call (fun _ => .nil) (DA.cons DE.var DA.nil)))) (DT.test (DE.op DR.eq DE.var (DE.c fun _ => .int _) NE2.eq)))) (DS.raise (Wx := fun cls d _ H => E cls d H) (show "BadPolynomial" ∈ (["BadWord", "BadState", "BadSteps", "BadNumber", "BadPolynomial", "BadBits"] : List String) by decide) (DA.cons DE.var DA.nil)) DS.next)⟩
theorem calx_shortest_rule (T : Txt K mg (κ "Twisted") (κ "DrawError") (κ "BadWord") (κ "BadState") (κ "BadSteps") (κ "BadNumber") (κ "BadPolynomial") (κ "BadBits")) : Gx.CalX P w K mg base 4 "shortest_rule" (spF (Wk K κ) 1 F_shortest_rule) := by
  obtain ⟨f, fd, F, b⟩ := T.d_shortest_rule
  refine Gx.calX F b sc_shortest_rule (fun vs H Q E h => spF.len h) (fun cdv A outer s H vs Q E hr h => ?_)
  have hu := hu_of hr
  have hu64 := hr.units
  have hu65 := Ab.u65 hr
  exact ⟨_, (pss_cons (ps_expr (Gx.pe_cx (calx_s3_need_bits T) Gx.takes_cx (fun _ _ _ _ h => h) hr (by omega) (by rfl) (pa_cons (pv 0) pa_nil)))
      (pss_cons (ps_asg (pe_tup (pa_cons pe_int (pa_cons pe_int (pa_cons pe_int (pa_cons pe_int pa_nil))))) (show PG _ _ (gTup K 4 _) by exact pg_tup rfl (pgs_cons (pg_name (i := 1) sc_shortest_rule.nd rfl (.inr rfl)) (pgs_cons (pg_name (i := 2) sc_shortest_rule.nd rfl (.inl rfl)) (pgs_cons (pg_name (i := 3) sc_shortest_rule.nd rfl (.inr rfl)) (pgs_cons (pg_name (i := 4) sc_shortest_rule.nd rfl (.inl rfl)) pgs_nil))))))
      (pss_cons (ps_for (passes_of rfl) rfl (show PI _ _ _ (Ab.enU K _) by exact Ab.PI.or (pi_enum (by rfl) T.b_enumerate (pa_cons (pv 0) pa_nil)) (Gx.pi_enT (by rfl) T.b_enumerate (pa_cons (pv 0) pa_nil))) (show PG _ _ (gTup K 2 _) by exact pg_tup rfl (pgs_cons (pg_name (i := 5) sc_shortest_rule.nd rfl (.inr rfl)) (pgs_cons (pg_name (i := 6) sc_shortest_rule.nd rfl (.inl rfl)) pgs_nil))) (pss_cons (ps_setLc (i := 7) (own := [("place", 8)]) rfl sc_shortest_rule.nd rfl rfl (sw_true rfl rfl rfl (by decide +kernel)) (pi_range2 rfl T.b_range (pa_cons pe_int (pa_cons (pe_op (show OpR _ _ (Ab.rAddU K) by exact Ab.op_addU) (pv 3) pe_int) pa_nil))) (blkOk_by (N := ["bits", "rule", "old", "length", "gap", "at", "bit", "ones", "place", "before"]) (sc := C8.fnScope s_shortest_rule) (by decide +kernel)) (fun _ _ _ _ _ => (pg_name (i := 8) sc_shortest_rule.nd rfl (.inl rfl))) (fun _ _ _ _ _ => (pts_one (pt_cmpR (show OpR _ _ (Ab.rEqU K) by exact Ab.op_eqU hu64) (pe_op op_and (pe_op op_shr (pv 1) (pv 8)) pe_int) pe_int (nomark _)))) (fun _ _ _ _ _ => (pe_ix (show IxR _ (Ab.rIxU K) by exact Ab.ix_U) (pv 0) (pe_op op_sub (pv 5) (pv 8)) (fun _ _ => rfl))))
      (pss_cons (ps_if (pt_cmpR (show OpR _ _ (Ab.rEqU K) by exact Ab.op_eqU hu64) (pe_op op_mod (pe_op (show OpR _ _ (Ab.rAddU K) by exact Ab.op_addU) (pv 6) (pe_callB (show CallR _ _ (rSum K) by exact cr_sum rfl) (by rfl) T.b_sum (by decide +kernel) (pa_cons (pv 7) pa_nil))) pe_int) pe_int (nomark _)) (pss_cons (ps_aug (i := 4) sc_shortest_rule.nd rfl (.inl rfl) pe_int ip_add)
      (pss_one ps_continue)) pss_nil)
      (pss_cons (ps_set (i := 9) sc_shortest_rule.nd rfl (.inl rfl) (pv 1))
      (pss_cons (ps_set (i := 1) sc_shortest_rule.nd rfl (.inr rfl) (pe_op op_xor (pv 1) (pe_op op_shlW (pv 2) (pv 4))))
      (pss_one (ps_if (pt_cmpR op_le (pe_op Ab.op_mulU pe_int (pv 3)) (pv 5) (nomark _)) (pss_one (ps_asg (pe_tup (pa_cons (pv 9) (pa_cons (pe_op op_sub (pe_op (show OpR _ _ (Ab.rAddU K) by exact Ab.op_addU) (pv 5) pe_int) (pv 3)) (pa_cons pe_int pa_nil)))) (show PG _ _ (gTup K 3 _) by exact pg_tup rfl (pgs_cons (pg_name (i := 2) sc_shortest_rule.nd rfl (.inl rfl)) (pgs_cons (pg_name (i := 3) sc_shortest_rule.nd rfl (.inr rfl)) (pgs_cons (pg_name (i := 4) sc_shortest_rule.nd rfl (.inl rfl)) pgs_nil)))))) (pss_one (ps_aug (i := 4) sc_shortest_rule.nd rfl (.inl rfl) pe_int ip_add)))))))))
      (pss_one (ps_ret (pe_callB (show CallR _ _ (rSum K) by exact cr_sum rfl) (by rfl) T.b_sum (by decide +kernel) (pa_cons (pe_lc (own := [("place", 8)]) rfl sc_shortest_rule.nd (pi_range1 rfl T.b_range (pa_cons (pe_op (show OpR _ _ (Ab.rAddU K) by exact Ab.op_addU) (pv 3) pe_int) pa_nil)) (blkOk_by (N := ["bits", "rule", "old", "length", "gap", "at", "bit", "ones", "place", "before"]) (sc := C8.fnScope s_shortest_rule) (by decide +kernel)) (fun _ _ _ _ _ => (pg_name (i := 8) sc_shortest_rule.nd rfl (.inl rfl))) (fun _ _ _ _ _ => (pts_one (pt_cmpR (show OpR _ _ (Ab.rEqU K) by exact Ab.op_eqU hu64) (pe_op op_and (pe_op op_shr (pv 1) (pv 8)) pe_int) pe_int (nomark _)))) (fun _ _ _ _ _ => (pe_op op_shlW pe_int (pe_op op_sub (pv 3) (pv 8))))) pa_nil))))))), Ab.DS.dfn (spF_gc h) rfl (DS.seq (DS.drop (DE.call (fun _ => .nil) (DA.cons DE.var DA.nil)))
      (DS.seq (DS.asg (DE.tup (DA.cons (DE.c fun _ => .int _) (DA.cons (DE.c fun _ => .int _) (DA.cons (DE.c fun _ => .int _) (DA.cons (DE.c fun _ => .int _) DA.nil))))) (DG.tup (DGs.cons DG.name (DGs.cons DG.name (DGs.cons DG.name (DGs.cons DG.name DGs.nil))))) (Goes.tup (GoesL.cons Goes.name (GoesL.cons Goes.name (GoesL.cons Goes.name (GoesL.cons Goes.name GoesL.nil))))))
      (DS.seq (DS.forS (DI.enumU (DA.cons DE.var DA.nil)) (DG.tup (DGs.cons DG.name (DGs.cons DG.name DGs.nil))) (Goes.tup (GoesL.cons Goes.name (GoesL.cons Goes.name GoesL.nil))) (DS.seq (DS.asg (DE.lc (DI.rng2 (DA.cons (DE.c fun _ => .int _) (DA.cons (DE.op DR.add DE.var (DE.c fun _ => .int _) NE2.add) DA.nil))) DG.name Goes.name (WT.name (by decide)) (DT.test (DE.op DR.eq (DE.op (DR.i0 fun _ _ _ => .int _) (DE.op (DR.i fun _ _ _ => .int _) DE.var DE.var NE2.i) (DE.c fun _ => .int _) NE2.i0) (DE.c fun _ => .int _) NE2.eq)) (DE.op DR.ix DE.var (DE.op (DR.i0 fun _ _ _ => .int _) DE.var DE.var NE2.i0) NE2.ix)) DG.name Goes.name)
      (DS.seq (DS.ifs (DT.test (DE.op DR.eq (DE.op (DR.i fun _ _ _ => .int _) (DE.op DR.add DE.var (DE.cb DB.sum (DA.cons DE.var DA.nil) NEL.sum) NE2.add) (DE.c fun _ => .int _) NE2.i) (DE.c fun _ => .int _) NE2.eq)) (DS.seq (DS.aug (DR.i0 fun _ _ _ => .int _) NE2.i0 (DE.c fun _ => .int _))
      DS.cnt) DS.next)
      (DS.seq (DS.asg DE.var DG.name Goes.name)
      (DS.seq (DS.asg (DE.op (DR.i0 fun _ _ _ => .int _) DE.var (DE.op (DR.i fun _ _ _ => .int _) DE.var DE.var NE2.i) NE2.i0) DG.name Goes.name)
      (DS.ifs (DT.test (DE.op (DR.i0 fun _ _ _ => .bl _) (DE.op DR.mul (DE.c fun _ => .int _) DE.var NE2.mul) DE.var NE2.i0)) (DS.asg (DE.tup (DA.cons DE.var (DA.cons (DE.op (DR.i0 fun _ _ _ => .int _) (DE.op DR.add DE.var (DE.c fun _ => .int _) NE2.add) DE.var NE2.i0) (DA.cons (DE.c fun _ => .int _) DA.nil)))) (DG.tup (DGs.cons DG.name (DGs.cons DG.name (DGs.cons DG.name DGs.nil)))) (Goes.tup (GoesL.cons Goes.name (GoesL.cons Goes.name (GoesL.cons Goes.name GoesL.nil))))) (DS.aug (DR.i0 fun _ _ _ => .int _) NE2.i0 (DE.c fun _ => .int _))))))))
      (DS.ret (DE.cb DB.sum (DA.cons (DE.lc (DI.rng1 (DA.cons (DE.op DR.add DE.var (DE.c fun _ => .int _) NE2.add) DA.nil)) DG.name Goes.name (WT.name (by decide)) (DT.test (DE.op DR.eq (DE.op (DR.i0 fun _ _ _ => .int _) (DE.op (DR.i fun _ _ _ => .int _) DE.var DE.var NE2.i) (DE.c fun _ => .int _) NE2.i0) (DE.c fun _ => .int _) NE2.eq)) (DE.op (DR.i fun _ _ _ => .int _) (DE.c fun _ => .int _) (DE.op (DR.i0 fun _ _ _ => .int _) DE.var DE.var NE2.i0) NE2.i)) DA.nil) NEL.sum)))))⟩
theorem makx_Twisted (T : Txt K mg (κ "Twisted") (κ "DrawError") (κ "BadWord") (κ "BadState") (κ "BadSteps") (κ "BadNumber") (κ "BadPolynomial") (κ "BadBits")) : Gx.MakX P w K mg base 4 "Twisted" (κ "Twisted") (spF (Wk K κ) 2 F_Twisted___init__) [] := by
  obtain ⟨f, fd, M, F, b⟩ := T.d_Twisted___init__
  obtain ⟨u, hu1, hu2⟩ := T.k_Twisted
  cases hu2
  refine Gx.makX M hu1 F b sc_Twisted___init__ (fun vs H Q E h => spF.len h) (fun cdv A outer s H vs Q E hr h => ?_)
  have hu := hu_of hr
  have hu64 := hr.units
  have hu65 := Ab.u65 hr
  exact ⟨_, (pss_cons (ps_expr (Gx.pe_cx (calx_s3_need_row T) Gx.takes_cx (fun _ _ _ _ h => h) hr (by omega) (by rfl) (pa_cons (pv 1) pa_nil)))
      (pss_one (ps_fld (pv 0) (pv 1) rfl))), Ab.DS.dfn (spF_gc h) rfl (DS.seq (DS.drop (DE.call (fun _ => .nil) (DA.cons DE.var DA.nil)))
      (DS.sfld (.cons ⟨T.cl_Twisted, T.n_Twisted_s3_state⟩ .nil) DE.var DE.var))⟩
theorem calx_power_of (T : Txt K mg (κ "Twisted") (κ "DrawError") (κ "BadWord") (κ "BadState") (κ "BadSteps") (κ "BadNumber") (κ "BadPolynomial") (κ "BadBits")) : Gx.CalX P w K mg base 5 "power_of" (spF (Wk K κ) 3 F_power_of) := by
  obtain ⟨f, fd, F, b⟩ := T.d_power_of
  refine Gx.calX F b sc_power_of (fun vs H Q E h => spF.len h) (fun cdv A outer s H vs Q E hr h => ?_)
  have hu := hu_of hr
  have hu64 := hr.units
  have hu65 := Ab.u65 hr
  exact ⟨_, (pss_cons (ps_expr (Gx.pe_cxS (calxs_s3_need T) Gx.takes_cx (fun _ _ _ _ h => h) hr (by omega) (by rfl) (pa_cons (pv 0) pa_nil)))
      (pss_cons (ps_if (pt_not (pt_val (Gx.pe_cx (calx_s3_is_whole T) Gx.takes_cx (fun _ _ _ _ h => h) hr (by omega) (by rfl) (pa_cons (pv 1) (pa_cons pe_int (pa_cons (pe_op op_shlW pe_int pe_int) pa_nil)))))) (pss_one (ps_raise rfl Gx.takes_cx (Gx.pmk_exY (exc_BadSteps T) hr (by omega) (by rfl) (pa_cons (pv 1) pa_nil)))) pss_nil)
      (pss_cons (ps_expr (Gx.pe_cx (calx_s3_need_modulus T) Gx.takes_cx (fun _ _ _ _ h => h) hr (by omega) (by rfl) (pa_cons (pv 2) pa_nil)))
      (pss_one (ps_ret (Gx.pe_cx (calx_s3_power T) Gx.takes_cx (fun _ _ _ _ h => h) hr (by omega) (by rfl) (pa_cons (pv 0) (pa_cons (pv 1) (pa_cons (pv 2) pa_nil))))))))), Ab.DS.dfn (spF_gc h) rfl (DS.seq (DS.drop (DE.callStar (DA.cons DE.var DA.nil)))
      (DS.seq (DS.ifs (DT.gc (DT.not (DT.b (DE.call (fun _ => .nil) (DA.cons DE.var (DA.cons (DE.c fun _ => .int _) (DA.cons (DE.op (DR.i fun _ _ _ => .int _) (DE.c fun _ => .int _) (DE.c fun _ => .int _) NE2.i) DA.nil))))))) (DS.raise (Wx := fun cls d _ H => E cls d H) (show "BadSteps" ∈ (["BadWord", "BadState", "BadSteps", "BadNumber", "BadPolynomial", "BadBits"] : List String) by decide) (DA.cons DE.var DA.nil)) DS.next)
      (DS.seq (DS.drop (DE.call (fun _ => .nil) (DA.cons DE.var DA.nil)))
      (DS.ret (DE.call (fun _ => .nil) (DA.cons DE.var (DA.cons DE.var (DA.cons DE.var DA.nil))))))))⟩
theorem calx_follows (T : Txt K mg (κ "Twisted") (κ "DrawError") (κ "BadWord") (κ "BadState") (κ "BadSteps") (κ "BadNumber") (κ "BadPolynomial") (κ "BadBits")) : Gx.CalX P w K mg base 5 "follows" (spF (Wk K κ) 2 F_follows) := by
  obtain ⟨f, fd, F, b⟩ := T.d_follows
  refine Gx.calX F b sc_follows (fun vs H Q E h => spF.len h) (fun cdv A outer s H vs Q E hr h => ?_)
  have hu := hu_of hr
  have hu64 := hr.units
  have hu65 := Ab.u65 hr
  exact ⟨_, (pss_cons (ps_expr (Gx.pe_cx (calx_s3_need_bits T) Gx.takes_cx (fun _ _ _ _ h => h) hr (by omega) (by rfl) (pa_cons (pv 0) pa_nil)))
      (pss_cons (ps_expr (Gx.pe_cx (calx_s3_need_modulus T) Gx.takes_cx (fun _ _ _ _ h => h) hr (by omega) (by rfl) (pa_cons (pv 1) pa_nil)))
      (pss_cons (ps_set (i := 2) sc_follows.nd rfl (.inl rfl) (pe_op op_sub (pe_bits (pv 1)) pe_int))
      (pss_cons (ps_for (passes_of rfl) rfl (pi_range1 rfl T.b_range (pa_cons (pe_op op_sub (pe_callB (show CallR _ _ (Ab.rLenU K) by exact Ab.call_lenU) (by rfl) T.b_len PySem.boot_len (pa_cons (pv 0) pa_nil)) (pv 2)) pa_nil)) (pg_name (i := 3) sc_follows.nd rfl (.inr rfl)) (pss_cons (ps_setLc (i := 4) (own := [("place", 5)]) rfl sc_follows.nd rfl rfl (sw_true rfl rfl rfl (by decide +kernel)) (pi_range1 rfl T.b_range (pa_cons (pe_op (show OpR _ _ (Ab.rAddU K) by exact Ab.op_addU) (pv 2) pe_int) pa_nil)) (blkOk_by (N := ["bits", "rule", "size", "begin", "ones", "place"]) (sc := C8.fnScope s_follows) (by decide +kernel)) (fun _ _ _ _ _ => (pg_name (i := 5) sc_follows.nd rfl (.inl rfl))) (fun _ _ _ _ _ => (pts_one (pt_cmpR (show OpR _ _ (Ab.rEqU K) by exact Ab.op_eqU hu64) (pe_op op_and (pe_op op_shr (pv 1) (pv 5)) pe_int) pe_int (nomark _)))) (fun _ _ _ _ _ => (pe_ix (show IxR _ (Ab.rIxU K) by exact Ab.ix_U) (pv 0) (pe_op (show OpR _ _ (Ab.rAddU K) by exact Ab.op_addU) (pv 3) (pv 5)) (fun _ _ => rfl))))
      (pss_one (ps_if (pt_cmpR (show OpR _ _ (Ab.rEqU K) by exact Ab.op_eqU hu64) (pe_op op_mod (pe_callB (show CallR _ _ (rSum K) by exact cr_sum rfl) (by rfl) T.b_sum (by decide +kernel) (pa_cons (pv 4) pa_nil)) pe_int) pe_int (nomark _)) (pss_one (ps_ret pe_bl)) pss_nil))))
      (pss_one (ps_ret pe_bl)))))), Ab.DS.dfn (spF_gc h) rfl (DS.seq (DS.drop (DE.call (fun _ => .nil) (DA.cons DE.var DA.nil)))
      (DS.seq (DS.drop (DE.call (fun _ => .nil) (DA.cons DE.var DA.nil)))
      (DS.seq (DS.asg (DE.op (DR.i0 fun _ _ _ => .int _) (DE.bits DE.var) (DE.c fun _ => .int _) NE2.i0) DG.name Goes.name)
      (DS.seq (DS.forS (DI.rng1 (DA.cons (DE.op (DR.i0 fun _ _ _ => .int _) (DE.cb DB.len (DA.cons DE.var DA.nil) NEL.len) DE.var NE2.i0) DA.nil)) DG.name Goes.name (DS.seq (DS.asg (DE.lc (DI.rng1 (DA.cons (DE.op DR.add DE.var (DE.c fun _ => .int _) NE2.add) DA.nil)) DG.name Goes.name (WT.name (by decide)) (DT.test (DE.op DR.eq (DE.op (DR.i0 fun _ _ _ => .int _) (DE.op (DR.i fun _ _ _ => .int _) DE.var DE.var NE2.i) (DE.c fun _ => .int _) NE2.i0) (DE.c fun _ => .int _) NE2.eq)) (DE.op DR.ix DE.var (DE.op DR.add DE.var DE.var NE2.add) NE2.ix)) DG.name Goes.name)
      (DS.ifs (DT.test (DE.op DR.eq (DE.op (DR.i fun _ _ _ => .int _) (DE.cb DB.sum (DA.cons DE.var DA.nil) NEL.sum) (DE.c fun _ => .int _) NE2.i) (DE.c fun _ => .int _) NE2.eq)) (DS.ret (DE.c fun _ => .bl _)) DS.next)))
      (DS.ret (DE.c fun _ => .bl _))))))⟩
theorem calx_rule_length (T : Txt K mg (κ "Twisted") (κ "DrawError") (κ "BadWord") (κ "BadState") (κ "BadSteps") (κ "BadNumber") (κ "BadPolynomial") (κ "BadBits")) : Gx.CalX P w K mg base 5 "rule_length" (spF (Wk K κ) 1 F_rule_length) := by
  obtain ⟨f, fd, F, b⟩ := T.d_rule_length
  refine Gx.calX F b sc_rule_length (fun vs H Q E h => spF.len h) (fun cdv A outer s H vs Q E hr h => ?_)
  have hu := hu_of hr
  have hu64 := hr.units
  have hu65 := Ab.u65 hr
  exact ⟨_, (pss_one (ps_ret (pe_op op_sub (pe_bits (Gx.pe_cx (calx_shortest_rule T) Gx.takes_cx (fun _ _ _ _ h => h) hr (by omega) (by rfl) (pa_cons (pv 0) pa_nil))) pe_int))), Ab.DS.dfn (spF_gc h) rfl (DS.ret (DE.op (DR.i0 fun _ _ _ => .int _) (DE.bits (DE.call (fun _ => .nil) (DA.cons DE.var DA.nil))) (DE.c fun _ => .int _) NE2.i0))⟩
theorem metx_Twisted_next_word (T : Txt K mg (κ "Twisted") (κ "DrawError") (κ "BadWord") (κ "BadState") (κ "BadSteps") (κ "BadNumber") (κ "BadPolynomial") (κ "BadBits")) : Gx.MetX P w K mg base 5 (κ "Twisted") "next_word" (spF (Wk K κ) 1 F_Twisted_next_word) := by
  obtain ⟨f, fd, M, F, b⟩ := T.d_Twisted_next_word
  refine Gx.metX T.cl_Twisted M F b sc_Twisted_next_word (fun vs H Q E h => spF.len h) (fun cdv A outer s H vs Q E hr h => ?_)
  have hu := hu_of hr
  have hu64 := hr.units
  have hu65 := Ab.u65 hr
  exact ⟨_, (pss_cons (ps_set (i := 1) sc_Twisted_next_word.nd rfl (.inl rfl) (pe_op op_xor (pe_ix (show IxR _ (Ab.rIxU K) by exact Ab.ix_U) (pe_fld (pv 0) rfl) pe_int (fun _ _ => rfl)) (pe_ix (show IxR _ (Ab.rIxU K) by exact Ab.ix_U) (pe_fld (pv 0) rfl) (C8.pe_gc (by rfl) T.c_TAP) (fun _ _ => rfl))))
      (pss_cons (ps_fld (pv 0) (pe_op (show OpR _ _ (Ab.rAddU K) by exact Ab.op_addU) (pe_slice (show SlR _ (Ab.rSlU K) by exact Ab.sl_U) (pe_fld (pv 0) rfl) (po_some pe_int) po_none) (pe_tup (pa_cons (pv 1) pa_nil))) rfl)
      (pss_one (ps_ret (Gx.pe_cx (calx_tempered T) Gx.takes_cx (fun _ _ _ _ h => h) hr (by omega) (by rfl) (pa_cons (pv 1) pa_nil)))))), Ab.DS.dfn (spF_gc h) rfl (DS.seq (DS.asg (DE.op (DR.i0 fun _ _ _ => .int _) (DE.op DR.ix (DE.fld (.cons ⟨T.cl_Twisted, T.n_Twisted_s3_state⟩ .nil) DE.var) (DE.c fun _ => .int _) NE2.ix) (DE.op DR.ix (DE.fld (.cons ⟨T.cl_Twisted, T.n_Twisted_s3_state⟩ .nil) DE.var) (DE.c fun _ => .int _) NE2.ix) NE2.i0) DG.name Goes.name)
      (DS.seq (DS.sfld (.cons ⟨T.cl_Twisted, T.n_Twisted_s3_state⟩ .nil) DE.var (DE.op DR.add (DE.sl (DE.fld (.cons ⟨T.cl_Twisted, T.n_Twisted_s3_state⟩ .nil) DE.var) (DO.part (DE.c fun _ => .int _)) DO.no) (DE.tup (DA.cons DE.var DA.nil)) NE2.add))
      (DS.ret (DE.call (fun _ => .nil) (DA.cons DE.var DA.nil)))))⟩
theorem calx_s3_moved (T : Txt K mg (κ "Twisted") (κ "DrawError") (κ "BadWord") (κ "BadState") (κ "BadSteps") (κ "BadNumber") (κ "BadPolynomial") (κ "BadBits")) : Gx.CalX P w K mg base 6 "s3_moved" (spF (Wk K κ) 2 F_s3_moved) := by
  obtain ⟨f, fd, F, b⟩ := T.d_s3_moved
  refine Gx.calX F b sc_s3_moved (fun vs H Q E h => spF.len h) (fun cdv A outer s H vs Q E hr h => ?_)
  have hu := hu_of hr
  have hu64 := hr.units
  have hu65 := Ab.u65 hr
  exact ⟨_, (pss_cons (ps_set (i := 2) sc_s3_moved.nd rfl (.inr rfl) (Gx.pe_cx (calx_power_of T) Gx.takes_cx (fun _ _ _ _ h => h) hr (by omega) (by rfl) (pa_cons pe_int (pa_cons (pe_op op_mod (pv 1) (C8.pe_gc (by rfl) T.c_PERIOD)) (pa_cons (C8.pe_gc (by rfl) T.c_RULE) pa_nil)))))
      (pss_cons (ps_set (i := 3) sc_s3_moved.nd rfl (.inl rfl) (pe_callTy Gx.call_lstOf (by rfl) T.b_list (by decide +kernel) (pa_cons (pv 0) pa_nil)))
      (pss_cons (ps_for (passes_of rfl) rfl (pi_range1 rfl T.b_range (pa_cons (pe_op op_sub (C8.pe_gc (by rfl) T.c_SIZE) pe_int) pa_nil)) (pg_name (i := 4) sc_s3_moved.nd rfl (.inl rfl)) (pss_one (ps_expr (show PE _ _ (tBM K "list" _ _ _) by exact pe_bm PySem.F.plainAttrs_list PySem.F.slot_list_append PySem.F.type_list_append mt_append (pv 3) (pa_cons (pe_op op_xor (pe_ix (show IxR _ (Ab.rIxU K) by exact Ab.ix_U) (pv 3) (pv 4) (fun _ _ => rfl)) (pe_ix (show IxR _ (Ab.rIxU K) by exact Ab.ix_U) (pv 3) (pe_op (show OpR _ _ (Ab.rAddU K) by exact Ab.op_addU) (pv 4) (C8.pe_gc (by rfl) T.c_TAP)) (fun _ _ => rfl))) pa_nil)))))
      (pss_cons (ps_setLc (i := 5) (own := [("place", 6)]) rfl sc_s3_moved.nd rfl rfl (sw_true rfl rfl rfl (by decide +kernel)) (pi_range1 rfl T.b_range (pa_cons (C8.pe_gc (by rfl) T.c_SIZE) pa_nil)) (blkOk_by (N := ["state", "steps", "power", "row", "at", "places", "place", "found", "begin", "word"]) (sc := C8.fnScope s_s3_moved) (by decide +kernel)) (fun _ _ _ _ _ => (pg_name (i := 6) sc_s3_moved.nd rfl (.inl rfl))) (fun _ _ _ _ _ => (pts_one (pt_cmpR (show OpR _ _ (Ab.rEqU K) by exact Ab.op_eqU hu64) (pe_op op_and (pe_op op_shr (pv 2) (pv 6)) pe_int) pe_int (nomark _)))) (fun _ _ _ _ _ => (pv 6)))
      (pss_cons (ps_set (i := 7) sc_s3_moved.nd rfl (.inl rfl) (pe_lst pa_nil))
      (pss_cons (ps_for (passes_of rfl) rfl (pi_range1 rfl T.b_range (pa_cons (C8.pe_gc (by rfl) T.c_SIZE) pa_nil)) (pg_name (i := 8) sc_s3_moved.nd rfl (.inl rfl)) (pss_cons (ps_set (i := 9) sc_s3_moved.nd rfl (.inl rfl) pe_int)
      (pss_cons (ps_for (passes_of rfl) rfl (show PI _ _ _ (Ab.iterU K _) by exact Ab.PI.or (pi_list (pv 5)) (Ab.PI.or (pi_tup (pv 5)) (pi_str (pv 5)))) (pg_name (i := 6) sc_s3_moved.nd rfl (.inl rfl)) (pss_one (ps_set (i := 9) sc_s3_moved.nd rfl (.inl rfl) (pe_op op_xor (pv 9) (pe_ix (show IxR _ (Ab.rIxU K) by exact Ab.ix_U) (pv 3) (pe_op (show OpR _ _ (Ab.rAddU K) by exact Ab.op_addU) (pv 8) (pv 6)) (fun _ _ => rfl))))))
      (pss_one (ps_expr (show PE _ _ (tBM K "list" _ _ _) by exact pe_bm PySem.F.plainAttrs_list PySem.F.slot_list_append PySem.F.type_list_append mt_append (pv 7) (pa_cons (pv 9) pa_nil)))))))
      (pss_one (ps_ret (pe_callTy Gx.call_tupOf (by rfl) T.b_tuple (by decide +kernel) (pa_cons (pv 7) pa_nil)))))))))), Ab.DS.dfn (spF_gc h) rfl (DS.seq (DS.asg (DE.call (fun _ => .nil) (DA.cons (DE.c fun _ => .int _) (DA.cons (DE.op (DR.i fun _ _ _ => .int _) DE.var (DE.c fun _ => .int _) NE2.i) (DA.cons (DE.c fun _ => .int _) DA.nil)))) DG.name Goes.name)
      (DS.seq (DS.asg (DE.cb DB.list (DA.cons DE.var DA.nil) NEL.list) DG.name Goes.name)
      (DS.seq (DS.forS (DI.rng1 (DA.cons (DE.op (DR.i0 fun _ _ _ => .int _) (DE.c fun _ => .int _) (DE.c fun _ => .int _) NE2.i0) DA.nil)) DG.name Goes.name (DS.drop (DE.bm DM.append NEM.append DE.var (DA.cons (DE.op (DR.i0 fun _ _ _ => .int _) (DE.op DR.ix DE.var DE.var NE2.ix) (DE.op DR.ix DE.var (DE.op DR.add DE.var (DE.c fun _ => .int _) NE2.add) NE2.ix) NE2.i0) DA.nil))))
      (DS.seq (DS.asg (DE.lc (DI.rng1 (DA.cons (DE.c fun _ => .int _) DA.nil)) DG.name Goes.name (WT.name (by decide)) (DT.test (DE.op DR.eq (DE.op (DR.i0 fun _ _ _ => .int _) (DE.op (DR.i fun _ _ _ => .int _) DE.var DE.var NE2.i) (DE.c fun _ => .int _) NE2.i0) (DE.c fun _ => .int _) NE2.eq)) DE.var) DG.name Goes.name)
      (DS.seq (DS.asg (DE.lst DA.nil) DG.name Goes.name)
      (DS.seq (DS.forS (DI.rng1 (DA.cons (DE.c fun _ => .int _) DA.nil)) DG.name Goes.name (DS.seq (DS.asg (DE.c fun _ => .int _) DG.name Goes.name)
      (DS.seq (DS.forS (DI.iter DE.var) DG.name Goes.name (DS.asg (DE.op (DR.i0 fun _ _ _ => .int _) DE.var (DE.op DR.ix DE.var (DE.op DR.add DE.var DE.var NE2.add) NE2.ix) NE2.i0) DG.name Goes.name))
      (DS.drop (DE.bm DM.append NEM.append DE.var (DA.cons DE.var DA.nil))))))
      (DS.ret (DE.cb DB.tuple (DA.cons DE.var DA.nil) NEL.tuple))))))))⟩
theorem smetx_Twisted_state_after (T : Txt K mg (κ "Twisted") (κ "DrawError") (κ "BadWord") (κ "BadState") (κ "BadSteps") (κ "BadNumber") (κ "BadPolynomial") (κ "BadBits")) : Gx.SMetX P w K mg base 7 (κ "Twisted") "state_after" (spF (Wk K κ) 2 F_Twisted_state_after) := by
  obtain ⟨f, fd, M, F, b⟩ := T.d_Twisted_state_after
  refine Gx.smetX M F b sc_Twisted_state_after (fun vs H Q E h => spF.len h) (fun cdv A outer s H vs Q E hr h => ?_)
  have hu := hu_of hr
  have hu64 := hr.units
  have hu65 := Ab.u65 hr
  exact ⟨_, (pss_cons (ps_expr (Gx.pe_cx (calx_s3_need_row T) Gx.takes_cx (fun _ _ _ _ h => h) hr (by omega) (by rfl) (pa_cons (pv 0) pa_nil)))
      (pss_cons (ps_expr (Gx.pe_cx (calx_need_steps T) Gx.takes_cx (fun _ _ _ _ h => h) hr (by omega) (by rfl) (pa_cons (pv 1) pa_nil)))
      (pss_one (ps_ret (Gx.pe_cx (calx_s3_moved T) Gx.takes_cx (fun _ _ _ _ h => h) hr (by omega) (by rfl) (pa_cons (pv 0) (pa_cons (pv 1) pa_nil))))))), Ab.DS.dfn (spF_gc h) rfl (DS.seq (DS.drop (DE.call (fun _ => .nil) (DA.cons DE.var DA.nil)))
      (DS.seq (DS.drop (DE.call (fun _ => .nil) (DA.cons DE.var DA.nil)))
      (DS.ret (DE.call (fun _ => .nil) (DA.cons DE.var (DA.cons DE.var DA.nil))))))⟩
theorem calx__law_sums_right (T : Txt K mg (κ "Twisted") (κ "DrawError") (κ "BadWord") (κ "BadState") (κ "BadSteps") (κ "BadNumber") (κ "BadPolynomial") (κ "BadBits")) : Gx.CalX P w K mg base 8 "_law_sums_right" (spF (Wk K κ) 3 F__law_sums_right) := by
  obtain ⟨f, fd, F, b⟩ := T.d__law_sums_right
  refine Gx.calX F b sc__law_sums_right (fun vs H Q E h => spF.len h) (fun cdv A outer s H vs Q E hr h => ?_)
  have hu := hu_of hr
  have hu64 := hr.units
  have hu65 := Ab.u65 hr
  exact ⟨_, (pss_cons (ps_set (i := 3) sc__law_sums_right.nd rfl (.inl rfl) (Gx.pe_cx (calx__law_joined T) Gx.takes_cx (fun _ _ _ _ h => h) hr (by omega) (by rfl) (pa_cons (pv 0) (pa_cons (pv 1) pa_nil))))
      (pss_cons (ps_if (pt_cmpR (show OpR _ _ (Ab.rEqU K) by exact Ab.op_eqU hu64) (pe_callB (show CallR _ _ (Ab.rMaxU K) by exact Ab.call_maxU rfl) (by rfl) T.b_max (by decide +kernel) (pa_cons (pv 3) pa_nil)) pe_int (nomark _)) (pss_one (ps_ret pe_bl)) pss_nil)
      (pss_cons (ps_set (i := 4) sc__law_sums_right.nd rfl (.inl rfl) (Gx.pe_cx (calx__law_joined T) Gx.takes_cx (fun _ _ _ _ h => h) hr (by omega) (by rfl) (pa_cons (Gx.pe_smx (smetx_Twisted_state_after T) Gx.takes_cx (fun _ _ _ _ h => h) hr (by omega) (C8.pe_gc (by rfl) T.k_Twisted) (pa_cons (pv 0) (pa_cons (pv 2) pa_nil))) (pa_cons (Gx.pe_smx (smetx_Twisted_state_after T) Gx.takes_cx (fun _ _ _ _ h => h) hr (by omega) (C8.pe_gc (by rfl) T.k_Twisted) (pa_cons (pv 1) (pa_cons (pv 2) pa_nil))) pa_nil))))
      (pss_cons (ps_if (pt_cmpR (show OpR _ _ (Ab.rNeU K) by exact Ab.op_neU hu64) (Gx.pe_smx (smetx_Twisted_state_after T) Gx.takes_cx (fun _ _ _ _ h => h) hr (by omega) (C8.pe_gc (by rfl) T.k_Twisted) (pa_cons (pv 3) (pa_cons (pv 2) pa_nil))) (pv 4) (nomark _)) (pss_one (ps_ret pe_bl)) pss_nil)
      (pss_cons (ps_set (i := 5) sc__law_sums_right.nd rfl (.inl rfl) (pe_lst (pa_cons (Gx.pe_mkx (makx_Twisted T) Gx.takes_cx (fun _ _ _ _ h => h) hr (by omega) (by rfl) (pa_cons (pv 0) pa_nil)) (pa_cons (Gx.pe_mkx (makx_Twisted T) Gx.takes_cx (fun _ _ _ _ h => h) hr (by omega) (by rfl) (pa_cons (pv 1) pa_nil)) (pa_cons (Gx.pe_mkx (makx_Twisted T) Gx.takes_cx (fun _ _ _ _ h => h) hr (by omega) (by rfl) (pa_cons (pv 3) pa_nil)) pa_nil)))))
      (pss_cons (ps_for (passes_of rfl) rfl (pi_range1 rfl T.b_range (pa_cons pe_int pa_nil)) (pg_name (i := 6) sc__law_sums_right.nd rfl (.inl rfl)) (pss_cons (ps_asg (pe_lc (own := [("_law_source", 10)]) rfl sc__law_sums_right.nd (show PI _ _ _ (Ab.iterU K _) by exact Ab.PI.or (pi_list (pv 5)) (Ab.PI.or (pi_tup (pv 5)) (pi_str (pv 5)))) (blkOk_by (N := ["_law_row", "_law_other", "_law_n", "_law_both", "_law_due", "_law_sources", "_law_turn", "_law_one", "_law_far", "_law_whole", "_law_source"]) (sc := C8.fnScope s__law_sums_right) (by decide +kernel)) (fun _ _ _ _ _ => (pg_name (i := 10) sc__law_sums_right.nd rfl (.inl rfl))) (fun _ _ _ _ _ => pts_nil) (fun _ _ _ _ _ => (Gx.pe_cx (calx_untempered T) LamX.takes0 (E := fun _ _ _ => False) (fun _ _ _ _ h => h) hr (by omega) (by rfl) (pa_cons (Gx.pe_mx0 (metx_Twisted_next_word T) LamX.takes0 (E := fun _ _ _ => False) (fun _ _ _ _ h => h) hr (by omega) (pv 10)) pa_nil)))) (show PG _ _ (Un.gTupL K 3 _) by exact Un.pg_tupL rfl (pgs_cons (pg_name (i := 7) sc__law_sums_right.nd rfl (.inl rfl)) (pgs_cons (pg_name (i := 8) sc__law_sums_right.nd rfl (.inl rfl)) (pgs_cons (pg_name (i := 9) sc__law_sums_right.nd rfl (.inl rfl)) pgs_nil)))))
      (pss_one (ps_if (pt_cmpR (show OpR _ _ (Ab.rNeU K) by exact Ab.op_neU hu64) (pe_op op_xor (pv 7) (pv 8)) (pv 9) (nomark _)) (pss_one (ps_ret pe_bl)) pss_nil))))
      (pss_one (ps_ret (pe_cmpR (show OpR _ _ (Ab.rEqU K) by exact Ab.op_eqU hu64) (Gx.pe_propC (pe_ix (show IxR _ (Ab.rIxU K) by exact Ab.ix_U) (pv 5) pe_int (fun _ _ => rfl)) (prop_Twisted_state T) hr (by omega) rfl) (Gx.pe_cx (calx__law_joined T) Gx.takes_cx (fun _ _ _ _ h => h) hr (by omega) (by rfl) (pa_cons (Gx.pe_propC (pe_ix (show IxR _ (Ab.rIxU K) by exact Ab.ix_U) (pv 5) pe_int (fun _ _ => rfl)) (prop_Twisted_state T) hr (by omega) rfl) (pa_cons (Gx.pe_propC (pe_ix (show IxR _ (Ab.rIxU K) by exact Ab.ix_U) (pv 5) pe_int (fun _ _ => rfl)) (prop_Twisted_state T) hr (by omega) rfl) pa_nil))) (nomark _)))))))))), Ab.DS.dfn (spF_gc h) rfl (DS.seq (DS.asg (DE.call (fun _ => .nil) (DA.cons DE.var (DA.cons DE.var DA.nil))) DG.name Goes.name)
      (DS.seq (DS.ifs (DT.test (DE.op DR.eq (DE.cb DB.maxU (DA.cons DE.var DA.nil) NEL.maxU) (DE.c fun _ => .int _) NE2.eq)) (DS.ret (DE.c fun _ => .bl _)) DS.next)
      (DS.seq (DS.asg (DE.call (fun _ => .nil) (DA.cons (DE.smeth (DE.c fun _ => .cls "Twisted") (DA.cons DE.var (DA.cons DE.var DA.nil))) (DA.cons (DE.smeth (DE.c fun _ => .cls "Twisted") (DA.cons DE.var (DA.cons DE.var DA.nil))) DA.nil))) DG.name Goes.name)
      (DS.seq (DS.ifs (DT.gc (DT.test (DE.op DR.ne (DE.smeth (DE.c fun _ => .cls "Twisted") (DA.cons DE.var (DA.cons DE.var DA.nil))) DE.var NE2.ne))) (DS.ret (DE.c fun _ => .bl _)) DS.next)
      (DS.seq (DS.asg (DE.lst (DA.cons (DE.make (fun _ => .nil) (show "Twisted" ∈ (["Twisted"] : List String) by decide) (DA.cons DE.var DA.nil)) (DA.cons (DE.make (fun _ => .nil) (show "Twisted" ∈ (["Twisted"] : List String) by decide) (DA.cons DE.var DA.nil)) (DA.cons (DE.make (fun _ => .nil) (show "Twisted" ∈ (["Twisted"] : List String) by decide) (DA.cons DE.var DA.nil)) DA.nil)))) DG.name Goes.name)
      (DS.seq (DS.forS (DI.rng1 (DA.cons (DE.c fun _ => .int _) DA.nil)) DG.name Goes.name (DS.seq (DS.asg (DE.lc (DI.iter DE.var) DG.name Goes.name (WT.name (by decide)) DT.yes (DE.call (fun _ => .nil) (DA.cons (DE.meth (fun _ => .nil) DE.var DA.nil) DA.nil))) (DG.tupL (DGs.cons DG.name (DGs.cons DG.name (DGs.cons DG.name DGs.nil)))) (Goes.tupL (GoesL.cons Goes.name (GoesL.cons Goes.name (GoesL.cons Goes.name GoesL.nil)))))
      (DS.ifs (DT.test (DE.op DR.ne (DE.op (DR.i0 fun _ _ _ => .int _) DE.var DE.var NE2.i0) DE.var NE2.ne)) (DS.ret (DE.c fun _ => .bl _)) DS.next)))
      (DS.ret (DE.op DR.eq (DE.prop (DE.op DR.ix DE.var (DE.c fun _ => .int _) NE2.ix)) (DE.call (fun _ => .nil) (DA.cons (DE.prop (DE.op DR.ix DE.var (DE.c fun _ => .int _) NE2.ix)) (DA.cons (DE.prop (DE.op DR.ix DE.var (DE.c fun _ => .int _) NE2.ix)) DA.nil))) NE2.eq))))))))⟩
theorem calx__law_lane_right (T : Txt K mg (κ "Twisted") (κ "DrawError") (κ "BadWord") (κ "BadState") (κ "BadSteps") (κ "BadNumber") (κ "BadPolynomial") (κ "BadBits")) : Gx.CalX P w K mg base 8 "_law_lane_right" (spF (Wk K κ) 3 F__law_lane_right) := by
  obtain ⟨f, fd, F, b⟩ := T.d__law_lane_right
  refine Gx.calX F b sc__law_lane_right (fun vs H Q E h => spF.len h) (fun cdv A outer s H vs Q E hr h => ?_)
  have hu := hu_of hr
  have hu64 := hr.units
  have hu65 := Ab.u65 hr
  exact ⟨_, (pss_cons (ps_set (i := 3) sc__law_lane_right.nd rfl (.inr rfl) (Gx.pe_mkx (makx_Twisted T) Gx.takes_cx (fun _ _ _ _ h => h) hr (by omega) (by rfl) (pa_cons (pv 0) pa_nil)))
      (pss_cons (ps_setLc (i := 4) (own := [("_law_turn", 5)]) rfl sc__law_lane_right.nd rfl rfl (sw_true rfl rfl rfl (by decide +kernel)) (pi_range1 rfl T.b_range (pa_cons pe_int pa_nil)) (blkOk_by (N := ["_law_row", "_law_place", "_law_n", "_law_source", "_law_raw", "_law_turn", "_law_bits", "_law_word"]) (sc := C8.fnScope s__law_lane_right) (by decide +kernel)) (fun _ _ _ _ _ => (pg_name (i := 5) sc__law_lane_right.nd rfl (.inl rfl))) (fun _ _ _ _ _ => pts_nil) (fun _ _ _ _ _ => (Gx.pe_cx (calx_untempered T) LamX.takes0 (E := fun _ _ _ => False) (fun _ _ _ _ h => h) hr (by omega) (by rfl) (pa_cons (Gx.pe_mx0 (metx_Twisted_next_word T) LamX.takes0 (E := fun _ _ _ => False) (fun _ _ _ _ h => h) hr (by omega) (pv 3)) pa_nil))))
      (pss_cons (ps_set (i := 6) sc__law_lane_right.nd rfl (.inl rfl) (pe_op (show OpR _ _ (Ab.rAddU K) by exact Ab.op_addU) (Gx.pe_mx (metx_Twisted_lane T) Gx.takes_cx (fun _ _ _ _ h => h) hr (by omega) (Gx.pe_mkx (makx_Twisted T) Gx.takes_cx (fun _ _ _ _ h => h) hr (by omega) (by rfl) (pa_cons (pv 0) pa_nil)) (pa_cons (pv 1) pa_nil)) (pe_callTy Gx.call_tupOf (by rfl) T.b_tuple (by decide +kernel) (pa_cons (pe_lc (own := [("_law_word", 7)]) rfl sc__law_lane_right.nd (show PI _ _ _ (Ab.iterU K _) by exact Ab.PI.or (pi_list (pv 4)) (Ab.PI.or (pi_tup (pv 4)) (pi_str (pv 4)))) (blkOk_by (N := ["_law_row", "_law_place", "_law_n", "_law_source", "_law_raw", "_law_turn", "_law_bits", "_law_word"]) (sc := C8.fnScope s__law_lane_right) (by decide +kernel)) (fun _ _ _ _ _ => (pg_name (i := 7) sc__law_lane_right.nd rfl (.inl rfl))) (fun _ _ _ _ _ => pts_nil) (fun _ _ _ _ _ => (pe_op op_and (pe_op op_shr (pv 7) (pv 1)) pe_int))) pa_nil))))
      (pss_cons (ps_if (PW.pt (pw_or (pt_cmpR op_notBl (Gx.pe_cx (calx_follows T) Gx.takes_cx (fun _ _ _ _ h => h) hr (by omega) (by rfl) (pa_cons (pv 6) (pa_cons pe_int pa_nil))) pe_bl (nomark _)) (pw_or1 (pt_cmpR (show OpR _ _ (Ab.rNeU K) by exact Ab.op_neU hu64) (Gx.pe_mx (metx_Twisted_lane T) Gx.takes_cx (fun _ _ _ _ h => h) hr (by omega) (pv 3) (pa_cons (pv 1) pa_nil)) (pe_slice (show SlR _ (Ab.rSlU K) by exact Ab.sl_U) (pv 6) (po_some pe_int) po_none) (nomark _))))) (pss_one (ps_ret pe_bl)) pss_nil)
      (pss_cons (ps_if (pt_cmpR (show OpR _ _ (Ab.rEqU K) by exact Ab.op_eqU hu64) (pe_callB (show CallR _ _ (Ab.rMaxU K) by exact Ab.call_maxU rfl) (by rfl) T.b_max (by decide +kernel) (pa_cons (pv 6) pa_nil)) pe_int (nomark _)) (pss_one (ps_ret (pe_cmpR (show OpR _ _ (Ab.rEqU K) by exact Ab.op_eqU hu64) (Gx.pe_mx (metx_Twisted_lane T) Gx.takes_cx (fun _ _ _ _ h => h) hr (by omega) (Gx.pe_mkx (makx_Twisted T) Gx.takes_cx (fun _ _ _ _ h => h) hr (by omega) (by rfl) (pa_cons (Gx.pe_smx (smetx_Twisted_state_after T) Gx.takes_cx (fun _ _ _ _ h => h) hr (by omega) (C8.pe_gc (by rfl) T.k_Twisted) (pa_cons (pv 0) (pa_cons (pv 2) pa_nil))) pa_nil)) (pa_cons (pv 1) pa_nil)) (pe_op (show OpR _ _ (Ab.rMulV K) by exact Ab.op_mulV) (pe_tup (pa_cons pe_int pa_nil)) pe_int) (nomark _)))) pss_nil)
      (pss_one (ps_ret (pe_cmpR (show OpR _ _ (Ab.rEqU K) by exact Ab.op_eqU hu64) (pe_lst (pa_cons (Gx.pe_cx (calx_shortest_rule T) Gx.takes_cx (fun _ _ _ _ h => h) hr (by omega) (by rfl) (pa_cons (pv 6) pa_nil)) (pa_cons (Gx.pe_cx (calx_rule_length T) Gx.takes_cx (fun _ _ _ _ h => h) hr (by omega) (by rfl) (pa_cons (pe_slice (show SlR _ (Ab.rSlU K) by exact Ab.sl_U) (pv 6) (po_some pe_int) po_none) pa_nil)) pa_nil))) (pe_lst (pa_cons pe_int (pa_cons pe_int pa_nil))) (nomark _))))))))), Ab.DS.dfn (spF_gc h) rfl (DS.seq (DS.asg (DE.make (fun _ => .nil) (show "Twisted" ∈ (["Twisted"] : List String) by decide) (DA.cons DE.var DA.nil)) DG.name Goes.name)
      (DS.seq (DS.asg (DE.lc (DI.rng1 (DA.cons (DE.c fun _ => .int _) DA.nil)) DG.name Goes.name (WT.name (by decide)) DT.yes (DE.call (fun _ => .nil) (DA.cons (DE.meth (fun _ => .nil) DE.var DA.nil) DA.nil))) DG.name Goes.name)
      (DS.seq (DS.asg (DE.op DR.add (DE.meth (fun _ => .nil) (DE.make (fun _ => .nil) (show "Twisted" ∈ (["Twisted"] : List String) by decide) (DA.cons DE.var DA.nil)) (DA.cons DE.var DA.nil)) (DE.cb DB.tuple (DA.cons (DE.lc (DI.iter DE.var) DG.name Goes.name (WT.name (by decide)) DT.yes (DE.op (DR.i0 fun _ _ _ => .int _) (DE.op (DR.i fun _ _ _ => .int _) DE.var DE.var NE2.i) (DE.c fun _ => .int _) NE2.i0)) DA.nil) NEL.tuple) NE2.add) DG.name Goes.name)
      (DS.seq (DS.ifs (DT.gc (DT.or (DT.test (DE.op DR.notB (DE.call (fun _ => .nil) (DA.cons DE.var (DA.cons (DE.c fun _ => .int _) DA.nil))) (DE.c fun _ => .bl _) NE2.notB)) (DT.test (DE.op DR.ne (DE.meth (fun _ => .nil) DE.var (DA.cons DE.var DA.nil)) (DE.sl DE.var (DO.part (DE.c fun _ => .int _)) DO.no) NE2.ne)))) (DS.ret (DE.c fun _ => .bl _)) DS.next)
      (DS.seq (DS.ifs (DT.test (DE.op DR.eq (DE.cb DB.maxU (DA.cons DE.var DA.nil) NEL.maxU) (DE.c fun _ => .int _) NE2.eq)) (DS.ret (DE.op DR.eq (DE.meth (fun _ => .nil) (DE.make (fun _ => .nil) (show "Twisted" ∈ (["Twisted"] : List String) by decide) (DA.cons (DE.smeth (DE.c fun _ => .cls "Twisted") (DA.cons DE.var (DA.cons DE.var DA.nil))) DA.nil)) (DA.cons DE.var DA.nil)) (DE.op DR.mulV (DE.tup (DA.cons (DE.c fun _ => .int _) DA.nil)) (DE.c fun _ => .int _) NE2.mulV) NE2.eq)) DS.next)
      (DS.ret (DE.op DR.eq (DE.lst (DA.cons (DE.call (fun _ => .nil) (DA.cons DE.var DA.nil)) (DA.cons (DE.call (fun _ => .nil) (DA.cons (DE.sl DE.var (DO.part (DE.c fun _ => .int _)) DO.no) DA.nil)) DA.nil))) (DE.lst (DA.cons (DE.c fun _ => .int _) (DA.cons (DE.c fun _ => .int _) DA.nil))) NE2.eq)))))))⟩
theorem calx__law_alone_right (T : Txt K mg (κ "Twisted") (κ "DrawError") (κ "BadWord") (κ "BadState") (κ "BadSteps") (κ "BadNumber") (κ "BadPolynomial") (κ "BadBits")) : Gx.CalX P w K mg base 8 "_law_alone_right" (spF (Wk K κ) 3 F__law_alone_right) := by
  obtain ⟨f, fd, F, b⟩ := T.d__law_alone_right
  refine Gx.calX F b sc__law_alone_right (fun vs H Q E h => spF.len h) (fun cdv A outer s H vs Q E hr h => ?_)
  have hu := hu_of hr
  have hu64 := hr.units
  have hu65 := Ab.u65 hr
  exact ⟨_, (pss_cons (ps_set (i := 3) sc__law_alone_right.nd rfl (.inl rfl) (pe_callTy Gx.call_tupOf (by rfl) T.b_tuple (by decide +kernel) (pa_cons (pe_lc (own := [("_law_word", 4)]) rfl sc__law_alone_right.nd (show PI _ _ _ (Ab.iterU K _) by exact Ab.PI.or (pi_list (pv 0)) (Ab.PI.or (pi_tup (pv 0)) (pi_str (pv 0)))) (blkOk_by (N := ["_law_row", "_law_place", "_law_n", "_law_alone", "_law_word", "_law_far"]) (sc := C8.fnScope s__law_alone_right) (by decide +kernel)) (fun _ _ _ _ _ => (pg_name (i := 4) sc__law_alone_right.nd rfl (.inl rfl))) (fun _ _ _ _ _ => pts_nil) (fun _ _ _ _ _ => (pe_op op_and (pv 4) (pe_op op_shlW pe_int (pv 1))))) pa_nil)))
      (pss_cons (ps_if (pt_cmpR (show OpR _ _ (Ab.rEqU K) by exact Ab.op_eqU hu64) (pe_callB (show CallR _ _ (Ab.rMaxU K) by exact Ab.call_maxU rfl) (by rfl) T.b_max (by decide +kernel) (pa_cons (pv 3) pa_nil)) pe_int (nomark _)) (pss_one (ps_ret pe_bl)) pss_nil)
      (pss_cons (ps_set (i := 5) sc__law_alone_right.nd rfl (.inl rfl) (Gx.pe_smx (smetx_Twisted_state_after T) Gx.takes_cx (fun _ _ _ _ h => h) hr (by omega) (C8.pe_gc (by rfl) T.k_Twisted) (pa_cons (pv 0) (pa_cons (pv 2) pa_nil))))
      (pss_one (ps_ret (pe_cmpR (show OpR _ _ (Ab.rEqU K) by exact Ab.op_eqU hu64) (Gx.pe_smx (smetx_Twisted_state_after T) Gx.takes_cx (fun _ _ _ _ h => h) hr (by omega) (C8.pe_gc (by rfl) T.k_Twisted) (pa_cons (pv 3) (pa_cons (pv 2) pa_nil))) (pe_callTy Gx.call_tupOf (by rfl) T.b_tuple (by decide +kernel) (pa_cons (pe_lc (own := [("_law_word", 4)]) rfl sc__law_alone_right.nd (show PI _ _ _ (Ab.iterU K _) by exact Ab.PI.or (pi_list (pv 5)) (Ab.PI.or (pi_tup (pv 5)) (pi_str (pv 5)))) (blkOk_by (N := ["_law_row", "_law_place", "_law_n", "_law_alone", "_law_word", "_law_far"]) (sc := C8.fnScope s__law_alone_right) (by decide +kernel)) (fun _ _ _ _ _ => (pg_name (i := 4) sc__law_alone_right.nd rfl (.inl rfl))) (fun _ _ _ _ _ => pts_nil) (fun _ _ _ _ _ => (pe_op op_and (pv 4) (pe_op op_shlW pe_int (pv 1))))) pa_nil)) (nomark _))))))), Ab.DS.dfn (spF_gc h) rfl (DS.seq (DS.asg (DE.cb DB.tuple (DA.cons (DE.lc (DI.iter DE.var) DG.name Goes.name (WT.name (by decide)) DT.yes (DE.op (DR.i0 fun _ _ _ => .int _) DE.var (DE.op (DR.i fun _ _ _ => .int _) (DE.c fun _ => .int _) DE.var NE2.i) NE2.i0)) DA.nil) NEL.tuple) DG.name Goes.name)
      (DS.seq (DS.ifs (DT.test (DE.op DR.eq (DE.cb DB.maxU (DA.cons DE.var DA.nil) NEL.maxU) (DE.c fun _ => .int _) NE2.eq)) (DS.ret (DE.c fun _ => .bl _)) DS.next)
      (DS.seq (DS.asg (DE.smeth (DE.c fun _ => .cls "Twisted") (DA.cons DE.var (DA.cons DE.var DA.nil))) DG.name Goes.name)
      (DS.ret (DE.op DR.eq (DE.smeth (DE.c fun _ => .cls "Twisted") (DA.cons DE.var (DA.cons DE.var DA.nil))) (DE.cb DB.tuple (DA.cons (DE.lc (DI.iter DE.var) DG.name Goes.name (WT.name (by decide)) DT.yes (DE.op (DR.i0 fun _ _ _ => .int _) DE.var (DE.op (DR.i fun _ _ _ => .int _) (DE.c fun _ => .int _) DE.var NE2.i) NE2.i0)) DA.nil) NEL.tuple) NE2.eq)))))⟩
def spLaw (K : PySem.W.Frag) : Sp := fun vs H Q _ => ∃ (a : Addr) (ns : List Int), vs = [.ref a] ∧ SqF K H a (ns.map V.int) ∧ LamX.Tabs [] H ∧ (∃ s', F_law [.scr (ns.map .int)] s0 = .ok (.bl true) s') ∧ ∀ H', Q (.bl true) H'
theorem fn_law (T : Txt K mg (κ "Twisted") (κ "DrawError") (κ "BadWord") (κ "BadState") (κ "BadSteps") (κ "BadNumber") (κ "BadPolynomial") (κ "BadBits")) {f : Addr} {fd : FuncData} (F : C8.Def K mg "law" s_law f fd) : Gx.FnG P w K mg base 9 f fd ["_law_script"] (spLaw K) := by
  refine Gx.fnG_of F.fn sc_law (fun vs H Q E h => ?_) (fun cdv A outer s H vs Q gd hr h => ?_)
  · obtain ⟨a, ns, rfl, _⟩ := h; rfl
  · obtain ⟨a, ns, rfl, hS, tb, hl, q⟩ := h
    have hu := hu_of hr
    have hu64 := hr.units
    have hu65 := Ab.u65 hr
    exact ⟨_, (pss_cons (ps_set (i := 1) sc_law.nd rfl (.inl rfl) (Gx.pe_cx (calx__law_begun T) LamX.takes0 (E := fun _ _ _ => False) (fun _ _ _ _ h => h) hr (by omega) (by rfl) (pa_cons (pv 0) pa_nil)))
      (pss_cons (ps_for PassesOwn.never rfl (pi_range1 rfl T.b_range (pa_cons (pe_op (show OpR _ _ (Ab.rAddU K) by exact Ab.op_addU) pe_int (pe_callB (Rd.call_mn2 rfl) (by rfl) T.b_min (by decide +kernel) (pa_cons pe_int (pa_cons (pe_callB (show CallR _ _ (Ab.rLenU K) by exact Ab.call_lenU) (by rfl) T.b_len PySem.boot_len (pa_cons (pv 0) pa_nil)) pa_nil)))) pa_nil)) (pg_name (i := 2) sc_law.nd rfl (.inl rfl)) (pss_cons (ps_par3 (i := 3) (j := 4) (l := 5) rfl sc_law.nd rfl rfl rfl (by decide) (by decide) (by decide) rfl rfl rfl (pa_cons (Gx.pe_cx (calx__law_start T) LamX.takes0 (E := fun _ _ _ => False) (fun _ _ _ _ h => h) hr (by omega) (by rfl) (pa_cons (pv 1) pa_nil)) (pa_cons (Gx.pe_cx (calx__law_start T) LamX.takes0 (E := fun _ _ _ => False) (fun _ _ _ _ h => h) hr (by omega) (by rfl) (pa_cons (pv 1) pa_nil)) (pa_cons (Gx.pe_cx (calx__law_next T) LamX.takes0 (E := fun _ _ _ => False) (fun _ _ _ _ h => h) hr (by omega) (by rfl) (pa_cons (pv 1) (pa_cons (pe_op op_shlW pe_int pe_int) pa_nil))) pa_nil))) (by rfl))
      (pss_cons (ps_set (i := 6) sc_law.nd rfl (.inl rfl) (Gx.pe_cx (calx__law_next T) LamX.takes0 (E := fun _ _ _ => False) (fun _ _ _ _ h => h) hr (by omega) (by rfl) (pa_cons (pv 1) (pa_cons pe_int pa_nil))))
      (pss_cons (ps_if (PW.pt (pw_or (pt_not (pt_val (Gx.pe_cx (calx__law_sums_right T) LamX.takes0 (E := fun _ _ _ => False) (fun _ _ _ _ h => h) hr (by omega) (by rfl) (pa_cons (pv 3) (pa_cons (pv 4) (pa_cons (pv 5) pa_nil)))))) (pw_or1 (pt_not (pt_val (Gx.pe_cx (calx__law_lane_right T) LamX.takes0 (E := fun _ _ _ => False) (fun _ _ _ _ h => h) hr (by omega) (by rfl) (pa_cons (pv 3) (pa_cons (pv 6) (pa_cons (pv 5) pa_nil))))))))) (pss_one (ps_ret pe_bl)) pss_nil)
      (pss_one (ps_if (PW.pt (pw_or (pt_not (pt_val (Gx.pe_cx (calx__law_lane_right T) LamX.takes0 (E := fun _ _ _ => False) (fun _ _ _ _ h => h) hr (by omega) (by rfl) (pa_cons (pv 4) (pa_cons (pe_op op_mod (pv 6) pe_int) (pa_cons (pv 5) pa_nil)))))) (pw_or1 (pt_not (pt_val (Gx.pe_cx (calx__law_alone_right T) LamX.takes0 (E := fun _ _ _ => False) (fun _ _ _ _ h => h) hr (by omega) (by rfl) (pa_cons (pv 3) (pa_cons (pv 6) (pa_cons (pv 5) pa_nil))))))))) (pss_one (ps_ret pe_bl)) pss_nil))))))
      (pss_one (ps_ret (pe_and (Gx.pe_cx (calx__law_lane_right T) LamX.takes0 (E := fun _ _ _ => False) (fun _ _ _ _ h => h) hr (by omega) (by rfl) (pa_cons (pe_op (show OpR _ _ (Ab.rMulV K) by exact Ab.op_mulV) (pe_tup (pa_cons pe_int pa_nil)) pe_int) (pa_cons pe_int (pa_cons pe_int pa_nil)))) (pe_one (Gx.pe_cx (calx__law_lane_right T) LamX.takes0 (E := fun _ _ _ => False) (fun _ _ _ _ h => h) hr (by omega) (by rfl) (pa_cons (pe_op (show OpR _ _ (Ab.rAddU K) by exact Ab.op_addU) (pe_tup (pa_cons pe_int pa_nil)) (pe_op (show OpR _ _ (Ab.rMulV K) by exact Ab.op_mulV) (pe_tup (pa_cons pe_int pa_nil)) pe_int)) (pa_cons pe_int (pa_cons pe_int pa_nil)))))))))), law_run (W := (Wk K κ)) (fun _ => trivial) hS tb hl rfl (DS.seq (DS.asg (DE.call (fun _ => .nil) (DA.cons DE.var DA.nil)) DG.name Goes.name)
      (DS.seq (DS.forS (DI.rng1 (DA.cons (DE.op DR.add (DE.c fun _ => .int _) (DE.cb DB.min2 (DA.cons (DE.c fun _ => .int _) (DA.cons (DE.cb DB.len (DA.cons DE.var DA.nil) NEL.len) DA.nil)) NEL.min2) NE2.add) DA.nil)) DG.name Goes.name (DS.seq (DS.par3 (DA.cons (DE.call (fun _ => .nil) (DA.cons DE.var DA.nil)) (DA.cons (DE.call (fun _ => .nil) (DA.cons DE.var DA.nil)) (DA.cons (DE.call (fun _ => .nil) (DA.cons DE.var (DA.cons (DE.op (DR.i fun _ _ _ => .int _) (DE.c fun _ => .int _) (DE.c fun _ => .int _) NE2.i) DA.nil))) DA.nil))))
      (DS.seq (DS.asg (DE.call (fun _ => .nil) (DA.cons DE.var (DA.cons (DE.c fun _ => .int _) DA.nil))) DG.name Goes.name)
      (DS.seq (DS.ifs (DT.gc (DT.or (DT.not (DT.b (DE.call (fun _ => .nil) (DA.cons DE.var (DA.cons DE.var (DA.cons DE.var DA.nil)))))) (DT.not (DT.b (DE.call (fun _ => .nil) (DA.cons DE.var (DA.cons DE.var (DA.cons DE.var DA.nil)))))))) (DS.ret (DE.c fun _ => .bl _)) DS.next)
      (DS.ifs (DT.gc (DT.or (DT.not (DT.b (DE.call (fun _ => .nil) (DA.cons DE.var (DA.cons (DE.op (DR.i fun _ _ _ => .int _) DE.var (DE.c fun _ => .int _) NE2.i) (DA.cons DE.var DA.nil)))))) (DT.not (DT.b (DE.call (fun _ => .nil) (DA.cons DE.var (DA.cons DE.var (DA.cons DE.var DA.nil)))))))) (DS.ret (DE.c fun _ => .bl _)) DS.next)))))
      (DS.ret (DE.andV (DE.call (fun _ => .nil) (DA.cons (DE.op DR.mulV (DE.tup (DA.cons (DE.c fun _ => .int _) DA.nil)) (DE.c fun _ => .int _) NE2.mulV) (DA.cons (DE.c fun _ => .int _) (DA.cons (DE.c fun _ => .int _) DA.nil)))) (DE.call (fun _ => .nil) (DA.cons (DE.op DR.add (DE.tup (DA.cons (DE.c fun _ => .int _) DA.nil)) (DE.op DR.mulV (DE.tup (DA.cons (DE.c fun _ => .int _) DA.nil)) (DE.c fun _ => .int _) NE2.mulV) NE2.add) (DA.cons (DE.c fun _ => .int _) (DA.cons (DE.c fun _ => .int _) DA.nil)))))))) q⟩
end
end Pf
set_option linter.all false
set_option maxRecDepth 100000
namespace TW
/-- the exclusive or of the items behind b whose places are digits of p -/
def act : Nat → Nat → (Nat → Nat) → Nat → Nat
  | 0, _, _, _ => 0
  | n + 1, p, u, b => (if p % 2 = 1 then u b else 0) ^^^ act n (p / 2) u (b + 1)
theorem xor4 (a b c d : Nat) : (a ^^^ b) ^^^ (c ^^^ d) = (a ^^^ c) ^^^ (b ^^^ d) := by
  rw [Nat.xor_assoc, Nat.xor_assoc, ← Nat.xor_assoc b c d, Nat.xor_comm b c, Nat.xor_assoc c b d]
theorem xor_mod2 (p q : Nat) : (p ^^^ q) % 2 = (p % 2 + q % 2) % 2 := by
  have h := Nat.testBit_xor p q 0
  simp only [Nat.testBit_zero] at h
  have a := Nat.mod_two_eq_zero_or_one p
  have b := Nat.mod_two_eq_zero_or_one q
  have c := Nat.mod_two_eq_zero_or_one (p ^^^ q)
  rcases a with a | a <;> rcases b with b | b <;> rcases c with c | c <;> simp [a, b, c] at h ⊢
theorem xor_div2 (p q : Nat) : (p ^^^ q) / 2 = (p / 2) ^^^ (q / 2) := by
  simpa [Nat.shiftRight_eq_div_pow] using @Nat.shiftRight_xor_distrib 1 p q
theorem act_xor : ∀ (n p q : Nat) (u : Nat → Nat) (b : Nat), act n (p ^^^ q) u b = act n p u b ^^^ act n q u b
  | 0, p, q, u, b => by simp [act]
  | n + 1, p, q, u, b => by
    unfold act
    rw [xor_div2, act_xor n, xor_mod2, xor4]
    congr 1
    rcases Nat.mod_two_eq_zero_or_one p with a | a <;> rcases Nat.mod_two_eq_zero_or_one q with c | c <;> simp [a, c]
theorem act_zero : ∀ (n : Nat) (u : Nat → Nat) (b : Nat), act n 0 u b = 0
  | 0, u, b => rfl
  | n + 1, u, b => by unfold act; simp [act_zero n]
theorem act_shift : ∀ (n p : Nat) (u : Nat → Nat) (b k : Nat), act n p (fun b => u (b + k)) b = act n p u (b + k)
  | 0, p, u, b, k => rfl
  | n + 1, p, u, b, k => by
    unfold act
    rw [act_shift n, show b + 1 + k = b + k + 1 by omega]
theorem act_fuel : ∀ (n m p : Nat) (u : Nat → Nat) (b : Nat), p < 2 ^ n → n ≤ m → act m p u b = act n p u b
  | 0, m, p, u, b, h, _ => by
    have : p = 0 := by simpa using h
    rw [this, act_zero]; rfl
  | n + 1, 0, p, u, b, h, k => by omega
  | n + 1, m + 1, p, u, b, h, k => by
    unfold act
    rw [act_fuel n m (p / 2) u (b + 1) (by rw [Nat.pow_succ] at h; omega) (by omega)]
theorem act_lin : ∀ (n p : Nat) (u v : Nat → Nat) (b : Nat), act n p (fun b => u b ^^^ v b) b = act n p u b ^^^ act n p v b
  | 0, p, u, v, b => by simp [act]
  | n + 1, p, u, v, b => by
    unfold act
    rw [act_lin n, xor4]
    congr 1
    by_cases h : p % 2 = 1 <;> simp [h]
theorem act_ext : ∀ (n p : Nat) (u v : Nat → Nat) (b : Nat), (∀ i, b ≤ i → u i = v i) → act n p u b = act n p v b
  | 0, p, u, v, b, h => rfl
  | n + 1, p, u, v, b, h => by
    unfold act
    rw [h b (Nat.le_refl b), act_ext n (p / 2) u v (b + 1) fun i hi => h i (by omega)]
theorem act_nil : ∀ (n p : Nat) (b : Nat), act n p (fun _ => 0) b = 0
  | 0, p, b => rfl
  | n + 1, p, b => by unfold act; rw [act_nil n]; simp
def A (p : Nat) (u : Nat → Nat) (b : Nat) : Nat := act p p u b
theorem A_fuel {n p : Nat} (h : p < 2 ^ n) (u : Nat → Nat) (b : Nat) : A p u b = act n p u b := by
  unfold A
  rcases Nat.le_total n p with k | k
  · exact act_fuel n p p u b h k
  · exact (act_fuel p n p u b Nat.lt_two_pow_self k).symm
theorem lt_big {p n : Nat} (h : p ≤ n) : p < 2 ^ n := Nat.lt_of_lt_of_le Nat.lt_two_pow_self (Nat.pow_le_pow_right (by decide) h)
theorem A_xor (p q : Nat) (u : Nat → Nat) (b : Nat) : A (p ^^^ q) u b = A p u b ^^^ A q u b := by
  rw [A_fuel (lt_big (n := p + q + (p ^^^ q)) (by omega)), A_fuel (p := p) (lt_big (n := p + q + (p ^^^ q)) (by omega)), A_fuel (p := q) (lt_big (n := p + q + (p ^^^ q)) (by omega)), act_xor]
theorem A_zero (u : Nat → Nat) (b : Nat) : A 0 u b = 0 := rfl
theorem A_step (p : Nat) (u : Nat → Nat) (b : Nat) : A p u b = (if p % 2 = 1 then u b else 0) ^^^ A (p / 2) u (b + 1) := by
  rw [A_fuel (lt_big (n := p + 1) (by omega)), A_fuel (p := p / 2) (lt_big (n := p) (by omega))]
  rfl
theorem A_one (u : Nat → Nat) (b : Nat) : A 1 u b = u b := by rw [A_step]; simp [A_zero]
theorem A_two (p : Nat) (u : Nat → Nat) (b : Nat) : A (2 * p) u b = A p u (b + 1) := by
  rw [A_step, show 2 * p % 2 = 0 by omega, show 2 * p / 2 = p by omega]
  simp
theorem A_shl (p : Nat) (u : Nat → Nat) : ∀ (k b : Nat), A (p * 2 ^ k) u b = A p u (b + k)
  | 0, b => by simp
  | k + 1, b => by
    rw [Nat.pow_succ, show p * (2 ^ k * 2) = 2 * (p * 2 ^ k) by rw [← Nat.mul_assoc]; exact Nat.mul_comm _ _, A_two, A_shl p u k, show b + 1 + k = b + (k + 1) by omega]
theorem A_shift (p : Nat) (u : Nat → Nat) (b k : Nat) : A p (fun b => u (b + k)) b = A p u (b + k) := act_shift p p u b k
theorem A_ext {p : Nat} {u v : Nat → Nat} {b : Nat} (h : ∀ i, b ≤ i → u i = v i) : A p u b = A p v b := act_ext p p u v b h
theorem A_nil (p b : Nat) : A p (fun _ => 0) b = 0 := act_nil p p b
theorem A_lin (p : Nat) (u v : Nat → Nat) (b : Nat) : A p (fun b => u b ^^^ v b) b = A p u b ^^^ A p v b := act_lin p p u v b
/-- products -/
def prodN : Nat → Nat → Nat → Nat → Nat
  | 0, f, _, _ => f
  | n + 1, f, s, r => if r = 0 then f else prodN n (if r % 2 = 1 then f ^^^ s else f) (2 * s) (r / 2)
theorem A_prodN (u : Nat → Nat) : ∀ (n f s r b : Nat), r < 2 ^ n → A (prodN n f s r) u b = A f u b ^^^ A r (A s u) b
  | 0, f, s, r, b, h => by
    have : r = 0 := by simpa using h
    subst this
    show A f u b = _
    rw [A_zero, Nat.xor_zero]
  | n + 1, f, s, r, b, h => by
    unfold prodN
    by_cases hr : r = 0
    · subst hr
      rw [if_pos rfl, A_zero, Nat.xor_zero]
    · rw [if_neg hr, A_prodN u n _ _ _ b (by rw [Nat.pow_succ] at h; omega), A_step r]
      have e : A (r / 2) (A (2 * s) u) b = A (r / 2) (A s u) (b + 1) := by
        rw [← A_shift]
        exact A_ext fun i _ => A_two s u i
      rw [e]
      by_cases h2 : r % 2 = 1
      · rw [if_pos h2, if_pos h2, A_xor, Nat.xor_assoc]
      · rw [if_neg h2, if_neg h2, Nat.zero_xor]
/-- rests -/
def len (n : Nat) : Nat := if n = 0 then 0 else n.log2 + 1
theorem len_pos {n : Nat} (h : n ≠ 0) : len n = n.log2 + 1 := if_neg h
theorem lt_len (n : Nat) : n < 2 ^ len n := by
  unfold len
  split
  · subst n; decide
  · exact Nat.lt_log2_self
theorem len_le {n k : Nat} (h : n < 2 ^ k) : len n ≤ k := by
  unfold len
  split
  · omega
  · rename_i hn
    exact (Nat.log2_lt hn).mpr h
theorem le_len {n k : Nat} (h : 2 ^ k ≤ n) : k < len n := by
  have hn : n ≠ 0 := by have := Nat.pow_pos (n := k) (show 0 < 2 by decide); omega
  rw [len_pos hn]
  exact Nat.lt_succ_of_le ((Nat.le_log2 hn).mpr h)
theorem len_ge {n : Nat} (h : n ≠ 0) : 2 ^ (len n - 1) ≤ n := by
  rw [len_pos h]
  exact Nat.log2_self_le h
/-- the highest digits go away -/
theorem top_xor {k a b : Nat} (ha : 2 ^ k ≤ a) (ha2 : a < 2 ^ (k + 1)) (hb : 2 ^ k ≤ b) (hb2 : b < 2 ^ (k + 1)) : a ^^^ b < 2 ^ k := by
  refine Nat.lt_pow_two_of_testBit _ fun i hi => ?_
  rw [Nat.testBit_xor]
  rcases Nat.lt_or_ge k i with h | h
  · rw [Nat.testBit_lt_two_pow (Nat.lt_of_lt_of_le ha2 (Nat.pow_le_pow_right (by decide) h)), Nat.testBit_lt_two_pow (Nat.lt_of_lt_of_le hb2 (Nat.pow_le_pow_right (by decide) h))]
    rfl
  · have e : i = k := by omega
    subst e
    have t : ∀ c, 2 ^ i ≤ c → c < 2 ^ (i + 1) → c.testBit i = true := fun c h1 h2 => by
      rw [Nat.testBit_eq_decide_div_mod_eq]
      have : c / 2 ^ i = 1 := by
        rw [Nat.pow_succ] at h2
        exact Nat.div_eq_of_lt_le (by omega) (by omega)
      rw [this]
      decide
    rw [t a ha ha2, t b hb hb2]
    rfl
/-- a step of a division: the rest's highest digit goes -/
theorem len_step {r m : Nat} (hm : m ≠ 0) (h : len m ≤ len r) : len (r ^^^ m * 2 ^ (len r - len m)) < len r := by
  have hr : r ≠ 0 := fun z => by
    subst z
    have : len 0 = 0 := rfl
    have : len m = m.log2 + 1 := len_pos hm
    omega
  have lr := len_pos hr
  have lm := len_pos hm
  have r1 := lt_len r
  have r2 := len_ge hr
  have m1 := lt_len m
  have m2 := len_ge hm
  have e : ∀ a b : Nat, a ≤ b → 2 ^ a * 2 ^ (b - a) = 2 ^ b := fun a b hab => by rw [← Nat.pow_add]; congr 1; omega
  have := top_xor (k := len r - 1) (a := r) (b := m * 2 ^ (len r - len m)) r2 (by rw [show len r - 1 + 1 = len r by omega]; exact r1)
    (by
      have := Nat.mul_le_mul_right (2 ^ (len r - len m)) m2
      rw [show len r - len m = (len r - 1) - (len m - 1) by omega] at this ⊢
      rw [e _ _ (by omega)] at this
      exact this)
    (by
      rw [show len r - 1 + 1 = len r by omega]
      have := Nat.mul_lt_mul_of_pos_right m1 (Nat.pow_pos (n := len r - len m) (show 0 < 2 by decide))
      rw [e _ _ h] at this
      exact this)
  have := len_le this
  omega
def restN : Nat → Nat → Nat → Nat
  | 0, r, _ => r
  | n + 1, r, m => if len m ≤ len r then restN n (r ^^^ m * 2 ^ (len r - len m)) m else r
theorem A_restN {m : Nat} {u : Nat → Nat} (hm : ∀ b, A m u b = 0) : ∀ (n r b : Nat), A (restN n r m) u b = A r u b
  | 0, r, b => rfl
  | n + 1, r, b => by
    unfold restN
    split
    · rw [A_restN hm n, A_xor, A_shl, hm, Nat.xor_zero]
    · rfl
theorem restN_lt {m : Nat} (hm : m ≠ 0) : ∀ (n r : Nat), len r < n + len m → len (restN n r m) < len m
  | 0, r, h => by unfold restN; omega
  | n + 1, r, h => by
    unfold restN
    split
    · rename_i hl
      refine restN_lt hm n _ ?_
      have := len_step hm hl
      omega
    · omega
abbrev RULE : Nat := 2147483657
abbrev PER : Nat := 2147483647
def Rec (u : Nat → Nat) : Prop := ∀ i, u (i + 31) = u i ^^^ u (i + 3)
theorem Rec.shift {u : Nat → Nat} (h : Rec u) (k : Nat) : Rec fun i => u (i + k) := fun i => by
  have := h (i + k)
  rw [show i + k + 31 = i + 31 + k by omega, show i + k + 3 = i + 3 + k by omega] at this
  exact this
theorem xor_self3 (a b : Nat) : a ^^^ (b ^^^ (a ^^^ b)) = 0 := by
  rw [Nat.xor_comm a b, ← Nat.xor_assoc b b a, Nat.xor_self, Nat.zero_xor, Nat.xor_self]
theorem A_rule {u : Nat → Nat} (h : Rec u) (b : Nat) : A RULE u b = 0 := by
  have e : RULE = 1 ^^^ (1 * 2 ^ 3 ^^^ 1 * 2 ^ 31) := by decide
  rw [e, A_xor, A_xor, A_shl, A_shl, A_one, A_one, A_one, h b]
  exact xor_self3 _ _
theorem A_rec {u : Nat → Nat} (h : Rec u) (p : Nat) : Rec (A p u) := fun i => by
  rw [← A_shift p u i 31, ← A_shift p u i 3, ← A_lin]
  exact A_ext fun j _ => h j
/-- a polynomial that does what k steps do -/
def Does (p k : Nat) : Prop := ∀ u, Rec u → ∀ b, A p u b = u (b + k)
theorem Does.one : Does 1 0 := fun u _ b => A_one u b
theorem Does.two : Does 2 1 := fun u _ b => by rw [show (2 : Nat) = 2 * 1 from rfl, A_two, A_one]
theorem Does.rest {p k n : Nat} (h : Does p k) : Does (restN n p RULE) k := fun u hu b => by rw [A_restN (A_rule hu)]; exact h u hu b
theorem Does.prod {p q j k n : Nat} (h : Does p j) (g : Does q k) (hn : q < 2 ^ n) : Does (prodN n 0 p q) (j + k) := fun u hu b => by
  rw [A_prodN u n 0 p q b hn, A_zero, Nat.zero_xor]
  have e : A q (A p u) b = A q (fun i => u (i + j)) b := A_ext fun i _ => h u hu i
  rw [e, A_shift, g u hu, show b + j + k = b + (j + k) by omega]
/-- squares -/
def sq (p : Nat) : Nat := restN 64 (prodN 40 0 p p) RULE
def sqs : Nat → Nat → Nat
  | 0, p => p
  | n + 1, p => sqs n (sq p)
theorem len_rule : len RULE = 32 := by decide
theorem sq_lt {p : Nat} (h : len (prodN 40 0 p p) < 96) : len (sq p) < 32 := by
  have := restN_lt (m := RULE) (by decide) 64 (prodN 40 0 p p) (by rw [len_rule]; omega)
  rw [len_rule] at this
  exact this
/-- 31 squares of t are t -/
theorem sqs31 : sqs 31 2 = 2 := by decide +kernel
theorem prodN_lt : ∀ (n f s r k : Nat), f < 2 ^ (k + n) → s < 2 ^ k → prodN n f s r < 2 ^ (k + n)
  | 0, f, s, r, k, h, _ => h
  | n + 1, f, s, r, k, h, hs => by
    unfold prodN
    split
    · exact h
    · rw [show k + (n + 1) = (k + 1) + n by omega] at h ⊢
      refine prodN_lt n _ _ _ (k + 1) ?_ (by rw [Nat.pow_succ]; omega)
      split
      · exact Nat.xor_lt_two_pow h (Nat.lt_of_lt_of_le hs (Nat.pow_le_pow_right (by decide) (by omega)))
      · exact h
theorem sq_ok {p k : Nat} (h : Does p k) (hp : len p < 32) : Does (sq p) (2 * k) ∧ len (sq p) < 32 := by
  have h31 : p < 2 ^ 31 := Nat.lt_of_lt_of_le (lt_len p) (Nat.pow_le_pow_right (by decide) (by omega))
  refine ⟨?_, sq_lt ?_⟩
  · rw [show 2 * k = k + k by omega]
    exact (h.prod h (n := 40) (Nat.lt_of_lt_of_le h31 (by decide))).rest
  · have := len_le (prodN_lt 40 0 p p 31 (Nat.pow_pos (by decide)) h31)
    omega
theorem sqs_ok : ∀ (n : Nat) {p k : Nat}, Does p k → len p < 32 → Does (sqs n p) (k * 2 ^ n) ∧ len (sqs n p) < 32
  | 0, p, k, h, hp => ⟨by rw [Nat.pow_zero, Nat.mul_one]; exact h, hp⟩
  | n + 1, p, k, h, hp => by
    obtain ⟨a, b⟩ := sq_ok h hp
    have := sqs_ok n a b
    rw [show k * 2 ^ (n + 1) = 2 * k * 2 ^ n by rw [Nat.pow_succ, ← Nat.mul_assoc, Nat.mul_comm (k * 2 ^ n) 2, ← Nat.mul_assoc]]
    exact this
theorem does31 : Does 2 (2 ^ 31) := by
  have := (sqs_ok 31 Does.two (by decide)).1
  rw [sqs31, Nat.one_mul] at this
  exact this
/-- a window tells what is ahead of it and what is behind -/
theorem Rec.back {u : Nat → Nat} (h : Rec u) (i : Nat) : u i = u (i + 31) ^^^ u (i + 3) := by
  rw [h i, Nat.xor_assoc, Nat.xor_self, Nat.xor_zero]
theorem Rec.same {u v : Nat → Nat} (hu : Rec u) (hv : Rec v) {n : Nat} (h : ∀ i, i < 31 → u (n + i) = v (n + i)) : ∀ i, u i = v i := by
  have up : ∀ k i, n ≤ i → i < n + k → u i = v i := by
    intro k
    induction k with
    | zero => intro i h1 h2; omega
    | succ k ih =>
      intro i h1 h2
      by_cases hi : i < n + 31
      · have := h (i - n) (by omega)
        rw [show n + (i - n) = i by omega] at this
        exact this
      · have e1 := ih (i - 31) (by omega) (by omega)
        have e2 := ih (i - 28) (by omega) (by omega)
        have a := hu (i - 31)
        have b := hv (i - 31)
        rw [show i - 31 + 31 = i by omega, show i - 31 + 3 = i - 28 by omega] at a b
        rw [a, b, e1, e2]
  have down : ∀ k i, n ≤ i + k → u i = v i := by
    intro k
    induction k with
    | zero => intro i hi; exact up (i + 1) i hi (by omega)
    | succ k ih =>
      intro i hi
      rw [hu.back i, hv.back i, ih (i + 31) (by omega), ih (i + 3) (by omega)]
  exact fun i => down n i (by omega)
theorem Rec.per {u : Nat → Nat} (h : Rec u) (i : Nat) : u (i + PER) = u i := by
  have e : ∀ j, u (j + 1 + PER) = u (j + 1) := fun j => by
    have a := does31 u h j
    have b := Does.two u h j
    rw [a] at b
    rw [show j + 1 + PER = j + 2 ^ 31 from by show j + 1 + 2147483647 = _; omega]
    exact b
  rw [show u (i + PER) = (fun i => u (i + PER)) i from rfl]
  exact Rec.same (n := 1) (h.shift PER) h (fun j _ => by
    show u (1 + j + PER) = _
    rw [show 1 + j = j + 1 by omega]; exact e j) i
theorem Rec.pers {u : Nat → Nat} (h : Rec u) (i : Nat) : ∀ k, u (i + PER * k) = u i
  | 0 => rfl
  | k + 1 => by rw [show i + PER * (k + 1) = i + PER * k + PER by rw [Nat.mul_succ, Nat.add_assoc], h.per, Rec.pers h i k]
theorem Rec.mod {u : Nat → Nat} (h : Rec u) (i n : Nat) : u (i + n % PER) = u (i + n) := by
  have := h.pers (i + n % PER) (n / PER)
  rw [show i + n % PER + PER * (n / PER) = i + n by have := Nat.mod_add_div n PER; omega] at this
  exact this.symm
/-- the sequence of a row -/
def seqR (r : List Nat) : Nat → Nat
  | i => if i < 31 then r.getD i 0 else if _ : 31 ≤ i then seqR r (i - 31) ^^^ seqR r (i - 28) else 0
theorem seqR_lo {r : List Nat} {i : Nat} (h : i < 31) : seqR r i = r.getD i 0 := by rw [seqR, if_pos h]
theorem seqR_rec (r : List Nat) : Rec (seqR r) := fun i => by
  rw [seqR, if_neg (by omega), dif_pos (by omega), show i + 31 - 31 = i by omega, show i + 31 - 28 = i + 3 by omega]
theorem seqR_lt {r : List Nat} (h : ∀ x ∈ r, x < 2 ^ 32) (i : Nat) : seqR r i < 2 ^ 32 := by
  induction i using Nat.strongRecOn with
  | _ i ih =>
    rw [seqR]
    split
    · by_cases hi : i < r.length
      · rw [List.getD_eq_getElem?_getD, List.getElem?_eq_getElem hi]; exact h _ (List.getElem_mem hi)
      · rw [List.getD_eq_getElem?_getD, List.getElem?_eq_none (by omega)]; decide
    · rw [dif_pos (by omega)]
      exact Nat.xor_lt_two_pow (ih _ (by omega)) (ih _ (by omega))
/-- the row after so many steps -/
def win (u : Nat → Nat) (n : Nat) : List Nat := (List.range 31).map fun i => u (n + i)
theorem win_len (u : Nat → Nat) (n : Nat) : (win u n).length = 31 := by simp [win]
theorem win_get {u : Nat → Nat} {n i : Nat} (h : i < 31) : (win u n)[i]? = some (u (n + i)) := by
  simp [win, List.getElem?_range h]
theorem seqR_win {u : Nat → Nat} (h : Rec u) (n i : Nat) : seqR (win u n) i = u (n + i) := by
  refine Rec.same (n := 0) (v := fun i => u (n + i)) (seqR_rec _) (fun i => ?_) (fun j hj => ?_) i
  · have := h (n + i)
    rw [show n + i + 31 = n + (i + 31) by omega, show n + i + 3 = n + (i + 3) by omega] at this
    exact this
  · rw [Nat.zero_add, seqR_lo hj, List.getD_eq_getElem?_getD, win_get hj]
    rfl
theorem win_zero {r : List Nat} (h : r.length = 31) : win (seqR r) 0 = r := by
  refine List.ext_getElem? fun i => ?_
  by_cases hi : i < 31
  · rw [win_get hi, Nat.zero_add, seqR_lo hi, List.getD_eq_getElem?_getD, List.getElem?_eq_getElem (by omega)]
    rfl
  · rw [List.getElem?_eq_none (by rw [win_len]; omega), List.getElem?_eq_none (by omega)]
theorem win_nz {u : Nat → Nat} (h : Rec u) {n : Nat} (hz : ∀ x ∈ win u n, x = 0) : ∀ i, u i = 0 := by
  have z : Rec fun _ => 0 := fun i => by simp
  refine Rec.same (n := n) h z fun i hi => ?_
  exact hz _ (List.mem_of_getElem? (win_get hi))
theorem win_succ (u : Nat → Nat) (n : Nat) : win u (n + 1) = (win u n).drop 1 ++ [u (n + 31)] := by
  refine List.ext_getElem? fun i => ?_
  by_cases hi : i < 31
  · rw [win_get hi]
    by_cases h30 : i < 30
    · rw [List.getElem?_append_left (by rw [List.length_drop, win_len]; omega), List.getElem?_drop, win_get (by omega)]
      congr 2
      omega
    · have : i = 30 := by omega
      subst this
      rw [List.getElem?_append_right (by rw [List.length_drop, win_len]; omega), List.length_drop, win_len]
      simp
  · rw [List.getElem?_eq_none (by rw [win_len]; omega), List.getElem?_eq_none (by rw [List.length_append, List.length_drop, win_len]; simp; omega)]
theorem act_last : ∀ (n p : Nat) (u : Nat → Nat) (b : Nat), act (n + 1) p u b = act n p u b ^^^ (if p.testBit n = true then u (b + n) else 0)
  | 0, p, u, b => by
    unfold act
    simp only [act, Nat.xor_zero, Nat.zero_xor, Nat.testBit_zero, decide_eq_true_eq, Nat.add_zero]
  | n + 1, p, u, b => by
    have ih := act_last n (p / 2) u (b + 1)
    rw [show act (n + 1 + 1) p u b = (if p % 2 = 1 then u b else 0) ^^^ act (n + 1) (p / 2) u (b + 1) from rfl, ih, Nat.testBit_succ, show b + 1 + n = b + (n + 1) by omega, ← Nat.xor_assoc]
    rfl
/-- the places of a number's digits -/
def plist (p : Nat) (n : Nat) : List Nat := (List.range n).filter fun i => p.testBit i
theorem fold_act (p : Nat) (u : Nat → Nat) (b : Nat) : ∀ (n w : Nat), (plist p n).foldl (fun w i => w ^^^ u (b + i)) w = w ^^^ act n p u b
  | 0, w => by simp [plist, act]
  | n + 1, w => by
    unfold plist
    rw [List.range_succ, List.filter_append, List.foldl_append]
    have ih := fold_act p u b n w
    unfold plist at ih
    rw [ih, act_last, ← Nat.xor_assoc]
    by_cases h : p.testBit n = true
    · simp [h]
    · simp [h]
theorem fold_A {p : Nat} (h : p < 2 ^ 31) (u : Nat → Nat) (b : Nat) : (plist p 31).foldl (fun w i => w ^^^ u (b + i)) 0 = A p u b := by
  rw [fold_act, Nat.zero_xor, A_fuel h]
/-- a power of t -/
theorem Does.step {f q a b : Nat} (hf : Does f a) (hq : Does q b) (lf : len f < 32) (lq : len q < 32) : Does (restN 64 (prodN 31 0 f q) RULE) (a + b) ∧ len (restN 64 (prodN 31 0 f q) RULE) < 32 := by
  have q31 : q < 2 ^ 31 := Nat.lt_of_lt_of_le (lt_len q) (Nat.pow_le_pow_right (by decide) (by omega))
  have f31 : f < 2 ^ 31 := Nat.lt_of_lt_of_le (lt_len f) (Nat.pow_le_pow_right (by decide) (by omega))
  refine ⟨(hf.prod hq q31).rest, ?_⟩
  have h := len_le (prodN_lt 31 0 f q 31 (Nat.pow_pos (by decide)) f31)
  have := restN_lt (m := RULE) (by decide) 64 (prodN 31 0 f q) (by rw [len_rule]; omega)
  rw [len_rule] at this
  exact this
theorem small_rest {p : Nat} (h : len p < 32) (n : Nat) : restN n p RULE = p := by
  cases n with
  | zero => rfl
  | succ n =>
    unfold restN
    rw [if_neg (by rw [len_rule]; omega)]
end TW
set_option Elab.async false
set_option linter.all false
set_option maxRecDepth 100000
set_option maxHeartbeats 1000000
set_option exponentiation.threshold 3000
namespace Pf
open PySem Ab
theorem gcT_f {f : AT} {σ : ASt} {s : Sto} {b : Bool} (h : f σ s = .ok b s) : gcT f σ s = .ok b s := gcT0 h (.refl s) (cut_self s)
theorem z1 : ((1 : Nat) ≤ sizeLine) = True := eq_true (by decide)
theorem z2 : ((2 : Nat) ≤ sizeLine) = True := eq_true (by decide)
theorem z3 : ((3 : Nat) ≤ sizeLine) = True := eq_true (by decide)
theorem z4 : ((4 : Nat) ≤ sizeLine) = True := eq_true (by decide)
theorem z5 : ((5 : Nat) ≤ sizeLine) = True := eq_true (by decide)
theorem z6 : ((6 : Nat) ≤ sizeLine) = True := eq_true (by decide)
theorem z7 : ((7 : Nat) ≤ sizeLine) = True := eq_true (by decide)
theorem z8 : ((8 : Nat) ≤ sizeLine) = True := eq_true (by decide)
theorem z9 : ((9 : Nat) ≤ sizeLine) = True := eq_true (by decide)
theorem z10 : ((10 : Nat) ≤ sizeLine) = True := eq_true (by decide)
theorem z11 : ((11 : Nat) ≤ sizeLine) = True := eq_true (by decide)
theorem z12 : ((12 : Nat) ≤ sizeLine) = True := eq_true (by decide)
theorem z13 : ((13 : Nat) ≤ sizeLine) = True := eq_true (by decide)
theorem z14 : ((14 : Nat) ≤ sizeLine) = True := eq_true (by decide)
theorem z15 : ((15 : Nat) ≤ sizeLine) = True := eq_true (by decide)
theorem z16 : ((16 : Nat) ≤ sizeLine) = True := eq_true (by decide)
local macro_rules | `(tactic| simp! [$xs,*]) => `(tactic| try simp (config := {maxSteps := 1000000}) only [k_bind, k_Kb, k_st, k_Kst, k_Rst, k_thn, k_loop, k_fn, k_forget, k_clr, k_noX, k_try, k_stuck, k_Astuck, d_thn_nx, d_thn_bk, d_thn_ct, d_thn_rt, d_thn_er, d_lp_nx, d_lp_bk, d_lp_ct, d_lp_rt, d_lp_er, d_fg_nx, d_fg_bk, d_fg_ct, d_fg_rt, d_fg_er, d_cl_nx, d_cl_bk, d_cl_ct, d_cl_rt, d_cl_er, d_tr_nx, d_tr_bk, d_tr_ct, d_tr_rt, d_tr_er, d_nX_nx, d_nX_bk, d_nX_ct, d_nX_rt, d_nX_er, d_fn_nx, d_fn_bk, d_fn_ct, d_fn_rt, d_fn_er, A_nx, A_bk, A_ct, A_rt, A_err, post_ok, post_err, post_noErr, e_op, e_opK, e_un, e_cb, e_nil, e_c, e_cons, e_consK, e_consK2, e_and, e_or, e_andK, e_orK, e_not, e_notK, e_test, e_testK, e_tand, e_tandK, e_tor, e_torK, e_tnot, e_tnotK, e_yes, e_if, e_ifK, e_ch, e_chK1, e_chK2, e_chK3, e_tup, e_tupK, e_lst, e_lstK, e_newL, e_call, e_callK, e_meth, e_methK, e_methK2, e_prop, e_propK, e_make, e_makeK, e_makeK2, e_makeV, e_sm, e_smK, e_smK2, e_cm, e_cmK, e_cmK2, e_sl, e_slK1, e_slK2, e_slK3, e_part, e_partK, e_nopart, e_rev, e_bm, e_bmK, e_pr, e_pr0, e_prK1, e_prK2, e_prK3, e_disp, e_dnew, e_own, e_ownK, e_lc, e_lcK, e_iter, e_rng1, e_rng1K, e_rng2, e_rng2K, e_enum, s_drop, s_dropK, s_ret, s_retK, s_retN, s_next, s_break, s_cont, s_seq, s_if, s_ifK, s_asg, s_asgK, s_name, s_par, s_parK, s_par3, s_parK3, s_gnil, s_gcons, s_gtup, s_for, s_forK, s_raise, s_raiseK, s_sf, s_sfK1, s_sfK2, s_dp, s_dpK1, s_dpK2, s_dpK3, s_forget, s_def, s_fld, e_enumU, e_enumUT, eq_self, beq_self_eq_true, k_grd, k_grdS, k_ite, k_Aite, true_implies, false_implies, implies_true, List.map_cons, List.map_nil, List.nil_append, List.cons_append, List.append_nil, List.replicate_succ, List.replicate_zero, List.getElem?_cons_zero, List.getElem?_cons_succ, List.length_cons, List.length_nil, List.set_cons_zero, List.set_cons_succ, ↓reduceIte, ↓reduceDIte, Nat.reduceAdd, Nat.reduceLeDiff, Nat.reduceEqDiff, Nat.zero_add, if_true, if_false, aVar, gMinus_int, gLt_int, gLe_int, gGt_int, gGe_int, gEq_int, gNe_int, gEq_str, gNe_str, gEq_bl, gNe_bl, gXor_int, gAnd_int, gOr_int, gAdd_int, gIsN_non, gNotN_non, gIsB_bl, gNotB_bl, gNeg_int, gLen_tup, gLen_scr, gMax2_int, gMin2_int, gBits_int, gSl_tup, gSl_scr, Bool.not_true, Bool.not_false, Bool.true_eq_false, Bool.false_eq_true, Bool.true_and, Bool.false_and, Bool.and_true, Bool.and_false, Bool.true_or, Bool.false_or, decide_true, decide_false, and_self, and_true, true_and, and_false, false_and, not_true_eq_false, not_false_eq_true, reduceCtorEq, kz, z1, z2, z3, z4, z5, z6, z7, z8, z9, z10, z11, z12, z13, z14, z15, z16, isCls, isNon, aForget, aHand, toKey, keysA, iterOf_tup, iterOf_scr, oNx_some, noErr_ok, decide_eq_true_eq, decide_eq_false_iff_not, Sto.new_n, Sto.set_n, Sto.set_at, Sto.new_at, Nat.zero_le, aMakeV, Cl_non, Cl_bl, Cl_int, Cl_str, Cl_cls, Cl_obj, Cl_tup, ClL_nil, ClL_cons, $xs,*])
local macro_rules | `(tactic| simp! only [$xs,*]) => `(tactic| simp only [e_op, e_opK, e_un, e_cb, e_nil, e_c, e_cons, e_consK, e_consK2, e_and, e_or, e_andK, e_orK, e_not, e_notK, e_test, e_testK, e_tand, e_tandK, e_tor, e_torK, e_tnot, e_tnotK, e_yes, e_if, e_ifK, e_ch, e_chK1, e_chK2, e_chK3, e_tup, e_tupK, e_lst, e_lstK, e_newL, e_call, e_callK, e_meth, e_methK, e_methK2, e_prop, e_propK, e_make, e_makeK, e_makeK2, e_makeV, e_sm, e_smK, e_smK2, e_cm, e_cmK, e_cmK2, e_sl, e_slK1, e_slK2, e_slK3, e_part, e_partK, e_nopart, e_rev, e_bm, e_bmK, e_pr, e_pr0, e_prK1, e_prK2, e_prK3, e_disp, e_dnew, e_own, e_ownK, e_lc, e_lcK, e_iter, e_rng1, e_rng1K, e_rng2, e_rng2K, e_enum, s_drop, s_dropK, s_ret, s_retK, s_retN, s_next, s_break, s_cont, s_seq, s_if, s_ifK, s_asg, s_asgK, s_name, s_par, s_parK, s_par3, s_parK3, s_gnil, s_gcons, s_gtup, s_for, s_forK, s_raise, s_raiseK, s_sf, s_sfK1, s_sfK2, s_dp, s_dpK1, s_dpK2, s_dpK3, s_forget, s_def, s_fld, e_enumU, e_enumUT, eq_self, beq_self_eq_true, true_implies, false_implies, implies_true, List.map_cons, List.map_nil, List.nil_append, List.cons_append, List.append_nil, List.replicate_succ, List.replicate_zero, List.getElem?_cons_zero, List.getElem?_cons_succ, List.length_cons, List.length_nil, List.set_cons_zero, List.set_cons_succ, ↓reduceIte, ↓reduceDIte, Nat.reduceAdd, Nat.reduceLeDiff, Nat.reduceEqDiff, Nat.zero_add, if_true, if_false, aVar, gMinus_int, gLt_int, gLe_int, gGt_int, gGe_int, gEq_int, gNe_int, gEq_str, gNe_str, gEq_bl, gNe_bl, gXor_int, gAnd_int, gOr_int, gAdd_int, gIsN_non, gNotN_non, gIsB_bl, gNotB_bl, gNeg_int, gLen_tup, gLen_scr, gMax2_int, gMin2_int, gBits_int, gSl_tup, gSl_scr, Bool.not_true, Bool.not_false, Bool.true_eq_false, Bool.false_eq_true, Bool.true_and, Bool.false_and, Bool.and_true, Bool.and_false, Bool.true_or, Bool.false_or, decide_true, decide_false, and_self, and_true, true_and, and_false, false_and, not_true_eq_false, not_false_eq_true, reduceCtorEq, kz, z1, z2, z3, z4, z5, z6, z7, z8, z9, z10, z11, z12, z13, z14, z15, z16, isCls, isNon, aForget, aHand, toKey, keysA, iterOf_tup, iterOf_scr, oNx_some, noErr_ok, decide_eq_true_eq, decide_eq_false_iff_not, Sto.new_n, Sto.set_n, Sto.set_at, Sto.new_at, Nat.zero_le, aMakeV, Cl_non, Cl_bl, Cl_int, Cl_str, Cl_cls, Cl_obj, Cl_tup, ClL_nil, ClL_cons, grd_pos, grdS_pos, Res.bind_ok, Res.bind_err, Res.st_ok, Res.st_err, SRes.thn_nx, SRes.thn_rt, SRes.thn_err, SRes.fn_rt, SRes.fn_nx, SRes.fn_err, SRes.loop_nx, SRes.loop_rt, SRes.loop_err, SRes.loop_ct, SRes.loop_bk, SRes.forget_nx, SRes.forget_rt, SRes.forget_err, SRes.clr_nx, SRes.clr_rt, SRes.noX_nx, SRes.noX_rt, aTry, sizeLine_ge, $xs,*])
theorem isi_ty {x : AV} {a n : String} {r : Bool} {s : Sto} (h1 : tyN s x = some a) (h2 : kitP a n = some r) (h3 : n ∈ bnames) : gIsi (kitB n) [x, .ty n] s = .ok (.bl r) s := gIsi_ty h1 (by rw [kitB_self]; exact h2) h3
theorem is_int (i : Int) (s : Sto) : F_is_integer [.int i] s = .ok (.bl true) s := by
  refine gc0 ?_ (by simp)
  have h1 : gIsi (kitB "int") [.int i, .ty "int"] s = .ok (.bl true) s := isi_ty (a := "int") rfl (by decide) (by decide)
  have h2 : gIsi (kitB "bool") [.int i, .ty "bool"] s = .ok (.bl false) s := isi_ty (a := "int") rfl (by decide) (by decide)
  simp! only [B_is_integer, h1, h2]
theorem gc0' {F : List AV → Sto → Res AV} {args : List AV} {s : Sto} {v : AV} (h : (F args s).Post (fun v' s' => v' = v ∧ Cl s.n v ∧ Gb s s') (fun _ _ _ _ => False)) : gcF F args s = .ok v s :=
  res_ok (gcF_g (h.mono (fun v' s' z => ⟨z.1 ▸ z.2.1, z.2.2, z.1, rfl⟩) fun _ _ _ _ z => z.elim))
/-- a law's draws: what is left of the cell, the cell, the turns -/
abbrev drC (l c t : Int) : Cell := .dic [(.inr "left", .int l), (.inr "cell", .int c), (.inr "turns", .int t)]
structure Dr (d : Nat) (s : Sto) (B : Nat) : Prop where
  lt : d < s.n
  ex : ∃ l c t : Int, s.c d = drC l c t ∧ 0 ≤ l ∧ 0 ≤ t ∧ t ≤ B
/-- all but d stays -/
def Upto (d : Nat) (s s' : Sto) : Prop := s'.n = s.n ∧ ∀ i, i ≠ d → s'.c i = s.c i
theorem Upto.refl (d : Nat) (s : Sto) : Upto d s s := ⟨rfl, fun _ _ => rfl⟩
theorem Upto.trans {d : Nat} {s s1 s2 : Sto} (a : Upto d s s1) (b : Upto d s1 s2) : Upto d s s2 := ⟨b.1.trans a.1, fun i h => (b.2 i h).trans (a.2 i h)⟩
theorem Upto.set {d : Nat} {s : Sto} {x : Cell} : Upto d s (s.set d x) := ⟨rfl, fun i h => Sto.set_ne h⟩
theorem cmul {i j : Int} {m n : Nat} (hi : i.natAbs < 2 ^ m) (hj : j.natAbs < 2 ^ n) (h : m + n ≤ 134217728) : L2.CMulX i j := by
  have h1 := PySem.intBits_le_iff.mpr hi
  have h2 := PySem.intBits_le_iff.mpr hj
  show (Builtin.Int.intBits i : Int) + (Builtin.Int.intBits j : Int) ≤ 134217728
  omega
theorem gMul_ok {i j : Int} {m n : Nat} {s : Sto} (hi : i.natAbs < 2 ^ m) (hj : j.natAbs < 2 ^ n) (h : m + n ≤ 134217728) : gMul (.int i) (.int j) s = .ok (.int (i * j)) s := gMul_int (cmul hi hj h)
theorem drCl {n : Nat} {l c t : Int} : ClC n (drC l c t) := by simp [ClC]
theorem Upto.clean {d B : Nat} {s s' : Sto} (u : Upto d s s') (D : Dr d s' B) : Clean s s' := by
  obtain ⟨l, c, t, h, _⟩ := D.ex
  refine ⟨Nat.le_of_eq u.1.symm, fun i hi => ?_⟩
  by_cases e : i = d
  · subst e
    exact .inr (by rw [h]; exact drCl)
  · exact .inl (u.2 i e)
theorem Upto.cut {d B : Nat} {s s' : Sto} (u : Upto d s s') (D : Dr d s' B) : s'.cut s = s' := by
  have lt := D.lt
  have h1 := u.1
  cases s' with
  | mk n' c' =>
    cases s with
    | mk n c =>
      unfold Sto.cut
      simp only at h1
      subst h1
      simp only [Sto.mk.injEq, true_and]
      funext j
      by_cases hj : j < n'
      · simp [hj]
      · simp only [if_neg hj]
        exact (u.2 j (by have : d < n' := lt; omega)).symm
theorem Dr.mono {d B C : Nat} {s : Sto} (D : Dr d s B) (h : B ≤ C) : Dr d s C := ⟨D.lt, by
  obtain ⟨l, c, t, a, b, e, f⟩ := D.ex
  exact ⟨l, c, t, a, b, e, by omega⟩⟩
theorem gIx_tup {s : Sto} {xs : List AV} {i : Int} {v : AV} (h : L2.atI xs i = some v) : gIx (.tup xs) (.int i) s = .ok v s := gIx_seq seqOf_tup h
theorem new_set {s : Sto} {a b : Cell} : (s.new a).set s.n b = s.new b := by
  unfold Sto.new Sto.set
  simp only [Sto.mk.injEq, true_and]
  funext j
  by_cases hj : j = s.n
  · simp [hj]
  · simp [hj]
theorem m32 (i : Int) : Builtin.bitAnd i (4294967296 - 1) = i % 4294967296 := PySem.W.kbt_mask i 32
theorem m1 (i : Int) : Builtin.bitAnd i 1 = i % 2 := PySem.W.kbt_mask i 1
theorem word_t {i : Int} (s : Sto) (h0 : 0 ≤ i) (h1 : i < 4294967296) : F_is_word [.int i] s = .ok (.bl true) s := by
  refine gc0 ?_ (by simp)
  have e := is_int i s
  have e0 := decide_eq_true h0
  have e1 := decide_eq_true h1
  simp! only [B_is_word, e, e0, e1]
theorem need_steps_t {i : Int} (s : Sto) (h0 : 0 ≤ i) (h1 : i ≤ 18446744073709551616) : F_need_steps [.int i] s = .ok .non s := by
  refine gc0 ?_ (by simp)
  have e := is_int i s
  have e0 := decide_eq_true h0
  have e1 := decide_eq_true h1
  have g : gcT (aOr (aNot (aTest (aCall 1 F_is_integer [] (aCons (aVar 0) aNil)))) (aNot (aTest (aChain gLe gLe (aC (.int 0)) (aVar 0) (aC (.int 18446744073709551616)))))) [some (.int i)] s = .ok false s := gcT0 (by simp! only [e, e0, e1]) (.refl s) (cut_self s)
  simp! only [B_need_steps, g]
theorem isi_tup {xs : List AV} {s : Sto} : gIsi (kitB "tuple") [.tup xs, .ty "tuple"] s = .ok (.bl true) s := isi_ty (a := "tuple") rfl (by decide) (by decide)
theorem gM2 {i : Int} {s : Sto} (h : i.natAbs < 2 ^ 100) : gMul (.int 2) (.int i) s = .ok (.int (2 * i)) s := gMul_ok (m := 2) (by decide) h (by decide)
def DrOK (B : Nat) (x : Cell) : Prop := ∃ l c t : Int, x = drC l c t ∧ 0 ≤ l ∧ 0 ≤ t ∧ t ≤ B
theorem DrOK.mono {B C : Nat} {x : Cell} (h : DrOK B x) (hb : B ≤ C) : DrOK C x := by
  obtain ⟨l, c, t, a, b, e, f⟩ := h
  exact ⟨l, c, t, a, b, e, by omega⟩
theorem DrOK.cl {B n : Nat} {x : Cell} (h : DrOK B x) : ClC n x := by
  obtain ⟨l, c, t, rfl, b, e, f⟩ := h
  exact drCl
theorem Upto.eq {d : Nat} {s s' : Sto} (u : Upto d s s') : s' = s.set d (s'.c d) := by
  obtain ⟨h1, h2⟩ := u
  cases s with
  | mk n c =>
    cases s' with
    | mk n' c' =>
      cases (show n' = n from h1)
      unfold Sto.set
      simp only [Sto.mk.injEq, true_and]
      funext j
      by_cases e : j = d
      · rw [if_pos e, e]
      · rw [if_neg e]; exact h2 j e
theorem Dr.ok {d B : Nat} {s : Sto} (D : Dr d s B) : DrOK B (s.c d) := by
  obtain ⟨l, c, t, h, a⟩ := D.ex
  exact ⟨l, c, t, h, a⟩
structure Inv (d B : Nat) (t s : Sto) : Prop where
  lt : d < t.n
  gd : Gd d t s
  ok : DrOK B (s.c d)
section
variable {P : AV → Sto → Prop} {R : String → List Str → List AV → Sto → Prop} {d B : Nat} {s t : Sto} {x : Cell}
theorem Inv.ls (S : Inv d B t s) : d < s.n := Nat.lt_of_lt_of_le S.lt S.gd.n
theorem Inv.new (S : Inv d B t s) : Inv d B t (s.new x) := ⟨S.lt, S.gd.new, by rw [at_new S.ls]; exact S.ok⟩
theorem Inv.set (S : Inv d B t s) {C : Nat} (h : DrOK C x) : Inv d C t (s.set d x) := ⟨S.lt, S.gd.set, by rw [Sto.set_at]; exact h⟩
theorem Inv.start (hd : d < s.n) (h : DrOK B (s.c d)) : Inv d B s s := ⟨hd, .refl d s, h⟩
theorem Inv.mono {C : Nat} (S : Inv d B t s) (h : B ≤ C) : Inv d C t s := ⟨S.lt, S.gd, S.ok.mono h⟩
end
theorem ix1 {a b : AV} {r : List AV} {s : Sto} : gIx (.tup (a :: b :: r)) (.int 1) s = .ok b s := gIx_tup (show L2.atI _ ((1 : Nat) : Int) = _ from L2.atI_nat rfl)
abbrev dgC (b : Int) (g : Nat) (t : Int) : Cell := .dic [(.inr "mixed", .int b), (.inr "great", .obj g), (.inr "turn", .int t)]
structure Gd2 (d g : Nat) (s s' : Sto) : Prop where
  n : s.n ≤ s'.n
  c : ∀ i, i < s.n → i ≠ d → i ≠ g → s'.c i = s.c i
section
variable {d g : Nat} {s t u : Sto} {x : Cell}
theorem Gd2.refl (d g : Nat) (s : Sto) : Gd2 d g s s := ⟨Nat.le_refl _, fun _ _ _ _ => rfl⟩
theorem Gd2.trans (a : Gd2 d g s t) (b : Gd2 d g t u) : Gd2 d g s u := ⟨Nat.le_trans a.n b.n, fun i h e f => (b.c i (Nat.lt_of_lt_of_le h a.n) e f).trans (a.c i h e f)⟩
theorem Gd2.setd (a : Gd2 d g s t) : Gd2 d g s (t.set d x) := ⟨a.n, fun i h e f => (Sto.set_ne e).trans (a.c i h e f)⟩
theorem Gd2.setg (a : Gd2 d g s t) : Gd2 d g s (t.set g x) := ⟨a.n, fun i h e f => (Sto.set_ne f).trans (a.c i h e f)⟩
theorem Gd2.new (a : Gd2 d g s t) : Gd2 d g s (t.new x) := ⟨Nat.le_succ_of_le a.n, fun i h e f => (at_new (Nat.lt_of_lt_of_le h a.n)).trans (a.c i h e f)⟩
theorem Gd2.setn {i : Nat} (a : Gd2 d g s t) (h : s.n ≤ i) : Gd2 d g s (t.set i x) := ⟨a.n, fun j hj e f => (Sto.set_ne (by omega)).trans (a.c j hj e f)⟩
theorem Gd2.cut (a : Gd2 d g s t) (hd : d < s.n) (hg : g < s.n) : t.cut s = (s.set d (t.c d)).set g (t.c g) := by
  unfold Sto.cut Sto.set
  simp only [Sto.mk.injEq, true_and]
  funext i
  by_cases f : i = g
  · subst f; simp [hg]
  · by_cases e : i = d
    · subst e; simp [hd, f]
    · by_cases hi : i < s.n
      · simp [hi, e, f, a.c i hi e f]
      · simp [hi, e, f]
theorem Gd2.clean (a : Gd2 d g s t) (h1 : ClC s.n (t.c d)) (h2 : ClC s.n (t.c g)) : Clean s t := ⟨a.n, fun i hi => by
  by_cases e : i = d
  · subst e; exact .inr h1
  · by_cases f : i = g
    · subst f; exact .inr h2
    · exact .inl (a.c i hi e f)⟩
variable {P : AV → Sto → Prop} {R : String → List Str → List AV → Sto → Prop}
theorem gcF_d2 {F : List AV → Sto → Res AV} {args : List AV} (hd : d < s.n) (hg : g < s.n) (h : (F args s).Post (fun v s' => Cl s.n v ∧ Gd2 d g s s' ∧ (ClC s.n (s'.c d) ∧ ClC s.n (s'.c g)) ∧ P v ((s.set d (s'.c d)).set g (s'.c g))) (fun c ns vs s' => False)) : (gcF F args s).Post P R :=
  post_gcF.mpr (h.mono (fun v s' z => by rw [if_pos ⟨z.1, z.2.1.clean z.2.2.1.1 z.2.2.1.2⟩, z.2.1.cut hd hg]; exact z.2.2.2) fun c ns vs s' z => z.elim)
theorem gcE_d2 {f : AE} {σ : ASt} (hd : d < s.n) (hg : g < s.n) (h : (f σ s).Post (fun v s' => Cl s.n v ∧ Gd2 d g s s' ∧ (ClC s.n (s'.c d) ∧ ClC s.n (s'.c g)) ∧ P v ((s.set d (s'.c d)).set g (s'.c g))) (fun c ns vs s' => False)) : (gcE f σ s).Post P R :=
  post_gcE.mpr (h.mono (fun v s' z => by rw [if_pos ⟨z.1, z.2.1.clean z.2.2.1.1 z.2.2.1.2⟩, z.2.1.cut hd hg]; exact z.2.2.2) fun c ns vs s' z => z.elim)
end
structure Dg (d g : Nat) (B : Nat) (s : Sto) : Prop where
  ne : d ≠ g
  ex : ∃ (b t : Int) (gs : List Int), s.c d = dgC b g t ∧ 0 ≤ b ∧ b < 2305843009213693951 ∧ 0 ≤ t ∧ t ≤ B ∧ s.c g = .lst (gs.map .int) ∧ (∀ z ∈ gs, 0 ≤ z) ∧ gs.length ≤ 64
theorem Dg.mono {d g B C : Nat} {s : Sto} (D : Dg d g B s) (h : B ≤ C) : Dg d g C s := ⟨D.ne, by
  obtain ⟨b, t, gs, h1, h2, h3, h4, h5, h6⟩ := D.ex
  exact ⟨b, t, gs, h1, h2, h3, h4, by omega, h6⟩⟩
theorem clL_ints {n : Nat} (l : List Int) : ClL n (l.map AV.int) := by
  induction l with
  | nil => simp
  | cons a l ih => simp [ih]
theorem Dg.cl {d g B n : Nat} {s : Sto} (D : Dg d g B s) (hg : g < n) : ClC n (s.c d) ∧ ClC n (s.c g) := by
  obtain ⟨b, t, gs, h1, h2, h3, h4, h5, h6, h7⟩ := D.ex
  refine ⟨?_, ?_⟩
  · rw [h1]; simp [ClC, hg]
  · rw [h6]; exact clL_ints gs
theorem Dg.of {d g B : Nat} {s t : Sto} (D : Dg d g B s) (h1 : t.c d = s.c d) (h2 : t.c g = s.c g) : Dg d g B t := ⟨D.ne, by
  obtain ⟨b, t, gs, k1, k⟩ := D.ex
  exact ⟨b, t, gs, h1.trans k1, k.1, k.2.1, k.2.2.1, k.2.2.2.1, h2.trans k.2.2.2.2.1, k.2.2.2.2.2⟩⟩
structure Inv2 (d g B : Nat) (t s : Sto) : Prop where
  ld : d < t.n
  lg : g < t.n
  gd : Gd2 d g t s
  ok : Dg d g B s
section
variable {P : AV → Sto → Prop} {R : String → List Str → List AV → Sto → Prop} {d g B : Nat} {s t : Sto} {x : Cell}
theorem Inv2.lsd (S : Inv2 d g B t s) : d < s.n := Nat.lt_of_lt_of_le S.ld S.gd.n
theorem Inv2.lsg (S : Inv2 d g B t s) : g < s.n := Nat.lt_of_lt_of_le S.lg S.gd.n
theorem Inv2.new (S : Inv2 d g B t s) : Inv2 d g B t (s.new x) := ⟨S.ld, S.lg, S.gd.new, S.ok.of (at_new S.lsd) (at_new S.lsg)⟩
theorem Inv2.mono {C : Nat} (S : Inv2 d g B t s) (h : B ≤ C) : Inv2 d g C t s := ⟨S.ld, S.lg, S.gd, S.ok.mono h⟩
theorem Inv2.set_new {i : Nat} (S : Inv2 d g B t s) (h : t.n ≤ i) : Inv2 d g B t (s.set i x) :=
  ⟨S.ld, S.lg, S.gd.setn h, S.ok.of (Sto.set_ne (by have := S.ld; omega)) (Sto.set_ne (by have := S.lg; omega))⟩
theorem Inv2.start (hd : d < s.n) (hg : g < s.n) (h : Dg d g B s) : Inv2 d g B s s := ⟨hd, hg, .refl d g s, h⟩
/-- what a def has drawn, seen by its caller -/
theorem Inv2.back {C : Nat} {s' : Sto} (S : Inv2 d g B t s) (h : Dg d g C s') : Inv2 d g C t ((s.set d (s'.c d)).set g (s'.c g)) :=
  ⟨S.ld, S.lg, S.gd.setd.setg, h.of (by rw [Sto.set_ne h.ne, Sto.set_at]) Sto.set_at⟩
theorem Gd2.back {s' : Sto} (d g : Nat) (s : Sto) : Gd2 d g s ((s.set d (s'.c d)).set g (s'.c g)) := (Gd2.refl d g s).setd.setg
theorem wi2_gcE {f : AE} {σ : ASt} (S : Inv2 d g B t s) (h : (f σ s).Post (fun v s' => Cl s.n v ∧ Gd2 d g s s' ∧ (∃ C, Dg d g C s' ∧ ∀ s2, Inv2 d g C t s2 → Gd2 d g s s2 → P v s2)) (fun c ns vs s' => False)) : (gcE f σ s).Post P R :=
  gcE_d2 S.lsd S.lsg (h.mono (fun v s' z => by
    obtain ⟨z1, z2, C, z3, z4⟩ := z
    exact ⟨z1, z2, z3.cl S.lsg, z4 _ (S.back z3) (Gd2.back d g s)⟩) fun _ _ _ _ z => z.elim)
end
theorem sz3b : (3 : Nat) < sizeLine := by decide
theorem q12 : ¬ (("mixed" : Str) = "great") := by decide
theorem q13 : ¬ (("mixed" : Str) = "turn") := by decide
theorem q21 : ¬ (("great" : Str) = "mixed") := by decide
theorem q23 : ¬ (("great" : Str) = "turn") := by decide
theorem q31 : ¬ (("turn" : Str) = "mixed") := by decide
theorem q32 : ¬ (("turn" : Str) = "great") := by decide
section
variable {s : Sto} {d g : Nat} {b t v : Int}
theorem dgM (h : s.c d = dgC b g t) : gDGet (.obj d) (.str "mixed") s = .ok (.int b) s := gDGet_obj h rfl (by simp [valA])
theorem dgG (h : s.c d = dgC b g t) : gDGet (.obj d) (.str "great") s = .ok (.obj g) s := gDGet_obj h rfl (by simp [valA, q12])
theorem dgT (h : s.c d = dgC b g t) : gDGet (.obj d) (.str "turn") s = .ok (.int t) s := gDGet_obj h rfl (by simp [valA, q13, q23])
theorem sdM (h : s.c d = dgC b g t) : setD (.obj d) (.str "mixed") (.int v) s = some (s.set d (dgC v g t)) := by
  rw [setD_obj h rfl sz3b]
  simp [putKA, q21, q31]
theorem sdT (h : s.c d = dgC b g t) : setD (.obj d) (.str "turn") (.int v) s = some (s.set d (dgC b g v)) := by
  rw [setD_obj h rfl sz3b]
  simp [putKA, q13, q23]
end
theorem ne_nil {s : Sto} {a e : Nat} {gs : List Int} (h1 : s.c a = .lst (gs.map .int)) (h2 : s.c e = .lst []) : gNe (.obj a) (.obj e) s = .ok (.bl (!gs.isEmpty)) s := by
  have d1 : dat 12 s (.obj a) = some (.list (gs.map PyData.int)) := by
    show (match s.c a with | .lst xs => (optL (dat 11 s) xs).map PyData.list | _ => none) = _
    rw [h1]
    have : ∀ l : List Int, optL (dat 11 s) (l.map AV.int) = some (l.map PyData.int) := by
      intro l
      induction l with
      | nil => rfl
      | cons z l ih =>
        show (match dat 11 s (.int z), optL (dat 11 s) (l.map AV.int) with | some d, some ds => some (d :: ds) | _, _ => none) = _
        rw [ih]; rfl
    show (optL (dat 11 s) (gs.map AV.int)).map PyData.list = _
    rw [this]; rfl
  have d2 : dat 12 s (.obj e) = some (.list []) := by
    show (match s.c e with | .lst xs => (optL (dat 11 s) xs).map PyData.list | _ => none) = _
    rw [h2]; rfl
  have sh : ∀ l : List Int, SeqAt.shaped (.list (l.map PyData.int)) = true := by
    intro l
    have k : PyData.canLayAll0 (l.map PyData.int) = true ∧ PyData.depthAll (l.map PyData.int) = 0 := by
      induction l with
      | nil => simp [PyData.canLayAll0, PyData.depthAll]
      | cons z l ih => simp [PyData.canLayAll0, PyData.canLay0, PyData.depthAll, PyData.depth, ih.1, ih.2]
    simp [SeqAt.shaped, PyData.canLay0, PyData.depth, k.1, k.2]
  rw [gNe_b (eqB_dat rfl d1 d2 (sh gs) (sh []))]
  congr 2
  cases gs <;> simp [PyData.eqv, PyData.eqvAll]
section
variable {P : AV → Sto → Prop} {R : String → List Str → List AV → Sto → Prop} {d g B : Nat} {s t : Sto}
theorem wi_next {n : Int} (S : Inv2 d g B t s) (hB : B ≤ 50000000) (n0 : 0 < n) (n1 : n.natAbs.log2 < 9000) (q : ∀ v s', 0 ≤ v → v < n → Inv2 d g (B + 1) t s' → Gd2 d g s s' → P (.int v) s') : (F__law_next [.obj d, .int n] s).Post P R := by
  unfold F__law_next
  refine gcF_d2 S.lsd S.lsg ?_
  obtain ⟨b, tu, gs, hd, b0, b1, t0, t1, hg, gs0, gl⟩ := S.ok.ex
  have dn := S.ok.ne
  have ld := S.lsd
  have lg := S.lsg
  have fin : ∀ v s', 0 ≤ v → v < n → Dg d g (B + 1) s' → Gd2 d g s s' → (Gd2 d g s s' ∧ (ClC s.n (s'.c d) ∧ ClC s.n (s'.c g)) ∧ P (.int v) ((s.set d (s'.c d)).set g (s'.c g))) := fun v s' h1 h2 h3 h4 =>
    ⟨h4, h3.cl lg, q v _ h1 h2 (S.back h3) (Gd2.back d g s)⟩
  have gT := dgT hd
  have gG := dgG hd
  have sT := sdT (v := tu + 1) hd
  have sub1 : agSub setD (aVar 0) (aC (.str "turn")) (.int (tu + 1)) [some (.obj d), some (.int n), none, none, none, none] s = .nx [some (.obj d), some (.int n), none, none, none, none] (s.set d (dgC b g (tu + 1))) := agSub_eq rfl rfl sT
  have hd1 : (s.set d (dgC b g (tu + 1))).c d = dgC b g (tu + 1) := Sto.set_at
  have hg1 : (s.set d (dgC b g (tu + 1))).c g = .lst (gs.map .int) := (Sto.set_ne (Ne.symm dn)).trans hg
  have G1 : Gd2 d g s (s.set d (dgC b g (tu + 1))) := (Gd2.refl d g s).setd
  have N1 : (s.set d (dgC b g (tu + 1))).n = s.n := rfl
  simp! [B__law_next, gT, gG, sub1]
  generalize s.set d (dgC b g (tu + 1)) = s1 at *
  have gT1 := dgT hd1
  have ln := gLen_seq (seqOf_obj hg1)
  rw [List.length_map] at ln
  obtain ⟨L, hL⟩ : ∃ L : Int, L = (if ((gs.length : Nat) : Int) > 1 then ((gs.length : Nat) : Int) else 1) := ⟨_, rfl⟩
  have L0 : 0 < L := by rw [hL]; split <;> omega
  have mx : gMax2 [.int 1, .int ((gs.length : Nat) : Int)] s1 = .ok (.int L) s1 := by rw [hL]; rfl
  have md : gMod (.int (tu + 1)) (.int L) s1 = .ok (.int ((tu + 1) % L)) s1 := gMod_int (by omega)
  have at0 := Int.emod_nonneg (tu + 1) (show L ≠ 0 by omega)
  have at1 := Int.emod_lt_of_pos (tu + 1) L0
  simp! [gT1, ln, mx, md]
  have ne1 := ne_nil (s := s1.new (.lst [])) (a := g) (e := s1.n) (at_old (by omega) hg1) Sto.new_at
  have gM1 := dgM hd1
  have m1 : gMul (.int b) (.int 6364136223846793) s1 = .ok (.int (b * 6364136223846793)) s1 := gMul_ok (m := 61) (n := 53) (by omega) (by decide) (by decide)
  have m2 : gMul (.int 1442695040888963) (.int (tu + 1)) s1 = .ok (.int (1442695040888963 * (tu + 1))) s1 := gMul_ok (m := 51) (n := 30) (by decide) (by omega) (by decide)
  obtain ⟨z, hz⟩ : ∃ z : Int, z = b * 6364136223846793 + 1442695040888963 * (tu + 1) + 11 := ⟨_, rfl⟩
  have md1 : gMod (.int z) (.int 2305843009213693951) s1 = .ok (.int (z % 2305843009213693951)) s1 := gMod_int (by decide)
  have sM := sdM (v := z % 2305843009213693951) hd1
  have hd2 : (s1.set d (dgC (z % 2305843009213693951) g (tu + 1))).c d = dgC (z % 2305843009213693951) g (tu + 1) := Sto.set_at
  have gM2 := dgM hd2
  have fd : ∀ s, gFdiv (.int (z % 2305843009213693951)) (.int 32749) s = .ok (.int (z % 2305843009213693951 / 32749)) s := fun s => gFdiv_int ⟨by decide, by decide⟩
  have mdn : ∀ s, gMod (.int (z % 2305843009213693951 / 32749)) (.int n) s = .ok (.int (z % 2305843009213693951 / 32749 % n)) s := fun s => gMod_int (by omega)
  have mixed := fin (z % 2305843009213693951 / 32749 % n) _ (Int.emod_nonneg _ (by omega)) (Int.emod_lt_of_pos _ n0) ⟨dn, _, _, gs, hd2, Int.emod_nonneg _ (by decide), Int.emod_lt_of_pos _ (by decide), by omega, by omega, (Sto.set_ne (Ne.symm dn)).trans hg1, gs0, gl⟩ G1.setd
  rw [hd2] at mixed
  by_cases he : gs = []
  · have ne1 : gNe (.obj g) (.obj s1.n) (s1.new (.lst [])) = .ok (.bl false) (s1.new (.lst [])) := by rw [ne1, he]; rfl
    refine gcT_g ?_
    have z0 : ((0 : Nat) ≤ sizeLine) = True := eq_true (Nat.zero_le _)
    simp! [ne1, z0]
    refine ⟨(Gb.refl _).new, ?_⟩
    simp! [gM1, gT1, m1, m2, ← hz, md1, sM, gM2, fd, mdn]
    exact mixed
  · have ne1 : gNe (.obj g) (.obj s1.n) (s1.new (.lst [])) = .ok (.bl true) (s1.new (.lst [])) := by
      rw [ne1]
      cases gs with
      | nil => exact absurd rfl he
      | cons => rfl
    have len : L = (gs.length : Nat) := by
      have : 0 < gs.length := List.length_pos_iff.mpr he
      rw [hL]; split <;> omega
    obtain ⟨k, hk⟩ := Int.eq_ofNat_of_zero_le at0
    have kl : k < gs.length := by omega
    obtain ⟨y, hy⟩ : ∃ y, gs[k]? = some y := ⟨gs[k], List.getElem?_eq_getElem kl⟩
    have z0 := gs0 y (List.mem_of_getElem? hy)
    have hx : (gs.map AV.int)[k]? = some (.int y) := by rw [List.getElem?_map, hy]; rfl
    have ia : L2.atI (gs.map AV.int) ((tu + 1) % L) = some (.int y) := by rw [hk]; exact L2.atI_nat hx
    have ix : ∀ s' : Sto, s'.c g = .lst (gs.map .int) → gIx (.obj g) (.int ((tu + 1) % L)) s' = .ok (.int y) s' := fun s' h => gIx_seq (seqOf_obj h) ia
    have ixN := ix (s1.new (.lst [])) (at_old (by omega) hg1)
    have ix1 := ix s1 hg1
    have z00 : ((0 : Nat) ≤ sizeLine) = True := eq_true (Nat.zero_le _)
    by_cases zp : 0 < y
    · have dz : decide (0 < y) = true := decide_eq_true zp
      have md2 : gMod (.int y) (.int n) s1 = .ok (.int (y % n)) s1 := gMod_int (by omega)
      have fd2 : gFdiv (.int y) (.int n) s1 = .ok (.int (y / n)) s1 := gFdiv_int ⟨by omega, by omega⟩
      have ixn : L2.ixN (gs.map AV.int).length ((tu + 1) % L) = some k := by
        rw [hk, List.length_map]
        unfold L2.ixN
        rw [if_pos (by omega), if_pos (by omega)]
        rfl
      have sl := setL_obj (y := .int (y / n)) hg1 ixn
      have sub2 : ∀ x5, agSub setL (aVar 2) (aVar 3) (.int (y / n)) [some (.obj d), some (.int n), some (.obj g), some (.int ((tu + 1) % L)), some (.int (y % n)), x5] s1 = .nx [some (.obj d), some (.int n), some (.obj g), some (.int ((tu + 1) % L)), some (.int (y % n)), x5] (s1.set g (.lst ((gs.map AV.int).set k (.int (y / n))))) := fun x5 => agSub_eq rfl rfl sl
      refine gcT_g ?_
      simp! [ne1, z00, ixN, dz, gGt_int]
      refine ⟨(Gb.refl _).new, ?_⟩
      simp! [ix1, md2, fd2, sub2]
      have f := fin (y % n) (s1.set g (.lst ((gs.map AV.int).set k (.int (y / n))))) (Int.emod_nonneg _ (by omega)) (Int.emod_lt_of_pos _ n0) ⟨dn, b, _, gs.set k (y / n), (Sto.set_ne dn).trans hd1, b0, b1, by omega, by omega, Sto.set_at.trans (by rw [List.map_set]), fun w hw => by
        rcases List.mem_or_eq_of_mem_set hw with h | rfl
        · exact gs0 w h
        · exact Int.ediv_nonneg z0 (by omega), by rw [List.length_set]; exact gl⟩ G1.setg
      rw [show (s1.set g (.lst ((gs.map AV.int).set k (.int (y / n))))).c g = .lst ((gs.map AV.int).set k (.int (y / n))) from Sto.set_at] at f
      exact f
    · have dz : decide (0 < y) = false := decide_eq_false zp
      refine gcT_g ?_
      simp! [ne1, z00, ixN, dz, gGt_int]
      refine ⟨(Gb.refl _).new, ?_⟩
      simp! [gM1, gT1, m1, m2, ← hz, md1, sM, gM2, fd, mdn]
      exact mixed
end
theorem merge3g (a b c : AV) : mergeA [] [(.inr "mixed", a), (.inr "great", b), (.inr "turn", c)] = [(.inr "mixed", a), (.inr "great", b), (.inr "turn", c)] := by
  simp [mergeA, putKA, q12, q13, q21, q23, q31, q32]
theorem pow18 (s : Sto) : gPow (.int 10) (.int 18) s = .ok (.int 1000000000000000000) s := gPow_int (show L2.CPow 10 18 from ⟨by decide, by decide, by decide⟩)
theorem begun_post {ns : List Int} {s : Sto} {P : AV → Sto → Prop} {R : String → List Str → List AV → Sto → Prop} (hl : ns.length ≤ 63) (q : ∀ d g s', Gb s s' → s.n ≤ d → d < s'.n → s.n ≤ g → g < s'.n → Dg d g 0 s' → P (.obj d) s') : (F__law_begun [.scr (ns.map .int)] s).Post P R := by
  unfold F__law_begun
  refine post_gcF.mpr ?_
  have z3 : ((0 : Nat) ≤ sizeLine) = True := eq_true (Nat.zero_le _)
  have ln : gLen [.scr (ns.map .int)] s = .ok (.int (ns.length : Nat)) s := by rw [gLen_scr, List.length_map]
  have m0 : gMul (.int 41) (.int (ns.length : Nat)) s = .ok (.int (41 * (ns.length : Nat))) s := gMul_ok (m := 6) (n := 6) (by decide) (by omega) (by decide)
  simp! [B__law_begun, ln, m0]
  refine post_enum lstOf_scr ?_
  simp! [eq_self]
  refine for_A (fun i σ s' => s' = s ∧ ∃ (b : Int) (x y : Option AV), 0 ≤ b ∧ b < 2305843009213693951 ∧ σ = [some (.scr (ns.map .int)), some (.int b), x, y]) ⟨rfl, _, _, _, by omega, by omega, rfl⟩ ?_ ?_
  · rintro i x σ s' hx ⟨rfl, b, x1, y1, b0, b1, rfl⟩
    refine ⟨lstOf_scr, ?_⟩
    obtain ⟨y, hy, rfl⟩ := enumA_get hx
    have hi : i < 63 := by
      have := (List.getElem?_eq_some_iff.mp hy).1
      rw [List.length_map] at this
      omega
    obtain ⟨z, rfl⟩ : ∃ z, y = .int z := by
      have := List.mem_of_getElem? hy
      obtain ⟨z, _, rfl⟩ := List.mem_map.mp this
      exact ⟨z, rfl⟩
    have m1 : gMul (.int b) (.int 998244353) s' = .ok (.int (b * 998244353)) s' := gMul_ok (m := 61) (n := 30) (by omega) (by decide) (by decide)
    have m2 : gMul (.int 104723) (.int (i : Nat)) s' = .ok (.int (104723 * (i : Nat))) s' := gMul_ok (m := 17) (n := 6) (by decide) (by omega) (by decide)
    have md : ∀ z : Int, gMod (.int z) (.int 2305843009213693951) s' = .ok (.int (z % 2305843009213693951)) s' := fun z => gMod_int (by decide)
    simp! [m1, m2, md]
    exact ⟨_, _, _, Int.emod_nonneg _ (by decide), Int.emod_lt_of_pos _ (by decide), rfl⟩
  rintro σ s' ⟨rfl, b, x1, y1, b0, b1, rfl⟩
  refine ⟨lstOf_scr, ?_⟩
  simp! [pow18]
  refine lc_P (fun i acc s2 => Gb s' s2 ∧ s'.n + 1 < s2.n ∧ s2.c s'.n = .dic [] ∧ acc.length ≤ i ∧ ∃ gs : List Int, acc = gs.map .int ∧ ∀ z ∈ gs, 0 ≤ z) ⟨(Gb.refl s').new.new, Nat.lt_succ_self _, at_old (Nat.lt_succ_self _) Sto.new_at, Nat.le_refl _, [], rfl, fun z hz => by cases hz⟩ Sto.new_at (by rw [List.length_map]; omega) ?_ ?_
  · rintro i y acc s2 hy ⟨g2, n2, dk, hl2, gs, rfl, h0⟩ hk
    obtain ⟨z, rfl⟩ : ∃ z, y = .int z := by
      have := List.mem_of_getElem? hy
      obtain ⟨z, _, rfl⟩ := List.mem_map.mp this
      exact ⟨z, rfl⟩
    refine ⟨trivial, ?_⟩
    by_cases hz : (1000000000000000000 : Int) ≤ z
    · have d : decide ((1000000000000000000 : Int) ≤ z) = true := decide_eq_true hz
      simp! [wipeA, pow18, d]
      refine ⟨hk, g2.set (Nat.le_succ _), n2, (Sto.set_ne (by omega)).trans dk, by simpa using hl2, gs ++ [z], by simp, fun w hw => ?_⟩
      rcases List.mem_append.mp hw with h | h
      · exact h0 w h
      · rw [List.mem_singleton.mp h]; omega
    · have d : decide ((1000000000000000000 : Int) ≤ z) = false := decide_eq_false hz
      simp! [wipeA, pow18, d]
      exact ⟨hk, g2, n2, dk, by omega, gs, rfl, h0⟩
  · rintro acc s2 ⟨g2, n2, dk, hl2, gs, rfl, h0⟩ hk
    refine ⟨trivial, ?_⟩
    rw [List.length_map, List.length_map] at hl2
    simp! [eq_self]
    rw [e_dispK dk rfl (by simp), merge3g]
    simp! [eq_self]
    rw [if_neg (by simp)]
    exact q _ (s'.n + 1) _ (g2.set (Nat.le_refl _)) (Nat.le_refl _) (show s'.n < s2.n by omega) (Nat.le_succ _) n2 ⟨by omega, b, 0, gs, Sto.set_at, b0, b1, Int.le_refl _, Int.le_refl _, (Sto.set_ne (by omega)).trans hk, h0, by omega⟩
end Pf
set_option linter.all false
namespace MB
open MX
/-- a key's part for a step -/
def part (k s : Nat) : Nat := if s % 2 = 1 then k / 4294967296 else k % 4294967296
def chg (k s l : Nat) : Nat := xs 17 ((l * F + part k s + s) % 4294967296)
def fe (k s : Nat) (p : Nat × Nat) : Nat × Nat := (p.2, p.1 ^^^ chg k s p.2)
def bk (k s : Nat) (p : Nat × Nat) : Nat × Nat := (p.2 ^^^ chg k s p.1, p.1)
/-- the first i steps -/
def fs (k : Nat) : Nat → Nat × Nat → Nat × Nat
  | 0, p => p
  | i + 1, p => fe k i (fs k i p)
/-- the last i steps back: 3, 2, .. -/
def bs (k : Nat) : Nat → Nat × Nat → Nat × Nat
  | 0, p => p
  | i + 1, p => bk k (3 - i) (bs k i p)
end MB
set_option Elab.async false
set_option linter.all false
set_option maxRecDepth 100000
set_option maxHeartbeats 1000000
set_option exponentiation.threshold 3000
namespace Pf
open PySem Ab
local macro_rules | `(tactic| simp! [$xs,*]) => `(tactic| try simp (config := {maxSteps := 1000000}) only [k_bind, k_Kb, k_st, k_Kst, k_Rst, k_thn, k_loop, k_fn, k_forget, k_clr, k_noX, k_try, k_stuck, k_Astuck, d_thn_nx, d_thn_bk, d_thn_ct, d_thn_rt, d_thn_er, d_lp_nx, d_lp_bk, d_lp_ct, d_lp_rt, d_lp_er, d_fg_nx, d_fg_bk, d_fg_ct, d_fg_rt, d_fg_er, d_cl_nx, d_cl_bk, d_cl_ct, d_cl_rt, d_cl_er, d_tr_nx, d_tr_bk, d_tr_ct, d_tr_rt, d_tr_er, d_nX_nx, d_nX_bk, d_nX_ct, d_nX_rt, d_nX_er, d_fn_nx, d_fn_bk, d_fn_ct, d_fn_rt, d_fn_er, A_nx, A_bk, A_ct, A_rt, A_err, post_ok, post_err, post_noErr, e_op, e_opK, e_un, e_cb, e_nil, e_c, e_cons, e_consK, e_consK2, e_and, e_or, e_andK, e_orK, e_not, e_notK, e_test, e_testK, e_tand, e_tandK, e_tor, e_torK, e_tnot, e_tnotK, e_yes, e_if, e_ifK, e_ch, e_chK1, e_chK2, e_chK3, e_tup, e_tupK, e_lst, e_lstK, e_newL, e_call, e_callK, e_meth, e_methK, e_methK2, e_prop, e_propK, e_make, e_makeK, e_makeK2, e_makeV, e_sm, e_smK, e_smK2, e_cm, e_cmK, e_cmK2, e_sl, e_slK1, e_slK2, e_slK3, e_part, e_partK, e_nopart, e_rev, e_bm, e_bmK, e_pr, e_pr0, e_prK1, e_prK2, e_prK3, e_disp, e_dnew, e_own, e_ownK, e_lc, e_lcK, e_iter, e_rng1, e_rng1K, e_rng2, e_rng2K, e_enum, s_drop, s_dropK, s_ret, s_retK, s_retN, s_next, s_break, s_cont, s_seq, s_if, s_ifK, s_asg, s_asgK, s_name, s_par, s_parK, s_par3, s_parK3, s_gnil, s_gcons, s_gtup, s_for, s_forK, s_raise, s_raiseK, s_sf, s_sfK1, s_sfK2, s_dp, s_dpK1, s_dpK2, s_dpK3, s_forget, s_def, s_fld, e_enumU, e_enumUT, eq_self, beq_self_eq_true, k_grd, k_grdS, k_ite, k_Aite, true_implies, false_implies, implies_true, List.map_cons, List.map_nil, List.nil_append, List.cons_append, List.append_nil, List.replicate_succ, List.replicate_zero, List.getElem?_cons_zero, List.getElem?_cons_succ, List.length_cons, List.length_nil, List.set_cons_zero, List.set_cons_succ, ↓reduceIte, ↓reduceDIte, Nat.reduceAdd, Nat.reduceLeDiff, Nat.reduceEqDiff, Nat.zero_add, if_true, if_false, aVar, gMinus_int, gLt_int, gLe_int, gGt_int, gGe_int, gEq_int, gNe_int, gEq_str, gNe_str, gEq_bl, gNe_bl, gXor_int, gAnd_int, gOr_int, gAdd_int, gIsN_non, gNotN_non, gIsB_bl, gNotB_bl, gNeg_int, gLen_tup, gLen_scr, gMax2_int, gMin2_int, gBits_int, gSl_tup, gSl_scr, Bool.not_true, Bool.not_false, Bool.true_eq_false, Bool.false_eq_true, Bool.true_and, Bool.false_and, Bool.and_true, Bool.and_false, Bool.true_or, Bool.false_or, decide_true, decide_false, and_self, and_true, true_and, and_false, false_and, not_true_eq_false, not_false_eq_true, reduceCtorEq, kz, z1, z2, z3, z4, z5, z6, z7, z8, z9, z10, z11, z12, z13, z14, z15, z16, isCls, isNon, aForget, aHand, toKey, keysA, iterOf_tup, iterOf_scr, oNx_some, noErr_ok, decide_eq_true_eq, decide_eq_false_iff_not, Sto.new_n, Sto.set_n, Sto.set_at, Sto.new_at, Nat.zero_le, aMakeV, Cl_non, Cl_bl, Cl_int, Cl_str, Cl_cls, Cl_obj, Cl_tup, ClL_nil, ClL_cons, $xs,*])
local macro_rules | `(tactic| simp! only [$xs,*]) => `(tactic| simp only [e_op, e_opK, e_un, e_cb, e_nil, e_c, e_cons, e_consK, e_consK2, e_and, e_or, e_andK, e_orK, e_not, e_notK, e_test, e_testK, e_tand, e_tandK, e_tor, e_torK, e_tnot, e_tnotK, e_yes, e_if, e_ifK, e_ch, e_chK1, e_chK2, e_chK3, e_tup, e_tupK, e_lst, e_lstK, e_newL, e_call, e_callK, e_meth, e_methK, e_methK2, e_prop, e_propK, e_make, e_makeK, e_makeK2, e_makeV, e_sm, e_smK, e_smK2, e_cm, e_cmK, e_cmK2, e_sl, e_slK1, e_slK2, e_slK3, e_part, e_partK, e_nopart, e_rev, e_bm, e_bmK, e_pr, e_pr0, e_prK1, e_prK2, e_prK3, e_disp, e_dnew, e_own, e_ownK, e_lc, e_lcK, e_iter, e_rng1, e_rng1K, e_rng2, e_rng2K, e_enum, s_drop, s_dropK, s_ret, s_retK, s_retN, s_next, s_break, s_cont, s_seq, s_if, s_ifK, s_asg, s_asgK, s_name, s_par, s_parK, s_par3, s_parK3, s_gnil, s_gcons, s_gtup, s_for, s_forK, s_raise, s_raiseK, s_sf, s_sfK1, s_sfK2, s_dp, s_dpK1, s_dpK2, s_dpK3, s_forget, s_def, s_fld, e_enumU, e_enumUT, eq_self, beq_self_eq_true, true_implies, false_implies, implies_true, List.map_cons, List.map_nil, List.nil_append, List.cons_append, List.append_nil, List.replicate_succ, List.replicate_zero, List.getElem?_cons_zero, List.getElem?_cons_succ, List.length_cons, List.length_nil, List.set_cons_zero, List.set_cons_succ, ↓reduceIte, ↓reduceDIte, Nat.reduceAdd, Nat.reduceLeDiff, Nat.reduceEqDiff, Nat.zero_add, if_true, if_false, aVar, gMinus_int, gLt_int, gLe_int, gGt_int, gGe_int, gEq_int, gNe_int, gEq_str, gNe_str, gEq_bl, gNe_bl, gXor_int, gAnd_int, gOr_int, gAdd_int, gIsN_non, gNotN_non, gIsB_bl, gNotB_bl, gNeg_int, gLen_tup, gLen_scr, gMax2_int, gMin2_int, gBits_int, gSl_tup, gSl_scr, Bool.not_true, Bool.not_false, Bool.true_eq_false, Bool.false_eq_true, Bool.true_and, Bool.false_and, Bool.and_true, Bool.and_false, Bool.true_or, Bool.false_or, decide_true, decide_false, and_self, and_true, true_and, and_false, false_and, not_true_eq_false, not_false_eq_true, reduceCtorEq, kz, z1, z2, z3, z4, z5, z6, z7, z8, z9, z10, z11, z12, z13, z14, z15, z16, isCls, isNon, aForget, aHand, toKey, keysA, iterOf_tup, iterOf_scr, oNx_some, noErr_ok, decide_eq_true_eq, decide_eq_false_iff_not, Sto.new_n, Sto.set_n, Sto.set_at, Sto.new_at, Nat.zero_le, aMakeV, Cl_non, Cl_bl, Cl_int, Cl_str, Cl_cls, Cl_obj, Cl_tup, ClL_nil, ClL_cons, grd_pos, grdS_pos, Res.bind_ok, Res.bind_err, Res.st_ok, Res.st_err, SRes.thn_nx, SRes.thn_rt, SRes.thn_err, SRes.fn_rt, SRes.fn_nx, SRes.fn_err, SRes.loop_nx, SRes.loop_rt, SRes.loop_err, SRes.loop_ct, SRes.loop_bk, SRes.forget_nx, SRes.forget_rt, SRes.forget_err, SRes.clr_nx, SRes.clr_rt, SRes.noX_nx, SRes.noX_rt, aTry, sizeLine_ge, $xs,*])
theorem modN (n : Nat) : ((n : Int)) % 4294967296 = ((n % 4294967296 : Nat) : Int) := (Int.natCast_emod n 4294967296).symm
theorem xorN (a b : Nat) : Builtin.bitXor (a : Int) (b : Int) = ((a ^^^ b : Nat) : Int) := by
  rw [Bits.bitXor_pp (by omega) (by omega), Int.toNat_natCast, Int.toNat_natCast]
theorem gMF {l : Nat} {s : Sto} (h : l < 4294967296) : gMul (.int l) (.int 3486784401) s = .ok (.int (l * 3486784401)) s := gMul_ok (m := 32) (n := 32) (by omega) (by decide) (by decide)
theorem bitsN (n : Nat) : Builtin.Int.intBits (n : Int) = TW.len n := by
  unfold Builtin.Int.intBits TW.len
  by_cases h : n = 0
  · subst h; rfl
  · rw [if_neg (by simpa using h), if_neg h]; simp
theorem bits_le {n k : Nat} (h : n < 2 ^ k) : Builtin.Int.intBits (n : Int) ≤ k := by
  rw [bitsN]; exact TW.len_le h
theorem shl_ok {a : Nat} {j : Nat} {k : Nat} {s : Sto} (h : a < 2 ^ k) (hk : k + j ≤ 100000) : gShl (.int (a : Nat)) (.int (j : Nat)) s = .ok (.int ((a * 2 ^ j : Nat) : Int)) s := by
  rw [gShl_int ⟨by omega, by have := bits_le h; omega⟩]
  simp
theorem shl1_ok {a : Nat} {k : Nat} {s : Sto} (h : a < 2 ^ k) (hk : k ≤ 10000) : gShl (.int (a : Nat)) (.int 1) s = .ok (.int ((2 * a : Nat) : Int)) s := by
  have := shl_ok (j := 1) (s := s) h (by omega)
  rw [show (a * 2 ^ 1 : Nat) = 2 * a by omega] at this
  exact this
theorem shr1_ok {a : Nat} {s : Sto} : gShr (.int (a : Nat)) (.int 1) s = .ok (.int ((a / 2 : Nat) : Int)) s := by
  rw [gShr_int (by decide)]
  congr 2
theorem and1_ok {a : Nat} : Builtin.bitAnd (a : Int) 1 = ((a % 2 : Nat) : Int) := by
  rw [m1]; exact (Int.natCast_emod a 2).symm
theorem prod_ok {a b n k : Nat} (s : Sto) (hb : b < 2 ^ n) (ha : a < 2 ^ k) (h : n + k ≤ 5000) : F_s3_product [.int (a : Nat), .int (b : Nat)] s = .ok (.int ((TW.prodN n 0 a b : Nat) : Int)) s := by
  refine gc0 ?_ (by simp)
  refine res_ok ?_
  simp! [B_s3_product]
  refine while_A (fun m σ s' => s' = s ∧ ∃ f sh r : Nat, σ = [some (.int (a : Nat)), some (.int (b : Nat)), some (.int (f : Nat)), some (.int (sh : Nat)), some (.int (r : Nat))] ∧ r < 2 ^ m ∧ sh < 2 ^ (k + n - m) ∧ m ≤ n ∧ TW.prodN m f sh r = TW.prodN n 0 a b) n
    ⟨rfl, 0, a, b, rfl, hb, by rw [Nat.add_sub_cancel]; exact ha, Nat.le_refl _, rfl⟩ ?_
  rintro m σ s' ⟨rfl, f, sh, r, rfl, hr, hs, hm, e⟩
  by_cases h0 : r = 0
  · have d : decide ((0 : Int) < ((r : Nat) : Int)) = false := decide_eq_false (by omega)
    simp! [d]
    have e0 : TW.prodN m f sh r = f := by
      subst h0
      cases m <;> simp [TW.prodN]
    rw [← e, e0]
  · have d : decide ((0 : Int) < ((r : Nat) : Int)) = true := decide_eq_true (by omega)
    obtain ⟨m, rfl⟩ : ∃ i, m = i + 1 := ⟨m - 1, by
      cases m with
      | zero => simp at hr; omega
      | succ i => rfl⟩
    have e1 : TW.prodN (m + 1) f sh r = TW.prodN m (if r % 2 = 1 then f ^^^ sh else f) (2 * sh) (r / 2) := by
      rw [TW.prodN, if_neg h0]
    rw [e1] at e
    have hs2 : 2 * sh < 2 ^ (k + n - m) := by
      rw [show k + n - m = (k + n - (m + 1)) + 1 by omega, Nat.pow_succ]; omega
    have sl := fun s => shl1_ok (s := s) hs (by omega)
    have sr := fun s => shr1_ok (a := r) (s := s)
    simp! [d]
    refine ⟨fun c => ?_, fun c => ?_⟩
    · rw [and1_ok] at c
      have hr2 : r % 2 = 1 := by omega
      rw [if_pos hr2] at e
      simp! [sl, sr, xorN]
      exact ⟨m, by omega, _, _, _, rfl, by rw [Nat.pow_succ] at hr; omega, hs2, by omega, e⟩
    · rw [and1_ok] at c
      have hr2 : ¬ r % 2 = 1 := by omega
      rw [if_neg hr2] at e
      simp! [sl, sr]
      exact ⟨m, by omega, _, _, _, rfl, by rw [Nat.pow_succ] at hr; omega, hs2, by omega, e⟩
theorem orN (a b : Nat) : Builtin.bitOr (a : Int) (b : Int) = ((a ||| b : Nat) : Int) := by
  rw [Bits.bitOr_pp (by omega) (by omega), Int.toNat_natCast, Int.toNat_natCast]
/-- a division -/
theorem parts_ok {a m k : Nat} (s : Sto) (hm : m ≠ 0) (ha : a < 2 ^ k) (hk : k ≤ 5000) (n : Nat) (hn : TW.len a < n + TW.len m) : ∃ q : Nat, F_s3_parts [.int (a : Nat), .int (m : Nat)] s = .ok (.tup [.int (q : Nat), .int ((TW.restN n a m : Nat) : Int)]) s := by
  have main := ex_of_post (r := aDef 4 B_s3_parts [.int (a : Nat), .int (m : Nat)] s) (P := fun v s' => s' = s ∧ ∃ q : Nat, v = .tup [.int (q : Nat), .int ((TW.restN n a m : Nat) : Int)]) (by
    simp! [B_s3_parts]
    refine while_A (fun j σ s' => s' = s ∧ ∃ (q r : Nat) (z : Option AV), σ = [some (.int (a : Nat)), some (.int (m : Nat)), some (.int (q : Nat)), some (.int (r : Nat)), some (.int (TW.len m : Nat)), z] ∧ r < 2 ^ k ∧ TW.len r < j + TW.len m ∧ TW.restN j r m = TW.restN n a m) n
      ⟨rfl, 0, a, _, by rw [bitsN]; rfl, ha, hn, rfl⟩ ?_
    rintro j σ s' ⟨rfl, q, r, z, rfl, hr, hl, e⟩
    by_cases h0 : TW.len m ≤ TW.len r
    · have d : decide ((((TW.len m : Nat) : Int)) ≤ ((TW.len r : Nat) : Int)) = true := decide_eq_true (by omega)
      obtain ⟨j, rfl⟩ : ∃ i, j = i + 1 := ⟨j - 1, by omega⟩
      rw [TW.restN, if_pos h0] at e
      have hlr := TW.len_le hr
      have hms : m < 2 ^ k := by
        have h1 := TW.lt_len m
        exact Nat.lt_of_lt_of_le h1 (Nat.pow_le_pow_right (by decide) (by omega))
      have c1 : ((TW.len r : Nat) : Int) - ((TW.len m : Nat) : Int) = ((TW.len r - TW.len m : Nat) : Int) := by omega
      have s1 : ∀ s, gShl (.int 1) (.int ((TW.len r - TW.len m : Nat) : Int)) s = .ok (.int ((1 * 2 ^ (TW.len r - TW.len m) : Nat) : Int)) s := fun s => shl_ok (a := 1) (k := 1) (by decide) (by omega)
      have s2 : ∀ s, gShl (.int (m : Nat)) (.int ((TW.len r - TW.len m : Nat) : Int)) s = .ok (.int ((m * 2 ^ (TW.len r - TW.len m) : Nat) : Int)) s := fun s => shl_ok hms (by omega)
      have step := TW.len_step hm h0
      simp! [bitsN, d, c1, s1, s2, orN, xorN]
      refine ⟨j, by omega, _, _, _, rfl, ?_, by omega, e⟩
      exact Nat.lt_of_lt_of_le (TW.lt_len _) (Nat.pow_le_pow_right (by decide) (by omega))
    · have d : decide ((((TW.len m : Nat) : Int)) ≤ ((TW.len r : Nat) : Int)) = false := decide_eq_false (by omega)
      have e0 : TW.restN j r m = r := by
        cases j with
        | zero => rfl
        | succ i => rw [TW.restN, if_neg h0]
      simp! [bitsN, d]
      rw [← e, e0]
      exact ⟨_, rfl⟩)
  obtain ⟨v, s', ⟨rfl, q, rfl⟩, e⟩ := main
  exact ⟨q, gc0 e (by simp)⟩
theorem whole_t {i lo hi : Int} (s : Sto) (h0 : lo ≤ i) (h1 : i ≤ hi) : F_s3_is_whole [.int i, .int lo, .int hi] s = .ok (.bl true) s := by
  refine gc0 ?_ (by simp)
  have e := is_int i s
  have d0 := decide_eq_true h0
  have d1 := decide_eq_true h1
  simp! only [B_s3_is_whole, e, d0, d1]
theorem shl_one {k : Nat} (s : Sto) (hk : k ≤ 5000) : gShl (.int 1) (.int (k : Nat)) s = .ok (.int ((2 ^ k : Nat) : Int)) s := by
  have := shl_ok (a := 1) (j := k) (k := 1) (s := s) (by decide) (by omega)
  rw [Nat.one_mul] at this
  exact this
theorem poly_t {i : Nat} (s : Sto) (h : i < 2 ^ 512) : F_is_polynomial [.int (i : Nat)] s = .ok (.bl true) s := by
  refine gc0 ?_ (by simp)
  have sh : ∀ s, gShl (.int 1) (.int 512) s = .ok (.int ((2 ^ 512 : Nat) : Int)) s := fun s => shl_one (k := 512) s (by decide)
  have w := whole_t (i := ((i : Nat) : Int)) (lo := 0) (hi := ((2 ^ 512 : Nat) : Int) - 1) s (by omega) (by
    have : ((i : Nat) : Int) < ((2 ^ 512 : Nat) : Int) := Int.ofNat_lt.mpr h
    omega)
  simp! only [B_is_polynomial, sh, w]
theorem need1_t {i : Nat} (s : Sto) (h : i < 2 ^ 512) : F_s3_need [.tup [.int (i : Nat)]] s = .ok .non s := by
  refine gc0 ?_ (by simp)
  refine res_ok ?_
  have p := fun s => poly_t (i := i) s h
  simp! [B_s3_need]
  refine for_A (fun j σ s' => s' = s ∧ ∃ z, σ = [some (.tup [.int (i : Nat)]), z]) ⟨rfl, _, rfl⟩ ?_ ?_
  · rintro j x σ s' hx ⟨rfl, z, rfl⟩
    have hx : x = .int (i : Nat) := by
      cases j with
      | zero => simpa using hx.symm
      | succ j => simp at hx
    subst hx
    refine ⟨trivial, ?_⟩
    simp! [eq_self]
    refine gcT_g ?_
    simp! [p]
    exact ⟨Gb.refl _, _, rfl⟩
  · rintro σ s' ⟨rfl, z, rfl⟩
    refine ⟨trivial, ?_⟩
    simp! [eq_self]
theorem mod_t {i : Nat} (s : Sto) (h : i < 2 ^ 512) (h0 : i ≠ 0) : F_s3_need_modulus [.int (i : Nat)] s = .ok .non s := by
  refine gc0 ?_ (by simp)
  refine res_ok ?_
  have p := fun s => poly_t (i := i) s h
  have d : decide (((i : Nat) : Int) = 0) = false := decide_eq_false (by omega)
  simp! [B_s3_need_modulus]
  refine gcT_g ?_
  simp! [p, d]
  exact Gb.refl _
abbrev RU : AV := .int 2147483657
/-- the power of t -/
theorem power_ok {n : Nat} (s : Sto) (hn : n < 2 ^ 70) : ∃ r : Nat, TW.Does r n ∧ TW.len r < 32 ∧ F_s3_power [.int 2, .int (n : Nat), RU] s = .ok (.int (r : Nat)) s := by
  have main := ex_of_post (r := F_s3_power [.int 2, .int (n : Nat), RU] s) (P := fun v s' => s' = s ∧ ∃ r : Nat, v = .int (r : Nat) ∧ TW.Does r n ∧ TW.len r < 32) (by
    unfold F_s3_power
    refine gcF_g ?_
    simp! [B_s3_power]
    refine gcE_g ?_
    obtain ⟨q1, e1⟩ := parts_ok (a := 1) (m := TW.RULE) (k := 1) s (by decide) (by decide) (by decide) 64 (by decide)
    obtain ⟨q2, e2⟩ := parts_ok (a := 2) (m := TW.RULE) (k := 2) s (by decide) (by decide) (by decide) 64 (by decide)
    rw [TW.small_rest (by decide)] at e1 e2
    have e1 : F_s3_parts [.int 1, RU] s = _ := e1
    have e2 : F_s3_parts [.int 2, RU] s = _ := e2
    simp! [e1, ix1]
    refine ⟨Gb.refl _, ?_⟩
    refine gcE_g ?_
    simp! [e2, ix1]
    refine ⟨Gb.refl _, ?_⟩
    refine while_A (fun j σ s' => s' = s ∧ ∃ (f q a b left : Nat), σ = [some (.int 2), some (.int (n : Nat)), some RU, some (.int (f : Nat)), some (.int (q : Nat)), some (.int (left : Nat))] ∧ TW.Does f a ∧ TW.Does q b ∧ TW.len f < 32 ∧ TW.len q < 32 ∧ left < 2 ^ j ∧ a + b * left = n) 70
      ⟨rfl, 1, 2, 0, 1, n, rfl, TW.Does.one, TW.Does.two, by decide, by decide, hn, by omega⟩ ?_
    rintro j σ s' ⟨rfl, f, q, a, b, left, rfl, df, dq, lf, lq, hl, e⟩
    have big : ∀ x y : Nat, TW.len x < 32 → TW.len y < 32 → ∃ z : Nat, F_s3_parts [.int ((TW.prodN 31 0 x y : Nat) : Int), RU] s' = .ok (.tup [.int (z : Nat), .int ((TW.restN 64 (TW.prodN 31 0 x y) TW.RULE : Nat) : Int)]) s' := fun x y hx hy => by
      have x31 : x < 2 ^ 31 := Nat.lt_of_lt_of_le (TW.lt_len x) (Nat.pow_le_pow_right (by decide) (by omega))
      have h := TW.prodN_lt 31 0 x y 31 (Nat.pow_pos (by decide)) x31
      exact parts_ok (m := TW.RULE) s' (by decide) h (by decide) 64 (by have := TW.len_le h; rw [TW.len_rule]; omega)
    have pr : ∀ x y : Nat, TW.len x < 32 → TW.len y < 32 → F_s3_product [.int (x : Nat), .int (y : Nat)] s' = .ok (.int ((TW.prodN 31 0 x y : Nat) : Int)) s' := fun x y hx hy => by
      have x31 : x < 2 ^ 31 := Nat.lt_of_lt_of_le (TW.lt_len x) (Nat.pow_le_pow_right (by decide) (by omega))
      have y31 : y < 2 ^ 31 := Nat.lt_of_lt_of_le (TW.lt_len y) (Nat.pow_le_pow_right (by decide) (by omega))
      exact prod_ok s' y31 x31 (by decide)
    by_cases h0 : left = 0
    · have d : decide ((0 : Int) < ((left : Nat) : Int)) = false := decide_eq_false (by omega)
      simp! [d]
      refine ⟨Gb.refl _, f, rfl, ?_, lf⟩
      subst h0
      rw [Nat.mul_zero, Nat.add_zero] at e
      rw [← e]; exact df
    · have d : decide ((0 : Int) < ((left : Nat) : Int)) = true := decide_eq_true (by omega)
      obtain ⟨j, rfl⟩ : ∃ i, j = i + 1 := ⟨j - 1, by
        cases j with
        | zero => simp at hl; omega
        | succ i => rfl⟩
      have hl2 : left / 2 < 2 ^ j := by rw [Nat.pow_succ] at hl; omega
      obtain ⟨y1, b1⟩ := big f q lf lq
      obtain ⟨y2, b2⟩ := big q q lq lq
      have p1 := pr f q lf lq
      have p2 := pr q q lq lq
      obtain ⟨d1, l1⟩ := TW.Does.step df dq lf lq
      obtain ⟨d2, l2⟩ := TW.Does.step dq dq lq lq
      have sr := fun s => shr1_ok (a := left) (s := s)
      simp! [d]
      refine ⟨fun c => ?_, fun c => ?_⟩
      · rw [and1_ok] at c
        refine gcE_g ?_
        simp! [p1, b1, ix1]
        refine ⟨Gb.refl _, ?_⟩
        refine gcE_g ?_
        simp! [p2, b2, ix1, sr]
        refine ⟨Gb.refl _, j, by omega, _, _, _, _, _, rfl, d1, d2, l1, l2, hl2, ?_⟩
        have : left = 2 * (left / 2) + 1 := by omega
        rw [← e]
        generalize left / 2 = L at *
        subst this
        rw [Nat.mul_add, Nat.mul_one, Nat.add_mul]
        have : b * (2 * L) = b * L + b * L := by rw [← Nat.mul_assoc, Nat.mul_comm b 2, Nat.mul_assoc]; omega
        omega
      · rw [and1_ok] at c
        refine gcE_g ?_
        simp! [p2, b2, ix1, sr]
        refine ⟨Gb.refl _, j, by omega, _, _, _, _, _, rfl, df, d2, lf, l2, hl2, ?_⟩
        have : left = 2 * (left / 2) := by omega
        rw [← e]
        generalize left / 2 = L at *
        subst this
        rw [Nat.add_mul]
        have : b * (2 * L) = b * L + b * L := by rw [← Nat.mul_assoc, Nat.mul_comm b 2, Nat.mul_assoc]; omega
        omega)
  obtain ⟨v, s', ⟨rfl, r, rfl, h1, h2⟩, e⟩ := main
  exact ⟨r, h1, h2, e⟩
theorem power_of_ok {n : Nat} (s : Sto) (hn : n < 2147483648) : ∃ r : Nat, TW.Does r n ∧ TW.len r < 32 ∧ F_power_of [.int 2, .int (n : Nat), RU] s = .ok (.int (r : Nat)) s := by
  obtain ⟨r, h1, h2, e⟩ := power_ok (n := n) s (Nat.lt_of_lt_of_le hn (by decide))
  refine ⟨r, h1, h2, gc0 ?_ (by simp)⟩
  refine res_ok ?_
  have a : ∀ s, F_s3_need [.tup [.int 2]] s = .ok .non s := fun s => need1_t (i := 2) s (Nat.lt_of_lt_of_le (show 2 < 2 ^ 2 by decide) (Nat.pow_le_pow_right (by decide) (by decide)))
  have b : ∀ s, F_s3_need_modulus [RU] s = .ok .non s := fun s => mod_t (i := TW.RULE) s (Nat.lt_of_lt_of_le (show TW.RULE < 2 ^ 32 by decide) (Nat.pow_le_pow_right (by decide) (by decide))) (by decide)
  have sh : ∀ s, gShl (.int 1) (.int 64) s = .ok (.int ((2 ^ 64 : Nat) : Int)) s := fun s => shl_one (k := 64) s (by decide)
  have w := fun s => whole_t (i := ((n : Nat) : Int)) (lo := 0) (hi := ((2 ^ 64 : Nat) : Int)) s (by omega) (by
    have : n ≤ 2 ^ 64 := Nat.le_trans (Nat.le_of_lt hn) (by decide)
    exact Int.ofNat_le.mpr this)
  simp! [B_power_of, a, e_callS, e_callSK]
  refine gcT_g ?_
  simp! [sh, w]
  refine ⟨Gb.refl _, ?_⟩
  simp! [b, e]
abbrev iN (l : List Nat) : List AV := l.map fun n => .int (n : Nat)
abbrev ur (u : Nat → Nat) (k : Nat) : List AV := iN ((List.range k).map u)
theorem ur_len (u : Nat → Nat) (k : Nat) : (ur u k).length = k := by simp
theorem ur_get {u : Nat → Nat} {k i : Nat} (h : i < k) : (ur u k)[i]? = some (.int (u i : Nat)) := by
  simp [List.getElem?_range h]
theorem ur_succ (u : Nat → Nat) (k : Nat) : ur u (k + 1) = ur u k ++ [.int (u k : Nat)] := by
  simp [List.range_succ]
theorem gIx_at {o : Nat} {xs : List AV} {v : AV} {s : Sto} {i : Nat} {j : Int} (h : s.c o = .lst xs) (e : xs[i]? = some v) (hj : j = (i : Nat)) : gIx (.obj o) (.int j) s = .ok v s := by
  subst hj
  exact gIx_seq (seqOf_obj h) (L2.atI_nat e)
theorem gIx_tn {xs : List AV} {v : AV} {s : Sto} {i : Nat} {j : Int} (e : xs[i]? = some v) (hj : j = (i : Nat)) : gIx (.tup xs) (.int j) s = .ok v s := by
  subst hj
  exact gIx_tup (L2.atI_nat e)
theorem moved_ok {r : List Nat} {n : Nat} (s : Sto) (h31 : r.length = 31) : F_s3_moved [.tup (iN r), .int (n : Nat)] s = .ok (.tup (iN (TW.win (TW.seqR r) n))) s := by
  have main := ex_of_post (r := F_s3_moved [.tup (iN r), .int (n : Nat)] s) (P := fun v s' => v = .tup (iN (TW.win (TW.seqR r) n)) ∧ s' = s) (by
    unfold F_s3_moved
    refine gcF_g ?_
    have mn : ((n : Nat) : Int) % 2147483647 = ((n % TW.PER : Nat) : Int) := (Int.natCast_emod n 2147483647).symm
    obtain ⟨p, dp, lp, e⟩ := power_of_ok (n := n % TW.PER) s (Nat.lt_of_lt_of_le (Nat.mod_lt _ (by decide)) (by decide))
    have p31 : p < 2 ^ 31 := Nat.lt_of_lt_of_le (TW.lt_len p) (Nat.pow_le_pow_right (by decide) (by omega))
    have md : ∀ s : Sto, gMod (.int (n : Nat)) (.int 2147483647) s = .ok (.int ((n % TW.PER : Nat) : Int)) s := fun s => by rw [gMod_int (by decide), mn]
    have hr : iN r = ur (TW.seqR r) 31 := by
      have := TW.win_zero h31
      unfold TW.win at this
      simp only [Nat.zero_add] at this
      unfold ur
      rw [this]
    have ls : gList [.tup (iN r)] s = .ok (.obj s.n) (s.new (.lst (ur (TW.seqR r) 31))) := by
      rw [gList_seq (ys := iN r) rfl, hr]; rfl
    have u_rec := TW.seqR_rec r
    generalize TW.seqR r = u at *
    simp! [B_s3_moved, md, e, ls, show -(2 ^ 62) ≤ (31 : Int) - 1 ∧ (31 : Int) - 1 < 2 ^ 62 from by decide]
    refine for_rng (n := 30) (fun i σ s' => s' = s.new (.lst (ur u (31 + i))) ∧ ∃ a b c d e f, σ = [some (.tup (iN r)), some (.int (n : Nat)), some (.int (p : Nat)), some (.obj s.n), a, b, c, d, e, f]) ⟨rfl, _, _, _, _, _, _, rfl⟩ ?_ ?_
    · rintro i σ s' hi ⟨rfl, a, b, c, d, e', f, rfl⟩
      refine ⟨trivial, ?_⟩
      have g1 := gIx_at (s := s.new (.lst (ur u (31 + i)))) (j := 0 + (i : Nat)) Sto.new_at (ur_get (u := u) (show i < 31 + i by omega)) (by omega)
      have g2 := gIx_at (s := s.new (.lst (ur u (31 + i)))) (j := 0 + (i : Nat) + 3) Sto.new_at (ur_get (u := u) (show i + 3 < 31 + i by omega)) (by omega)
      have sq := isSeqL_obj (s := s.new (.lst (ur u (31 + i)))) (i := s.n) Sto.new_at
      have ap : ∀ y, gAppend (.obj s.n) [y] (s.new (.lst (ur u (31 + i)))) = .ok .non (s.new (.lst (ur u (31 + i) ++ [y]))) := fun y => by
        rw [gAppend_obj Sto.new_at (by rw [ur_len]; exact Nat.lt_of_lt_of_le (show 31 + i < 100 by omega) (by decide)), new_set_at]
      simp! [g1, g2, sq, ap, xorN]
      refine ⟨?_, _, _, _, _, _, _, rfl⟩
      rw [show 31 + (i + 1) = 31 + i + 1 by omega, ur_succ, ← u_rec i, show i + 31 = 31 + i by omega]
    · rintro σ s' ⟨rfl, a, b, c, d, e', f, rfl⟩
      refine ⟨trivial, ?_⟩
      have hP : ∀ i : Nat, i < 31 → gShr (.int (p : Nat)) (.int (0 + (i : Nat))) = fun s => .ok (.int ((p / 2 ^ i : Nat) : Int)) s := fun i hi => by
        funext s
        rw [gShr_int (by omega)]
        congr 2
        rw [Int.zero_add, Int.toNat_natCast, Int.natCast_ediv]
        simp
      generalize hS : s.new (.lst (ur u (31 + 30))) = S1
      have S1n : S1.n = s.n + 1 := by rw [← hS]; rfl
      have S1c : S1.c s.n = .lst (ur u 61) := by rw [← hS]; exact Sto.new_at
      have G1 : Gb s S1 := by rw [← hS]; exact (Gb.refl s).new
      clear hS
      simp! [show -(2 ^ 62) ≤ (31 : Int) ∧ (31 : Int) < 2 ^ 62 from by decide, wipeA]
      refine lc_P (fun i acc s' => s' = S1.new (.lst acc) ∧ acc = iN (TW.plist p i)) ⟨rfl, rfl⟩ Sto.new_at (by rw [rngA_len]; decide) ?_ ?_
      · rintro i x acc s' hx ⟨rfl, rfl⟩ hc
        obtain ⟨hi, rfl⟩ := rngA_get hx
        have hi : i < 31 := hi
        have h2 := congrFun (hP i hi) (S1.new (.lst (iN (TW.plist p i))))
        refine ⟨trivial, ?_⟩
        have tb : p.testBit i = decide (p / 2 ^ i % 2 = 1) := Nat.testBit_eq_decide_div_mod_eq
        have pl : TW.plist p (i + 1) = TW.plist p i ++ (if p.testBit i = true then [i] else []) := by
          unfold TW.plist
          rw [List.range_succ, List.filter_append]
          congr 1
          by_cases h : p.testBit i = true <;> simp [h]
        simp! [h2, and1_ok]
        by_cases hb : p / 2 ^ i % 2 = 1
        · have d : decide (((p / 2 ^ i % 2 : Nat) : Int) = 1) = true := decide_eq_true (by omega)
          rw [tb, decide_eq_true hb] at pl
          simp! [d, new_set_at]
          rw [pl]; simp
          exact_mod_cast hb
        · have d : decide (((p / 2 ^ i % 2 : Nat) : Int) = 1) = false := decide_eq_false (by omega)
          rw [tb, decide_eq_false hb] at pl
          simp! [d]
          rw [pl]; simp
          exact_mod_cast hb
      · rintro acc s' ⟨rfl, rfl⟩ hc
        refine ⟨trivial, ?_⟩
        have hlen : (rngA 0 (31 : Int).toNat).length = 31 := by rw [rngA_len]; rfl
        rw [hlen]
        generalize hS2 : S1.new (.lst (iN (TW.plist p 31))) = S2
        have S2n : S2.n = s.n + 2 := by rw [← hS2]; show S1.n + 1 = _; omega
        have S2c : S2.c s.n = .lst (ur u 61) := by rw [← hS2, at_new (by omega)]; exact S1c
        have S2d : S2.c S1.n = .lst (iN (TW.plist p 31)) := by rw [← hS2]; exact Sto.new_at
        have G2 : Gb s S2 := by rw [← hS2]; exact G1.new
        rw [S1n] at S2d ⊢
        clear hS2 hc
        simp! [show -(2 ^ 62) ≤ (31 : Int) ∧ (31 : Int) < 2 ^ 62 from by decide]
        refine for_rng (n := 31) (fun i σ s' => s' = S2.new (.lst (ur (fun b => u (b + n)) i)) ∧ ∃ a c e f, σ = [some (.tup (iN r)), some (.int (n : Nat)), some (.int (p : Nat)), some (.obj s.n), a, some (.obj (s.n + 1)), c, some (.obj S2.n), e, f]) ⟨rfl, _, _, _, _, rfl⟩ ?_ ?_
        · rintro b σ s' hb ⟨rfl, a, c, e', f, rfl⟩
          refine ⟨trivial, ?_⟩
          generalize hS3 : S2.new (.lst (ur (fun b => u (b + n)) b)) = S3
          have c1 : S3.c s.n = .lst (ur u 61) := by rw [← hS3, at_new (by omega)]; exact S2c
          have c2 : S3.c (s.n + 1) = .lst (iN (TW.plist p 31)) := by rw [← hS3, at_new (by omega)]; exact S2d
          have c3 : S3.c S2.n = .lst (ur (fun b => u (b + n)) b) := by rw [← hS3]; exact Sto.new_at
          have it := iterOf_l (s := S3) (lstOf_obj c2)
          have ap : ∀ y, gAppend (.obj S2.n) [y] S3 = .ok .non (S2.new (.lst (ur (fun b => u (b + n)) b ++ [y]))) := fun y => by
            rw [gAppend_obj c3 (by rw [ur_len]; exact Nat.lt_of_lt_of_le (show b < 100 by omega) (by decide)), ← hS3, new_set_at]
          have sq := isSeqL_obj (s := S3) (i := S2.n) c3
          simp! [it]
          refine for_A (fun j σ s' => s' = S3 ∧ ∃ c, σ = [some (.tup (iN r)), some (.int (n : Nat)), some (.int (p : Nat)), some (.obj s.n), a, some (.obj (s.n + 1)), c, some (.obj S2.n), some (.int (0 + (b : Nat))), some (.int ((((TW.plist p 31).take j).foldl (fun w i => w ^^^ u (b + i)) 0 : Nat) : Int))]) ⟨rfl, _, rfl⟩ ?_ ?_
          · rintro j x σ s' hx ⟨rfl, c', rfl⟩
            refine ⟨lstOf_obj c2, ?_⟩
            rw [List.getElem?_map] at hx
            obtain ⟨q, hq, rfl⟩ := Option.map_eq_some_iff.mp hx
            have q31 : q < 31 := by
              have := List.mem_of_getElem? hq
              unfold TW.plist at this
              exact List.mem_range.mp (List.mem_filter.mp this).1
            have g1 := gIx_at (s := s') (j := 0 + (b : Nat) + (q : Nat)) c1 (ur_get (u := u) (show b + q < 61 by omega)) (by omega)
            simp! [g1, xorN]
            refine ⟨some (.int (q : Nat)), ?_⟩
            rw [List.take_add_one, hq, Option.toList_some, List.foldl_append]
            rfl
          · rintro σ s' ⟨rfl, c', rfl⟩
            refine ⟨lstOf_obj c2, ?_⟩
            rw [List.length_map, List.take_length, TW.fold_A p31]
            simp! [sq, ap]
            refine ⟨?_, _, _, _, _, rfl⟩
            rw [ur_succ, dp u u_rec b, u_rec.mod b n]
        · rintro σ s' ⟨rfl, a, c, e', f, rfl⟩
          refine ⟨trivial, ?_⟩
          have t := gTuple_seq (s := S2.new (.lst (ur (fun b => u (b + n)) 31))) (seqOf_obj Sto.new_at)
          simp! [t]
          have fin : ur (fun b => u (b + n)) 31 = iN (TW.win u n) := by
            unfold TW.win ur
            congr 1
            refine List.map_congr_left fun i _ => ?_
            rw [Nat.add_comm]
          rw [fin]
          refine ⟨ClL_all.mpr fun x hx => ?_, G2.new, rfl⟩
          obtain ⟨i, _, rfl⟩ := List.mem_map.mp hx
          simp)
  obtain ⟨v, s', ⟨rfl, rfl⟩, e⟩ := main
  exact e
end Pf
set_option linter.all false
set_option maxRecDepth 100000
namespace PO
open TW
def cm (a b : Nat) : Nat := A a (fun i => b * 2 ^ i) 0
theorem two_xor (x y k : Nat) : (x ^^^ y) * 2 ^ k = (x * 2 ^ k) ^^^ (y * 2 ^ k) := by
  rw [← Nat.shiftLeft_eq, ← Nat.shiftLeft_eq, ← Nat.shiftLeft_eq, Nat.shiftLeft_xor_distrib]
theorem act_scale : ∀ (n p : Nat) (u : Nat → Nat) (b k : Nat), act n p (fun i => u i * 2 ^ k) b = act n p u b * 2 ^ k
  | 0, p, u, b, k => by simp [act]
  | n + 1, p, u, b, k => by
    unfold act
    rw [act_scale n, two_xor]
    congr 1
    by_cases h : p % 2 = 1 <;> simp [h]
theorem A_scale (p : Nat) (u : Nat → Nat) (b k : Nat) : A p (fun i => u i * 2 ^ k) b = A p u b * 2 ^ k := act_scale p p u b k
theorem A_pow (a b i : Nat) : A a (fun j => b * 2 ^ j) i = cm a b * 2 ^ i := by
  have h := A_shift a (fun j => b * 2 ^ j) 0 i
  rw [Nat.zero_add] at h
  rw [← h, cm, ← A_scale]
  congr 1
  funext j
  rw [Nat.pow_add, Nat.mul_assoc]
theorem cm_step (a b : Nat) : cm a b = (if a % 2 = 1 then b else 0) ^^^ cm (a / 2) b * 2 := by
  have h := A_step a (fun i => b * 2 ^ i) 0
  rw [A_pow, A_pow] at h
  simpa using h
theorem cm_zero_left (b : Nat) : cm 0 b = 0 := rfl
theorem cm_zero_right (a : Nat) : cm a 0 = 0 := by
  unfold cm
  have : (fun i => 0 * 2 ^ i) = fun _ : Nat => 0 := by funext i; simp
  rw [this, A_nil]
theorem cm_xor_left (a b c : Nat) : cm (a ^^^ b) c = cm a c ^^^ cm b c := A_xor a b _ 0
theorem cm_one_left (b : Nat) : cm 1 b = b := by
  unfold cm
  rw [A_one]; simp
theorem cm_two_left (a b : Nat) : cm (a * 2) b = cm a b * 2 := by
  have h := A_shl a (fun i => b * 2 ^ i) 1 0
  rw [Nat.pow_one] at h
  unfold cm at *
  rw [h, A_pow, Nat.zero_add, Nat.pow_one]
  rfl
theorem pow_left (k b : Nat) : cm (2 ^ k) b = b * 2 ^ k := by
  induction k with
  | zero => rw [Nat.pow_zero, cm_one_left, Nat.mul_one]
  | succ k ih => rw [Nat.pow_succ, cm_two_left, ih, Nat.mul_assoc]
theorem cm_assoc : ∀ a b c : Nat, cm (cm a b) c = cm a (cm b c) := by
  intro a
  induction a using Nat.strongRecOn with
  | _ a ih =>
    intro b c
    by_cases h : a = 0
    · subst h; rfl
    · rw [cm_step a b, cm_xor_left, cm_two_left, ih (a / 2) (by omega), cm_step a (cm b c)]
      congr 1
      split <;> simp [cm_zero_left]
theorem xor_top {k x y : Nat} (hx : x < 2 ^ k) (h1 : 2 ^ k ≤ y) (h2 : y < 2 ^ (k + 1)) : 2 ^ k ≤ x ^^^ y ∧ x ^^^ y < 2 ^ (k + 1) := by
  have ty : y.testBit k = true := by
    rw [Nat.testBit_eq_decide_div_mod_eq]
    have : y / 2 ^ k = 1 := by
      rw [Nat.pow_succ] at h2
      exact Nat.div_eq_of_lt_le (by omega) (by omega)
    rw [this]; rfl
  refine ⟨Nat.ge_two_pow_of_testBit (i := k) ?_, Nat.xor_lt_two_pow (Nat.lt_of_lt_of_le hx (Nat.pow_le_pow_right (by decide) (by omega))) h2⟩
  rw [Nat.testBit_xor, Nat.testBit_lt_two_pow hx, ty]
  rfl
theorem cm_range : ∀ {i j q m : Nat}, 2 ^ i ≤ q → q < 2 ^ (i + 1) → 2 ^ j ≤ m → m < 2 ^ (j + 1) → 2 ^ (i + j) ≤ cm q m ∧ cm q m < 2 ^ (i + j + 1)
  | 0, j, q, m, h1, h2, h3, h4 => by
    have : q = 1 := by simp at h1 h2; omega
    subst this
    rw [cm_one_left, Nat.zero_add]
    exact ⟨h3, h4⟩
  | i + 1, j, q, m, h1, h2, h3, h4 => by
    have p1 : 2 ^ (i + 1) = 2 ^ i * 2 := Nat.pow_succ ..
    have p2 : 2 ^ (i + 1 + 1) = 2 ^ i * 2 * 2 := by rw [Nat.pow_succ, Nat.pow_succ]
    obtain ⟨a, b⟩ := cm_range (i := i) (j := j) (q := q / 2) (m := m) (by omega) (by omega) h3 h4
    have p3 : 2 ^ (i + 1 + j) = 2 ^ (i + j) * 2 := by rw [show i + 1 + j = i + j + 1 by omega, Nat.pow_succ]
    have p4 : 2 ^ (i + 1 + j + 1) = 2 ^ (i + j + 1) * 2 := by rw [show i + 1 + j + 1 = i + j + 1 + 1 by omega, Nat.pow_succ]
    rw [cm_step]
    refine xor_top ?_ (by omega) (by omega)
    split
    · exact Nat.lt_of_lt_of_le h4 (Nat.pow_le_pow_right (by decide) (by omega))
    · exact Nat.pow_pos (by decide)
theorem len_rng {n : Nat} (h : n ≠ 0) : 2 ^ (len n - 1) ≤ n ∧ n < 2 ^ (len n - 1 + 1) ∧ 1 ≤ len n := by
  have h0 : 1 ≤ len n := by rw [len_pos h]; omega
  refine ⟨len_ge h, ?_, h0⟩
  rw [show len n - 1 + 1 = len n by omega]
  exact lt_len n
theorem cm_len {q m : Nat} (hq : q ≠ 0) (hm : m ≠ 0) : len (cm q m) = len q + len m - 1 := by
  obtain ⟨a1, a2, a3⟩ := len_rng hq
  obtain ⟨b1, b2, b3⟩ := len_rng hm
  obtain ⟨c1, c2⟩ := cm_range a1 a2 b1 b2
  have h1 := le_len c1
  have h2 := len_le c2
  omega
theorem cm_small {q m : Nat} (hm : m ≠ 0) (h : len (cm q m) < len m) : q = 0 := by
  refine Classical.byContradiction fun hq => ?_
  have := cm_len hq hm
  have := (len_rng hq).2.2
  omega
theorem len_xor {x y k : Nat} (hx : len x < k) (hy : len y < k) : len (x ^^^ y) < k := by
  have hx' : x < 2 ^ (k - 1) := Nat.lt_of_lt_of_le (lt_len x) (Nat.pow_le_pow_right (by decide) (by omega))
  have hy' : y < 2 ^ (k - 1) := Nat.lt_of_lt_of_le (lt_len y) (Nat.pow_le_pow_right (by decide) (by omega))
  have := len_le (Nat.xor_lt_two_pow hx' hy')
  omega
theorem xx (a b : Nat) : a ^^^ (a ^^^ b) = b := by rw [← Nat.xor_assoc, Nat.xor_self, Nat.zero_xor]
theorem xx2 (a b : Nat) : (b ^^^ a) ^^^ a = b := by rw [Nat.xor_assoc, Nat.xor_self, Nat.xor_zero]
theorem xor_zero_iff {a b : Nat} (h : a ^^^ b = 0) : a = b := by
  have := congrArg (a ^^^ ·) h
  simp only [xx, Nat.xor_zero] at this
  exact this.symm
theorem rest_spec : ∀ (n a m : Nat), m ≠ 0 → len a < n + len m → (∃ q, a = cm q m ^^^ restN n a m) ∧ len (restN n a m) < len m
  | 0, a, m, hm, h => ⟨⟨0, by rw [cm_zero_left, Nat.zero_xor]; rfl⟩, by show len a < _; omega⟩
  | n + 1, a, m, hm, h => by
    rw [restN]
    split
    · rename_i h0
      have st := len_step hm h0
      obtain ⟨⟨q, hq⟩, hl⟩ := rest_spec n (a ^^^ m * 2 ^ (len a - len m)) m hm (by omega)
      refine ⟨⟨q ^^^ 2 ^ (len a - len m), ?_⟩, hl⟩
      rw [cm_xor_left, pow_left]
      have e := congrArg (· ^^^ m * 2 ^ (len a - len m)) hq
      simp only [xx2] at e
      refine e.trans ?_
      rw [Nat.xor_assoc, Nat.xor_assoc, Nat.xor_comm (restN _ _ _)]
    · rename_i h0
      exact ⟨⟨0, by rw [cm_zero_left, Nat.zero_xor]⟩, by omega⟩
theorem uniq {m q r q' r' : Nat} (hm : m ≠ 0) (h : cm q m ^^^ r = cm q' m ^^^ r') (hr : len r < len m) (hr' : len r' < len m) : q = q' ∧ r = r' := by
  have e : cm (q ^^^ q') m = r ^^^ r' := by
    rw [cm_xor_left]
    have := congrArg (fun z => (z ^^^ r) ^^^ cm q' m) h
    simp only [xx2] at this
    rw [this, Nat.xor_comm _ (cm q' m), ← Nat.xor_assoc, xx, Nat.xor_comm]
  have z := cm_small hm (by rw [e]; exact len_xor hr hr')
  rw [z, cm_zero_left] at e
  exact ⟨xor_zero_iff z, xor_zero_iff e.symm⟩
/-- the rest modulo m -/
def md (a m : Nat) : Nat := restN (len a + 1) a m
theorem md_spec (a : Nat) {m : Nat} (hm : m ≠ 0) : (∃ q, a = cm q m ^^^ md a m) ∧ len (md a m) < len m := rest_spec (len a + 1) a m hm (by have := (len_rng hm).2.2; omega)
theorem md_is {a m q r : Nat} (hm : m ≠ 0) (h : a = cm q m ^^^ r) (hr : len r < len m) : md a m = r := by
  obtain ⟨⟨q', h'⟩, hl⟩ := md_spec a hm
  exact (uniq hm (h'.symm.trans h) hl hr).2
def dv (d a : Nat) : Prop := ∃ q, a = cm q d
theorem dv_xor {d a b : Nat} : dv d a → dv d b → dv d (a ^^^ b)
  | ⟨q, h⟩, ⟨p, k⟩ => ⟨q ^^^ p, by rw [cm_xor_left, h, k]⟩
theorem dv_mul {d a : Nat} (c : Nat) : dv d a → dv d (cm c a)
  | ⟨q, h⟩ => ⟨cm c q, by rw [h, cm_assoc]⟩
theorem dv_md {d a m : Nat} (hm : m ≠ 0) (h : dv d a) (k : dv d m) : dv d (md a m) := by
  obtain ⟨⟨q, e⟩, _⟩ := md_spec a hm
  have : md a m = a ^^^ cm q m := by
    conv => rhs; rw [e]
    rw [Nat.xor_comm, xx]
  rw [this]
  exact dv_xor h (dv_mul q k)
theorem dv_of_md {d a m : Nat} (hm : m ≠ 0) (h : dv d (md a m)) (k : dv d m) : dv d a := by
  obtain ⟨⟨q, e⟩, _⟩ := md_spec a hm
  rw [e]
  exact dv_xor (dv_mul q k) h
theorem dv_self (a : Nat) : dv a a := ⟨1, (cm_one_left a).symm⟩
theorem dv_zero (d : Nat) : dv d 0 := ⟨0, rfl⟩
theorem md_dv {d a : Nat} (hd : d ≠ 0) : md a d = 0 ↔ dv d a := by
  constructor
  · intro h
    obtain ⟨⟨q, e⟩, _⟩ := md_spec a hd
    rw [h, Nat.xor_zero] at e
    exact ⟨q, e⟩
  · rintro ⟨q, e⟩
    exact md_is hd (q := q) (by rw [Nat.xor_zero]; exact e) (by have := (len_rng hd).2.2; show 0 < _; omega)
end PO
set_option linter.all false
set_option maxRecDepth 100000
namespace BM
open TW PO
variable {a : Nat → Nat}
theorem A_comm : ∀ (n p q : Nat) (u : Nat → Nat) (b : Nat), p < 2 ^ n → A p (A q u) b = A q (A p u) b
  | 0, p, q, u, b, h => by
    have : p = 0 := by simpa using h
    subst this
    rw [A_zero]
    exact (A_nil q b).symm
  | n + 1, p, q, u, b, h => by
    rw [A_step p, A_comm n (p / 2) q u (b + 1) (by rw [Nat.pow_succ] at h; omega)]
    have e : A p u = fun b => (if p % 2 = 1 then u b else 0) ^^^ A (p / 2) u (b + 1) := funext fun b => A_step p u b
    rw [e, A_lin, A_shift]
    congr 1
    by_cases h : p % 2 = 1
    · simp only [if_pos h]
    · simp only [if_neg h]; exact (A_nil q b).symm
theorem A_cm : ∀ (n p q : Nat) (u : Nat → Nat) (b : Nat), p < 2 ^ n → A (cm p q) u b = A p (A q u) b
  | 0, p, q, u, b, h => by
    have : p = 0 := by simpa using h
    subst this
    rfl
  | n + 1, p, q, u, b, h => by
    rw [cm_step, A_step p, A_xor, Nat.mul_comm, A_two, A_cm n (p / 2) q u (b + 1) (by rw [Nat.pow_succ] at h; omega)]
    congr 1
    by_cases h : p % 2 = 1
    · simp only [if_pos h]
    · simp only [if_neg h]; rfl
theorem A_low : ∀ (n P : Nat) (c : Nat → Nat) (b : Nat), P < 2 ^ n → (∀ i, i < n → c (b + i) = 0) → A P c b = 0
  | 0, P, c, b, h, k => by
    have : P = 0 := by simpa using h
    subst this
    rfl
  | n + 1, P, c, b, h, k => by
    have k0 := k 0 (by omega)
    rw [Nat.add_zero] at k0
    rw [A_step, A_low n (P / 2) c (b + 1) (by rw [Nat.pow_succ] at h; omega) (fun i hi => by rw [show b + 1 + i = b + (i + 1) by omega]; exact k _ (by omega)), k0]
    simp
theorem A_top : ∀ (d P : Nat) (c : Nat → Nat) (b : Nat), 2 ^ d ≤ P → P < 2 ^ (d + 1) → (∀ i, i < d → c (b + i) = 0) → A P c b = c (b + d)
  | 0, P, c, b, h1, h2, k => by
    have : P = 1 := by omega
    subst this
    exact A_one _ _
  | d + 1, P, c, b, h1, h2, k => by
    have k0 := k 0 (by omega)
    rw [Nat.add_zero] at k0
    rw [A_step, A_top d (P / 2) c (b + 1) (by rw [Nat.pow_succ] at h1; omega) (by rw [Nat.pow_succ] at h2; omega) (fun i hi => by rw [show b + 1 + i = b + (i + 1) by omega]; exact k _ (by omega)), k0]
    simp [show b + 1 + d = b + (d + 1) by omega]
theorem A_bit (ha : ∀ i, a i ≤ 1) : ∀ (n P b : Nat), P < 2 ^ n → A P a b ≤ 1
  | 0, P, b, h => by
    have : P = 0 := by simpa using h
    subst this
    exact Nat.zero_le _
  | n + 1, P, b, h => by
    rw [A_step]
    have h1 : (if P % 2 = 1 then a b else 0) < 2 ^ 1 := by
      have := ha b
      split <;> omega
    have h2 : A (P / 2) a (b + 1) < 2 ^ 1 := by
      have := A_bit ha n (P / 2) (b + 1) (by rw [Nat.pow_succ] at h; omega)
      omega
    have := Nat.xor_lt_two_pow h1 h2
    omega
theorem A_bit' (ha : ∀ i, a i ≤ 1) (P b : Nat) : A P a b ≤ 1 := A_bit ha P P b Nat.lt_two_pow_self
theorem massey {R P at_ b0 : Nat} (hR : R ≠ 0) (hP : P ≠ 0) (h1 : ∀ b, b + len R ≤ at_ → A R a b = 0) (e : b0 + len R = at_ + 1) (h2 : A R a b0 = 1) (h3 : ∀ b, b + len P ≤ at_ + 1 → A P a b = 0) : at_ + 3 ≤ len R + len P := by
  refine Nat.le_of_not_lt fun h => ?_
  have lr := len_rng hR
  have lp := len_rng hP
  obtain ⟨b, hb⟩ : ∃ b, b + len R + len P = at_ + 2 := ⟨at_ + 2 - len R - len P, by omega⟩
  have k1 : A P (A R a) b = A R a (b + (len P - 1)) := A_top (len P - 1) P (A R a) b lp.1 lp.2.1 fun i hi => h1 _ (by omega)
  rw [show b + (len P - 1) = b0 by omega, h2, A_comm P P R a b Nat.lt_two_pow_self, A_low (len R) R (A P a) b (lt_len R) fun i hi => h3 _ (by omega)] at k1
  exact absurd k1 (by decide)
def rv : Nat → Nat → Nat
  | 0, C => C % 2
  | L + 1, C => (C % 2) * 2 ^ (L + 1) ^^^ rv L (C / 2)
theorem xmod (x y : Nat) : (x ^^^ y) % 2 = x % 2 ^^^ y % 2 := by
  have := Nat.xor_mod_two_pow (a := x) (b := y) (n := 1)
  simpa using this
theorem xdiv (x y : Nat) : (x ^^^ y) / 2 = x / 2 ^^^ y / 2 := by
  have := Nat.shiftRight_xor_distrib (a := x) (b := y) (i := 1)
  simpa [Nat.shiftRight_eq_div_pow] using this
theorem rv_xor : ∀ (L C D : Nat), rv L (C ^^^ D) = rv L C ^^^ rv L D
  | 0, C, D => xmod C D
  | L + 1, C, D => by
    unfold rv
    rw [xmod, xdiv, rv_xor L, two_xor, xor4]
theorem rv_zero : ∀ L, rv L 0 = 0
  | 0 => rfl
  | L + 1 => by unfold rv; rw [show 0 / 2 = 0 from rfl, rv_zero L]; simp
theorem rv_up : ∀ (L C k : Nat), C < 2 ^ (L + 1) → rv (L + k) C = rv L C * 2 ^ k
  | 0, C, k, h => by
    obtain rfl | rfl : C = 0 ∨ C = 1 := by omega
    · rw [rv_zero]; simp [rv]
    · match k with
      | 0 => rfl
      | k + 1 => 
        show rv (0 + k + 1) 1 = _
        unfold rv
        rw [show 1 / 2 = 0 from rfl, rv_zero]
        simp
  | L + 1, C, k, h => by
    rw [show L + 1 + k = L + k + 1 by omega]
    unfold rv
    rw [rv_up L (C / 2) k (by rw [Nat.pow_succ] at h; omega), two_xor, Nat.mul_assoc, ← Nat.pow_add, show L + k + 1 = L + 1 + k by omega]
theorem rv_shl : ∀ (L B g : Nat), rv (L + g) (B * 2 ^ g) = rv L B
  | L, B, 0 => by simp
  | L, B, g + 1 => by
    have e : rv (L + g + 1) (B * 2 ^ (g + 1)) = (B * 2 ^ (g + 1)) % 2 * 2 ^ (L + g + 1) ^^^ rv (L + g) (B * 2 ^ (g + 1) / 2) := rfl
    rw [show L + (g + 1) = L + g + 1 from rfl, e, Nat.pow_succ, ← Nat.mul_assoc, Nat.mul_mod_left, Nat.mul_div_cancel _ (by decide), Nat.zero_mul, Nat.zero_xor]
    exact rv_shl L B g
theorem rv_rng : ∀ (L C : Nat), rv L C < 2 ^ (L + 1) ∧ (C % 2 = 1 → 2 ^ L ≤ rv L C)
  | 0, C => ⟨by unfold rv; omega, fun h => by unfold rv; omega⟩
  | L + 1, C => by
    have ih := rv_rng L (C / 2)
    unfold rv
    rcases Nat.mod_two_eq_zero_or_one C with h | h
    · rw [h, Nat.zero_mul, Nat.zero_xor]
      refine ⟨Nat.lt_of_lt_of_le ih.1 (Nat.pow_le_pow_right (by decide) (by omega)), fun h => by omega⟩
    · rw [h, Nat.one_mul, Nat.xor_comm]
      have := xor_top (k := L + 1) (x := rv L (C / 2)) (y := 2 ^ (L + 1)) ih.1 (Nat.le_refl _) (Nat.pow_lt_pow_right (by decide) (by omega))
      exact ⟨this.2, fun _ => this.1⟩
theorem rv_len {L C : Nat} (h : C % 2 = 1) : rv L C ≠ 0 ∧ len (rv L C) = L + 1 := by
  obtain ⟨h1, h2⟩ := rv_rng L C
  have h2 := h2 h
  have h0 : rv L C ≠ 0 := by have := Nat.two_pow_pos L; omega
  refine ⟨h0, ?_⟩
  have k1 := len_le h1
  have k2 := len_rng h0
  have k3 : L < len (rv L C) := (Nat.pow_lt_pow_iff_right (by decide : 1 < 2)).mp (Nat.lt_of_le_of_lt h2 (lt_len _))
  omega
theorem A_rv0 (C : Nat) (b : Nat) : A (rv 0 C) a b = if C % 2 = 1 then a b else 0 := by
  unfold rv
  rcases Nat.mod_two_eq_zero_or_one C with h | h
  · rw [h]; rfl
  · rw [h, if_pos rfl, A_one]
theorem A_rv (L C : Nat) (b : Nat) : A (rv (L + 1) C) a b = (if C % 2 = 1 then a (b + (L + 1)) else 0) ^^^ A (rv L (C / 2)) a b := by
  show A ((C % 2) * 2 ^ (L + 1) ^^^ rv L (C / 2)) a b = _
  rw [A_xor, A_shl]
  congr 1
  rcases Nat.mod_two_eq_zero_or_one C with h | h
  · rw [h]; rfl
  · rw [h, if_pos rfl, A_one]
theorem rv_new {L C B LB gap L' e : Nat} (hC : C < 2 ^ (L + 1)) (hL : L ≤ L') (hB : B < 2 ^ (LB + 1)) (he : e + LB + gap = L') (b : Nat) :
    A (rv L' (C ^^^ B * 2 ^ gap)) a b = A (rv L C) a (b + (L' - L)) ^^^ A (rv LB B) a (b + e) := by
  have k1 : rv L' C = rv L C * 2 ^ (L' - L) := by
    have := rv_up L C (L' - L) hC
    rwa [show L + (L' - L) = L' by omega] at this
  have k2 : rv L' (B * 2 ^ gap) = rv LB B * 2 ^ e := by
    rw [← he, rv_shl, Nat.add_comm e LB, rv_up LB B e hB]
  rw [rv_xor, k1, k2, A_xor, A_shl, A_shl]
structure Bm (a : Nat → Nat) (k C B L gap : Nat) : Prop where
  c1 : C < 2 ^ (L + 1)
  c0 : C % 2 = 1
  lk : L ≤ k
  fol : ∀ b, b + L < k → A (rv L C) a b = 0
  min : ∀ P, P ≠ 0 → (∀ b, b + len P ≤ k → A P a b = 0) → L + 1 ≤ len P
  old : (L = 0 ∧ C = 1 ∧ B = 1 ∧ gap = k + 1 ∧ ∀ i, i < k → a i = 0) ∨
    ∃ LB m, B < 2 ^ (LB + 1) ∧ m + 1 = L + LB ∧ gap + m = k ∧ m < k ∧ LB ≤ m ∧ (∀ b, b + LB < m → A (rv LB B) a b = 0) ∧ A (rv LB B) a (m - LB) = 1
theorem Bm.init : Bm a 0 1 1 0 1 where
  c1 := by decide
  c0 := rfl
  lk := Nat.le_refl _
  fol := fun b h => absurd h (by omega)
  min := fun P h _ => (len_rng h).2.2
  old := .inl ⟨rfl, rfl, rfl, rfl, fun i h => absurd h (by omega)⟩
variable {k C B L gap : Nat}
theorem Bm.step0 (h : Bm a k C B L gap) (d : A (rv L C) a (k - L) = 0) : Bm a (k + 1) C B L (gap + 1) where
  c1 := h.c1
  c0 := h.c0
  lk := Nat.le_succ_of_le h.lk
  fol := fun b hb => by
    by_cases e : b + L < k
    · exact h.fol b e
    · have : b = k - L := by have := h.lk; omega
      rw [this]; exact d
  min := fun P h0 h1 => h.min P h0 fun b hb => h1 b (by omega)
  old := by
    rcases h.old with ⟨rfl, rfl, rfl, rfl, z⟩ | ⟨LB, m, z1, z2, z3, z4, z5, z6, z7⟩
    · refine .inl ⟨rfl, rfl, rfl, rfl, fun i hi => ?_⟩
      by_cases e : i < k
      · exact z i e
      · have : i = k := by omega
        subst this
        rw [A_rv0, if_pos rfl] at d
        exact d
    · exact .inr ⟨LB, m, z1, z2, by omega, by omega, z5, z6, z7⟩
theorem Bm.mass (h : Bm a k C B L gap) (d : A (rv L C) a (k - L) = 1) {P : Nat} (hP : P ≠ 0) (h3 : ∀ b, b + len P ≤ k + 1 → A P a b = 0) : k + 2 ≤ L + len P := by
  obtain ⟨r0, r1⟩ := rv_len (L := L) h.c0
  have := massey (a := a) (at_ := k) (b0 := k - L) r0 hP (fun b hb => h.fol b (by omega)) (by have := h.lk; omega) d h3
  omega
theorem Bm.step1 (h : Bm a k C B L gap) (d : A (rv L C) a (k - L) = 1) (hL : 2 * L ≤ k) : Bm a (k + 1) (C ^^^ B * 2 ^ gap) C (k + 1 - L) 1 := by
  have c1 := h.c1
  have facts : ∃ LB, B < 2 ^ (LB + 1) ∧ LB + gap = k + 1 - L ∧ 1 ≤ gap := by
    rcases h.old with ⟨rfl, rfl, rfl, rfl, z⟩ | ⟨LB, m, z1, z2, z3, z4, z5, z6, z7⟩
    · exact ⟨0, by decide, by omega, by omega⟩
    · exact ⟨LB, z1, by omega, by omega⟩
  obtain ⟨LB, hB, he, hg⟩ := facts
  refine ⟨?_, ?_, by omega, ?_, ?_, ?_⟩
  · refine Nat.xor_lt_two_pow (Nat.lt_of_lt_of_le c1 (Nat.pow_le_pow_right (by decide) (by omega))) ?_
    rw [show k + 1 - L + 1 = LB + 1 + gap by omega, Nat.pow_add]
    exact Nat.mul_lt_mul_of_pos_right hB (Nat.two_pow_pos _)
  · rw [xmod, h.c0, show gap = gap - 1 + 1 by omega, Nat.pow_succ, ← Nat.mul_assoc, Nat.mul_mod_left]; rfl
  · intro b hb
    rcases h.old with ⟨rfl, rfl, rfl, rfl, z⟩ | ⟨LB', m, z1, z2, z3, z4, z5, z6, z7⟩
    · omega
    · have : LB' = LB := by omega
      subst this
      rw [rv_new (e := 0) c1 (by omega) hB (by omega)]
      by_cases e : b + (k + 1 - L) < k
      · rw [h.fol _ (by omega), z6 _ (by omega)]; rfl
      · rw [show b + (k + 1 - L - L) = k - L by omega, d, show b + 0 = m - LB' by omega, z7]; rfl
  · intro P h0 h1
    have := h.mass d h0 h1
    omega
  · exact .inr ⟨L, k, c1, by omega, by omega, by omega, h.lk, h.fol, d⟩
theorem Bm.step2 (h : Bm a k C B L gap) (d : A (rv L C) a (k - L) = 1) (hL : ¬ 2 * L ≤ k) : Bm a (k + 1) (C ^^^ B * 2 ^ gap) B L (gap + 1) := by
  have c1 := h.c1
  rcases h.old with ⟨rfl, rfl, rfl, rfl, z⟩ | ⟨LB, m, z1, z2, z3, z4, z5, z6, z7⟩
  · omega
  have lk := h.lk
  refine ⟨?_, ?_, by omega, ?_, ?_, ?_⟩
  · refine Nat.xor_lt_two_pow c1 (Nat.lt_of_lt_of_le (m := 2 ^ (LB + 1 + gap)) ?_ (Nat.pow_le_pow_right (by decide) (by omega)))
    rw [Nat.pow_add]
    exact Nat.mul_lt_mul_of_pos_right z1 (Nat.two_pow_pos _)
  · rw [xmod, h.c0, show gap = gap - 1 + 1 by omega, Nat.pow_succ, ← Nat.mul_assoc, Nat.mul_mod_left]; rfl
  · intro b hb
    rw [rv_new (e := 2 * L - k - 1) c1 (Nat.le_refl _) z1 (by omega)]
    by_cases e : b + L < k
    · rw [show b + (L - L) = b by omega, h.fol _ e, z6 _ (by omega)]; rfl
    · rw [show b + (L - L) = k - L by omega, d, show b + (2 * L - k - 1) = m - LB by omega, z7]; rfl
  · intro P h0 h1
    exact h.min P h0 fun b hb => h1 b (by omega)
  · exact .inr ⟨LB, m, z1, z2, by omega, by omega, z5, z6, z7⟩
/-- the state after k bits -/
structure St where
  C : Nat
  B : Nat
  L : Nat
  g : Nat
def bms (a : Nat → Nat) : Nat → St
  | 0 => ⟨1, 1, 0, 1⟩
  | k + 1 =>
    let t := bms a k
    if A (rv t.L t.C) a (k - t.L) = 0 then ⟨t.C, t.B, t.L, t.g + 1⟩
    else if 2 * t.L ≤ k then ⟨t.C ^^^ t.B * 2 ^ t.g, t.C, k + 1 - t.L, 1⟩
    else ⟨t.C ^^^ t.B * 2 ^ t.g, t.B, t.L, t.g + 1⟩
theorem bms_ok (ha : ∀ i, a i ≤ 1) : ∀ k, Bm a k (bms a k).C (bms a k).B (bms a k).L (bms a k).g
  | 0 => Bm.init
  | k + 1 => by
    have ih := bms_ok ha k
    unfold bms
    by_cases h : A (rv (bms a k).L (bms a k).C) a (k - (bms a k).L) = 0
    · simp only [h, if_true]
      exact ih.step0 h
    · have h1 : A (rv (bms a k).L (bms a k).C) a (k - (bms a k).L) = 1 := by have := A_bit' ha (rv (bms a k).L (bms a k).C) (k - (bms a k).L); omega
      simp only [h, if_false]
      by_cases h2 : 2 * (bms a k).L ≤ k
      · simp only [h2, if_true]
        exact ih.step1 h1 h2
      · simp only [h2, if_false]
        exact ih.step2 h1 h2
def bmr (a : Nat → Nat) (n : Nat) : Nat := rv (bms a n).L (bms a n).C
/-- a polynomial that is followed -/
def Fol (P : Nat) (a : Nat → Nat) (n : Nat) : Prop := ∀ b, b + len P ≤ n → A P a b = 0
instance (P : Nat) (a : Nat → Nat) (n : Nat) : Decidable (Fol P a n) :=
  decidable_of_iff (∀ b, b < n + 1 → b + len P ≤ n → A P a b = 0) ⟨fun h b hb => h b (by omega) hb, fun h b _ hb => h b hb⟩
structure Least (R : Nat) (a : Nat → Nat) (n : Nat) : Prop where
  ne : R ≠ 0
  le : len R ≤ n + 1
  fol : Fol R a n
  min : ∀ P, P ≠ 0 → Fol P a n → len R ≤ len P
theorem bmr_least (ha : ∀ i, a i ≤ 1) (n : Nat) : Least (bmr a n) a n := by
  have h := bms_ok ha n
  obtain ⟨r0, r1⟩ := rv_len (L := (bms a n).L) h.c0
  unfold bmr
  exact ⟨r0, by rw [r1]; have := h.lk; omega, fun b hb => h.fol b (by rw [r1] at hb; omega), fun P h0 h1 => by rw [r1]; exact h.min P h0 h1⟩
theorem Least.div {R P n : Nat} (h : Least R a n) (hP : P ≠ 0) (fP : Fol P a n) (hl : len R + len P ≤ n + 2) : md P R = 0 := by
  obtain ⟨⟨Q, e⟩, l⟩ := md_spec P h.ne
  obtain ⟨S, hS⟩ : ∃ S, S = md P R := ⟨_, rfl⟩
  rw [← hS] at e l ⊢
  refine Decidable.byContradiction fun s0 => ?_
  have lp := h.min P hP fP
  have hQR : cm Q R = P ^^^ S := by rw [e, Nat.xor_assoc, Nat.xor_self, Nat.xor_zero]
  have q0 : Q ≠ 0 := by
    rintro rfl
    rw [cm_zero_left, Nat.zero_xor] at e
    rw [e] at lp; omega
  have lq : len Q + len R - 1 ≤ len P := by
    rw [← cm_len q0 h.ne, hQR]
    have := len_xor (x := P) (y := S) (k := len P + 1) (by omega) (by omega)
    omega
  have rR := len_rng h.ne
  have rS := len_rng s0
  have eS : ∀ b, A S a b = A P a b ^^^ A Q (A R a) b := fun b => by
    rw [← A_cm Q Q R a b Nat.lt_two_pow_self, ← A_xor, hQR, ← Nat.xor_assoc, Nat.xor_self, Nat.zero_xor]
  have f1 : ∀ b, b + len P ≤ n → A S a b = 0 := fun b hb => by
    rw [eS, fP b hb, A_low (len Q) Q (A R a) b (lt_len Q) fun i hi => h.fol _ (by omega)]; rfl
  have f2 : Fol S a n := by
    intro b
    induction b using Nat.strongRecOn with
    | _ b ih =>
      intro hb
      by_cases c : b + len P ≤ n
      · exact f1 b c
      · obtain ⟨b0, hb0⟩ : ∃ b0, b0 + (len R - 1) = b := ⟨b - (len R - 1), by omega⟩
        have k := A_top (len R - 1) R (A S a) b0 rR.1 rR.2.1 fun i hi => ih _ (by omega) (by omega)
        rw [hb0, A_comm R R S a b0 Nat.lt_two_pow_self, A_low (len S) S (A R a) b0 (lt_len S) fun i hi => h.fol _ (by omega)] at k
        exact k.symm
  have := h.min S s0 f2
  omega
end BM
set_option linter.all false
set_option maxRecDepth 100000
namespace BM
open TW PO
variable {a : Nat → Nat}
theorem xor_par {w v : Nat} (hw : w ≤ 1) (hv : v ≤ 1) : w ^^^ v = (w + v) % 2 := by
  obtain rfl | rfl : w = 0 ∨ w = 1 := by omega
  all_goals obtain rfl | rfl : v = 0 ∨ v = 1 := by omega
  all_goals rfl
theorem fold_par (f : Nat → Nat) (hf : ∀ i, f i ≤ 1) : ∀ (l : List Nat) (w : Nat), w ≤ 1 → l.foldl (fun w i => w ^^^ f i) w = (w + (l.map f).sum) % 2
  | [], w, hw => by simp; omega
  | x :: l, w, hw => by
    rw [List.foldl_cons, xor_par hw (hf x), fold_par f hf l _ (by omega), List.map_cons, List.sum_cons]
    omega
theorem A_par (ha : ∀ i, a i ≤ 1) {P n : Nat} (h : P < 2 ^ n) (b : Nat) : A P a b = (((plist P n).map fun p => a (b + p)).sum) % 2 := by
  have := fold_act P a b n 0
  rw [fold_par (fun i => a (b + i)) (fun i => ha _) _ 0 (by omega), Nat.zero_add, Nat.zero_xor, ← A_fuel h] at this
  exact this.symm
/-- the places from 1 on of a rule -/
def olist (C L : Nat) : List Nat := (List.range L).filter fun i => C.testBit (i + 1)
theorem olist_step (C L : Nat) : olist C (L + 1) = (if C / 2 % 2 = 1 then [0] else []) ++ (olist (C / 2) L).map (· + 1) := by
  unfold olist
  rw [List.range_succ_eq_map, List.filter_cons, List.filter_map]
  have e : ((fun i => C.testBit (i + 1)) ∘ Nat.succ) = fun i => (C / 2).testBit (i + 1) := by
    funext i
    simp [Nat.testBit_succ]
  have z : C.testBit (0 + 1) = decide (C / 2 % 2 = 1) := by
    rw [Nat.testBit_succ, Nat.testBit_zero]
  rw [e, z]
  by_cases h : C / 2 % 2 = 1 <;> simp [h]
theorem A_ones (ha : ∀ i, a i ≤ 1) : ∀ (L C b : Nat), A (rv L C) a b = ((if C % 2 = 1 then a (b + L) else 0) + ((olist C L).map fun i => a (b + (L - (i + 1)))).sum) % 2
  | 0, C, b => by
    rw [A_rv0]
    have := ha b
    by_cases h : C % 2 = 1
    · simp [h, olist]; omega
    · simp [h, olist]
  | L + 1, C, b => by
    have h1 : (if C % 2 = 1 then a (b + (L + 1)) else 0) ≤ 1 := by
      have := ha (b + (L + 1))
      split <;> omega
    have e : ((olist C (L + 1)).map fun i => a (b + (L + 1 - (i + 1)))).sum = (if C / 2 % 2 = 1 then a (b + L) else 0) + ((olist (C / 2) L).map fun i => a (b + (L - (i + 1)))).sum := by
      rw [olist_step, List.map_append, List.sum_append, List.map_map]
      congr 1
      · by_cases h : C / 2 % 2 = 1 <;> simp [h]
      · congr 1
        refine List.map_congr_left fun i _ => ?_
        show a (b + (L + 1 - (i + 1 + 1))) = _
        congr 2
        omega
    rw [A_rv, xor_par h1 (A_bit' ha _ _), A_ones ha L (C / 2) b, e]
    omega
/-- all places of a rule -/
theorem plist_step (C L : Nat) : plist C (L + 1) = (if C % 2 = 1 then [0] else []) ++ (plist (C / 2) L).map (· + 1) := by
  unfold plist
  rw [List.range_succ_eq_map, List.filter_cons, List.filter_map]
  have e : ((fun i => C.testBit i) ∘ Nat.succ) = fun i => (C / 2).testBit i := by
    funext i
    simp [Nat.testBit_succ]
  have z : C.testBit 0 = decide (C % 2 = 1) := Nat.testBit_zero ..
  rw [e, z]
  by_cases h : C % 2 = 1 <;> simp [h]
theorem xor_add {k y : Nat} (h : y < 2 ^ k) : 2 ^ k ^^^ y = 2 ^ k + y := by
  have e : 2 ^ k ^^^ y = 2 ^ k ||| y := by
    refine Nat.eq_of_testBit_eq fun j => ?_
    rw [Nat.testBit_or, Nat.testBit_xor, Nat.testBit_two_pow]
    by_cases e : k = j
    · subst e; rw [Nat.testBit_lt_two_pow h]; simp
    · simp [e]
  have := Nat.two_pow_add_eq_or_of_lt h 1
  rw [Nat.mul_one] at this
  rw [e, this]
theorem rv_sum : ∀ (L C : Nat), rv L C = ((plist C (L + 1)).map fun p => 2 ^ (L - p)).sum
  | 0, C => by
    rw [plist_step]
    show C % 2 = _
    have : plist (C / 2) 0 = [] := rfl
    rw [this]
    by_cases h : C % 2 = 1
    · simp [h]
    · simp [h]; omega
  | L + 1, C => by
    have ih := rv_sum L (C / 2)
    have lt := (rv_rng L (C / 2)).1
    rw [plist_step, List.map_append, List.sum_append, List.map_map]
    have e : (((plist (C / 2) (L + 1)).map ((fun p => 2 ^ (L + 1 - p)) ∘ (· + 1))).sum) = rv L (C / 2) := by
      rw [ih]
      congr 1
      refine List.map_congr_left fun i _ => ?_
      show 2 ^ (L + 1 - (i + 1)) = _
      congr 1
      omega
    rw [e]
    show C % 2 * 2 ^ (L + 1) ^^^ rv L (C / 2) = _
    by_cases h : C % 2 = 1
    · rw [h, Nat.one_mul, xor_add lt]
      simp
    · have : C % 2 = 0 := by omega
      simp [this]
theorem A_bits {a a' : Nat → Nat} {P b n : Nat} (h : b + len P ≤ n) (e : ∀ i, i < n → a i = a' i) : A P a b = A P a' b := by
  rw [A_fuel (lt_len P) a, A_fuel (lt_len P) a', act_ext']
  intro i h1 h2
  exact e i (by omega)
where
  act_ext' {n p : Nat} {u v : Nat → Nat} {b : Nat} (h : ∀ i, b ≤ i → i < b + n → u i = v i) : act n p u b = act n p v b := by
    induction n with
    | zero => rfl
    | succ n ih =>
      rw [act_last, act_last, ih fun i h1 h2 => h i h1 (by omega), h (b + n) (by omega) (by omega)]
theorem St.ex (t : St) : ∃ C B L g, t = ⟨C, B, L, g⟩ := by
  cases t
  exact ⟨_, _, _, _, rfl⟩
end BM
set_option Elab.async false
set_option linter.all false
set_option maxRecDepth 100000
set_option maxHeartbeats 1000000
set_option exponentiation.threshold 3000
namespace Pf
open PySem Ab
local macro_rules | `(tactic| simp! [$xs,*]) => `(tactic| try simp (config := {maxSteps := 1000000}) only [k_bind, k_Kb, k_st, k_Kst, k_Rst, k_thn, k_loop, k_fn, k_forget, k_clr, k_noX, k_try, k_stuck, k_Astuck, d_thn_nx, d_thn_bk, d_thn_ct, d_thn_rt, d_thn_er, d_lp_nx, d_lp_bk, d_lp_ct, d_lp_rt, d_lp_er, d_fg_nx, d_fg_bk, d_fg_ct, d_fg_rt, d_fg_er, d_cl_nx, d_cl_bk, d_cl_ct, d_cl_rt, d_cl_er, d_tr_nx, d_tr_bk, d_tr_ct, d_tr_rt, d_tr_er, d_nX_nx, d_nX_bk, d_nX_ct, d_nX_rt, d_nX_er, d_fn_nx, d_fn_bk, d_fn_ct, d_fn_rt, d_fn_er, A_nx, A_bk, A_ct, A_rt, A_err, post_ok, post_err, post_noErr, e_op, e_opK, e_un, e_cb, e_nil, e_c, e_cons, e_consK, e_consK2, e_and, e_or, e_andK, e_orK, e_not, e_notK, e_test, e_testK, e_tand, e_tandK, e_tor, e_torK, e_tnot, e_tnotK, e_yes, e_if, e_ifK, e_ch, e_chK1, e_chK2, e_chK3, e_tup, e_tupK, e_lst, e_lstK, e_newL, e_call, e_callK, e_meth, e_methK, e_methK2, e_prop, e_propK, e_make, e_makeK, e_makeK2, e_makeV, e_sm, e_smK, e_smK2, e_cm, e_cmK, e_cmK2, e_sl, e_slK1, e_slK2, e_slK3, e_part, e_partK, e_nopart, e_rev, e_bm, e_bmK, e_pr, e_pr0, e_prK1, e_prK2, e_prK3, e_disp, e_dnew, e_own, e_ownK, e_lc, e_lcK, e_iter, e_rng1, e_rng1K, e_rng2, e_rng2K, e_enum, s_drop, s_dropK, s_ret, s_retK, s_retN, s_next, s_break, s_cont, s_seq, s_if, s_ifK, s_asg, s_asgK, s_name, s_par, s_parK, s_par3, s_parK3, s_gnil, s_gcons, s_gtup, s_for, s_forK, s_raise, s_raiseK, s_sf, s_sfK1, s_sfK2, s_dp, s_dpK1, s_dpK2, s_dpK3, s_forget, s_def, s_fld, e_enumU, e_enumUT, eq_self, beq_self_eq_true, k_grd, k_grdS, k_ite, k_Aite, true_implies, false_implies, implies_true, List.map_cons, List.map_nil, List.nil_append, List.cons_append, List.append_nil, List.replicate_succ, List.replicate_zero, List.getElem?_cons_zero, List.getElem?_cons_succ, List.length_cons, List.length_nil, List.set_cons_zero, List.set_cons_succ, ↓reduceIte, ↓reduceDIte, Nat.reduceAdd, Nat.reduceLeDiff, Nat.reduceEqDiff, Nat.zero_add, if_true, if_false, aVar, gMinus_int, gLt_int, gLe_int, gGt_int, gGe_int, gEq_int, gNe_int, gEq_str, gNe_str, gEq_bl, gNe_bl, gXor_int, gAnd_int, gOr_int, gAdd_int, gIsN_non, gNotN_non, gIsB_bl, gNotB_bl, gNeg_int, gLen_tup, gLen_scr, gMax2_int, gMin2_int, gBits_int, gSl_tup, gSl_scr, Bool.not_true, Bool.not_false, Bool.true_eq_false, Bool.false_eq_true, Bool.true_and, Bool.false_and, Bool.and_true, Bool.and_false, Bool.true_or, Bool.false_or, decide_true, decide_false, and_self, and_true, true_and, and_false, false_and, not_true_eq_false, not_false_eq_true, reduceCtorEq, kz, z1, z2, z3, z4, z5, z6, z7, z8, z9, z10, z11, z12, z13, z14, z15, z16, isCls, isNon, aForget, aHand, toKey, keysA, iterOf_tup, iterOf_scr, oNx_some, noErr_ok, decide_eq_true_eq, decide_eq_false_iff_not, Sto.new_n, Sto.set_n, Sto.set_at, Sto.new_at, Nat.zero_le, aMakeV, Cl_non, Cl_bl, Cl_int, Cl_str, Cl_cls, Cl_obj, Cl_tup, ClL_nil, ClL_cons, $xs,*])
local macro_rules | `(tactic| simp! only [$xs,*]) => `(tactic| simp only [e_op, e_opK, e_un, e_cb, e_nil, e_c, e_cons, e_consK, e_consK2, e_and, e_or, e_andK, e_orK, e_not, e_notK, e_test, e_testK, e_tand, e_tandK, e_tor, e_torK, e_tnot, e_tnotK, e_yes, e_if, e_ifK, e_ch, e_chK1, e_chK2, e_chK3, e_tup, e_tupK, e_lst, e_lstK, e_newL, e_call, e_callK, e_meth, e_methK, e_methK2, e_prop, e_propK, e_make, e_makeK, e_makeK2, e_makeV, e_sm, e_smK, e_smK2, e_cm, e_cmK, e_cmK2, e_sl, e_slK1, e_slK2, e_slK3, e_part, e_partK, e_nopart, e_rev, e_bm, e_bmK, e_pr, e_pr0, e_prK1, e_prK2, e_prK3, e_disp, e_dnew, e_own, e_ownK, e_lc, e_lcK, e_iter, e_rng1, e_rng1K, e_rng2, e_rng2K, e_enum, s_drop, s_dropK, s_ret, s_retK, s_retN, s_next, s_break, s_cont, s_seq, s_if, s_ifK, s_asg, s_asgK, s_name, s_par, s_parK, s_par3, s_parK3, s_gnil, s_gcons, s_gtup, s_for, s_forK, s_raise, s_raiseK, s_sf, s_sfK1, s_sfK2, s_dp, s_dpK1, s_dpK2, s_dpK3, s_forget, s_def, s_fld, e_enumU, e_enumUT, eq_self, beq_self_eq_true, true_implies, false_implies, implies_true, List.map_cons, List.map_nil, List.nil_append, List.cons_append, List.append_nil, List.replicate_succ, List.replicate_zero, List.getElem?_cons_zero, List.getElem?_cons_succ, List.length_cons, List.length_nil, List.set_cons_zero, List.set_cons_succ, ↓reduceIte, ↓reduceDIte, Nat.reduceAdd, Nat.reduceLeDiff, Nat.reduceEqDiff, Nat.zero_add, if_true, if_false, aVar, gMinus_int, gLt_int, gLe_int, gGt_int, gGe_int, gEq_int, gNe_int, gEq_str, gNe_str, gEq_bl, gNe_bl, gXor_int, gAnd_int, gOr_int, gAdd_int, gIsN_non, gNotN_non, gIsB_bl, gNotB_bl, gNeg_int, gLen_tup, gLen_scr, gMax2_int, gMin2_int, gBits_int, gSl_tup, gSl_scr, Bool.not_true, Bool.not_false, Bool.true_eq_false, Bool.false_eq_true, Bool.true_and, Bool.false_and, Bool.and_true, Bool.and_false, Bool.true_or, Bool.false_or, decide_true, decide_false, and_self, and_true, true_and, and_false, false_and, not_true_eq_false, not_false_eq_true, reduceCtorEq, kz, z1, z2, z3, z4, z5, z6, z7, z8, z9, z10, z11, z12, z13, z14, z15, z16, isCls, isNon, aForget, aHand, toKey, keysA, iterOf_tup, iterOf_scr, oNx_some, noErr_ok, decide_eq_true_eq, decide_eq_false_iff_not, Sto.new_n, Sto.set_n, Sto.set_at, Sto.new_at, Nat.zero_le, aMakeV, Cl_non, Cl_bl, Cl_int, Cl_str, Cl_cls, Cl_obj, Cl_tup, ClL_nil, ClL_cons, grd_pos, grdS_pos, Res.bind_ok, Res.bind_err, Res.st_ok, Res.st_err, SRes.thn_nx, SRes.thn_rt, SRes.thn_err, SRes.fn_rt, SRes.fn_nx, SRes.fn_err, SRes.loop_nx, SRes.loop_rt, SRes.loop_err, SRes.loop_ct, SRes.loop_bk, SRes.forget_nx, SRes.forget_rt, SRes.forget_err, SRes.clr_nx, SRes.clr_rt, SRes.noX_nx, SRes.noX_rt, aTry, sizeLine_ge, $xs,*])
theorem cs13 (i : Nat) (s : Sto) : gShr (.int (i : Nat)) (.int 13) s = .ok (.int ((i / 2 ^ 13 : Nat) : Int)) s := (gShr_int (by decide)).trans (by rw [Int.natCast_ediv]; rfl)
theorem cs16 (i : Nat) (s : Sto) : gShr (.int (i : Nat)) (.int 16) s = .ok (.int ((i / 2 ^ 16 : Nat) : Int)) s := (gShr_int (by decide)).trans (by rw [Int.natCast_ediv]; rfl)
theorem tmp_ok {x : Nat} (s : Sto) (hx : x < 4294967296) : F_own_tempered [.int (x : Nat)] s = .ok (.int (MX.tmp x : Nat)) s := by
  refine gc0 ?_ (by simp)
  have m := gMF (l := x ^^^ x / 2 ^ 13) (s := s) (MX.xs_lt (k := 13) hx)
  have fm : ((x ^^^ x / 2 ^ 13 : Nat) : Int) * 3486784401 % 4294967296 = (((x ^^^ x / 2 ^ 13) * MX.F % 4294967296 : Nat) : Int) := by
    rw [show ((x ^^^ x / 2 ^ 13 : Nat) : Int) * 3486784401 = (((x ^^^ x / 2 ^ 13) * MX.F : Nat) : Int) from by rw [Int.natCast_mul]; rfl, modN]
  show _ = Res.ok (AV.int ((((x ^^^ x / 2 ^ 13) * MX.F % 4294967296) ^^^ ((x ^^^ x / 2 ^ 13) * MX.F % 4294967296) / 2 ^ 16 : Nat) : Int)) s
  simp! only [B_own_tempered, cs13, cs16, xorN, m, m32, fm]
abbrev twi (r : List Nat) : Cell := .ins "Twisted" [("s3_state", .tup (iN r))]
structure RowT (r : List Nat) : Prop where
  len : r.length = 31
  lt : ∀ x ∈ r, x < 4294967296
  nz : ∃ x ∈ r, x ≠ 0
theorem win_row {r : List Nat} (h : RowT r) (n : Nat) : RowT (TW.win (TW.seqR r) n) := by
  refine ⟨TW.win_len _ _, fun x hx => ?_, ?_⟩
  · obtain ⟨i, _, rfl⟩ := List.mem_map.mp hx
    exact TW.seqR_lt (r := r) h.lt _
  · refine Classical.byContradiction fun c => ?_
    have z := TW.win_nz (TW.seqR_rec r) (n := n) (fun x hx => Classical.byContradiction fun c2 => c ⟨x, hx, c2⟩)
    obtain ⟨x, hx, h0⟩ := h.nz
    rw [← TW.win_zero h.len] at hx
    obtain ⟨i, _, rfl⟩ := List.mem_map.mp hx
    exact h0 (z _)
theorem win_next (r : List Nat) (n : Nat) : TW.win (TW.seqR (TW.win (TW.seqR r) n)) 1 = TW.win (TW.seqR r) (n + 1) := by
  unfold TW.win
  refine List.map_congr_left fun i _ => ?_
  have := TW.seqR_win (TW.seqR_rec r) n (1 + i)
  unfold TW.win at this
  rw [this]
  congr 1
  omega
theorem isi_tupN {xs : List AV} {s : Sto} : gIsi (kitB "tuple") [.tup xs, .ty "tuple"] s = .ok (.bl true) s := isi_tup
theorem iN_len (r : List Nat) : (iN r).length = r.length := List.length_map ..
theorem iN_get {r : List Nat} {i : Nat} {x : AV} (h : (iN r)[i]? = some x) : ∃ n ∈ r, r[i]? = some n ∧ x = .int (n : Nat) := by
  rw [List.getElem?_map] at h
  cases e : r[i]? with
  | none => rw [e] at h; cases h
  | some c => rw [e] at h; exact ⟨c, List.mem_of_getElem? e, rfl, (Option.some.inj h).symm⟩
theorem row_t {r : List Nat} (h : RowT r) (s : Sto) : F_s3_need_row [.tup (iN r)] s = .ok .non s := by
  refine gc0 ?_ (by simp)
  refine res_ok ?_
  have i1 := fun s => isi_tupN (xs := iN r) (s := s)
  have hl : (iN r).length = 31 := by rw [iN_len, h.len]
  have d31 : decide (((31 : Nat) : Int) = 31) = true := rfl
  simp! [B_s3_need_row]
  refine gcT_g ?_
  simp! [i1, hl, d31]
  refine lc_P (fun i acc s' => Gb s s' ∧ acc = (List.replicate i true).map AV.bl) ⟨(Gb.refl s).new, rfl⟩ Sto.new_at (by rw [hl]; decide) ?_ ?_
  · rintro i x acc s' hx ⟨hg, ha⟩ hc
    obtain ⟨c, hm, _, rfl⟩ := iN_get hx
    refine ⟨trivial, ?_⟩
    have w := fun s => word_t (i := c) s (by omega) (by have := h.lt c hm; omega)
    simp! [w, wipeA]
    refine ⟨hc, hg.set (Nat.le_refl _), ?_⟩
    rw [ha, ← List.map_cons (f := AV.bl), ← List.replicate_succ, List.replicate_succ', List.map_append]
    rfl
  · rintro acc s' ⟨hg, ha⟩ hc
    refine ⟨trivial, ?_⟩
    have al := gAll_lst (lstOf_obj (hc.trans (congrArg Cell.lst ha)))
    have ra : (List.replicate (iN r).length true).all id = true := by simp [List.all_replicate]
    rw [ra] at al
    simp! [al]
    refine ⟨hg, ?_⟩
    refine gcT_g ?_
    simp! [eq_self]
    refine lc_P (fun i acc s' => Gb s s' ∧ acc = ((r.take i).map fun n => decide (((n : Nat) : Int) = 0)).map AV.bl) ⟨(Gb.refl s).new, rfl⟩ Sto.new_at (by rw [hl]; decide) ?_ ?_
    · rintro i x acc s' hx ⟨hg, ha⟩ hc
      obtain ⟨c, hm, hi, rfl⟩ := iN_get hx
      refine ⟨trivial, ?_⟩
      simp! [wipeA]
      refine ⟨hc, hg.set (Nat.le_refl _), ?_⟩
      rw [List.take_add_one, hi, ha]
      simp
    · rintro acc s' ⟨hg, ha⟩ hc
      refine ⟨trivial, ?_⟩
      rw [iN_len, List.take_length] at ha
      have al := gAll_lst (lstOf_obj (hc.trans (congrArg Cell.lst ha)))
      have ra : (r.map fun n => decide (((n : Nat) : Int) = 0)).all id = false := by
        obtain ⟨x, hx, h0⟩ := h.nz
        rw [List.all_eq_false]
        exact ⟨false, List.mem_map.mpr ⟨x, hx, decide_eq_false (by omega)⟩, by simp⟩
      rw [ra] at al
      simp! [al]
      exact hg
theorem twi_init {r : List Nat} (h : RowT r) (s : Sto) : F_Twisted___init__ [.obj s.n, .tup (iN r)] (s.new (.ins "Twisted" [])) = .ok .non (s.new (twi r)) := by
  have e := row_t h (s.new (.ins "Twisted" []))
  have f1 : setF ["Twisted"] "s3_state" (.obj s.n) (.tup (iN r)) (s.new (.ins "Twisted" [])) = some (s.new (twi r)) := by
    rw [setF_obj Sto.new_at (by simp) (by simp), new_set]
    rfl
  have lt : s.n < (s.new (.ins "Twisted" [])).n := Nat.lt_succ_self _
  have cl : ∀ n, ClL n (iN r) := fun n => ClL_all.mpr fun x hx => by
    obtain ⟨i, _, rfl⟩ := List.mem_map.mp hx
    simp
  have k : aDef 0 B_Twisted___init__ [.obj s.n, .tup (iN r)] (s.new (.ins "Twisted" [])) = .ok .non (s.new (twi r)) := by
    simp! only [B_Twisted___init__, e, f1]
  have es : (s.new (.ins "Twisted" [])).set s.n (twi r) = s.new (twi r) := new_set
  rw [← es] at k ⊢
  have := gcF_eq k (by simp) ((Clean.refl _).set (.inr (by simp [ClC, cl])))
  rw [cut_set_old lt, cut_self] at this
  exact this
section
variable {s : Sto} {o : Nat} {r : List Nat}
theorem ft (h : s.c o = twi r) : gFld ["Twisted"] "s3_state" (.obj o) s = .ok (.tup (iN r)) s := gFld_obj h (by simp) lookA_hd
theorem iN_cl (n : Nat) (r : List Nat) : ClL n (iN r) := ClL_all.mpr fun x hx => by
  obtain ⟨i, _, rfl⟩ := List.mem_map.mp hx
  simp
theorem twi_state (h : s.c o = twi r) : F_Twisted_state [.obj o] s = .ok (.tup (iN r)) s := by
  refine gc0 ?_ (by simp [iN_cl])
  have a := ft h
  simp! only [B_Twisted_state, a]
theorem dat_iN (n : Nat) (s : Sto) : ∀ r : List Nat, optL (dat (n + 1) s) (iN r) = some (r.map fun k => PyData.int (k : Nat))
  | [] => rfl
  | x :: r => by
    have ih := dat_iN n s r
    show (match dat (n + 1) s (.int (x : Nat)), optL (dat (n + 1) s) (iN r) with | some d, some ds => some (d :: ds) | _, _ => none) = _
    rw [ih]
    rfl
theorem dat_row (n : Nat) (s : Sto) (r : List Nat) : dat (n + 2) s (.tup (iN r)) = some (.tuple (r.map fun k => PyData.int (k : Nat))) := by
  show (optL (dat (n + 1) s) (iN r)).map PyData.tuple = _
  rw [dat_iN]
  rfl
theorem lay_row : ∀ r : List Nat, PyData.canLayAll0 (r.map fun k => PyData.int (k : Nat)) = true ∧ PyData.depthAll (r.map fun k => PyData.int (k : Nat)) = 0
  | [] => by simp [PyData.canLayAll0, PyData.depthAll]
  | x :: r => by
    have ih := lay_row r
    simp [PyData.canLayAll0, PyData.canLay0, PyData.depthAll, PyData.depth, ih.1, ih.2]
theorem eqv_row : ∀ r q : List Nat, PyData.eqvAll (r.map fun k => PyData.int (k : Nat)) (q.map fun k => PyData.int (k : Nat)) = decide (r = q)
  | [], [] => by simp [PyData.eqvAll]
  | [], _ :: _ => by simp [PyData.eqvAll]
  | _ :: _, [] => by simp [PyData.eqvAll]
  | x :: r, y :: q => by
    have ih := eqv_row r q
    simp only [List.map_cons, PyData.eqvAll, PyData.eqv, ih]
    rw [Bool.eq_iff_iff]
    simp
    intro _
    omega
theorem eq_row (r q : List Nat) (s : Sto) : gEq (.tup (iN r)) (.tup (iN q)) s = .ok (.bl (decide (r = q))) s := by
  refine gEq_b (eqB_of (dat_row 10 s r) (dat_row 10 s q) ?_ ?_ (eqv_row r q) rfl)
  · have := lay_row r; simp [SeqAt.shaped, PyData.canLay0, PyData.depth, this.1, this.2]
  · have := lay_row q; simp [SeqAt.shaped, PyData.canLay0, PyData.depth, this.1, this.2]
theorem need_word_t {i : Nat} (s : Sto) (h1 : i < 4294967296) : F_need_word [.int (i : Nat)] s = .ok .non s := by
  refine gc0 ?_ (by simp)
  have e := word_t (i := i) s (by omega) (by omega)
  have g : gcT (aNot (aTest (aCall 1 F_is_word [] (aCons (aVar 0) aNil)))) [some (.int (i : Nat))] s = .ok false s := gcT_f (by simp! only [e])
  simp! only [B_need_word, g]
theorem tempered_ok {i : Nat} (s : Sto) (h1 : i < 4294967296) : F_tempered [.int (i : Nat)] s = .ok (.int (MX.tmp i : Nat)) s := by
  refine gc0 ?_ (by simp)
  have a := need_word_t s h1
  have b := tmp_ok s h1
  simp! only [B_tempered, a, b]
theorem cutA1 {xs : List AV} (h : 1 ≤ xs.length) : cutA xs (some 1) none = xs.drop 1 := by
  unfold cutA
  rw [show (some 1 : Option Int) = some ((1 : Nat) : Int) from rfl, HT.sIx_nat, HT.sIx_none, show min 1 xs.length = 1 by omega]
  exact List.take_of_length_le (by simp)
theorem win1 {r : List Nat} (h : RowT r) : TW.win (TW.seqR r) 1 = r.drop 1 ++ [TW.seqR r 0 ^^^ TW.seqR r 3] := by
  have := TW.win_succ (TW.seqR r) 0
  rw [TW.win_zero h.len] at this
  rw [this, ← TW.seqR_rec r 0]
theorem row_at {i : Nat} (h : RowT r) (hi : i < 31) (s : Sto) : gIx (.tup (iN r)) (.int (i : Nat)) s = .ok (.int (TW.seqR r i : Nat)) s := by
  refine gIx_tn (i := i) ?_ rfl
  rw [List.getElem?_map]
  have hl : i < r.length := by rw [h.len]; exact hi
  rw [List.getElem?_eq_getElem hl, TW.seqR_lo hi, List.getD_eq_getElem?_getD, List.getElem?_eq_getElem hl]
  rfl
theorem twi_next (h : s.c o = twi r) (lt : o < s.n) (hr : RowT r) : F_Twisted_next_word [.obj o] s = .ok (.int (MX.tmp (TW.seqR r 0 ^^^ TW.seqR r 3) : Nat)) (s.set o (twi (TW.win (TW.seqR r) 1))) := by
  have a := ft h
  have i0 : gIx (.tup (iN r)) (.int 0) s = .ok (.int (TW.seqR r 0 : Nat)) s := row_at hr (i := 0) (by decide) s
  have i3 : gIx (.tup (iN r)) (.int 3) s = .ok (.int (TW.seqR r 3 : Nat)) s := row_at hr (i := 3) (by decide) s
  have hw := win_row hr 1
  have f31 : TW.seqR r 0 ^^^ TW.seqR r 3 < 4294967296 := hw.lt _ (by rw [win1 hr]; simp)
  have c := cutA1 (xs := iN r) (by rw [iN_len, hr.len]; decide)
  have ad : gAdd (.tup ((iN r).drop 1)) (.tup [.int ((TW.seqR r 0 ^^^ TW.seqR r 3 : Nat) : Int)]) s = .ok (.tup (iN (TW.win (TW.seqR r) 1))) s := by
    rw [gAdd_tup (by
      have : (1000 : Nat) ≤ sizeLine := by decide
      simp only [List.length_drop, iN_len, hr.len, List.length_cons, List.length_nil]; omega), win1 hr]
    unfold iN
    rw [List.map_append, List.map_drop]
    rfl
  have f1 : setF ["Twisted"] "s3_state" (.obj o) (.tup (iN (TW.win (TW.seqR r) 1))) s = some (s.set o (twi (TW.win (TW.seqR r) 1))) := by
    rw [setF_obj h (by simp) (by simp)]
    rfl
  have t := fun s => tempered_ok (i := TW.seqR r 0 ^^^ TW.seqR r 3) s f31
  have k : aDef 1 B_Twisted_next_word [.obj o] s = .ok (.int (MX.tmp (TW.seqR r 0 ^^^ TW.seqR r 3) : Nat)) (s.set o (twi (TW.win (TW.seqR r) 1))) := by
    simp! only [B_Twisted_next_word, a, i0, i3, c, ad, f1, t, xorN]
  have := gcF_eq k (by simp) ((Clean.refl s).set (.inr (by simp [ClC, iN_cl])))
  rw [cut_set_old lt, cut_self] at this
  exact this
end
section
variable {s : Sto} {o : Nat} {r : List Nat} {n : Nat}
theorem tcls {m : Str} (h : s.c o = twi r) (hm : m ≠ "s3_state") : Ab.clsIs s (.obj o) "Twisted" m = true := clsIs_obj h (by rw [lookA_tl (Ne.symm hm)]; rfl)
theorem twi_after (hr : RowT r) (n1 : n ≤ 18446744073709551616) (s : Sto) : F_Twisted_state_after [.tup (iN r), .int (n : Nat)] s = .ok (.tup (iN (TW.win (TW.seqR r) n))) s := by
  have a := row_t hr s
  have b := need_steps_t (i := n) s (by omega) (by omega)
  have c := moved_ok (n := n) s hr.len
  refine gc0 ?_ (by simp [iN_cl])
  simp! only [B_Twisted_state_after, a, b, c]
end
theorem cut1L (xs : List AV) : cutA xs (some 1) none = xs.drop 1 := by
  unfold cutA HT.sIx
  cases xs with
  | nil => rfl
  | cons a r => simp
theorem max_ex : ∀ l : List Nat, l ≠ [] → ∃ m, m ∈ l ∧ ∀ y, y ∈ l → y ≤ m
  | [], h => absurd rfl h
  | [a], _ => ⟨a, by simp, by simp⟩
  | a :: b :: l, _ => by
    obtain ⟨m, h1, h2⟩ := max_ex (b :: l) (by simp)
    by_cases h : a ≤ m
    · exact ⟨m, List.mem_cons_of_mem _ h1, fun y hy => by
        rcases List.mem_cons.mp hy with rfl | hy
        · exact h
        · exact h2 y hy⟩
    · exact ⟨a, List.mem_cons_self, fun y hy => by
        rcases List.mem_cons.mp hy with rfl | hy
        · exact Nat.le_refl _
        · exact Nat.le_trans (h2 y hy) (by omega)⟩
theorem rg31 : -(2 ^ 62) ≤ (31 : Int) ∧ (31 : Int) < 2 ^ 62 := by decide
section
variable {P : AV → Sto → Prop} {R : String → List Str → List AV → Sto → Prop} {d g B : Nat} {s t : Sto}
theorem wi2_start (S : Inv2 d g B t s) (hB : B ≤ 20000000) (q : ∀ r s', RowT r → Inv2 d g (B + 40) t s' → Gd2 d g s s' → P (.tup (iN r)) s') : (F__law_start [.obj d] s).Post P R := by
  unfold F__law_start
  refine gcF_d2 S.lsd S.lsg ?_
  have lg := S.lsg
  have fin : ∀ r s', RowT r → (∃ C, C ≤ B + 40 ∧ Dg d g C s') → Gd2 d g s s' → (Cl s.n (.tup (iN r)) ∧ Gd2 d g s s' ∧ (ClC s.n (s'.c d) ∧ ClC s.n (s'.c g)) ∧ P (.tup (iN r)) ((s.set d (s'.c d)).set g (s'.c g))) := fun r s' h1 ⟨C, h2, h3⟩ h4 =>
    ⟨by simp [iN_cl], h4, h3.cl lg, q r _ h1 ((S.back h3).mono h2) (Gd2.back d g s)⟩
  have z0 : ((0 : Nat) ≤ sizeLine) = True := eq_true (Nat.zero_le _)
  simp! [B__law_start]
  refine wi_next S (by omega) (by decide) (by decide) fun v1 s1 a1 b1 S1 g1 => ?_
  simp! [z0, rg31]
  have dn : d ≠ s1.n := by have := S1.lsd; omega
  have gn : g ≠ s1.n := by have := S1.lsg; omega
  refine for_rng (n := 31) (fun i σ s' => Inv2 d g (B + 1 + i) t s' ∧ Gd2 d g s s' ∧ s1.n < s'.n ∧ ∃ (l : List Nat) (x3 x4 : Option AV), s'.c s1.n = .lst (iN l) ∧ l.length = i ∧ (∀ y ∈ l, y < 4294967296) ∧ σ = [some (.obj d), some (.int v1), some (.obj s1.n), x3, x4])
    ⟨S1.new, g1.new, Nat.lt_succ_self _, [], none, none, Sto.new_at, rfl, (fun y hy => by cases hy), rfl⟩ ?_ ?_
  · rintro i σ s' hi ⟨S2, g2, n2, l, x3, x4, cf, hl, hlt, rfl⟩
    refine ⟨trivial, ?_⟩
    have ld2 := S2.lsd
    have lg2 := S2.lsg
    have word : (gcE (aIf (aTest (aOp gEq (aVar 1) (aC (.int 0)))) (aOp gIx (aLst (aCons (aC (.int 0)) (aCons (aC (.int 1)) (aCons (aC (.int 4294967295)) aNil)))) (aCall 2 F__law_next [] (aCons (aVar 0) (aCons (aC (.int 3)) aNil)))) (aCall 2 F__law_next [] (aCons (aVar 0) (aCons (aOp gIx (aLst (aCons (aC (.int 2)) (aCons (aC (.int 256)) (aCons (aC (.int 4294967296)) aNil)))) (aOp gMinus (aVar 1) (aC (.int 1)))) aNil))))
        [some (.obj d), some (.int v1), some (.obj s1.n), some (.int (0 + (i : Nat))), x4] s').Post (fun v s3 => ∃ w : Int, v = .int w ∧ 0 ≤ w ∧ w < 4294967296 ∧ Inv2 d g (B + 1 + (i + 1)) t s3 ∧ Gd2 d g s' s3) (fun _ _ _ _ => False) := by
      refine wi2_gcE S2 ?_
      by_cases h0 : v1 = 0
      · have d0 : decide (v1 = 0) = true := decide_eq_true h0
        simp! [d0]
        have c5 : (s'.new (.lst [.int 0, .int 1, .int 4294967295])).c s'.n = .lst [.int 0, .int 1, .int 4294967295] := Sto.new_at
        refine wi_next S2.new (by omega) (by decide) (by decide) fun v3 s3 a3 b3 S3 g3 => ?_
        refine post_ix (seqOf_obj ((g3.c _ (Nat.lt_succ_self _) (by omega) (by omega)).trans c5)) a3 b3 fun x hx => ?_
        obtain ⟨w, rfl, w0, w1⟩ : ∃ w : Int, x = .int w ∧ 0 ≤ w ∧ w < 4294967296 := by
          simp only [List.mem_cons, List.not_mem_nil, or_false] at hx
          rcases hx with rfl | rfl | rfl
          · exact ⟨_, rfl, by omega, by omega⟩
          · exact ⟨_, rfl, by omega, by omega⟩
          · exact ⟨_, rfl, by omega, by omega⟩
        exact ⟨by simp, (Gd2.refl d g s').new.trans g3, _, S3.ok, fun s4 S4 g4 => ⟨w, rfl, w0, w1, S4.mono (by omega), g4⟩⟩
      · have d0 : decide (v1 = 0) = false := decide_eq_false h0
        simp! [d0]
        refine post_ix (seqOf_obj Sto.new_at) (by omega) (by simp; omega) fun x hx => ?_
        obtain ⟨w, rfl, w0, w1⟩ : ∃ w : Int, x = .int w ∧ 0 < w ∧ w ≤ 4294967296 := by
          simp only [List.mem_cons, List.not_mem_nil, or_false] at hx
          rcases hx with rfl | rfl | rfl
          · exact ⟨_, rfl, by omega, by omega⟩
          · exact ⟨_, rfl, by omega, by omega⟩
          · exact ⟨_, rfl, by omega, by omega⟩
        simp! [eq_self]
        refine wi_next S2.new (by omega) w0 ?_ fun v3 s3 a3 b3 S3 g3 => ?_
        · have : w.natAbs.log2 ≤ 33 := by
            have : w.natAbs < 2 ^ 33 := by omega
            exact Nat.le_of_lt ((Nat.log2_lt (by omega)).mpr this)
          omega
        exact ⟨by simp, (Gd2.refl d g s').new.trans g3, _, S3.ok, fun s4 S4 g4 => ⟨v3, rfl, a3, by omega, S4.mono (by omega), g4⟩⟩
    simp! [eq_self]
    refine word.mono (fun v s3 z => ?_) (fun _ _ _ _ z => z.elim)
    obtain ⟨w, rfl, w0, w1, S3, g3⟩ := z
    have cf3 : s3.c s1.n = .lst (iN l) := (g3.c _ n2 (Ne.symm dn) (Ne.symm gn)).trans cf
    have sq := isSeqL_obj cf3
    have ap := gAppend_obj (y := .int w) cf3 (by
      have : (1001 : Nat) ≤ sizeLine := by decide
      rw [iN_len]; omega)
    simp! [sq, ap]
    have ts : t.n ≤ s1.n := S1.gd.n
    have el : iN l ++ [AV.int w] = iN (l ++ [w.toNat]) := by
      unfold iN
      rw [List.map_append]
      show _ = _ ++ [AV.int ((w.toNat : Nat) : Int)]
      rw [show ((w.toNat : Nat) : Int) = w by omega]
    rw [el]
    refine ⟨S3.set_new ts, (g2.trans g3).setn g1.n, Nat.lt_of_lt_of_le n2 g3.n, l ++ [w.toNat], _, _, by first | rfl | exact Sto.set_at, by simp [hl], fun y hy => ?_, rfl⟩
    rcases List.mem_append.mp hy with h | h
    · exact hlt y h
    · rw [List.mem_singleton.mp h]; omega
  · rintro σ s' ⟨S2, g2, n2, l, x3, x4, cf, hl, hlt, rfl⟩
    refine ⟨trivial, ?_⟩
    obtain ⟨m, m1, m2⟩ := max_ex l (by rintro rfl; cases hl)
    have mx := gMaxU_lst (x := .obj s1.n) (ns := l.map fun n => ((n : Nat) : Int)) (m := (m : Nat)) (s := s') ((lstOf_obj cf).trans (by unfold iN; rw [List.map_map]; rfl)) (List.mem_map.mpr ⟨m, m1, rfl⟩) (fun y hy => by
      obtain ⟨z, z1, rfl⟩ := List.mem_map.mp hy
      have := m2 z z1
      show (z : Int) ≤ m
      omega)
    by_cases hm : m = 0
    · have dm : decide ((0 : Int) < ((m : Nat) : Int)) = false := decide_eq_false (by omega)
      have sl := gSl_lst (lo := some 1) (hi := none) cf
      rw [cut1L] at sl
      have d30 : ((iN l).drop 1).length = 30 := by rw [List.length_drop, iN_len, hl]
      have zl : (((iN l).drop 1).length ≤ sizeLine) = True := eq_true (by rw [d30]; decide)
      have tp := gTuple_seq (s := s'.new (.lst ((iN l).drop 1))) (seqOf_obj Sto.new_at)
      have ad : ∀ s, gAdd (.tup [.int 1]) (.tup ((iN l).drop 1)) s = .ok (.tup (iN (1 :: l.drop 1))) s := fun s => by
        rw [gAdd_tup (by
          have : (1000 : Nat) ≤ sizeLine := by decide
          rw [d30]; simp; omega)]
        unfold iN
        rw [List.map_cons, List.map_drop]
        rfl
      simp! [mx, gGt_int, dm, sl, newL, zl, tp, ad]
      have f := fin (1 :: l.drop 1) (s'.new (.lst ((iN l).drop 1))) ⟨by simp [hl], (fun y hy => by
        rcases List.mem_cons.mp hy with rfl | hy
        · decide
        · exact hlt y (List.mem_of_mem_drop hy)), 1, by simp, by decide⟩ ⟨_, by omega, S2.new.ok⟩ g2.new
      simpa using f
    · have dm : decide ((0 : Int) < ((m : Nat) : Int)) = true := decide_eq_true (by omega)
      have tp := gTuple_seq (s := s') (seqOf_obj cf)
      simp! [mx, gGt_int, dm, tp]
      have f := fin l s' ⟨hl, hlt, m, m1, hm⟩ ⟨_, by omega, S2.ok⟩ g2
      simpa using f
end
def bl (a k : Nat) : List Nat := (List.range k).filter fun i => a.testBit i
def sh (b : Nat) (l : List Nat) : Nat := l.foldl (fun f p => f ^^^ b * 2 ^ p) 0
theorem list_same {s : Sto} {a b : Nat} {xs : List AV} (ha : s.c a = .lst xs) (hb : s.c b = .lst xs) (hd : ∀ x ∈ xs, ∃ d, dat 11 s x = some d ∧ PyData.canLay0 d = true ∧ d.depth ≤ 3) : eqB (.obj a) (.obj b) s = some true := by
  have key : ∀ l : List AV, (∀ x ∈ l, ∃ d, dat 11 s x = some d ∧ PyData.canLay0 d = true ∧ d.depth ≤ 3) → ∃ ds, optL (dat 11 s) l = some ds ∧ PyData.canLayAll0 ds = true ∧ PyData.depthAll ds ≤ 3 := by
    intro l
    induction l with
    | nil => exact fun _ => ⟨[], rfl, by simp [PyData.canLayAll0], by simp [PyData.depthAll]⟩
    | cons x l ih =>
      intro h
      obtain ⟨d, h1, h2, h3⟩ := h x List.mem_cons_self
      obtain ⟨ds, k1, k2, k3⟩ := ih fun y hy => h y (List.mem_cons_of_mem _ hy)
      refine ⟨d :: ds, ?_, by simp [PyData.canLayAll0, h2, k2], by simp only [PyData.depthAll]; omega⟩
      show (match dat 11 s x, optL (dat 11 s) l with | some d, some ds => some (d :: ds) | _, _ => none) = _
      rw [h1, k1]
  obtain ⟨ds, k1, k2, k3⟩ := key xs hd
  have e : ∀ o, s.c o = .lst xs → dat 12 s (.obj o) = some (.list ds) := by
    intro o h
    show (match s.c o with | .lst xs => (optL (dat 11 s) xs).map PyData.list | _ => none) = _
    rw [h]
    show (optL (dat 11 s) xs).map PyData.list = _
    rw [k1]
    rfl
  have sh : SeqAt.shaped (.list ds) = true := by
    simp [SeqAt.shaped, PyData.canLay0, k2, PyData.depth]
    omega
  rw [eqB_dat rfl (e a ha) (e b hb) sh sh, PySem.SeqAt.eqv_refl _ (SeqAt.canLay_of_shaped sh)]
theorem flat_d {s : Sto} {x : AV} (h : (∃ i, x = .int i) ∨ x = .non) : ∃ d, dat 11 s x = some d ∧ PyData.canLay0 d = true ∧ d.depth ≤ 3 := by
  rcases h with ⟨i, rfl⟩ | rfl
  · exact ⟨.int i, rfl, by simp [PyData.canLay0], by simp [PyData.depth]⟩
  · exact ⟨.none, rfl, by simp [PyData.canLay0], by simp [PyData.depth]⟩
theorem lc_el {α : Type} {G : Sto → Prop} {j : Nat} {ft : AT} {fe : AE} {σ0 : ASt} {P : AV → Sto → Prop} {R : String → List Str → List AV → Sto → Prop} {L : List α} {φ : α → AV} {s : Sto} (p : α → Bool) (f : α → AV) (hl : L.length ≤ 1000) (hG : ∀ s', Gb s s' → G s')
    (h : ∀ x ∈ L, ∀ s', Gb s s' → ft (σ0.set j (some (φ x))) s' = .ok (p x) s' ∧ (p x = true → fe (σ0.set j (some (φ x))) s' = .ok (f x) s'))
    (q : P (.obj s.n) (s.new (.lst ((L.filter p).map f)))) : (oObj s.n (lcI s.n G (agName j) ft fe σ0 (L.map φ) (s.new (.lst [])))).Post P R := by
  refine lc_P (fun i acc s' => s' = s.new (.lst (((L.take i).filter p).map f)) ∧ acc = ((L.take i).filter p).map f) ⟨rfl, rfl⟩ Sto.new_at (by rw [List.length_map]; exact hl) ?_ ?_
  · rintro i x acc s' hx ⟨e1, rfl⟩ hk
    obtain ⟨y, hy, rfl⟩ : ∃ y, L[i]? = some y ∧ φ y = x := by
      rw [List.getElem?_map] at hx
      cases e : L[i]? with
      | none => rw [e] at hx; cases hx
      | some y => rw [e] at hx; exact ⟨y, rfl, Option.some.inj hx⟩
    have tk : L.take (i + 1) = L.take i ++ [y] := by rw [List.take_add_one, hy]; rfl
    have g : Gb s s' := e1 ▸ (Gb.refl s).new
    obtain ⟨h1, h2⟩ := h y (List.mem_of_getElem? hy) s' g
    refine ⟨hG _ g, ?_⟩
    show (ft (σ0.set j (some (φ y))) s').Post _ _
    rw [h1]
    show (p y = true → _) ∧ (p y = false → _)
    refine ⟨fun e => ?_, fun e => ?_⟩
    · rw [h2 e]
      refine ⟨hk, ?_, ?_⟩
      · rw [e1, new_set, tk]; simp [e]
      · rw [tk]; simp [e]
    · refine ⟨hk, ?_, ?_⟩
      · rw [e1, tk]; simp [e]
      · rw [tk]; simp [e]
  · rintro acc s' ⟨e1, rfl⟩ hk
    rw [List.length_map, List.take_length] at e1
    subst e1
    exact ⟨hG _ (Gb.refl s).new, q⟩
theorem rngA0 (n : Nat) : rngA 0 n = (List.range n).map fun i => .int (i : Nat) := by
  unfold rngA
  exact List.map_congr_left fun i _ => by rw [Int.zero_add]
theorem rngA1 (n : Nat) : rngA 1 n = (List.range n).map fun i => .int ((i + 1 : Nat) : Int) := by
  unfold rngA
  exact List.map_congr_left fun i _ => by congr 1; omega
theorem shrN {a i : Nat} (s : Sto) : gShr (.int (a : Nat)) (.int (i : Nat)) s = .ok (.int ((a / 2 ^ i : Nat) : Int)) s := by
  rw [gShr_int (by omega)]
  congr 2
theorem bit1 (a i : Nat) : decide ((((a / 2 ^ i) % 2 : Nat) : Int) = 1) = a.testBit i := by
  rw [Nat.testBit_eq_decide_div_mod_eq]
  exact decide_eq_decide.mpr (by omega)
theorem sum_cast (l : List Nat) : (l.map fun n => ((n : Nat) : Int)).sum = ((l.sum : Nat) : Int) := by
  induction l with
  | nil => rfl
  | cons a l ih => simp only [List.map_cons, List.sum_cons, Int.natCast_add, ih]
theorem sumN {s : Sto} {o : Nat} {l : List Nat} (h : s.c o = .lst (iN l)) : gSum [.obj o] s = .ok (.int ((l.sum : Nat) : Int)) s := by
  have e : lstOf s (.obj o) = some ((l.map fun n => ((n : Nat) : Int)).map .int) := by
    rw [lstOf_obj h, List.map_map]
    rfl
  rw [gSum_lst e, sum_cast]
theorem mod2N {a : Nat} (s : Sto) : gMod (.int (a : Nat)) (.int 2) s = .ok (.int ((a % 2 : Nat) : Int)) s := gMod_int (by decide)
theorem aug_int {i : Nat} {v c : Int} {σ : ASt} {s : Sto} (h : σ[i]? = some (some (.int v))) : aAug i (gI0 fun i j => .int (i + j)) (aC (.int c)) σ s = .nx (σ.set i (some (.int (v + c)))) s := by
  rw [s_aug h]
  rfl
section
variable {P : AV → Sto → Prop} {R : String → List Str → List AV → Sto → Prop} {s : Sto} {a b : Nat} {xs : List AV}
theorem post_eqL (ha : s.c a = .lst xs) (hb : s.c b = .lst xs) (hd : ∀ x ∈ xs, ∃ d, dat 11 s x = some d ∧ PyData.canLay0 d = true ∧ d.depth ≤ 3) (q : P (.bl true) s) : (gEq (.obj a) (.obj b) s).Post P R := by
  rw [gEq_b (list_same ha hb hd)]
  exact q
end
def bt (r : List Nat) (i : Nat) : Nat := r.getD i 0
structure Bits (r : List Nat) : Prop where
  b : ∀ x ∈ r, x ≤ 1
  l : r.length ≤ 512
theorem bt_le {r : List Nat} (h : Bits r) (i : Nat) : bt r i ≤ 1 := by
  unfold bt
  rw [List.getD_eq_getElem?_getD]
  cases e : r[i]? with
  | none => simp
  | some x => exact h.b x (List.mem_of_getElem? e)
theorem bt_some {r : List Nat} {i : Nat} (h : i < r.length) : (iN r)[i]? = some (.int (bt r i : Nat)) := by
  rw [List.getElem?_map, List.getElem?_eq_getElem h]
  simp [bt, List.getD_eq_getElem?_getD, h]
theorem ix_bt {r : List Nat} {i : Nat} (s : Sto) (h : i < r.length) : gIx (.tup (iN r)) (.int (i : Nat)) s = .ok (.int (bt r i : Nat)) s := gIx_tup (L2.atI_nat (bt_some h))
theorem need_bits_t {r : List Nat} (s : Sto) (h : Bits r) : F_s3_need_bits [.tup (iN r)] s = .ok .non s := by
  refine gc0' ?_
  have it := isi_tup (xs := iN r) (s := s)
  have ln : gLen [.tup (iN r)] s = .ok (.int (r.length : Nat)) s := by rw [gLen_tup, iN_len]
  have hl := h.l
  have d : decide ((512 : Int) < (r.length : Nat)) = false := decide_eq_false (by omega)
  simp! [B_s3_need_bits]
  refine gcT_g ?_
  simp! [it, ln, gGt_int, d]
  refine lc_el (fun _ => true) (fun _ => .bl true) (by omega) (fun _ _ => trivial) (fun x hx s' g => ?_) ?_
  · have w := whole_t (i := ((x : Nat) : Int)) (lo := 0) (hi := 1) s' (by omega) (by have := h.b x hx; omega)
    refine ⟨rfl, fun _ => ?_⟩
    simp! only [wipeA, w]
  · have al := gAll_lst (s := s.new (.lst ((r.filter fun _ => true).map fun _ => AV.bl true))) (x := .obj s.n) (ns := r.map fun _ => true) (lstOf_obj (Sto.new_at.trans (by rw [List.filter_eq_self.mpr fun _ _ => rfl, List.map_map]; rfl)))
    have ra : (r.map fun _ => true).all id = true := by simp
    rw [ra] at al
    simp! [al]
    exact ⟨(Gb.refl s).new, Gb.refl s⟩
theorem follows_ok {r : List Nat} {P : Nat} (s : Sto) (h : Bits r) (hP : P ≠ 0) (hP2 : P < 2 ^ 512) : F_follows [.tup (iN r), .int (P : Nat)] s = .ok (.bl (decide (BM.Fol P (bt r) r.length))) s := by
  refine gc0' ?_
  have hl := h.l
  have nb := need_bits_t s h
  have mt := mod_t s hP2 hP
  have ln : ∀ s, gLen [.tup (iN r)] s = .ok (.int (r.length : Nat)) s := fun s => by rw [gLen_tup, iN_len]
  have l1 := (PO.len_rng hP).2.2
  have l2 := TW.len_le hP2
  have c1 : ((TW.len P : Nat) : Int) - 1 = ((TW.len P - 1 : Nat) : Int) := by omega
  have c2 : ((TW.len P - 1 : Nat) : Int) + 1 = ((TW.len P : Nat) : Int) := by omega
  have rg : -(2 ^ 62) ≤ ((r.length : Nat) : Int) - ((TW.len P - 1 : Nat) : Int) ∧ ((r.length : Nat) : Int) - ((TW.len P - 1 : Nat) : Int) < 2 ^ 62 := by omega
  have rg2 : -(2 ^ 62) ≤ ((TW.len P : Nat) : Int) ∧ ((TW.len P : Nat) : Int) < 2 ^ 62 := by omega
  have tn : (((r.length : Nat) : Int) - ((TW.len P - 1 : Nat) : Int)).toNat = r.length - (TW.len P - 1) := by omega
  have ha := bt_le h
  simp! [B_follows, nb, mt, bitsN, c1, ln, rg, tn]
  refine for_rng (n := r.length - (TW.len P - 1)) (fun i σ s' => Gb s s' ∧ (∀ b, b < i → TW.A P (bt r) b = 0) ∧ ∃ x3 x4 x5, σ = [some (.tup (iN r)), some (.int (P : Nat)), some (.int ((TW.len P - 1 : Nat) : Int)), x3, x4, x5]) ⟨Gb.refl s, fun b hb => absurd hb (by omega), _, _, _, rfl⟩ ?_ ?_
  · rintro i σ s' hi ⟨g, h0, x3, x4, x5, rfl⟩
    refine ⟨trivial, ?_⟩
    rw [Int.zero_add]
    simp! [c2, rg2, Int.toNat_natCast, rngA0]
    refine lc_el (fun p => P.testBit p) (fun p => .int (bt r (i + p) : Nat)) (by rw [List.length_range]; omega) (fun _ _ => trivial) (fun p hp s2 g2 => ?_) ?_
    · have hp := List.mem_range.mp hp
      have c3 : ((i : Nat) : Int) + ((p : Nat) : Int) = ((i + p : Nat) : Int) := by omega
      have ix := ix_bt (r := r) (i := i + p) s2 (by omega)
      refine ⟨?_, fun _ => ?_⟩
      · simp! only [wipeA, shrN, and1_ok, bit1]
      · simp! only [wipeA, c3, ix]
    · have sm := sumN (s := s'.new (.lst (((List.range (TW.len P)).filter fun p => P.testBit p).map fun p => AV.int (bt r (i + p) : Nat)))) (o := s'.n) (l := (TW.plist P (TW.len P)).map fun p => bt r (i + p)) (Sto.new_at.trans (by simp only [iN, List.map_map]; rfl))
      have A := BM.A_par ha (TW.lt_len P) i
      generalize ((TW.plist P (TW.len P)).map fun p => bt r (i + p)).sum = S at *
      by_cases hA : S % 2 = 1
      · have d : decide (((S % 2 : Nat) : Int) = 1) = true := decide_eq_true (by omega)
        have nf : decide (BM.Fol P (bt r) r.length) = false := decide_eq_false fun c => by
          have := c i (by omega)
          omega
        simp! [sm, mod2N, d, nf]
        exact g.new
      · have d : decide (((S % 2 : Nat) : Int) = 1) = false := decide_eq_false (by omega)
        simp! [sm, mod2N, d]
        refine ⟨g.new, fun b hb => ?_, _, _, _, rfl⟩
        by_cases e : b < i
        · exact h0 b e
        · have : b = i := by omega
          subst this
          omega
  · rintro σ s' ⟨g, h0, x3, x4, x5, rfl⟩
    refine ⟨trivial, ?_⟩
    have f : decide (BM.Fol P (bt r) r.length) = true := decide_eq_true fun b hb => h0 b (by omega)
    simp! [f]
    exact g
theorem short_ok {r : List Nat} (s : Sto) (h : Bits r) : F_shortest_rule [.tup (iN r)] s = .ok (.int ((BM.bmr (bt r) r.length : Nat) : Int)) s := by
  refine gc0' ?_
  have nb := need_bits_t s h
  have ha := bt_le h
  have hl := h.l
  simp! [B_shortest_rule, nb]
  refine for_A (fun i σ s' => Gb s s' ∧ ∃ x5 x6 x7 x8 x9, σ = [some (.tup (iN r)), some (.int ((BM.bms (bt r) i).C : Nat)), some (.int ((BM.bms (bt r) i).B : Nat)), some (.int ((BM.bms (bt r) i).L : Nat)), some (.int ((BM.bms (bt r) i).g : Nat)), x5, x6, x7, x8, x9]) ⟨Gb.refl s, _, _, _, _, _, rfl⟩ ?_ ?_
  · rintro i x σ s' hx ⟨g, x5, x6, x7, x8, x9, rfl⟩
    refine ⟨trivial, ?_⟩
    obtain ⟨y, hy, rfl⟩ := enumA_get hx
    have hi : i < r.length := by
      have := (List.getElem?_eq_some_iff.mp hy).1
      rwa [iN_len] at this
    rw [bt_some hi] at hy
    cases hy
    have ok := BM.bms_ok ha i
    have hn : BM.bms (bt r) (i + 1) = (if TW.A (BM.rv (BM.bms (bt r) i).L (BM.bms (bt r) i).C) (bt r) (i - (BM.bms (bt r) i).L) = 0 then ⟨(BM.bms (bt r) i).C, (BM.bms (bt r) i).B, (BM.bms (bt r) i).L, (BM.bms (bt r) i).g + 1⟩ else if 2 * (BM.bms (bt r) i).L ≤ i then ⟨(BM.bms (bt r) i).C ^^^ (BM.bms (bt r) i).B * 2 ^ (BM.bms (bt r) i).g, (BM.bms (bt r) i).C, i + 1 - (BM.bms (bt r) i).L, 1⟩ else ⟨(BM.bms (bt r) i).C ^^^ (BM.bms (bt r) i).B * 2 ^ (BM.bms (bt r) i).g, (BM.bms (bt r) i).B, (BM.bms (bt r) i).L, (BM.bms (bt r) i).g + 1⟩) := rfl
    generalize BM.bms (bt r) (i + 1) = T at *
    generalize (BM.bms (bt r) i).C = C at *
    generalize (BM.bms (bt r) i).B = B at *
    generalize (BM.bms (bt r) i).L = L at *
    generalize (BM.bms (bt r) i).g = gp at *
    have lk := ok.lk
    have A2 : TW.A (BM.rv L C) (bt r) (i - L) = (bt r i + ((BM.olist C L).map fun j => bt r (i - (j + 1))).sum) % 2 := by
      rw [BM.A_ones ha, if_pos ok.c0, Nat.sub_add_cancel lk]
      congr 3
      refine List.map_congr_left fun j hj => ?_
      have := List.mem_range.mp (List.mem_filter.mp hj).1
      congr 1
      omega
    have rg : -(2 ^ 62) ≤ (1 : Int) ∧ (1 : Int) < 2 ^ 62 ∧ -(2 ^ 62) ≤ ((L : Nat) : Int) + 1 ∧ ((L : Nat) : Int) + 1 < 2 ^ 62 := by omega
    have tn : (((L : Nat) : Int) + 1 - 1).toNat = L := by omega
    simp! [rg, tn, rngA1]
    refine lc_el (fun j => C.testBit (j + 1)) (fun j => .int (bt r (i - (j + 1)) : Nat)) (by rw [List.length_range]; omega) (fun _ _ => trivial) (fun j hj s2 g2 => ?_) ?_
    · have hj := List.mem_range.mp hj
      have c3 : ((i : Nat) : Int) - ((j + 1 : Nat) : Int) = ((i - (j + 1) : Nat) : Int) := by omega
      have ix := ix_bt (r := r) (i := i - (j + 1)) s2 (by omega)
      refine ⟨?_, fun _ => ?_⟩
      · simp! only [wipeA, shrN, and1_ok, bit1]
      · simp! only [wipeA, c3, ix]
    have sm := sumN (s := s'.new (.lst (((List.range L).filter fun j => C.testBit (j + 1)).map fun j => AV.int (bt r (i - (j + 1)) : Nat)))) (o := s'.n) (l := (BM.olist C L).map fun j => bt r (i - (j + 1))) (Sto.new_at.trans (by simp only [iN, List.map_map]; rfl))
    generalize ((BM.olist C L).map fun j => bt r (i - (j + 1))).sum = S at *
    have c4 : ((bt r i : Nat) : Int) + ((S : Nat) : Int) = ((bt r i + S : Nat) : Int) := by omega
    have au := fun x1 x7 x9 s2 => aug_int (i := 4) (s := s2) (c := 1) (v := ((gp : Nat) : Int)) (σ := [some (.tup (iN r)), some (.int (x1 : Int)), some (.int (B : Nat)), some (.int (L : Nat)), some (.int (gp : Nat)), some (.int (i : Nat)), some (.int (bt r i : Nat)), x7, x8, x9]) rfl
    have c5 : ((gp : Nat) : Int) + 1 = ((gp + 1 : Nat) : Int) := by omega
    by_cases hA : (bt r i + S) % 2 = 0
    · have d : decide ((((bt r i + S) % 2 : Nat) : Int) = 0) = true := decide_eq_true (by omega)
      rw [if_pos (by omega)] at hn
      subst hn
      simp! [sm, c4, mod2N, d, au, c5]
      exact ⟨g.new, _, _, _, _, _, rfl⟩
    · have d : decide ((((bt r i + S) % 2 : Nat) : Int) = 0) = false := decide_eq_false (by omega)
      rw [if_neg (by omega)] at hn
      obtain ⟨k, hB, hk⟩ : ∃ k, B < 2 ^ k ∧ k + gp ≤ 2000 := by
        rcases ok.old with ⟨rfl, rfl, rfl, rfl, _⟩ | ⟨LB, m, z1, z2, z3, z4, z5, _⟩
        · exact ⟨1, by decide, by omega⟩
        · exact ⟨LB + 1, z1, by omega⟩
      have sl : ∀ s, gShl (.int (B : Nat)) (.int (gp : Nat)) s = .ok (.int ((B * 2 ^ gp : Nat) : Int)) s := fun s => shl_ok hB (by omega)
      have m2 : ∀ s, gMul (.int 2) (.int (L : Nat)) s = .ok (.int (2 * ((L : Nat) : Int))) s := fun s => gMul_ok (m := 2) (n := 10) (by decide) (by omega) (by decide)
      by_cases h2 : 2 * L ≤ i
      · have d2 : decide (2 * ((L : Nat) : Int) ≤ ((i : Nat) : Int)) = true := decide_eq_true (by omega)
        have c6 : ((i : Nat) : Int) + 1 - ((L : Nat) : Int) = ((i + 1 - L : Nat) : Int) := by omega
        rw [if_pos h2] at hn
        subst hn
        simp! [sm, c4, mod2N, d, sl, xorN, m2, d2, c6]
        exact ⟨g.new, _, _, _, _, _, rfl⟩
      · have d2 : decide (2 * ((L : Nat) : Int) ≤ ((i : Nat) : Int)) = false := decide_eq_false (by omega)
        rw [if_neg h2] at hn
        subst hn
        simp! [sm, c4, mod2N, d, sl, xorN, m2, d2, au, c5]
        exact ⟨g.new, _, _, _, _, _, rfl⟩
  · rintro σ s' ⟨g, x5, x6, x7, x8, x9, rfl⟩
    refine ⟨trivial, ?_⟩
    have en : (enumA (iN r)).length = r.length := by rw [enumA_len, iN_len]
    rw [en]
    have ok := BM.bms_ok ha r.length
    have hR : BM.bmr (bt r) r.length = BM.rv (BM.bms (bt r) r.length).L (BM.bms (bt r) r.length).C := rfl
    generalize (BM.bms (bt r) r.length).C = C at *
    generalize (BM.bms (bt r) r.length).B = B at *
    generalize (BM.bms (bt r) r.length).L = L at *
    generalize (BM.bms (bt r) r.length).g = gp at *
    have lk := ok.lk
    have rg : -(2 ^ 62) ≤ ((L : Nat) : Int) + 1 ∧ ((L : Nat) : Int) + 1 < 2 ^ 62 := by omega
    have tn : (((L : Nat) : Int) + 1).toNat = L + 1 := by omega
    simp! [rg, tn, rngA0]
    refine lc_el (fun j => C.testBit j) (fun j => .int ((2 ^ (L - j) : Nat) : Int)) (by rw [List.length_range]; omega) (fun _ _ => trivial) (fun j hj s2 g2 => ?_) ?_
    · have hj := List.mem_range.mp hj
      have c3 : ((L : Nat) : Int) - ((j : Nat) : Int) = ((L - j : Nat) : Int) := by omega
      have sl := shl_one (k := L - j) s2 (by omega)
      refine ⟨?_, fun _ => ?_⟩
      · simp! only [wipeA, shrN, and1_ok, bit1]
      · simp! only [wipeA, c3, sl]
    · have sm := sumN (s := s'.new (.lst (((List.range (L + 1)).filter fun j => C.testBit j).map fun j => AV.int ((2 ^ (L - j) : Nat) : Int)))) (o := s'.n) (l := (TW.plist C (L + 1)).map fun j => 2 ^ (L - j)) (Sto.new_at.trans (by simp only [iN, List.map_map]; rfl))
      rw [← BM.rv_sum, ← hR] at sm
      simp! [sm]
      exact g.new
theorem rlen_ok {r : List Nat} (s : Sto) (h : Bits r) : F_rule_length [.tup (iN r)] s = .ok (.int (((TW.len (BM.bmr (bt r) r.length) - 1 : Nat)) : Int)) s := by
  have e := short_ok s h
  have l1 := (PO.len_rng (BM.bmr_least (bt_le h) r.length).ne).2.2
  have c1 : ((TW.len (BM.bmr (bt r) r.length) : Nat) : Int) - 1 = ((TW.len (BM.bmr (bt r) r.length) - 1 : Nat) : Int) := by omega
  refine gc0 ?_ (by simp)
  simp! only [B_rule_length, e, bitsN, c1]
theorem cut_from (xs : List AV) (k : Nat) : cutA xs (some ((k : Nat) : Int)) none = xs.drop k := by
  unfold cutA
  rw [HT.sIx_none, HT.sIx_nat]
  rcases Nat.le_total k xs.length with h | h
  · rw [Nat.min_eq_left h, List.take_of_length_le (by rw [List.length_drop]; exact Nat.le_refl _)]
  · rw [Nat.min_eq_right h, Nat.sub_self, List.drop_of_length_le h]
    rfl
theorem iN_app (r : List Nat) (v : Nat) : iN r ++ [.int (v : Nat)] = iN (r ++ [v]) := by simp [iN]
end Pf
set_option linter.all false
set_option maxRecDepth 100000
namespace PO
open TW
def IsG (g a b : Nat) : Prop := dv g a ∧ dv g b ∧ ∀ d, dv d a → dv d b → dv d g
theorem dv_zero_left {a : Nat} (h : dv 0 a) : a = 0 := by
  obtain ⟨q, e⟩ := h
  rw [e, cm_zero_right]
theorem dv_ne {d a : Nat} (ha : a ≠ 0) (h : dv d a) : d ≠ 0 := by
  rintro rfl
  exact ha (dv_zero_left h)
theorem len_one_eq {q : Nat} (h : len q = 1) : q = 1 := by
  have hq : q ≠ 0 := by rintro rfl; cases h
  have b := len_rng hq
  rw [h] at b
  simp at b
  omega
/-- a divisor of the same length is the number itself -/
theorem dv_eq {d a : Nat} (ha : a ≠ 0) (h : dv d a) (l : len a ≤ len d) : d = a := by
  have hd := dv_ne ha h
  obtain ⟨q, e⟩ := h
  have hq : q ≠ 0 := by rintro rfl; rw [cm_zero_left] at e; exact ha e
  have k := cm_len hq hd
  have a1 := (len_rng hq).2.2
  have a2 := (len_rng hd).2.2
  rw [← e] at k
  rw [e, len_one_eq (q := q) (by omega), cm_one_left]
theorem IsG.symm {g a b : Nat} (x : IsG g a b) : IsG g b a := ⟨x.2.1, x.1, fun d h k => x.2.2 d k h⟩
theorem isG_zero (a : Nat) : IsG a a 0 := ⟨dv_self a, dv_zero a, fun d h _ => h⟩
theorem isG_step {g a b : Nat} (hb : b ≠ 0) : IsG g a b ↔ IsG g b (md a b) :=
  ⟨fun x => ⟨x.2.1, dv_md hb x.1 x.2.1, fun d h k => x.2.2 d (dv_of_md hb k h) h⟩, fun x => ⟨dv_of_md hb x.2.1 x.1, x.1, fun d h k => x.2.2 d k (dv_md hb h k)⟩⟩
theorem gd_ex : ∀ (n a b : Nat), len b < n → ∃ g, IsG g a b
  | 0, _, _, h => absurd h (by omega)
  | n + 1, a, b, h => by
    by_cases hb : b = 0
    · subst hb; exact ⟨a, isG_zero a⟩
    · obtain ⟨g, hg⟩ := gd_ex n b (md a b) (by have := (md_spec a hb).2; omega)
      exact ⟨g, (isG_step hb).mpr hg⟩
theorem gd_exists (a b : Nat) : ∃ g, IsG g a b := gd_ex (len b + 1) a b (by omega)
/-- the greatest common divisor, by choice -/
noncomputable def gd (a b : Nat) : Nat := Classical.choose (gd_exists a b)
end PO
set_option linter.all false
set_option maxRecDepth 100000
namespace BM
open TW PO
def chk : Nat → Nat → Bool
  | 0, n => Nat.blt n 2 || !(Nat.beq (2147483647 % n) 0)
  | k + 1, n => chk k n && chk k (n + 2 ^ k)
theorem chk_ok : ∀ (k n d : Nat), chk k n = true → n ≤ d → d < n + 2 ^ k → d < 2 ∨ PER % d ≠ 0
  | 0, n, d, h, h1, h2 => by
    have : d = n := by have : d < n + 1 := h2; omega
    subst this
    have h : (Nat.blt d 2 || !(Nat.beq (2147483647 % d) 0)) = true := h
    rcases Bool.or_eq_true_iff.mp h with h | h
    · exact .inl (Nat.blt_eq ▸ h)
    · refine .inr fun c => ?_
      have c : 2147483647 % d = 0 := c
      rw [c] at h
      cases h
  | k + 1, n, d, h, h1, h2 => by
    have h : (chk k n && chk k (n + 2 ^ k)) = true := h
    obtain ⟨a, b⟩ := Bool.and_eq_true_iff.mp h
    rw [Nat.pow_succ] at h2
    by_cases c : d < n + 2 ^ k
    · exact chk_ok k n d a h1 c
    · exact chk_ok k (n + 2 ^ k) d b (by omega) (by omega)
theorem chk16 : chk 16 0 = true := by decide +kernel
theorem per_prime_aux (d : Nat) (h : d < 46341) : d < 2 ∨ PER % d ≠ 0 := chk_ok 16 0 d chk16 (Nat.zero_le _) (by omega)
theorem per_prime {d : Nat} (h : d ∣ PER) : d = 1 ∨ d = PER := by
  obtain ⟨e, he⟩ := h
  have p0 : 0 < PER := by decide
  by_cases hd : d < 46341
  · rcases per_prime_aux d hd with h | h
    · have : d ≠ 0 := by rintro rfl; rw [Nat.zero_mul] at he; omega
      exact .inl (by omega)
    · exact absurd (by rw [he, Nat.mul_mod_right]) h
  · have he2 : e < 46341 := by
      refine Nat.lt_of_not_le fun c => ?_
      have : 46341 * 46341 ≤ d * e := Nat.mul_le_mul (by omega) c
      rw [← he] at this
      exact absurd this (by decide)
    rcases per_prime_aux e he2 with h | h
    · have : e ≠ 0 := by rintro rfl; rw [Nat.mul_zero] at he; omega
      have : e = 1 := by omega
      rw [this, Nat.mul_one] at he
      exact .inr he.symm
    · exact absurd (by rw [he, Nat.mul_comm, Nat.mul_mod_right]) h
theorem boxes : ∀ (n : Nat) (f : Nat → Nat), (∀ i, i ≤ n → f i < n) → ∃ i j, i < j ∧ j ≤ n ∧ f i = f j
  | 0, f, h => absurd (h 0 (Nat.le_refl _)) (by omega)
  | n + 1, f, h => by
    by_cases c : ∃ i, i ≤ n ∧ f i = f (n + 1)
    · obtain ⟨i, h1, h2⟩ := c
      exact ⟨i, n + 1, by omega, Nat.le_refl _, h2⟩
    · have c' : ∀ i, i ≤ n → f i ≠ f (n + 1) := fun i hi e => c ⟨i, hi, e⟩
      obtain ⟨i, j, h1, h2, h3⟩ := boxes n (fun i => if f i = n then f (n + 1) else f i) (fun i hi => by
        have a := h i (by omega)
        have b := h (n + 1) (Nat.le_refl _)
        have d := c' i hi
        show (if f i = n then f (n + 1) else f i) < n
        by_cases e : f i = n
        · rw [if_pos e]; omega
        · rw [if_neg e]; omega)
      refine ⟨i, j, h1, by omega, ?_⟩
      have d1 := c' i (by omega)
      have d2 := c' j (by omega)
      have h3 : (if f i = n then f (n + 1) else f i) = (if f j = n then f (n + 1) else f j) := h3
      by_cases e1 : f i = n <;> by_cases e2 : f j = n
      · rw [e1, e2]
      · rw [if_pos e1, if_neg e2] at h3; exact absurd h3.symm d2
      · rw [if_neg e1, if_pos e2] at h3; exact absurd h3 d1
      · rw [if_neg e1, if_neg e2] at h3; exact h3
/-- bits as a number -/
def enc : Nat → (Nat → Nat) → Nat
  | 0, _ => 0
  | k + 1, f => f 0 + 2 * enc k (fun t => f (t + 1))
theorem enc_lt : ∀ (k : Nat) (f : Nat → Nat), (∀ i, f i ≤ 1) → enc k f < 2 ^ k
  | 0, f, h => by show 0 < 1; decide
  | k + 1, f, h => by
    have := enc_lt k (fun t => f (t + 1)) fun i => h _
    have := h 0
    show f 0 + 2 * enc k (fun t => f (t + 1)) < _
    rw [Nat.pow_succ]
    omega
theorem enc_inj : ∀ (k : Nat) (f g : Nat → Nat), (∀ i, f i ≤ 1) → (∀ i, g i ≤ 1) → enc k f = enc k g → ∀ t, t < k → f t = g t
  | 0, _, _, _, _, _, t, h => absurd h (by omega)
  | k + 1, f, g, hf, hg, e, t, ht => by
    have e : f 0 + 2 * enc k (fun t => f (t + 1)) = g 0 + 2 * enc k (fun t => g (t + 1)) := e
    have h1 := hf 0
    have h2 := hg 0
    have e0 : f 0 = g 0 := by omega
    have ih := enc_inj k (fun t => f (t + 1)) (fun t => g (t + 1)) (fun i => hf _) (fun i => hg _) (by omega)
    match t with
    | 0 => exact e0
    | t + 1 => exact ih t (by omega)
section
variable {a : Nat → Nat}
theorem per_mul {p : Nat} (h : ∀ m, a (m + p) = a m) : ∀ k m, a (m + p * k) = a m
  | 0, m => rfl
  | k + 1, m => by rw [Nat.mul_succ, ← Nat.add_assoc, h, per_mul h k]
theorem per_gcd : ∀ (p q : Nat), (∀ m, a (m + p) = a m) → (∀ m, a (m + q) = a m) → ∀ m, a (m + Nat.gcd p q) = a m := by
  intro p q
  induction p, q using Nat.gcd.induction with
  | H0 q => intro _ h2 m; rw [Nat.gcd_zero_left]; exact h2 m
  | H1 p q hp ih =>
    intro h1 h2
    rw [Nat.gcd_rec]
    refine ih (fun m => ?_) h1
    have e := Nat.mod_add_div q p
    have := per_mul h1 (q / p) (m + q % p)
    rw [← this, Nat.add_assoc, e, h2]
/-- a row that follows R is led on by its last bits -/
theorem led {R k : Nat} (hR : len R = k + 1) (h : ∀ b, A R a b = 0) {i j : Nat} (e : ∀ t, t < k → a (i + t) = a (j + t)) : ∀ t, a (i + t) = a (j + t) := by
  have r0 : R ≠ 0 := by rintro rfl; cases hR
  obtain ⟨h1, h2, _⟩ := len_rng r0
  have tb : R.testBit k = true := by
    rw [show len R - 1 = k by omega] at h1 h2
    rw [Nat.testBit_eq_decide_div_mod_eq]
    have a1 : 1 ≤ R / 2 ^ k := Nat.div_pos h1 (Nat.two_pow_pos _)
    have a2 : R / 2 ^ k < 2 := by
      rw [Nat.div_lt_iff_lt_mul (Nat.two_pow_pos _)]
      rw [Nat.pow_succ] at h2
      omega
    rw [show R / 2 ^ k = 1 by omega]
    rfl
  have top : ∀ b, a (b + k) = act k R a b := fun b => by
    have z := h b
    rw [A_fuel (lt_len R), hR, act_last, if_pos tb] at z
    exact (xor_zero_iff z).symm
  have sh : ∀ b, act k R a b = act k R (fun t => a (b + t)) 0 := fun b => by
    have := act_shift k R (fun t => a t) 0 b
    rw [Nat.zero_add] at this
    rw [← this]
    congr 1
    funext t
    rw [Nat.add_comm]
  have w : ∀ n, (∀ t, t < n + k → a (i + t) = a (j + t)) := by
    intro n
    induction n with
    | zero => intro t ht; exact e t (by omega)
    | succ n ih =>
      intro t ht
      by_cases c : t < n + k
      · exact ih t c
      · have : t = n + k := by omega
        subst this
        rw [← Nat.add_assoc, ← Nat.add_assoc, top, top, sh, sh]
        have k0 : ∀ t, t < k → a (i + n + t) = a (j + n + t) := fun t ht => by
          rw [Nat.add_assoc, Nat.add_assoc]
          exact ih (n + t) (by omega)
        clear top sh tb h h1 h2 ih e hR r0
        induction k with
        | zero => rfl
        | succ k ih =>
          rw [act_last, act_last, ih (by omega) (by omega) fun t ht => k0 t (by omega), Nat.zero_add, k0 k (by omega)]
  intro t
  exact w (t + 1) t (by omega)
theorem rec_zero (h : Rec a) {n : Nat} (z : ∀ i, i < 31 → a (n + i) = 0) : ∀ i, a i = 0 := Rec.same h (show Rec fun _ => 0 from fun _ => (Nat.xor_self 0).symm) z
/-- the least rule is the rule -/
theorem rule_least (h : Rec a) (hb : ∀ i, a i ≤ 1) (nz : ∃ i, a i ≠ 0) {R n : Nat} (hn : 62 ≤ n) (L : Least R a n) : R = RULE := by
  have r0 : RULE ≠ 0 := by decide
  have fr : Fol RULE a n := fun b _ => A_rule h b
  have l32 := L.min RULE r0 fr
  rw [len_rule] at l32
  have dv := (md_dv L.ne).mp (L.div r0 fr (by rw [len_rule]; omega))
  by_cases l : len R = 32
  · exact dv_eq r0 dv (by rw [len_rule]; omega)
  exfalso
  have all : ∀ b, A R a b = 0 := rec_zero (n := 0) (A_rec h R) fun i hi => L.fol _ (by omega)
  obtain ⟨k, hk⟩ : ∃ k, len R = k + 1 := ⟨len R - 1, by have := (len_rng L.ne).2.2; omega⟩
  obtain ⟨i, j, h1, h2, h3⟩ := boxes (2 ^ k) (fun i => enc k fun t => a (i + t)) fun i _ => enc_lt k _ fun t => hb _
  have eq := led hk all (enc_inj k _ _ (fun t => hb _) (fun t => hb _) h3)
  have per : ∀ m, a (m + (j - i)) = a m := fun m => by
    have p := Rec.pers h
    rw [← p m i, ← p (m + (j - i)) i]
    have e := eq (m + PER * i - i)
    have : 1 ≤ PER := by decide
    have le : i ≤ PER * i := by
      have := Nat.mul_le_mul_right i this
      omega
    rw [show i + (m + PER * i - i) = m + PER * i by omega, show j + (m + PER * i - i) = m + (j - i) + PER * i by omega] at e
    exact e.symm
  have p30 : 2 ^ k ≤ 2 ^ 30 := Nat.pow_le_pow_right (by decide) (by omega)
  have g1 : Nat.gcd (j - i) PER = 1 := by
    rcases per_prime (Nat.gcd_dvd_right (j - i) PER) with g | g
    · exact g
    · have := Nat.le_of_dvd (by omega) (Nat.gcd_dvd_left (j - i) PER)
      rw [g] at this
      have : PER ≤ 2 ^ 30 := by omega
      exact absurd this (by decide)
  have one := per_gcd (j - i) PER per (Rec.per h)
  rw [g1] at one
  have cst : ∀ m, a m = a 0 := fun m => by
    induction m with
    | zero => rfl
    | succ m ih => rw [one, ih]
  obtain ⟨x, hx⟩ := nz
  rw [cst] at hx
  have := h 0
  rw [cst (0 + 31), cst (0 + 3), cst 0, Nat.xor_self] at this
  exact hx this
theorem Rec.map (h : Rec a) (f : Nat → Nat) (hf : ∀ x y, f (x ^^^ y) = f x ^^^ f y) : Rec fun i => f (a i) := fun i => by
  show f (a (i + 31)) = _
  rw [h, hf]
theorem lane_xor (p x y : Nat) : (x ^^^ y) / 2 ^ p % 2 = x / 2 ^ p % 2 ^^^ y / 2 ^ p % 2 := by
  have e : (x ^^^ y) / 2 ^ p = x / 2 ^ p ^^^ y / 2 ^ p := by
    have := Nat.shiftRight_xor_distrib (a := x) (b := y) (i := p)
    simpa [Nat.shiftRight_eq_div_pow] using this
  rw [e, xmod]
end
end BM
set_option Elab.async false
set_option linter.all false
set_option maxRecDepth 100000
set_option maxHeartbeats 1000000
set_option exponentiation.threshold 3000
namespace Pf
open PySem Ab
local macro_rules | `(tactic| simp! [$xs,*]) => `(tactic| try simp (config := {maxSteps := 1000000}) only [k_bind, k_Kb, k_st, k_Kst, k_Rst, k_thn, k_loop, k_fn, k_forget, k_clr, k_noX, k_try, k_stuck, k_Astuck, d_thn_nx, d_thn_bk, d_thn_ct, d_thn_rt, d_thn_er, d_lp_nx, d_lp_bk, d_lp_ct, d_lp_rt, d_lp_er, d_fg_nx, d_fg_bk, d_fg_ct, d_fg_rt, d_fg_er, d_cl_nx, d_cl_bk, d_cl_ct, d_cl_rt, d_cl_er, d_tr_nx, d_tr_bk, d_tr_ct, d_tr_rt, d_tr_er, d_nX_nx, d_nX_bk, d_nX_ct, d_nX_rt, d_nX_er, d_fn_nx, d_fn_bk, d_fn_ct, d_fn_rt, d_fn_er, A_nx, A_bk, A_ct, A_rt, A_err, post_ok, post_err, post_noErr, e_op, e_opK, e_un, e_cb, e_nil, e_c, e_cons, e_consK, e_consK2, e_and, e_or, e_andK, e_orK, e_not, e_notK, e_test, e_testK, e_tand, e_tandK, e_tor, e_torK, e_tnot, e_tnotK, e_yes, e_if, e_ifK, e_ch, e_chK1, e_chK2, e_chK3, e_tup, e_tupK, e_lst, e_lstK, e_newL, e_call, e_callK, e_meth, e_methK, e_methK2, e_prop, e_propK, e_make, e_makeK, e_makeK2, e_makeV, e_sm, e_smK, e_smK2, e_cm, e_cmK, e_cmK2, e_sl, e_slK1, e_slK2, e_slK3, e_part, e_partK, e_nopart, e_rev, e_bm, e_bmK, e_pr, e_pr0, e_prK1, e_prK2, e_prK3, e_disp, e_dnew, e_own, e_ownK, e_lc, e_lcK, e_iter, e_rng1, e_rng1K, e_rng2, e_rng2K, e_enum, s_drop, s_dropK, s_ret, s_retK, s_retN, s_next, s_break, s_cont, s_seq, s_if, s_ifK, s_asg, s_asgK, s_name, s_par, s_parK, s_par3, s_parK3, s_gnil, s_gcons, s_gtup, s_for, s_forK, s_raise, s_raiseK, s_sf, s_sfK1, s_sfK2, s_dp, s_dpK1, s_dpK2, s_dpK3, s_forget, s_def, s_fld, e_enumU, e_enumUT, eq_self, beq_self_eq_true, k_grd, k_grdS, k_ite, k_Aite, true_implies, false_implies, implies_true, List.map_cons, List.map_nil, List.nil_append, List.cons_append, List.append_nil, List.replicate_succ, List.replicate_zero, List.getElem?_cons_zero, List.getElem?_cons_succ, List.length_cons, List.length_nil, List.set_cons_zero, List.set_cons_succ, ↓reduceIte, ↓reduceDIte, Nat.reduceAdd, Nat.reduceLeDiff, Nat.reduceEqDiff, Nat.zero_add, if_true, if_false, aVar, gMinus_int, gLt_int, gLe_int, gGt_int, gGe_int, gEq_int, gNe_int, gEq_str, gNe_str, gEq_bl, gNe_bl, gXor_int, gAnd_int, gOr_int, gAdd_int, gIsN_non, gNotN_non, gIsB_bl, gNotB_bl, gNeg_int, gLen_tup, gLen_scr, gMax2_int, gMin2_int, gBits_int, gSl_tup, gSl_scr, Bool.not_true, Bool.not_false, Bool.true_eq_false, Bool.false_eq_true, Bool.true_and, Bool.false_and, Bool.and_true, Bool.and_false, Bool.true_or, Bool.false_or, decide_true, decide_false, and_self, and_true, true_and, and_false, false_and, not_true_eq_false, not_false_eq_true, reduceCtorEq, kz, z1, z2, z3, z4, z5, z6, z7, z8, z9, z10, z11, z12, z13, z14, z15, z16, isCls, isNon, aForget, aHand, toKey, keysA, iterOf_tup, iterOf_scr, oNx_some, noErr_ok, decide_eq_true_eq, decide_eq_false_iff_not, Sto.new_n, Sto.set_n, Sto.set_at, Sto.new_at, Nat.zero_le, aMakeV, Cl_non, Cl_bl, Cl_int, Cl_str, Cl_cls, Cl_obj, Cl_tup, ClL_nil, ClL_cons, $xs,*])
local macro_rules | `(tactic| simp! only [$xs,*]) => `(tactic| simp only [e_op, e_opK, e_un, e_cb, e_nil, e_c, e_cons, e_consK, e_consK2, e_and, e_or, e_andK, e_orK, e_not, e_notK, e_test, e_testK, e_tand, e_tandK, e_tor, e_torK, e_tnot, e_tnotK, e_yes, e_if, e_ifK, e_ch, e_chK1, e_chK2, e_chK3, e_tup, e_tupK, e_lst, e_lstK, e_newL, e_call, e_callK, e_meth, e_methK, e_methK2, e_prop, e_propK, e_make, e_makeK, e_makeK2, e_makeV, e_sm, e_smK, e_smK2, e_cm, e_cmK, e_cmK2, e_sl, e_slK1, e_slK2, e_slK3, e_part, e_partK, e_nopart, e_rev, e_bm, e_bmK, e_pr, e_pr0, e_prK1, e_prK2, e_prK3, e_disp, e_dnew, e_own, e_ownK, e_lc, e_lcK, e_iter, e_rng1, e_rng1K, e_rng2, e_rng2K, e_enum, s_drop, s_dropK, s_ret, s_retK, s_retN, s_next, s_break, s_cont, s_seq, s_if, s_ifK, s_asg, s_asgK, s_name, s_par, s_parK, s_par3, s_parK3, s_gnil, s_gcons, s_gtup, s_for, s_forK, s_raise, s_raiseK, s_sf, s_sfK1, s_sfK2, s_dp, s_dpK1, s_dpK2, s_dpK3, s_forget, s_def, s_fld, e_enumU, e_enumUT, eq_self, beq_self_eq_true, true_implies, false_implies, implies_true, List.map_cons, List.map_nil, List.nil_append, List.cons_append, List.append_nil, List.replicate_succ, List.replicate_zero, List.getElem?_cons_zero, List.getElem?_cons_succ, List.length_cons, List.length_nil, List.set_cons_zero, List.set_cons_succ, ↓reduceIte, ↓reduceDIte, Nat.reduceAdd, Nat.reduceLeDiff, Nat.reduceEqDiff, Nat.zero_add, if_true, if_false, aVar, gMinus_int, gLt_int, gLe_int, gGt_int, gGe_int, gEq_int, gNe_int, gEq_str, gNe_str, gEq_bl, gNe_bl, gXor_int, gAnd_int, gOr_int, gAdd_int, gIsN_non, gNotN_non, gIsB_bl, gNotB_bl, gNeg_int, gLen_tup, gLen_scr, gMax2_int, gMin2_int, gBits_int, gSl_tup, gSl_scr, Bool.not_true, Bool.not_false, Bool.true_eq_false, Bool.false_eq_true, Bool.true_and, Bool.false_and, Bool.and_true, Bool.and_false, Bool.true_or, Bool.false_or, decide_true, decide_false, and_self, and_true, true_and, and_false, false_and, not_true_eq_false, not_false_eq_true, reduceCtorEq, kz, z1, z2, z3, z4, z5, z6, z7, z8, z9, z10, z11, z12, z13, z14, z15, z16, isCls, isNon, aForget, aHand, toKey, keysA, iterOf_tup, iterOf_scr, oNx_some, noErr_ok, decide_eq_true_eq, decide_eq_false_iff_not, Sto.new_n, Sto.set_n, Sto.set_at, Sto.new_at, Nat.zero_le, aMakeV, Cl_non, Cl_bl, Cl_int, Cl_str, Cl_cls, Cl_obj, Cl_tup, ClL_nil, ClL_cons, grd_pos, grdS_pos, Res.bind_ok, Res.bind_err, Res.st_ok, Res.st_err, SRes.thn_nx, SRes.thn_rt, SRes.thn_err, SRes.fn_rt, SRes.fn_nx, SRes.fn_err, SRes.loop_nx, SRes.loop_rt, SRes.loop_err, SRes.loop_ct, SRes.loop_bk, SRes.forget_nx, SRes.forget_rt, SRes.forget_err, SRes.clr_nx, SRes.clr_rt, SRes.noX_nx, SRes.noX_rt, aTry, sizeLine_ge, $xs,*])
theorem lc_map {α : Type} {G : Sto → Prop} {j : Nat} {ft : AT} {fe : AE} {σ0 : ASt} {P : AV → Sto → Prop} {R : String → List Str → List AV → Sto → Prop} {L : List α} {φ : α → AV} {s : Sto} (f : α → AV) (hl : L.length ≤ 1000) (hG : ∀ s', Gb s s' → G s')
    (h : ∀ x ∈ L, ∀ s', Gb s s' → ft (σ0.set j (some (φ x))) s' = .ok true s' ∧ fe (σ0.set j (some (φ x))) s' = .ok (f x) s')
    (q : P (.obj s.n) (s.new (.lst (L.map f)))) : (oObj s.n (lcI s.n G (agName j) ft fe σ0 (L.map φ) (s.new (.lst [])))).Post P R :=
  lc_el (fun _ => true) f hl hG (fun x hx s' g => ⟨(h x hx s' g).1, fun _ => (h x hx s' g).2⟩) (by rw [List.filter_eq_self.mpr fun _ _ => rfl]; exact q)
def uf : Nat → Int
  | 0 => 3486784401
  | n + 1 => uf n * (2 - 3486784401 * uf n) % 4294967296
theorem uf_rng : ∀ n, 0 ≤ uf n ∧ uf n < 4294967296
  | 0 => by decide
  | n + 1 => ⟨Int.emod_nonneg _ (by decide), Int.emod_lt_of_pos _ (by decide)⟩
theorem uf4 : uf 4 = 3396732273 := by decide +kernel
theorem undo_ok (s : Sto) : F_undo_factor [] s = .ok (.int 3396732273) s := by
  refine gc0' ?_
  have rg : -(2 ^ 62) ≤ (4 : Int) ∧ (4 : Int) < 2 ^ 62 := by decide
  simp! [B_undo_factor, rg]
  refine for_rng (n := 4) (fun i σ s' => s' = s ∧ ∃ x1, σ = [some (.int (uf i)), x1]) ⟨rfl, _, rfl⟩ ?_ ?_
  · rintro i σ s' hi ⟨rfl, x1, rfl⟩
    refine ⟨trivial, ?_⟩
    obtain ⟨u0, u1⟩ := uf_rng i
    have m1 : gMul (.int 3486784401) (.int (uf i)) s' = .ok (.int (3486784401 * uf i)) s' := gMul_ok (m := 32) (n := 32) (by decide) (by omega) (by decide)
    have m2 : gMul (.int (uf i)) (.int (2 - 3486784401 * uf i)) s' = .ok (.int (uf i * (2 - 3486784401 * uf i))) s' := gMul_ok (m := 32) (n := 70) (by omega) (by omega) (by decide)
    simp! [m1, m2, m32]
    exact ⟨_, rfl⟩
  · rintro σ s' ⟨rfl, x1, rfl⟩
    refine ⟨trivial, ?_⟩
    rw [uf4]
    simp! [eq_self]
    exact Gb.refl _
theorem cs26 (i : Nat) (s : Sto) : gShr (.int (i : Nat)) (.int 26) s = .ok (.int ((i / 2 ^ 26 : Nat) : Int)) s := (gShr_int (by decide)).trans (by rw [Int.natCast_ediv]; rfl)
theorem untempered_ok {i : Nat} (s : Sto) (h1 : i < 4294967296) : F_untempered [.int (i : Nat)] s = .ok (.int (MX.utm i : Nat)) s := by
  refine gc0 ?_ (by simp)
  have a := need_word_t s h1
  have u := undo_ok s
  have x1 : i ^^^ i / 2 ^ 16 < 2 ^ 32 := MX.xs_lt (k := 16) h1
  have m : gMul (.int ((i ^^^ i / 2 ^ 16 : Nat) : Int)) (.int 3396732273) s = .ok (.int (((i ^^^ i / 2 ^ 16 : Nat) : Int) * 3396732273)) s := gMul_ok (m := 32) (n := 32) (by rw [Int.natAbs_natCast]; exact x1) (by decide) (by decide)
  have fm : ((i ^^^ i / 2 ^ 16 : Nat) : Int) * 3396732273 % 4294967296 = (((i ^^^ i / 2 ^ 16) * MX.U % 4294967296 : Nat) : Int) := by
    rw [show ((i ^^^ i / 2 ^ 16 : Nat) : Int) * 3396732273 = (((i ^^^ i / 2 ^ 16) * MX.U : Nat) : Int) from by rw [Int.natCast_mul]; rfl, modN]
  show _ = Res.ok (AV.int (((((i ^^^ i / 2 ^ 16) * MX.U % 4294967296) ^^^ ((i ^^^ i / 2 ^ 16) * MX.U % 4294967296) / 2 ^ 13) ^^^ ((i ^^^ i / 2 ^ 16) * MX.U % 4294967296) / 2 ^ 26 : Nat) : Int)) s
  simp! only [B_untempered, a, u, cs16, cs13, cs26, xorN, m, m32, fm]
/-- exclusive or, word by word -/
def jn (r q : List Nat) : List Nat := List.zipWith (· ^^^ ·) r q
theorem jn_len {r q : List Nat} (h : r.length = q.length) : (jn r q).length = r.length := by simp [jn, h]
theorem jn_win (u v : Nat → Nat) (n : Nat) : jn (TW.win u n) (TW.win v n) = TW.win (fun i => u i ^^^ v i) n := by
  unfold jn TW.win
  rw [List.zipWith_map, List.zipWith_self]
theorem joined_ok {r q : List Nat} (s : Sto) (h : r.length = q.length) (hl : r.length ≤ 500) : F__law_joined [.tup (iN r), .tup (iN q)] s = .ok (.tup (iN (jn r q))) s := by
  refine gc0' ?_
  simp! [B__law_joined]
  refine lc_P (fun i acc s' => Gb s s' ∧ acc = iN ((jn r q).take i)) ⟨(Gb.refl s).new, rfl⟩ Sto.new_at (by rw [enumA_len, iN_len]; omega) ?_ ?_
  · rintro i x acc s' hx ⟨hg, ha⟩ hk
    obtain ⟨y, hy, rfl⟩ := enumA_get hx
    have hi : i < r.length := by
      have := (List.getElem?_eq_some_iff.mp hy).1
      rwa [iN_len] at this
    rw [bt_some hi] at hy
    cases hy
    have ix := ix_bt (r := q) (i := i) s' (by omega)
    have gj : (jn r q)[i]? = some (bt r i ^^^ bt q i) := by
      have h1 : r[i]? = some (bt r i) := by simp [bt, List.getD_eq_getElem?_getD, hi]
      have h2 : q[i]? = some (bt q i) := by simp [bt, List.getD_eq_getElem?_getD, show i < q.length by omega]
      unfold jn
      rw [List.getElem?_zipWith, h1, h2]
    refine ⟨trivial, ?_⟩
    simp! [wipeA, ix, xorN]
    refine ⟨hk, hg.set (Nat.le_refl _), ?_⟩
    rw [List.take_add_one, gj, ha, iN_app]
    rfl
  · rintro acc s' ⟨hg, ha⟩ hk
    refine ⟨trivial, ?_⟩
    have e : (enumA (iN r)).length = (jn r q).length := by rw [enumA_len, iN_len, jn_len h]
    rw [ha, e, List.take_length] at hk
    have tp := gTuple_seq (seqOf_obj hk)
    simp! [tp, iN_cl]
    exact hg
/-- a lane -/
def lnR (p : Nat) (r : List Nat) : List Nat := r.map fun w => w / 2 ^ p % 2
theorem lane_ok {s : Sto} {o p : Nat} {r : List Nat} (h : s.c o = twi r) (hl : r.length ≤ 500) (hp : p < 32) : F_Twisted_lane [.obj o, .int (p : Nat)] s = .ok (.tup (iN (lnR p r))) s := by
  refine gc0' ?_
  have ii := is_int ((p : Nat) : Int) s
  have d1 : decide ((0 : Int) ≤ ((p : Nat) : Int)) = true := decide_eq_true (by omega)
  have d2 : decide (((p : Nat) : Int) < 32) = true := decide_eq_true (by omega)
  have a := ft h
  simp! [B_Twisted_lane]
  refine gcT_g ?_
  simp! [ii, d1, d2, a]
  refine ⟨Gb.refl _, ?_⟩
  refine lc_map (L := r) (φ := fun n => .int (n : Nat)) (fun w => .int ((w / 2 ^ p % 2 : Nat) : Int)) (by omega) (fun _ _ => trivial) (fun w hw s2 g2 => ⟨rfl, ?_⟩) ?_
  · simp! only [wipeA, shrN, and1_ok]
  · have tp := gTuple_seq (s := s.new (.lst (r.map fun w => AV.int ((w / 2 ^ p % 2 : Nat) : Int)))) (x := .obj s.n) (seqOf_obj Sto.new_at)
    rw [show (r.map fun w => AV.int ((w / 2 ^ p % 2 : Nat) : Int)) = iN (lnR p r) by simp only [iN, lnR, List.map_map]; rfl] at tp ⊢
    simp! [tp, iN_cl]
    exact (Gb.refl s).new
theorem row_sh (r : List Nat) : SeqAt.shaped (.tuple (r.map fun k => PyData.int (k : Nat))) = true := by
  have := lay_row r; simp [SeqAt.shaped, PyData.canLay0, PyData.depth, this.1, this.2]
theorem ne_row (r : List Nat) (s : Sto) : gNe (.tup (iN r)) (.tup (iN r)) s = .ok (.bl false) s := by
  rw [gNe_b (eqB_of (b := true) (dat_row 10 s r) (dat_row 10 s r) (row_sh r) (row_sh r) (PySem.SeqAt.eqv_refl _ (SeqAt.canLay_of_shaped (row_sh r))) rfl)]
  rfl
theorem maxU_ok {r : List Nat} (h : r ≠ []) : ∃ m, (m = 0 ↔ ∀ x ∈ r, x = 0) ∧ ∀ s, gMaxU [.tup (iN r)] s = .ok (.int (m : Nat)) s := by
  obtain ⟨m, m1, m2⟩ := max_ex r h
  refine ⟨m, ⟨fun e x hx => by have := m2 x hx; omega, fun z => z m m1⟩, fun s => ?_⟩
  have e : iN r = (r.map fun n => ((n : Nat) : Int)).map .int := by rw [List.map_map]; rfl
  rw [e]
  refine gMaxU_tup (List.mem_map.mpr ⟨m, m1, rfl⟩) fun y hy => ?_
  obtain ⟨z, z1, rfl⟩ := List.mem_map.mp hy
  have := m2 z z1
  show (z : Int) ≤ m
  omega
/-- a source's next word, where its row is so many steps from a beginning -/
theorem next_win {s : Sto} {o i : Nat} {r : List Nat} (hr : RowT r) (h : s.c o = twi (TW.win (TW.seqR r) i)) (lt : o < s.n) : F_Twisted_next_word [.obj o] s = .ok (.int (MX.tmp (TW.seqR r (i + 31)) : Nat)) (s.set o (twi (TW.win (TW.seqR r) (i + 1)))) := by
  have k := twi_next h lt (win_row hr i)
  rw [win_next] at k
  rw [TW.seqR_win (TW.seqR_rec r), TW.seqR_win (TW.seqR_rec r)] at k
  rw [TW.seqR_rec r i]
  exact k
theorem seq_lt {r : List Nat} (hr : RowT r) (i : Nat) : TW.seqR r i < 4294967296 := TW.seqR_lt (r := r) hr.lt i
theorem unt_next {r : List Nat} (hr : RowT r) (i : Nat) (s : Sto) : F_untempered [.int (MX.tmp (TW.seqR r i) : Nat)] s = .ok (.int (TW.seqR r i : Nat)) s := by
  rw [untempered_ok s (MX.tmp_lt _), MX.utm_tmp (seq_lt hr i)]
end Pf
set_option Elab.async false
set_option linter.all false
set_option maxRecDepth 100000
set_option maxHeartbeats 1000000
set_option exponentiation.threshold 3000
namespace Pf
open PySem Ab
local macro_rules | `(tactic| simp! [$xs,*]) => `(tactic| try simp (config := {maxSteps := 1000000}) only [k_bind, k_Kb, k_st, k_Kst, k_Rst, k_thn, k_loop, k_fn, k_forget, k_clr, k_noX, k_try, k_stuck, k_Astuck, d_thn_nx, d_thn_bk, d_thn_ct, d_thn_rt, d_thn_er, d_lp_nx, d_lp_bk, d_lp_ct, d_lp_rt, d_lp_er, d_fg_nx, d_fg_bk, d_fg_ct, d_fg_rt, d_fg_er, d_cl_nx, d_cl_bk, d_cl_ct, d_cl_rt, d_cl_er, d_tr_nx, d_tr_bk, d_tr_ct, d_tr_rt, d_tr_er, d_nX_nx, d_nX_bk, d_nX_ct, d_nX_rt, d_nX_er, d_fn_nx, d_fn_bk, d_fn_ct, d_fn_rt, d_fn_er, A_nx, A_bk, A_ct, A_rt, A_err, post_ok, post_err, post_noErr, e_op, e_opK, e_un, e_cb, e_nil, e_c, e_cons, e_consK, e_consK2, e_and, e_or, e_andK, e_orK, e_not, e_notK, e_test, e_testK, e_tand, e_tandK, e_tor, e_torK, e_tnot, e_tnotK, e_yes, e_if, e_ifK, e_ch, e_chK1, e_chK2, e_chK3, e_tup, e_tupK, e_lst, e_lstK, e_newL, e_call, e_callK, e_meth, e_methK, e_methK2, e_prop, e_propK, e_make, e_makeK, e_makeK2, e_makeV, e_sm, e_smK, e_smK2, e_cm, e_cmK, e_cmK2, e_sl, e_slK1, e_slK2, e_slK3, e_part, e_partK, e_nopart, e_rev, e_bm, e_bmK, e_pr, e_pr0, e_prK1, e_prK2, e_prK3, e_disp, e_dnew, e_own, e_ownK, e_lc, e_lcK, e_iter, e_rng1, e_rng1K, e_rng2, e_rng2K, e_enum, s_drop, s_dropK, s_ret, s_retK, s_retN, s_next, s_break, s_cont, s_seq, s_if, s_ifK, s_asg, s_asgK, s_name, s_par, s_parK, s_par3, s_parK3, s_gnil, s_gcons, s_gtup, s_for, s_forK, s_raise, s_raiseK, s_sf, s_sfK1, s_sfK2, s_dp, s_dpK1, s_dpK2, s_dpK3, s_forget, s_def, s_fld, e_enumU, e_enumUT, eq_self, beq_self_eq_true, k_grd, k_grdS, k_ite, k_Aite, true_implies, false_implies, implies_true, List.map_cons, List.map_nil, List.nil_append, List.cons_append, List.append_nil, List.replicate_succ, List.replicate_zero, List.getElem?_cons_zero, List.getElem?_cons_succ, List.length_cons, List.length_nil, List.set_cons_zero, List.set_cons_succ, ↓reduceIte, ↓reduceDIte, Nat.reduceAdd, Nat.reduceLeDiff, Nat.reduceEqDiff, Nat.zero_add, if_true, if_false, aVar, gMinus_int, gLt_int, gLe_int, gGt_int, gGe_int, gEq_int, gNe_int, gEq_str, gNe_str, gEq_bl, gNe_bl, gXor_int, gAnd_int, gOr_int, gAdd_int, gIsN_non, gNotN_non, gIsB_bl, gNotB_bl, gNeg_int, gLen_tup, gLen_scr, gMax2_int, gMin2_int, gBits_int, gSl_tup, gSl_scr, Bool.not_true, Bool.not_false, Bool.true_eq_false, Bool.false_eq_true, Bool.true_and, Bool.false_and, Bool.and_true, Bool.and_false, Bool.true_or, Bool.false_or, decide_true, decide_false, and_self, and_true, true_and, and_false, false_and, not_true_eq_false, not_false_eq_true, reduceCtorEq, kz, z1, z2, z3, z4, z5, z6, z7, z8, z9, z10, z11, z12, z13, z14, z15, z16, isCls, isNon, aForget, aHand, toKey, keysA, iterOf_tup, iterOf_scr, oNx_some, noErr_ok, decide_eq_true_eq, decide_eq_false_iff_not, Sto.new_n, Sto.set_n, Sto.set_at, Sto.new_at, Nat.zero_le, aMakeV, Cl_non, Cl_bl, Cl_int, Cl_str, Cl_cls, Cl_obj, Cl_tup, ClL_nil, ClL_cons, $xs,*])
theorem win0 {r : List Nat} (hr : RowT r) : TW.win (TW.seqR r) 0 = r := TW.win_zero hr.len
theorem jn_row {r q : List Nat} (hr : RowT r) (hq : RowT q) : jn r q = TW.win (fun i => TW.seqR r i ^^^ TW.seqR q i) 0 := by
  conv => lhs; rw [← win0 hr, ← win0 hq]
  exact jn_win _ _ 0
theorem xrec (r q : List Nat) : TW.Rec fun i => TW.seqR r i ^^^ TW.seqR q i := fun i => by
  show TW.seqR r (i + 31) ^^^ TW.seqR q (i + 31) = _
  rw [TW.seqR_rec r i, TW.seqR_rec q i, TW.xor4]
theorem jn_seq {r q : List Nat} (hr : RowT r) (hq : RowT q) (i : Nat) : TW.seqR (jn r q) i = TW.seqR r i ^^^ TW.seqR q i := by
  rw [jn_row hr hq, TW.seqR_win (xrec r q), Nat.zero_add]
theorem jn_rowT {r q : List Nat} (hr : RowT r) (hq : RowT q) (nz : ∃ x ∈ jn r q, x ≠ 0) : RowT (jn r q) := by
  refine ⟨by rw [jn_len (by rw [hr.len, hq.len]), hr.len], fun x hx => ?_, nz⟩
  rw [jn_row hr hq] at hx
  obtain ⟨i, _, rfl⟩ := List.mem_map.mp hx
  exact Nat.xor_lt_two_pow (n := 32) (seq_lt hr _) (seq_lt hq _)
theorem jn_after {r q : List Nat} (hr : RowT r) (hq : RowT q) (n : Nat) : jn (TW.win (TW.seqR r) n) (TW.win (TW.seqR q) n) = TW.win (TW.seqR (jn r q)) n := by
  rw [jn_win]
  congr 1
  funext i
  exact (jn_seq hr hq i).symm
theorem rg40 : -(2 ^ 62) ≤ (40 : Int) ∧ (40 : Int) < 2 ^ 62 := by decide
theorem wlen {r : List Nat} (n : Nat) : (TW.win (TW.seqR r) n).length = 31 := TW.win_len _ _
theorem lsums_ok {r q : List Nat} {n : Nat} (s : Sto) (hr : RowT r) (hq : RowT q) (hn : n ≤ 18446744073709551616) : F__law_sums_right [.tup (iN r), .tup (iN q), .int (n : Nat)] s = .ok (.bl true) s := by
  refine gc0' ?_
  have hlen : r.length = q.length := by rw [hr.len, hq.len]
  have j1 := joined_ok s hlen (by rw [hr.len]; decide)
  have b31 : (jn r q).length = 31 := by rw [jn_len hlen, hr.len]
  obtain ⟨m, mz, mx⟩ := maxU_ok (r := jn r q) (by rintro e; rw [e] at b31; cases b31)
  simp! [B__law_sums_right, j1, mx]
  refine ⟨fun _ => Gb.refl _, fun h0 => ?_⟩
  have m0 : m ≠ 0 := fun c => h0 (by rw [c]; rfl)
  have nz : ∃ x ∈ jn r q, x ≠ 0 := Classical.byContradiction fun c => m0 (mz.mpr fun x hx => Classical.byContradiction fun d => c ⟨x, hx, d⟩)
  have hb := jn_rowT hr hq nz
  have a1 := fun s => twi_after hr hn s
  have a2 := fun s => twi_after hq hn s
  have a3 := fun s => twi_after hb hn s
  have j2 := fun s => joined_ok (r := TW.win (TW.seqR r) n) (q := TW.win (TW.seqR q) n) s (by rw [wlen, wlen]) (by rw [wlen]; decide)
  have j3 := jn_seq hr hq
  simp only [jn_after hr hq] at j2
  have j4 := fun i => jn_after hr hq i
  obtain ⟨b, hbe⟩ : ∃ b, b = jn r q := ⟨_, rfl⟩
  simp only [← hbe] at a3 hb j2 j3 j4
  rw [← hbe]
  have ne1 := fun s => ne_row (TW.win (TW.seqR b) n) s
  simp! [a1, a2, j2]
  refine gcT_g ?_
  simp! [a3, ne1]
  refine ⟨Gb.refl _, ?_⟩
  have t1 := twi_init hr s
  have t2 := twi_init hq (s.new (twi r))
  have t3 := twi_init hb ((s.new (twi r)).new (twi q))
  simp only [Sto.new_n] at t2 t3
  simp! [t1, t2, t3, z3, rg40]
  obtain ⟨o, ho⟩ : ∃ o, o = s.n := ⟨_, rfl⟩
  have ca : ((((s.new (twi r)).new (twi q)).new (twi b)).new (.lst [.obj s.n, .obj (s.n + 1), .obj (s.n + 1 + 1)])).c o = twi (TW.win (TW.seqR r) 0) := by
    rw [win0 hr, ho]
    exact at_old (by show s.n < s.n + 3; omega) (at_old (by show s.n < s.n + 2; omega) (at_old (Nat.lt_succ_self _) Sto.new_at))
  have cb : ((((s.new (twi r)).new (twi q)).new (twi b)).new (.lst [.obj s.n, .obj (s.n + 1), .obj (s.n + 1 + 1)])).c (o + 1) = twi (TW.win (TW.seqR q) 0) := by
    rw [win0 hq, ho]
    exact at_old (by show s.n + 1 < s.n + 3; omega) (at_old (Nat.lt_succ_self _) Sto.new_at)
  have cc : ((((s.new (twi r)).new (twi q)).new (twi b)).new (.lst [.obj s.n, .obj (s.n + 1), .obj (s.n + 1 + 1)])).c (o + 1 + 1) = twi (TW.win (TW.seqR b) 0) := by
    rw [win0 hb, ho]
    exact at_old (Nat.lt_succ_self _) Sto.new_at
  have cL : ((((s.new (twi r)).new (twi q)).new (twi b)).new (.lst [.obj s.n, .obj (s.n + 1), .obj (s.n + 1 + 1)])).c (o + 1 + 1 + 1) = .lst [.obj o, .obj (o + 1), .obj (o + 1 + 1)] := by
    rw [ho]
    exact Sto.new_at
  have g0 : Gb s ((((s.new (twi r)).new (twi q)).new (twi b)).new (.lst [.obj s.n, .obj (s.n + 1), .obj (s.n + 1 + 1)])) := (Gb.refl s).new.new.new.new
  have n0 : o + 1 + 1 + 1 < ((((s.new (twi r)).new (twi q)).new (twi b)).new (.lst [.obj s.n, .obj (s.n + 1), .obj (s.n + 1 + 1)])).n := by rw [ho]; exact Nat.lt_succ_self _
  rw [← ho] at ca cb cc cL g0 n0 ⊢
  generalize (((s.new (twi r)).new (twi q)).new (twi b)).new (.lst [.obj o, .obj (o + 1), .obj (o + 1 + 1)]) = s1 at *
  clear t1 t2 t3 a1 a2 a3 ne1 j1 j2
  refine for_rng (n := 40) (fun i σ s' => Gb s s' ∧ o + 1 + 1 + 1 < s'.n ∧ s'.c o = twi (TW.win (TW.seqR r) i) ∧ s'.c (o + 1) = twi (TW.win (TW.seqR q) i) ∧ s'.c (o + 1 + 1) = twi (TW.win (TW.seqR b) i) ∧ s'.c (o + 1 + 1 + 1) = .lst [.obj o, .obj (o + 1), .obj (o + 1 + 1)] ∧ ∃ x4 x6 x7 x8 x9, σ = [some (.tup (iN r)), some (.tup (iN q)), some (.int (n : Nat)), some (.tup (iN b)), x4, some (.obj (o + 1 + 1 + 1)), x6, x7, x8, x9, none]) ⟨g0, n0, ca, cb, cc, cL, _, _, _, _, _, rfl⟩ ?_ ?_
  · rintro i σ s' hi ⟨g, n1, ca, cb, cc, cL, x4, x6, x7, x8, x9, rfl⟩
    refine ⟨trivial, ?_⟩
    have it := iterOf_l (lstOf_obj cL)
    simp! [it]
    refine lc_P (fun j acc s2 => Gb s s2 ∧ s'.n < s2.n ∧ s2.c o = twi (TW.win (TW.seqR r) (if 0 < j then i + 1 else i)) ∧ s2.c (o + 1) = twi (TW.win (TW.seqR q) (if 1 < j then i + 1 else i)) ∧ s2.c (o + 1 + 1) = twi (TW.win (TW.seqR b) (if 2 < j then i + 1 else i)) ∧ s2.c (o + 1 + 1 + 1) = .lst [.obj o, .obj (o + 1), .obj (o + 1 + 1)] ∧ acc = ([.int (TW.seqR r (i + 31) : Nat), .int (TW.seqR q (i + 31) : Nat), .int (TW.seqR b (i + 31) : Nat)] : List AV).take j)
      ⟨g.new, Nat.lt_succ_self _, at_old (by omega) ca, at_old (by omega) cb, at_old (by omega) cc, at_old n1 cL, rfl⟩ Sto.new_at (by simp) ?_ ?_
    · rintro j y acc s2 hy ⟨g2, n2, ca, cb, cc, cL, ha⟩ hk
      refine ⟨lstOf_obj cL, ?_⟩
      have so : s.n ≤ o := by omega
      rcases j with _ | _ | _ | j
      · cases hy
        have ca : s2.c o = twi (TW.win (TW.seqR r) i) := ca
        have k1 := tcls (m := "next_word") ca (by decide)
        have f1 := next_win hr ca (by omega)
        have f2 := fun s => unt_next hr (i + 31) s
        simp! [wipeA, k1, f1, f2]
        refine ⟨(Sto.set_ne (by omega)).trans hk, (g2.set so).set (by show s.n ≤ s'.n; exact g.n), n2, (Sto.set_ne (by omega)).trans Sto.set_at, (Sto.set_ne (by omega)).trans ((Sto.set_ne (by omega)).trans cb), (Sto.set_ne (by omega)).trans ((Sto.set_ne (by omega)).trans cc), (Sto.set_ne (by omega)).trans ((Sto.set_ne (by omega)).trans cL), ?_⟩
        rw [ha]
        first | done | rfl
      · cases hy
        have cb : s2.c (o + 1) = twi (TW.win (TW.seqR q) i) := cb
        have k1 := tcls (m := "next_word") cb (by decide)
        have f1 := next_win hq cb (by omega)
        have f2 := fun s => unt_next hq (i + 31) s
        simp! [wipeA, k1, f1, f2]
        refine ⟨(Sto.set_ne (by omega)).trans hk, (g2.set (by omega)).set (by show s.n ≤ s'.n; exact g.n), n2, (Sto.set_ne (by omega)).trans ((Sto.set_ne (by omega)).trans ca), (Sto.set_ne (by omega)).trans Sto.set_at, (Sto.set_ne (by omega)).trans ((Sto.set_ne (by omega)).trans cc), (Sto.set_ne (by omega)).trans ((Sto.set_ne (by omega)).trans cL), ?_⟩
        rw [ha]
        first | done | rfl
      · cases hy
        have cc : s2.c (o + 1 + 1) = twi (TW.win (TW.seqR b) i) := cc
        have k1 := tcls (m := "next_word") cc (by decide)
        have f1 := next_win hb cc (by omega)
        have f2 := fun s => unt_next hb (i + 31) s
        simp! [wipeA, k1, f1, f2]
        refine ⟨(Sto.set_ne (by omega)).trans hk, (g2.set (by omega)).set (by show s.n ≤ s'.n; exact g.n), n2, (Sto.set_ne (by omega)).trans ((Sto.set_ne (by omega)).trans ca), (Sto.set_ne (by omega)).trans ((Sto.set_ne (by omega)).trans cb), (Sto.set_ne (by omega)).trans Sto.set_at, (Sto.set_ne (by omega)).trans ((Sto.set_ne (by omega)).trans cL), ?_⟩
        rw [ha]
        first | done | rfl
      · simp at hy
    rintro acc s2 ⟨g2, n2, ca, cb, cc, cL, ha⟩ hk
    refine ⟨lstOf_obj cL, ?_⟩
    have ha : acc = [.int (TW.seqR r (i + 31) : Nat), .int (TW.seqR q (i + 31) : Nat), .int (TW.seqR b (i + 31) : Nat)] := ha
    rw [ha] at hk
    have gt := fun g σ => s_gtupL (n := 3) (g := g) (σ := σ) (lstOf_obj hk)
    have d1 : decide (((TW.seqR b (i + 31) : Nat) : Int) = ((TW.seqR b (i + 31) : Nat) : Int)) = true := decide_eq_true rfl
    have xe : Builtin.bitXor ((TW.seqR r (i + 31) : Nat) : Int) ((TW.seqR q (i + 31) : Nat) : Int) = ((TW.seqR b (i + 31) : Nat) : Int) := by rw [xorN, j3]
    simp! [gt, xe, d1]
    exact ⟨g2, by omega, ca, cb, cc, cL, _, _, _, _, _, rfl⟩
  · rintro σ s' ⟨g, n1, ca, cb, cc, cL, x4, x6, x7, x8, x9, rfl⟩
    refine ⟨trivial, ?_⟩
    have e2 : gIx (.obj (o + 1 + 1 + 1)) (.int 2) s' = .ok (.obj (o + 1 + 1)) s' := gIx_seq (seqOf_obj cL) (show L2.atI _ ((2 : Nat) : Int) = _ from L2.atI_nat rfl)
    have e1 : gIx (.obj (o + 1 + 1 + 1)) (.int 1) s' = .ok (.obj (o + 1)) s' := gIx_seq (seqOf_obj cL) (show L2.atI _ ((1 : Nat) : Int) = _ from L2.atI_nat rfl)
    have e0 : gIx (.obj (o + 1 + 1 + 1)) (.int 0) s' = .ok (.obj o) s' := gIx_seq (seqOf_obj cL) (show L2.atI _ ((0 : Nat) : Int) = _ from L2.atI_nat rfl)
    have i0 := isI_obj ca
    have i1 := isI_obj cb
    have i2 := isI_obj cc
    have p0 := twi_state ca
    have p1 := twi_state cb
    have p2 := twi_state cc
    have jj := joined_ok (r := TW.win (TW.seqR r) 40) (q := TW.win (TW.seqR q) 40) s' (by rw [wlen, wlen]) (by rw [wlen]; decide)
    rw [j4 40] at jj
    have eq := eq_row (TW.win (TW.seqR b) 40) (TW.win (TW.seqR b) 40) s'
    rw [decide_eq_true rfl] at eq
    simp! [e2, e1, e0, i0, i1, i2, p0, p1, p2, jj, eq]
    exact g
end Pf
set_option Elab.async false
set_option linter.all false
set_option maxRecDepth 100000
set_option maxHeartbeats 1000000
set_option exponentiation.threshold 3000
namespace Pf
open PySem Ab
local macro_rules | `(tactic| simp! [$xs,*]) => `(tactic| try simp (config := {maxSteps := 1000000}) only [k_bind, k_Kb, k_st, k_Kst, k_Rst, k_thn, k_loop, k_fn, k_forget, k_clr, k_noX, k_try, k_stuck, k_Astuck, d_thn_nx, d_thn_bk, d_thn_ct, d_thn_rt, d_thn_er, d_lp_nx, d_lp_bk, d_lp_ct, d_lp_rt, d_lp_er, d_fg_nx, d_fg_bk, d_fg_ct, d_fg_rt, d_fg_er, d_cl_nx, d_cl_bk, d_cl_ct, d_cl_rt, d_cl_er, d_tr_nx, d_tr_bk, d_tr_ct, d_tr_rt, d_tr_er, d_nX_nx, d_nX_bk, d_nX_ct, d_nX_rt, d_nX_er, d_fn_nx, d_fn_bk, d_fn_ct, d_fn_rt, d_fn_er, A_nx, A_bk, A_ct, A_rt, A_err, post_ok, post_err, post_noErr, e_op, e_opK, e_un, e_cb, e_nil, e_c, e_cons, e_consK, e_consK2, e_and, e_or, e_andK, e_orK, e_not, e_notK, e_test, e_testK, e_tand, e_tandK, e_tor, e_torK, e_tnot, e_tnotK, e_yes, e_if, e_ifK, e_ch, e_chK1, e_chK2, e_chK3, e_tup, e_tupK, e_lst, e_lstK, e_newL, e_call, e_callK, e_meth, e_methK, e_methK2, e_prop, e_propK, e_make, e_makeK, e_makeK2, e_makeV, e_sm, e_smK, e_smK2, e_cm, e_cmK, e_cmK2, e_sl, e_slK1, e_slK2, e_slK3, e_part, e_partK, e_nopart, e_rev, e_bm, e_bmK, e_pr, e_pr0, e_prK1, e_prK2, e_prK3, e_disp, e_dnew, e_own, e_ownK, e_lc, e_lcK, e_iter, e_rng1, e_rng1K, e_rng2, e_rng2K, e_enum, s_drop, s_dropK, s_ret, s_retK, s_retN, s_next, s_break, s_cont, s_seq, s_if, s_ifK, s_asg, s_asgK, s_name, s_par, s_parK, s_par3, s_parK3, s_gnil, s_gcons, s_gtup, s_for, s_forK, s_raise, s_raiseK, s_sf, s_sfK1, s_sfK2, s_dp, s_dpK1, s_dpK2, s_dpK3, s_forget, s_def, s_fld, e_enumU, e_enumUT, eq_self, beq_self_eq_true, k_grd, k_grdS, k_ite, k_Aite, true_implies, false_implies, implies_true, List.map_cons, List.map_nil, List.nil_append, List.cons_append, List.append_nil, List.replicate_succ, List.replicate_zero, List.getElem?_cons_zero, List.getElem?_cons_succ, List.length_cons, List.length_nil, List.set_cons_zero, List.set_cons_succ, ↓reduceIte, ↓reduceDIte, Nat.reduceAdd, Nat.reduceLeDiff, Nat.reduceEqDiff, Nat.zero_add, if_true, if_false, aVar, gMinus_int, gLt_int, gLe_int, gGt_int, gGe_int, gEq_int, gNe_int, gEq_str, gNe_str, gEq_bl, gNe_bl, gXor_int, gAnd_int, gOr_int, gAdd_int, gIsN_non, gNotN_non, gIsB_bl, gNotB_bl, gNeg_int, gLen_tup, gLen_scr, gMax2_int, gMin2_int, gBits_int, gSl_tup, gSl_scr, Bool.not_true, Bool.not_false, Bool.true_eq_false, Bool.false_eq_true, Bool.true_and, Bool.false_and, Bool.and_true, Bool.and_false, Bool.true_or, Bool.false_or, decide_true, decide_false, and_self, and_true, true_and, and_false, false_and, not_true_eq_false, not_false_eq_true, reduceCtorEq, kz, z1, z2, z3, z4, z5, z6, z7, z8, z9, z10, z11, z12, z13, z14, z15, z16, isCls, isNon, aForget, aHand, toKey, keysA, iterOf_tup, iterOf_scr, oNx_some, noErr_ok, decide_eq_true_eq, decide_eq_false_iff_not, Sto.new_n, Sto.set_n, Sto.set_at, Sto.new_at, Nat.zero_le, aMakeV, Cl_non, Cl_bl, Cl_int, Cl_str, Cl_cls, Cl_obj, Cl_tup, ClL_nil, ClL_cons, $xs,*])
local macro_rules | `(tactic| simp! only [$xs,*]) => `(tactic| simp only [e_op, e_opK, e_un, e_cb, e_nil, e_c, e_cons, e_consK, e_consK2, e_and, e_or, e_andK, e_orK, e_not, e_notK, e_test, e_testK, e_tand, e_tandK, e_tor, e_torK, e_tnot, e_tnotK, e_yes, e_if, e_ifK, e_ch, e_chK1, e_chK2, e_chK3, e_tup, e_tupK, e_lst, e_lstK, e_newL, e_call, e_callK, e_meth, e_methK, e_methK2, e_prop, e_propK, e_make, e_makeK, e_makeK2, e_makeV, e_sm, e_smK, e_smK2, e_cm, e_cmK, e_cmK2, e_sl, e_slK1, e_slK2, e_slK3, e_part, e_partK, e_nopart, e_rev, e_bm, e_bmK, e_pr, e_pr0, e_prK1, e_prK2, e_prK3, e_disp, e_dnew, e_own, e_ownK, e_lc, e_lcK, e_iter, e_rng1, e_rng1K, e_rng2, e_rng2K, e_enum, s_drop, s_dropK, s_ret, s_retK, s_retN, s_next, s_break, s_cont, s_seq, s_if, s_ifK, s_asg, s_asgK, s_name, s_par, s_parK, s_par3, s_parK3, s_gnil, s_gcons, s_gtup, s_for, s_forK, s_raise, s_raiseK, s_sf, s_sfK1, s_sfK2, s_dp, s_dpK1, s_dpK2, s_dpK3, s_forget, s_def, s_fld, e_enumU, e_enumUT, eq_self, beq_self_eq_true, true_implies, false_implies, implies_true, List.map_cons, List.map_nil, List.nil_append, List.cons_append, List.append_nil, List.replicate_succ, List.replicate_zero, List.getElem?_cons_zero, List.getElem?_cons_succ, List.length_cons, List.length_nil, List.set_cons_zero, List.set_cons_succ, ↓reduceIte, ↓reduceDIte, Nat.reduceAdd, Nat.reduceLeDiff, Nat.reduceEqDiff, Nat.zero_add, if_true, if_false, aVar, gMinus_int, gLt_int, gLe_int, gGt_int, gGe_int, gEq_int, gNe_int, gEq_str, gNe_str, gEq_bl, gNe_bl, gXor_int, gAnd_int, gOr_int, gAdd_int, gIsN_non, gNotN_non, gIsB_bl, gNotB_bl, gNeg_int, gLen_tup, gLen_scr, gMax2_int, gMin2_int, gBits_int, gSl_tup, gSl_scr, Bool.not_true, Bool.not_false, Bool.true_eq_false, Bool.false_eq_true, Bool.true_and, Bool.false_and, Bool.and_true, Bool.and_false, Bool.true_or, Bool.false_or, decide_true, decide_false, and_self, and_true, true_and, and_false, false_and, not_true_eq_false, not_false_eq_true, reduceCtorEq, kz, z1, z2, z3, z4, z5, z6, z7, z8, z9, z10, z11, z12, z13, z14, z15, z16, isCls, isNon, aForget, aHand, toKey, keysA, iterOf_tup, iterOf_scr, oNx_some, noErr_ok, decide_eq_true_eq, decide_eq_false_iff_not, Sto.new_n, Sto.set_n, Sto.set_at, Sto.new_at, Nat.zero_le, aMakeV, Cl_non, Cl_bl, Cl_int, Cl_str, Cl_cls, Cl_obj, Cl_tup, ClL_nil, ClL_cons, grd_pos, grdS_pos, Res.bind_ok, Res.bind_err, Res.st_ok, Res.st_err, SRes.thn_nx, SRes.thn_rt, SRes.thn_err, SRes.fn_rt, SRes.fn_nx, SRes.fn_err, SRes.loop_nx, SRes.loop_rt, SRes.loop_err, SRes.loop_ct, SRes.loop_bk, SRes.forget_nx, SRes.forget_rt, SRes.forget_err, SRes.clr_nx, SRes.clr_rt, SRes.noX_nx, SRes.noX_rt, aTry, sizeLine_ge, $xs,*])
theorem rep_one (n : Nat) (a : AV) : (List.replicate n [a]).flatten = List.replicate n a := by
  induction n with
  | zero => rfl
  | succ n ih => rw [List.replicate_succ, List.flatten_cons, ih, List.replicate_succ]; rfl
theorem iN_rep (n k : Nat) : iN (List.replicate n k) = List.replicate n (.int (k : Nat)) := List.map_replicate
theorem mulVk {n k : Nat} (s : Sto) (h : n ≤ 1000) : gMulV (.tup [.int (k : Nat)]) (.int (n : Nat)) s = .ok (.tup (iN (List.replicate n k))) s := by
  rw [gMulV_tup ⟨by simp, by omega, by omega, by simp⟩, Int.toNat_natCast, rep_one, iN_rep]
/-- the first bits of a row without an end -/
def bl2 (f : Nat → Nat) (n : Nat) : List Nat := (List.range n).map f
theorem bl2_len (f : Nat → Nat) (n : Nat) : (bl2 f n).length = n := by simp [bl2]
theorem bl2_app (f : Nat → Nat) (m n : Nat) : bl2 f m ++ bl2 (fun i => f (m + i)) n = bl2 f (m + n) := by
  refine List.ext_getElem? fun i => ?_
  unfold bl2
  by_cases h : i < m
  · rw [List.getElem?_append_left (by simpa using h)]
    simp [List.getElem?_range, h, show i < m + n by omega]
  · rw [List.getElem?_append_right (by simpa using h)]
    simp only [List.length_map, List.length_range, List.getElem?_map]
    by_cases h2 : i < m + n
    · rw [List.getElem?_range h2, List.getElem?_range (show i - m < n by omega)]
      simp [show m + (i - m) = i by omega]
    · rw [List.getElem?_eq_none (by simp; omega), List.getElem?_eq_none (by simp; omega)]
      rfl
theorem bl2_drop (f : Nat → Nat) (m n : Nat) : (bl2 f (m + n)).drop m = bl2 (fun i => f (m + i)) n := by
  rw [← bl2_app, List.drop_append_of_le_length (by rw [bl2_len]; exact Nat.le_refl _), List.drop_of_length_le (by rw [bl2_len]; exact Nat.le_refl _), List.nil_append]
theorem bl2_bt {f : Nat → Nat} {n i : Nat} (h : i < n) : bt (bl2 f n) i = f i := by
  unfold bt bl2
  rw [List.getD_eq_getElem?_getD, List.getElem?_map, List.getElem?_range h]
  rfl
theorem bl2_bits {f : Nat → Nat} {n : Nat} (h : ∀ i, f i ≤ 1) (hn : n ≤ 512) : Bits (bl2 f n) := ⟨fun x hx => by
  obtain ⟨i, _, rfl⟩ := List.mem_map.mp hx
  exact h i, by rw [bl2_len]; exact hn⟩
theorem least_congr {a a' : Nat → Nat} {R n : Nat} (e : ∀ i, i < n → a i = a' i) (h : BM.Least R a n) : BM.Least R a' n :=
  ⟨h.ne, h.le, fun b hb => by rw [← BM.A_bits hb e]; exact h.fol b hb, fun P h0 f => h.min P h0 fun b hb => by rw [BM.A_bits hb e]; exact f b hb⟩
/-- a lane of a row without an end -/
def ln (r : List Nat) (p i : Nat) : Nat := TW.seqR r i / 2 ^ p % 2
theorem ln_le (r : List Nat) (p i : Nat) : ln r p i ≤ 1 := by unfold ln; omega
theorem ln_rec (r : List Nat) (p : Nat) : TW.Rec (ln r p) := BM.Rec.map (TW.seqR_rec r) (fun x => x / 2 ^ p % 2) (BM.lane_xor p)
theorem ln_win (r : List Nat) (p n : Nat) : lnR p (TW.win (TW.seqR r) n) = bl2 (fun i => ln r p (n + i)) 31 := by
  unfold lnR TW.win bl2
  rw [List.map_map]
  rfl
theorem ln_least {r : List Nat} {p m n : Nat} (nz : ∃ i, ln r p i ≠ 0) (hn : 62 ≤ n) (h5 : n ≤ 512) : BM.bmr (bt (bl2 (fun i => ln r p (m + i)) n)) n = 2147483657 := by
  have hr : TW.Rec fun i => ln r p (m + i) := fun i => by
    have := ln_rec r p (m + i)
    rw [show m + i + 31 = m + (i + 31) by omega, show m + i + 3 = m + (i + 3) by omega] at this
    exact this
  refine BM.rule_least (a := fun i => ln r p (m + i)) (n := n) hr (fun i => ln_le _ _ _) ?_ hn ?_
  · refine Classical.byContradiction fun c => ?_
    obtain ⟨i, hi⟩ := nz
    exact hi (BM.rec_zero (ln_rec r p) (n := m) (fun i _ => Classical.byContradiction fun d => c ⟨i, d⟩) i)
  · exact least_congr (a := bt (bl2 (fun i => ln r p (m + i)) n)) (a' := fun i => ln r p (m + i)) (fun i hi => bl2_bt hi) (BM.bmr_least (bt_le (bl2_bits (fun i => ln_le _ _ _) h5)) n)
theorem rg62 : -(2 ^ 62) ≤ (62 : Int) ∧ (62 : Int) < 2 ^ 62 := by decide
theorem llane_ok {r : List Nat} {p n : Nat} (s : Sto) (hr : RowT r) (hp : p < 32) (hn : n ≤ 18446744073709551616) : F__law_lane_right [.tup (iN r), .int (p : Nat), .int (n : Nat)] s = .ok (.bl true) s := by
  refine gc0' ?_
  have t1 := twi_init hr s
  obtain ⟨o, ho⟩ : ∃ o, o = s.n := ⟨_, rfl⟩
  have c1 : (s.new (twi r)).c o = twi (TW.win (TW.seqR r) 0) := by rw [win0 hr, ho]; exact Sto.new_at
  have n1 : o < (s.new (twi r)).n := by rw [ho]; exact Nat.lt_succ_self _
  have g1 : Gb s (s.new (twi r)) := (Gb.refl s).new
  have so : s.n ≤ o := Nat.le_of_eq ho.symm
  simp! [B__law_lane_right, t1, rg62]
  rw [← ho]
  obtain ⟨k, hk0⟩ : ∃ k, k = o + 1 := ⟨_, rfl⟩
  have kn : (s.new (twi r)).n = k := by rw [hk0, ho]; rfl
  rw [← hk0]
  generalize s.new (twi r) = s1 at *
  clear t1
  rw [← kn]
  refine lc_P (fun i acc s' => Gb s s' ∧ s1.n < s'.n ∧ s'.c o = twi (TW.win (TW.seqR r) i) ∧ acc = iN (bl2 (fun j => TW.seqR r (j + 31)) i)) ⟨g1.new, Nat.lt_succ_self _, at_old n1 c1, rfl⟩ Sto.new_at (by rw [rngA_len]; decide) ?_ ?_
  · rintro i x acc s2 hx ⟨g2, n2, c2, ha⟩ hc
    obtain ⟨hi, rfl⟩ := rngA_get hx
    refine ⟨trivial, ?_⟩
    have k1 := tcls (m := "next_word") c2 (by decide)
    have f1 := next_win hr c2 (by omega)
    have f2 := fun s => unt_next hr (i + 31) s
    simp! [wipeA, k1, f1, f2]
    refine ⟨(Sto.set_ne (by omega)).trans hc, (g2.set so).set (by have := g1.n; omega), n2, (Sto.set_ne (by omega)).trans Sto.set_at, ?_⟩
    rw [ha, iN_app]
    unfold bl2
    rw [List.range_succ, List.map_append]
    rfl
  rintro acc s2 ⟨g2, n2, c2, ha⟩ hc
  refine ⟨trivial, ?_⟩
  rw [rngA_len] at c2 ha
  have c2 : s2.c o = twi (TW.win (TW.seqR r) 62) := c2
  have ha : acc = iN (bl2 (fun j => TW.seqR r (j + 31)) 62) := ha
  rw [ha] at hc
  clear ha kn c1
  have t2 := twi_init hr s2
  have k2 := tcls (s := s2.new (twi r)) (m := "lane") (o := s2.n) Sto.new_at (by decide)
  have l2 := lane_ok (s := s2.new (twi r)) (o := s2.n) (r := r) Sto.new_at (by rw [hr.len]; decide) hp
  have c3 : (s2.new (twi r)).c o = twi (TW.win (TW.seqR r) 62) := at_old (by omega) c2
  have hc3 : (s2.new (twi r)).c s1.n = .lst (iN (bl2 (fun j => TW.seqR r (j + 31)) 62)) := at_old n2 hc
  have g3 : Gb s (s2.new (twi r)) := g2.new
  have n3 : s1.n < (s2.new (twi r)).n := Nat.lt_succ_of_lt n2
  simp! [t2, k2, l2]
  generalize s2.new (twi r) = s3 at *
  clear t2 k2 l2
  have it := iterOf_l (lstOf_obj hc3)
  simp! [it]
  refine lc_map (L := bl2 (fun j => TW.seqR r (j + 31)) 62) (φ := fun n => .int (n : Nat)) (fun w => .int ((w / 2 ^ p % 2 : Nat) : Int)) (by rw [bl2_len]; decide) (fun s4 g4 => lstOf_obj ((g4.c _ n3).trans hc3)) (fun w hw s4 g4 => ⟨rfl, ?_⟩) ?_
  · simp! only [wipeA, shrN, and1_ok]
  have em : ((bl2 (fun j => TW.seqR r (j + 31)) 62).map fun w => AV.int ((w / 2 ^ p % 2 : Nat) : Int)) = iN (bl2 (fun i => ln r p (31 + i)) 62) := by
    simp only [iN, bl2, List.map_map]
    refine List.map_congr_left fun i _ => ?_
    show AV.int ((TW.seqR r (i + 31) / 2 ^ p % 2 : Nat) : Int) = AV.int ((TW.seqR r (31 + i) / 2 ^ p % 2 : Nat) : Int)
    rw [Nat.add_comm]
  rw [em]
  have tp := gTuple_seq (s := s3.new (.lst (iN (bl2 (fun i => ln r p (31 + i)) 62)))) (x := .obj s3.n) (seqOf_obj Sto.new_at)
  have g4 : Gb s (s3.new (.lst (iN (bl2 (fun i => ln r p (31 + i)) 62)))) := g3.new
  have c4 : (s3.new (.lst (iN (bl2 (fun i => ln r p (31 + i)) 62)))).c o = twi (TW.win (TW.seqR r) 62) := at_old (by omega) c3
  generalize s3.new (.lst (iN (bl2 (fun i => ln r p (31 + i)) 62))) = s4 at *
  clear it em hc hc3 c3 c2 g2 g3
  have lr : lnR p r = bl2 (ln r p) 31 := by
    have := ln_win r p 0
    rw [win0 hr] at this
    rw [this]
    unfold bl2
    exact List.map_congr_left fun i _ => by rw [Nat.zero_add]
  have ad : ∀ s, gAdd (.tup (iN (lnR p r))) (.tup (iN (bl2 (fun i => ln r p (31 + i)) 62))) s = .ok (.tup (iN (bl2 (ln r p) 93))) s := fun s => by
    have big : (1000 : Nat) ≤ sizeLine := by decide
    rw [lr, gAdd_tup (by rw [iN_len, iN_len, bl2_len, bl2_len]; omega), ← List.map_append, bl2_app]
  have bb := bl2_bits (n := 93) (ln_le r p) (by decide)
  have fo : BM.Fol 2147483657 (bt (bl2 (ln r p) 93)) 93 := fun b hb => by
    rw [BM.A_bits (a' := ln r p) hb fun i hi => bl2_bt hi]
    exact TW.A_rule (ln_rec r p) b
  have f1 := follows_ok (r := bl2 (ln r p) 93) (P := 2147483657) s4 bb (by decide) (Nat.lt_of_lt_of_le (show 2147483657 < 2 ^ 32 by decide) (Nat.pow_le_pow_right (by decide) (by decide)))
  rw [bl2_len, decide_eq_true fo] at f1
  have f1 : F_follows [.tup (iN (bl2 (ln r p) 93)), .int 2147483657] s4 = .ok (.bl true) s4 := f1
  have k4 := tcls (m := "lane") c4 (by decide)
  have l4 := lane_ok c4 (by rw [wlen]; decide) hp
  have dr : ∀ m n, m + n = 93 → cutA (iN (bl2 (ln r p) 93)) (some ((m : Nat) : Int)) none = iN (bl2 (fun i => ln r p (m + i)) n) := fun m n h => by
    rw [cut_from, ← h, ← List.map_drop, bl2_drop]
  have d62 : cutA (iN (bl2 (ln r p) 93)) (some 62) none = iN (bl2 (fun i => ln r p (62 + i)) 31) := dr 62 31 rfl
  have d31 : cutA (iN (bl2 (ln r p) 93)) (some 31) none = iN (bl2 (fun i => ln r p (31 + i)) 62) := dr 31 62 rfl
  rw [ln_win] at l4
  have ne := ne_row (bl2 (fun i => ln r p (62 + i)) 31) s4
  obtain ⟨m, mz, mx⟩ := maxU_ok (r := bl2 (ln r p) 93) (by intro e; have := bl2_len (ln r p) 93; rw [e] at this; cases this)
  simp! [tp, ad]
  refine gcT_g ?_
  simp! [f1, k4, l4, d62, ne]
  refine ⟨Gb.refl _, ?_⟩
  simp! [mx]
  clear f1 l4 ne tp ad
  refine ⟨fun h0 => ?_, fun h0 => ?_⟩
  · have m0 : m = 0 := by omega
    have z := mz.mp m0
    have az : ∀ i, ln r p i = 0 := BM.rec_zero (ln_rec r p) (n := 0) fun i hi => z _ (List.mem_map.mpr ⟨0 + i, List.mem_range.mpr (by omega), rfl⟩)
    have wn := win_row hr n
    have a1 := fun s => twi_after hr hn s
    have t5 := twi_init wn s4
    have k5 := tcls (s := s4.new (twi (TW.win (TW.seqR r) n))) (m := "lane") (o := s4.n) Sto.new_at (by decide)
    have l5 := lane_ok (s := s4.new (twi (TW.win (TW.seqR r) n))) (o := s4.n) (r := TW.win (TW.seqR r) n) Sto.new_at (by rw [wlen]; decide) hp
    rw [ln_win] at l5
    have zr : bl2 (fun i => ln r p (n + i)) 31 = List.replicate 31 0 := by
      unfold bl2
      rw [List.map_congr_left (g := fun _ => 0) fun i _ => az _]
      rfl
    rw [zr] at l5
    obtain ⟨Z, hZ⟩ : ∃ Z, Z = List.replicate 31 0 := ⟨_, rfl⟩
    rw [← hZ] at l5
    have mv : ∀ s, gMulV (.tup [.int 0]) (.int 31) s = .ok (.tup (iN Z)) s := fun s => by rw [hZ]; exact mulVk (n := 31) (k := 0) s (by decide)
    have eq := fun s => eq_row Z Z s
    rw [decide_eq_true rfl] at eq
    simp! [a1, t5, k5, l5, mv, eq]
    exact g4.new
  · have nz : ∃ i, ln r p i ≠ 0 := Classical.byContradiction fun c => h0 (by
      rw [mz.mpr fun x hx => by
        obtain ⟨i, _, rfl⟩ := List.mem_map.mp hx
        exact Classical.byContradiction fun d => c ⟨i, d⟩]
      rfl)
    have s1' := fun s => short_ok s bb
    have e93 := ln_least (r := r) (p := p) (m := 0) (n := 93) nz (by decide) (by decide)
    have f0 : (fun i => ln r p (0 + i)) = ln r p := funext fun i => by rw [Nat.zero_add]
    rw [f0] at e93
    have b62 := bl2_bits (f := fun i => ln r p (31 + i)) (n := 62) (fun i => ln_le _ _ _) (by decide)
    have s2' := fun s => rlen_ok s b62
    have e62 := ln_least (r := r) (p := p) (m := 31) (n := 62) nz (by decide) (by decide)
    simp only [bl2_len, e93] at s1'
    simp only [bl2_len, e62] at s2'
    have s1' : ∀ s, F_shortest_rule [.tup (iN (bl2 (ln r p) 93))] s = .ok (.int 2147483657) s := s1'
    have s2' : ∀ s, F_rule_length [.tup (iN (bl2 (fun i => ln r p (31 + i)) 62))] s = .ok (.int 31) s := fun s => (s2' s).trans (by rw [show TW.len 2147483657 = 32 from TW.len_rule]; rfl)
    simp! [s1', d31, s2', z2]
    refine post_eqL (at_old (Nat.lt_succ_self _) Sto.new_at) Sto.new_at (fun x hx => flat_d (.inl (by
      simp only [List.mem_cons, List.not_mem_nil, or_false] at hx
      rcases hx with rfl | rfl
      · exact ⟨_, rfl⟩
      · exact ⟨_, rfl⟩))) ?_
    simp! [eq_self]
    exact g4.new.new
end Pf
set_option Elab.async false
set_option linter.all false
set_option maxRecDepth 100000
set_option maxHeartbeats 1000000
set_option exponentiation.threshold 3000
namespace Pf
open PySem Ab
local macro_rules | `(tactic| simp! [$xs,*]) => `(tactic| try simp (config := {maxSteps := 1000000}) only [k_bind, k_Kb, k_st, k_Kst, k_Rst, k_thn, k_loop, k_fn, k_forget, k_clr, k_noX, k_try, k_stuck, k_Astuck, d_thn_nx, d_thn_bk, d_thn_ct, d_thn_rt, d_thn_er, d_lp_nx, d_lp_bk, d_lp_ct, d_lp_rt, d_lp_er, d_fg_nx, d_fg_bk, d_fg_ct, d_fg_rt, d_fg_er, d_cl_nx, d_cl_bk, d_cl_ct, d_cl_rt, d_cl_er, d_tr_nx, d_tr_bk, d_tr_ct, d_tr_rt, d_tr_er, d_nX_nx, d_nX_bk, d_nX_ct, d_nX_rt, d_nX_er, d_fn_nx, d_fn_bk, d_fn_ct, d_fn_rt, d_fn_er, A_nx, A_bk, A_ct, A_rt, A_err, post_ok, post_err, post_noErr, e_op, e_opK, e_un, e_cb, e_nil, e_c, e_cons, e_consK, e_consK2, e_and, e_or, e_andK, e_orK, e_not, e_notK, e_test, e_testK, e_tand, e_tandK, e_tor, e_torK, e_tnot, e_tnotK, e_yes, e_if, e_ifK, e_ch, e_chK1, e_chK2, e_chK3, e_tup, e_tupK, e_lst, e_lstK, e_newL, e_call, e_callK, e_meth, e_methK, e_methK2, e_prop, e_propK, e_make, e_makeK, e_makeK2, e_makeV, e_sm, e_smK, e_smK2, e_cm, e_cmK, e_cmK2, e_sl, e_slK1, e_slK2, e_slK3, e_part, e_partK, e_nopart, e_rev, e_bm, e_bmK, e_pr, e_pr0, e_prK1, e_prK2, e_prK3, e_disp, e_dnew, e_own, e_ownK, e_lc, e_lcK, e_iter, e_rng1, e_rng1K, e_rng2, e_rng2K, e_enum, s_drop, s_dropK, s_ret, s_retK, s_retN, s_next, s_break, s_cont, s_seq, s_if, s_ifK, s_asg, s_asgK, s_name, s_par, s_parK, s_par3, s_parK3, s_gnil, s_gcons, s_gtup, s_for, s_forK, s_raise, s_raiseK, s_sf, s_sfK1, s_sfK2, s_dp, s_dpK1, s_dpK2, s_dpK3, s_forget, s_def, s_fld, e_enumU, e_enumUT, eq_self, beq_self_eq_true, k_grd, k_grdS, k_ite, k_Aite, true_implies, false_implies, implies_true, List.map_cons, List.map_nil, List.nil_append, List.cons_append, List.append_nil, List.replicate_succ, List.replicate_zero, List.getElem?_cons_zero, List.getElem?_cons_succ, List.length_cons, List.length_nil, List.set_cons_zero, List.set_cons_succ, ↓reduceIte, ↓reduceDIte, Nat.reduceAdd, Nat.reduceLeDiff, Nat.reduceEqDiff, Nat.zero_add, if_true, if_false, aVar, gMinus_int, gLt_int, gLe_int, gGt_int, gGe_int, gEq_int, gNe_int, gEq_str, gNe_str, gEq_bl, gNe_bl, gXor_int, gAnd_int, gOr_int, gAdd_int, gIsN_non, gNotN_non, gIsB_bl, gNotB_bl, gNeg_int, gLen_tup, gLen_scr, gMax2_int, gMin2_int, gBits_int, gSl_tup, gSl_scr, Bool.not_true, Bool.not_false, Bool.true_eq_false, Bool.false_eq_true, Bool.true_and, Bool.false_and, Bool.and_true, Bool.and_false, Bool.true_or, Bool.false_or, decide_true, decide_false, and_self, and_true, true_and, and_false, false_and, not_true_eq_false, not_false_eq_true, reduceCtorEq, kz, z1, z2, z3, z4, z5, z6, z7, z8, z9, z10, z11, z12, z13, z14, z15, z16, isCls, isNon, aForget, aHand, toKey, keysA, iterOf_tup, iterOf_scr, oNx_some, noErr_ok, decide_eq_true_eq, decide_eq_false_iff_not, Sto.new_n, Sto.set_n, Sto.set_at, Sto.new_at, Nat.zero_le, aMakeV, Cl_non, Cl_bl, Cl_int, Cl_str, Cl_cls, Cl_obj, Cl_tup, ClL_nil, ClL_cons, $xs,*])
local macro_rules | `(tactic| simp! only [$xs,*]) => `(tactic| simp only [e_op, e_opK, e_un, e_cb, e_nil, e_c, e_cons, e_consK, e_consK2, e_and, e_or, e_andK, e_orK, e_not, e_notK, e_test, e_testK, e_tand, e_tandK, e_tor, e_torK, e_tnot, e_tnotK, e_yes, e_if, e_ifK, e_ch, e_chK1, e_chK2, e_chK3, e_tup, e_tupK, e_lst, e_lstK, e_newL, e_call, e_callK, e_meth, e_methK, e_methK2, e_prop, e_propK, e_make, e_makeK, e_makeK2, e_makeV, e_sm, e_smK, e_smK2, e_cm, e_cmK, e_cmK2, e_sl, e_slK1, e_slK2, e_slK3, e_part, e_partK, e_nopart, e_rev, e_bm, e_bmK, e_pr, e_pr0, e_prK1, e_prK2, e_prK3, e_disp, e_dnew, e_own, e_ownK, e_lc, e_lcK, e_iter, e_rng1, e_rng1K, e_rng2, e_rng2K, e_enum, s_drop, s_dropK, s_ret, s_retK, s_retN, s_next, s_break, s_cont, s_seq, s_if, s_ifK, s_asg, s_asgK, s_name, s_par, s_parK, s_par3, s_parK3, s_gnil, s_gcons, s_gtup, s_for, s_forK, s_raise, s_raiseK, s_sf, s_sfK1, s_sfK2, s_dp, s_dpK1, s_dpK2, s_dpK3, s_forget, s_def, s_fld, e_enumU, e_enumUT, eq_self, beq_self_eq_true, true_implies, false_implies, implies_true, List.map_cons, List.map_nil, List.nil_append, List.cons_append, List.append_nil, List.replicate_succ, List.replicate_zero, List.getElem?_cons_zero, List.getElem?_cons_succ, List.length_cons, List.length_nil, List.set_cons_zero, List.set_cons_succ, ↓reduceIte, ↓reduceDIte, Nat.reduceAdd, Nat.reduceLeDiff, Nat.reduceEqDiff, Nat.zero_add, if_true, if_false, aVar, gMinus_int, gLt_int, gLe_int, gGt_int, gGe_int, gEq_int, gNe_int, gEq_str, gNe_str, gEq_bl, gNe_bl, gXor_int, gAnd_int, gOr_int, gAdd_int, gIsN_non, gNotN_non, gIsB_bl, gNotB_bl, gNeg_int, gLen_tup, gLen_scr, gMax2_int, gMin2_int, gBits_int, gSl_tup, gSl_scr, Bool.not_true, Bool.not_false, Bool.true_eq_false, Bool.false_eq_true, Bool.true_and, Bool.false_and, Bool.and_true, Bool.and_false, Bool.true_or, Bool.false_or, decide_true, decide_false, and_self, and_true, true_and, and_false, false_and, not_true_eq_false, not_false_eq_true, reduceCtorEq, kz, z1, z2, z3, z4, z5, z6, z7, z8, z9, z10, z11, z12, z13, z14, z15, z16, isCls, isNon, aForget, aHand, toKey, keysA, iterOf_tup, iterOf_scr, oNx_some, noErr_ok, decide_eq_true_eq, decide_eq_false_iff_not, Sto.new_n, Sto.set_n, Sto.set_at, Sto.new_at, Nat.zero_le, aMakeV, Cl_non, Cl_bl, Cl_int, Cl_str, Cl_cls, Cl_obj, Cl_tup, ClL_nil, ClL_cons, grd_pos, grdS_pos, Res.bind_ok, Res.bind_err, Res.st_ok, Res.st_err, SRes.thn_nx, SRes.thn_rt, SRes.thn_err, SRes.fn_rt, SRes.fn_nx, SRes.fn_err, SRes.loop_nx, SRes.loop_rt, SRes.loop_err, SRes.loop_ct, SRes.loop_bk, SRes.forget_nx, SRes.forget_rt, SRes.forget_err, SRes.clr_nx, SRes.clr_rt, SRes.noX_nx, SRes.noX_rt, aTry, sizeLine_ge, $xs,*])
theorem andN (a b : Nat) : Builtin.bitAnd (a : Int) (b : Int) = ((a &&& b : Nat) : Int) := by
  have h1 : (0 : Int) ≤ (a : Int) := Int.natCast_nonneg a
  have h2 : (0 : Int) ≤ (b : Int) := Int.natCast_nonneg b
  simp [Builtin.bitAnd, h1, h2]
/-- one lane of a row, the others 0 -/
def al (p : Nat) (r : List Nat) : List Nat := r.map fun w => w &&& 2 ^ p
theorem al_rec (r : List Nat) (p : Nat) : TW.Rec fun i => TW.seqR r i &&& 2 ^ p := BM.Rec.map (TW.seqR_rec r) (fun x => x &&& 2 ^ p) fun x y => Nat.and_xor_distrib_right
theorem al_win (u : Nat → Nat) (n p : Nat) : al p (TW.win u n) = TW.win (fun i => u i &&& 2 ^ p) n := by
  unfold al TW.win
  rw [List.map_map]
  rfl
theorem al_row {r : List Nat} (hr : RowT r) (p : Nat) : al p r = TW.win (fun i => TW.seqR r i &&& 2 ^ p) 0 := by
  conv => lhs; rw [← win0 hr]
  exact al_win _ _ _
theorem al_seq {r : List Nat} (hr : RowT r) (p i : Nat) : TW.seqR (al p r) i = TW.seqR r i &&& 2 ^ p := by
  rw [al_row hr, TW.seqR_win (al_rec r p), Nat.zero_add]
theorem al_after {r : List Nat} (hr : RowT r) (p n : Nat) : al p (TW.win (TW.seqR r) n) = TW.win (TW.seqR (al p r)) n := by
  rw [al_win]
  congr 1
  funext i
  exact (al_seq hr p i).symm
theorem al_rowT {r : List Nat} {p : Nat} (hr : RowT r) (nz : ∃ x ∈ al p r, x ≠ 0) : RowT (al p r) := by
  refine ⟨by unfold al; rw [List.length_map, hr.len], fun x hx => ?_, nz⟩
  obtain ⟨y, hy, rfl⟩ := List.mem_map.mp hx
  exact Nat.lt_of_le_of_lt Nat.and_le_left (hr.lt y hy)
theorem lalone_ok {r : List Nat} {p n : Nat} (s : Sto) (hr : RowT r) (hp : p < 32) (hn : n ≤ 18446744073709551616) : F__law_alone_right [.tup (iN r), .int (p : Nat), .int (n : Nat)] s = .ok (.bl true) s := by
  refine gc0' ?_
  have b31 : (al p r).length = 31 := by unfold al; rw [List.length_map, hr.len]
  obtain ⟨m, mz, mx⟩ := maxU_ok (r := al p r) (by rintro e; rw [e] at b31; cases b31)
  have sl := fun s => shl_one (k := p) s (by omega)
  simp! [B__law_alone_right]
  refine lc_map (L := r) (φ := fun n => .int (n : Nat)) (fun w => .int ((w &&& 2 ^ p : Nat) : Int)) (by rw [hr.len]; decide) (fun _ _ => trivial) (fun w hw s2 g2 => ⟨rfl, ?_⟩) ?_
  · simp! only [wipeA, sl, andN]
  rw [show (r.map fun w => AV.int ((w &&& 2 ^ p : Nat) : Int)) = iN (al p r) by simp only [iN, al, List.map_map]; rfl]
  have tp := gTuple_seq (s := s.new (.lst (iN (al p r)))) (x := .obj s.n) (seqOf_obj Sto.new_at)
  have g1 : Gb s (s.new (.lst (iN (al p r)))) := (Gb.refl s).new
  generalize s.new (.lst (iN (al p r))) = s1 at *
  simp! [tp, mx]
  refine ⟨fun _ => g1, fun h0 => ?_⟩
  have m0 : m ≠ 0 := fun c => h0 (by rw [c]; rfl)
  have nz : ∃ x ∈ al p r, x ≠ 0 := Classical.byContradiction fun c => m0 (mz.mpr fun x hx => Classical.byContradiction fun d => c ⟨x, hx, d⟩)
  have ha := al_rowT hr nz
  have a1 := fun s => twi_after hr hn s
  have a2 := fun s => twi_after ha hn s
  have e1 := al_after hr p n
  rw [← e1] at a2
  simp! [a1, a2]
  generalize hZ : TW.win (TW.seqR r) n = Z at *
  have zl : Z.length = 31 := by rw [← hZ]; exact wlen n
  refine lc_map (L := Z) (φ := fun n => .int (n : Nat)) (fun w => .int ((w &&& 2 ^ p : Nat) : Int)) (by rw [zl]; decide) (fun _ _ => trivial) (fun w hw s2 g2 => ⟨rfl, ?_⟩) ?_
  · simp! only [wipeA, sl, andN]
  rw [show (Z.map fun w => AV.int ((w &&& 2 ^ p : Nat) : Int)) = iN (al p Z) by simp only [iN, al, List.map_map]; rfl]
  have tp2 := gTuple_seq (s := s1.new (.lst (iN (al p Z)))) (x := .obj s1.n) (seqOf_obj Sto.new_at)
  have eq := fun s => eq_row (al p Z) (al p Z) s
  rw [decide_eq_true rfl] at eq
  simp! [tp2, eq]
  exact g1.new
end Pf
set_option Elab.async false
set_option linter.all false
set_option maxRecDepth 100000
set_option maxHeartbeats 1000000
set_option exponentiation.threshold 3000
namespace Pf
open PySem Ab
local macro_rules | `(tactic| simp! [$xs,*]) => `(tactic| try simp (config := {maxSteps := 1000000}) only [k_bind, k_Kb, k_st, k_Kst, k_Rst, k_thn, k_loop, k_fn, k_forget, k_clr, k_noX, k_try, k_stuck, k_Astuck, d_thn_nx, d_thn_bk, d_thn_ct, d_thn_rt, d_thn_er, d_lp_nx, d_lp_bk, d_lp_ct, d_lp_rt, d_lp_er, d_fg_nx, d_fg_bk, d_fg_ct, d_fg_rt, d_fg_er, d_cl_nx, d_cl_bk, d_cl_ct, d_cl_rt, d_cl_er, d_tr_nx, d_tr_bk, d_tr_ct, d_tr_rt, d_tr_er, d_nX_nx, d_nX_bk, d_nX_ct, d_nX_rt, d_nX_er, d_fn_nx, d_fn_bk, d_fn_ct, d_fn_rt, d_fn_er, A_nx, A_bk, A_ct, A_rt, A_err, post_ok, post_err, post_noErr, e_op, e_opK, e_un, e_cb, e_nil, e_c, e_cons, e_consK, e_consK2, e_and, e_or, e_andK, e_orK, e_not, e_notK, e_test, e_testK, e_tand, e_tandK, e_tor, e_torK, e_tnot, e_tnotK, e_yes, e_if, e_ifK, e_ch, e_chK1, e_chK2, e_chK3, e_tup, e_tupK, e_lst, e_lstK, e_newL, e_call, e_callK, e_meth, e_methK, e_methK2, e_prop, e_propK, e_make, e_makeK, e_makeK2, e_makeV, e_sm, e_smK, e_smK2, e_cm, e_cmK, e_cmK2, e_sl, e_slK1, e_slK2, e_slK3, e_part, e_partK, e_nopart, e_rev, e_bm, e_bmK, e_pr, e_pr0, e_prK1, e_prK2, e_prK3, e_disp, e_dnew, e_own, e_ownK, e_lc, e_lcK, e_iter, e_rng1, e_rng1K, e_rng2, e_rng2K, e_enum, s_drop, s_dropK, s_ret, s_retK, s_retN, s_next, s_break, s_cont, s_seq, s_if, s_ifK, s_asg, s_asgK, s_name, s_par, s_parK, s_par3, s_parK3, s_gnil, s_gcons, s_gtup, s_for, s_forK, s_raise, s_raiseK, s_sf, s_sfK1, s_sfK2, s_dp, s_dpK1, s_dpK2, s_dpK3, s_forget, s_def, s_fld, e_enumU, e_enumUT, eq_self, beq_self_eq_true, k_grd, k_grdS, k_ite, k_Aite, true_implies, false_implies, implies_true, List.map_cons, List.map_nil, List.nil_append, List.cons_append, List.append_nil, List.replicate_succ, List.replicate_zero, List.getElem?_cons_zero, List.getElem?_cons_succ, List.length_cons, List.length_nil, List.set_cons_zero, List.set_cons_succ, ↓reduceIte, ↓reduceDIte, Nat.reduceAdd, Nat.reduceLeDiff, Nat.reduceEqDiff, Nat.zero_add, if_true, if_false, aVar, gMinus_int, gLt_int, gLe_int, gGt_int, gGe_int, gEq_int, gNe_int, gEq_str, gNe_str, gEq_bl, gNe_bl, gXor_int, gAnd_int, gOr_int, gAdd_int, gIsN_non, gNotN_non, gIsB_bl, gNotB_bl, gNeg_int, gLen_tup, gLen_scr, gMax2_int, gMin2_int, gBits_int, gSl_tup, gSl_scr, Bool.not_true, Bool.not_false, Bool.true_eq_false, Bool.false_eq_true, Bool.true_and, Bool.false_and, Bool.and_true, Bool.and_false, Bool.true_or, Bool.false_or, decide_true, decide_false, and_self, and_true, true_and, and_false, false_and, not_true_eq_false, not_false_eq_true, reduceCtorEq, kz, z1, z2, z3, z4, z5, z6, z7, z8, z9, z10, z11, z12, z13, z14, z15, z16, isCls, isNon, aForget, aHand, toKey, keysA, iterOf_tup, iterOf_scr, oNx_some, noErr_ok, decide_eq_true_eq, decide_eq_false_iff_not, Sto.new_n, Sto.set_n, Sto.set_at, Sto.new_at, Nat.zero_le, aMakeV, Cl_non, Cl_bl, Cl_int, Cl_str, Cl_cls, Cl_obj, Cl_tup, ClL_nil, ClL_cons, $xs,*])
theorem rowA : RowT (List.replicate 31 2) := ⟨by simp, fun x hx => by rw [List.eq_of_mem_replicate hx]; decide, 2, by simp, by decide⟩
theorem rowB : RowT ([2] ++ List.replicate 30 0) := ⟨by simp, fun x hx => by
  rcases List.mem_append.mp hx with h | h
  · rw [List.mem_singleton.mp h]; decide
  · rw [List.eq_of_mem_replicate h]; decide, 2, by simp, by decide⟩
theorem law_true (ns : List Int) (hl : ns.length ≤ 63) (hbit : ∀ z ∈ ns, Builtin.Int.intBits z ≤ 1048576) : ∃ s', F_law [.scr (ns.map .int)] s0 = .ok (.bl true) s' := by
  refine ok_of_post ?_
  unfold F_law
  have z00 : ((0 : Nat) ≤ sizeLine) = True := eq_true (Nat.zero_le _)
  have ln : ∀ s, gLen [.scr (ns.map .int)] s = .ok (.int (ns.length : Nat)) s := fun s => by rw [gLen_scr, List.length_map]
  obtain ⟨K, hK⟩ : ∃ K : Nat, ((1 : Int) + (if ((ns.length : Nat) : Int) < 4 then ((ns.length : Nat) : Int) else 4)) = (K : Nat) := ⟨(1 + (if ((ns.length : Nat) : Int) < 4 then ((ns.length : Nat) : Int) else 4)).toNat, by split <;> omega⟩
  have K5 : K ≤ 5 := by split at hK <;> omega
  have rg : -(2 ^ 62) ≤ ((K : Nat) : Int) ∧ ((K : Nat) : Int) < 2 ^ 62 := by omega
  have tn : ((K : Nat) : Int).toNat = K := by omega
  have sh40 : ∀ s, gShl (.int 1) (.int 40) s = .ok (.int 1099511627776) s := fun s => (gShl_int ⟨by decide, by decide⟩).trans rfl
  simp! [B_law]
  refine begun_post (by omega) fun d g s1 g1 d0 d1 g0 gg D => ?_
  have S0 : Inv2 d g 0 s1 s1 := Inv2.start d1 gg D
  simp! [ln, hK, rg, tn]
  refine for_rng (n := K) (fun i σ s' => Inv2 d g (100 * i) s1 s' ∧ ∃ x2 x3 x4 x5 x6, σ = [some (.scr (ns.map .int)), some (.obj d), x2, x3, x4, x5, x6]) ⟨S0, _, _, _, _, _, rfl⟩ ?_ ?_
  · rintro i σ s' hi ⟨S1, x2, x3, x4, x5, x6, rfl⟩
    refine ⟨trivial, ?_⟩
    simp! [eq_self]
    refine wi2_start S1 (by omega) fun r s2 hr S2 g2 => ?_
    simp! [eq_self]
    refine wi2_start S2 (by omega) fun q s3 hq S3 g3 => ?_
    simp! [sh40]
    refine wi_next S3 (by omega) (by decide) (by decide) fun v4 s4 a4 b4 S4 g4 => ?_
    obtain ⟨n, rfl⟩ := Int.eq_ofNat_of_zero_le a4
    have hn : n ≤ 18446744073709551616 := by omega
    simp! [eq_self]
    refine wi_next S4 (by omega) (by decide) (by decide) fun v5 s5 a5 b5 S5 g5 => ?_
    obtain ⟨p, rfl⟩ := Int.eq_ofNat_of_zero_le a5
    have hp : p < 32 := by omega
    have e1 := fun s => lsums_ok s hr hq hn
    have e2 := fun s => llane_ok s hr hp hn
    have e3 := fun s => llane_ok (p := p % 8) s hq (by omega) hn
    have e4 := fun s => lalone_ok s hr hp hn
    have m8 : ∀ s, gMod (.int (p : Nat)) (.int 8) s = .ok (.int ((p % 8 : Nat) : Int)) s := fun s => gMod_int (by decide)
    simp! [eq_self]
    refine gcT_g ?_
    simp! [e1, e2]
    refine ⟨Gb.refl _, ?_⟩
    refine gcT_g ?_
    simp! [e3, e4, m8]
    exact ⟨Gb.refl _, S5.mono (by omega), _, _, _, _, _, rfl⟩
  · rintro σ s' ⟨S1, x2, x3, x4, x5, x6, rfl⟩
    refine ⟨trivial, ?_⟩
    obtain ⟨A, hA⟩ : ∃ A, A = List.replicate 31 2 := ⟨_, rfl⟩
    obtain ⟨B, hB⟩ : ∃ B, B = [2] ++ List.replicate 30 0 := ⟨_, rfl⟩
    obtain ⟨Z, hZ⟩ : ∃ Z, Z = List.replicate 30 0 := ⟨_, rfl⟩
    have rA : RowT A := hA ▸ rowA
    have rB : RowT B := hB ▸ rowB
    have m1 : ∀ s, gMulV (.tup [.int 2]) (.int 31) s = .ok (.tup (iN A)) s := fun s => by rw [hA]; exact mulVk (n := 31) (k := 2) s (by decide)
    have m2 : ∀ s, gMulV (.tup [.int 0]) (.int 30) s = .ok (.tup (iN Z)) s := fun s => by rw [hZ]; exact mulVk (n := 30) (k := 0) s (by decide)
    have ad : ∀ s, gAdd (.tup [.int 2]) (.tup (iN Z)) s = .ok (.tup (iN B)) s := fun s => by
      have big : (1000 : Nat) ≤ sizeLine := by decide
      rw [gAdd_tup (by rw [iN_len, hZ]; simp; omega), hB, ← hZ]
      rfl
    have e1 : ∀ s, F__law_lane_right [.tup (iN A), .int 0, .int 5] s = .ok (.bl true) s := fun s => llane_ok (p := 0) (n := 5) s rA (by decide) (by decide)
    have e2 : ∀ s, F__law_lane_right [.tup (iN B), .int 1, .int 5] s = .ok (.bl true) s := fun s => llane_ok (p := 1) (n := 5) s rB (by decide) (by decide)
    simp! [m1, m2, ad, e1, e2]
end Pf
set_option Elab.async false
set_option linter.all false
set_option maxRecDepth 100000
set_option maxHeartbeats 4000000
set_option exponentiation.threshold 3000
namespace Pf
open PySem PySem.Spec PyProof.Rows L2 Ab
def kap (C_Twisted C_DrawError C_BadWord C_BadState C_BadSteps C_BadNumber C_BadPolynomial C_BadBits : Addr) : String → Addr := fun n => if n = "Twisted" then C_Twisted else if n = "DrawError" then C_DrawError else if n = "BadWord" then C_BadWord else if n = "BadState" then C_BadState else if n = "BadSteps" then C_BadSteps else if n = "BadNumber" then C_BadNumber else if n = "BadPolynomial" then C_BadPolynomial else if n = "BadBits" then C_BadBits else 0
theorem txt_kap {K : PySem.W.Frag} {mg : Str → Option Value} {C_Twisted C_DrawError C_BadWord C_BadState C_BadSteps C_BadNumber C_BadPolynomial C_BadBits : Addr} (T : Txt K mg C_Twisted C_DrawError C_BadWord C_BadState C_BadSteps C_BadNumber C_BadPolynomial C_BadBits) : Txt K mg ((kap C_Twisted C_DrawError C_BadWord C_BadState C_BadSteps C_BadNumber C_BadPolynomial C_BadBits) "Twisted") ((kap C_Twisted C_DrawError C_BadWord C_BadState C_BadSteps C_BadNumber C_BadPolynomial C_BadBits) "DrawError") ((kap C_Twisted C_DrawError C_BadWord C_BadState C_BadSteps C_BadNumber C_BadPolynomial C_BadBits) "BadWord") ((kap C_Twisted C_DrawError C_BadWord C_BadState C_BadSteps C_BadNumber C_BadPolynomial C_BadBits) "BadState") ((kap C_Twisted C_DrawError C_BadWord C_BadState C_BadSteps C_BadNumber C_BadPolynomial C_BadBits) "BadSteps") ((kap C_Twisted C_DrawError C_BadWord C_BadState C_BadSteps C_BadNumber C_BadPolynomial C_BadBits) "BadNumber") ((kap C_Twisted C_DrawError C_BadWord C_BadState C_BadSteps C_BadNumber C_BadPolynomial C_BadBits) "BadPolynomial") ((kap C_Twisted C_DrawError C_BadWord C_BadState C_BadSteps C_BadNumber C_BadPolynomial C_BadBits) "BadBits")  := by
  have e0 : (kap C_Twisted C_DrawError C_BadWord C_BadState C_BadSteps C_BadNumber C_BadPolynomial C_BadBits) "Twisted" = C_Twisted := by unfold kap; simp
  have e1 : (kap C_Twisted C_DrawError C_BadWord C_BadState C_BadSteps C_BadNumber C_BadPolynomial C_BadBits) "DrawError" = C_DrawError := by unfold kap; simp
  have e2 : (kap C_Twisted C_DrawError C_BadWord C_BadState C_BadSteps C_BadNumber C_BadPolynomial C_BadBits) "BadWord" = C_BadWord := by unfold kap; simp
  have e3 : (kap C_Twisted C_DrawError C_BadWord C_BadState C_BadSteps C_BadNumber C_BadPolynomial C_BadBits) "BadState" = C_BadState := by unfold kap; simp
  have e4 : (kap C_Twisted C_DrawError C_BadWord C_BadState C_BadSteps C_BadNumber C_BadPolynomial C_BadBits) "BadSteps" = C_BadSteps := by unfold kap; simp
  have e5 : (kap C_Twisted C_DrawError C_BadWord C_BadState C_BadSteps C_BadNumber C_BadPolynomial C_BadBits) "BadNumber" = C_BadNumber := by unfold kap; simp
  have e6 : (kap C_Twisted C_DrawError C_BadWord C_BadState C_BadSteps C_BadNumber C_BadPolynomial C_BadBits) "BadPolynomial" = C_BadPolynomial := by unfold kap; simp
  have e7 : (kap C_Twisted C_DrawError C_BadWord C_BadState C_BadSteps C_BadNumber C_BadPolynomial C_BadBits) "BadBits" = C_BadBits := by unfold kap; simp
  rw [e0, e1, e2, e3, e4, e5, e6, e7]
  exact T
theorem law_mk {l : PySem.W.OpenLaw} {w : World} {K : PySem.W.Frag} {mg : Str → Option Value} {fa C_Twisted C_DrawError C_BadWord C_BadState C_BadSteps C_BadNumber C_BadPolynomial C_BadBits  : Addr} {h : Heap} (hmg : mg "law" = some (.ref fa)) (T : Txt K mg C_Twisted C_DrawError C_BadWord C_BadState C_BadSteps C_BadNumber C_BadPolynomial C_BadBits) : Gx.LawF l w K 9 "_law_script" mg fa h := by
  have T := txt_kap T
  obtain ⟨f, fd, F, b, hb⟩ := T.d_law
  have e := hmg.symm.trans F.mgf
  cases e
  exact ⟨fd, [], spLaw K, fun p hp => (nomatch hp), fun p hp => (nomatch hp), fun p hp => (nomatch hp), hb, fun H a ns hl hbit _ hS => ⟨a, ns, rfl, hS, fun p hp => (nomatch hp), law_true ns hl hbit, fun _ => rfl⟩, fun base _ _ _ => fn_law T F⟩
set_option maxHeartbeats 4000000 in
theorem txt_mk {K : PySem.W.Frag} {h : Heap} {mg : Str → Option Value} {f_BadWord___init__ f_BadState___init__ f_BadSteps___init__ f_BadNumber___init__ f_BadPolynomial___init__ f_BadBits___init__ f_is_integer f_is_word f_need_word f_own_tempered f_tempered f_undo_factor f_untempered f_s3_is_whole f_is_polynomial f_s3_need f_s3_need_modulus f_s3_product f_s3_parts f_s3_power f_power_of f_s3_need_bits f_follows f_shortest_rule f_rule_length f_need_steps f_s3_need_row f_s3_moved f_Twisted___init__ f_Twisted_state_after f_Twisted_state f_Twisted_next_word f_Twisted_lane f__law_begun f__law_next f__law_start f__law_joined f__law_sums_right f__law_lane_right f__law_alone_right f_law p_Twisted_state_after p_Twisted_state C_Twisted C_DrawError C_BadWord C_BadState C_BadSteps C_BadNumber C_BadPolynomial C_BadBits : Addr} {od_BadWord___init__ an_BadWord___init__ od_BadState___init__ an_BadState___init__ od_BadSteps___init__ an_BadSteps___init__ od_BadNumber___init__ an_BadNumber___init__ od_BadPolynomial___init__ an_BadPolynomial___init__ od_BadBits___init__ an_BadBits___init__ od_is_integer an_is_integer od_is_word an_is_word od_need_word an_need_word od_own_tempered an_own_tempered od_tempered an_tempered od_undo_factor an_undo_factor od_untempered an_untempered od_s3_is_whole an_s3_is_whole od_is_polynomial an_is_polynomial od_s3_need an_s3_need od_s3_need_modulus an_s3_need_modulus od_s3_product an_s3_product od_s3_parts an_s3_parts od_s3_power an_s3_power od_power_of an_power_of od_s3_need_bits an_s3_need_bits od_follows an_follows od_shortest_rule an_shortest_rule od_rule_length an_rule_length od_need_steps an_need_steps od_s3_need_row an_s3_need_row od_s3_moved an_s3_moved od_Twisted___init__ an_Twisted___init__ od_Twisted_state_after an_Twisted_state_after od_Twisted_state an_Twisted_state od_Twisted_next_word an_Twisted_next_word od_Twisted_lane an_Twisted_lane od__law_begun an__law_begun od__law_next an__law_next od__law_start an__law_start od__law_joined an__law_joined od__law_sums_right an__law_sums_right od__law_lane_right an__law_lane_right od__law_alone_right an__law_alone_right od_law an_law : Option Addr} {sl_BadWord___init__ sl_BadState___init__ sl_BadSteps___init__ sl_BadNumber___init__ sl_BadPolynomial___init__ sl_BadBits___init__ sl_is_integer sl_is_word sl_need_word sl_own_tempered sl_tempered sl_undo_factor sl_untempered sl_s3_is_whole sl_is_polynomial sl_s3_need sl_s3_need_modulus sl_s3_product sl_s3_parts sl_s3_power sl_power_of sl_s3_need_bits sl_follows sl_shortest_rule sl_rule_length sl_need_steps sl_s3_need_row sl_s3_moved sl_Twisted___init__ sl_Twisted_state_after sl_Twisted_state sl_Twisted_next_word sl_Twisted_lane sl__law_begun sl__law_next sl__law_start sl__law_joined sl__law_sums_right sl__law_lane_right sl__law_alone_right sl_law : Array (Option Value)} {oc_BadWord___init__ kV_BadWord___init__ dc_BadWord___init__ pm_BadWord___init__ cd_BadWord___init__ ct_BadWord___init__ oc_BadState___init__ kV_BadState___init__ dc_BadState___init__ pm_BadState___init__ cd_BadState___init__ ct_BadState___init__ oc_BadSteps___init__ kV_BadSteps___init__ dc_BadSteps___init__ pm_BadSteps___init__ cd_BadSteps___init__ ct_BadSteps___init__ oc_BadNumber___init__ kV_BadNumber___init__ dc_BadNumber___init__ pm_BadNumber___init__ cd_BadNumber___init__ ct_BadNumber___init__ oc_BadPolynomial___init__ kV_BadPolynomial___init__ dc_BadPolynomial___init__ pm_BadPolynomial___init__ cd_BadPolynomial___init__ ct_BadPolynomial___init__ oc_BadBits___init__ kV_BadBits___init__ dc_BadBits___init__ pm_BadBits___init__ cd_BadBits___init__ ct_BadBits___init__ oc_is_integer kV_is_integer dc_is_integer pm_is_integer cd_is_integer ct_is_integer oc_is_word kV_is_word dc_is_word pm_is_word cd_is_word ct_is_word oc_need_word kV_need_word dc_need_word pm_need_word cd_need_word ct_need_word oc_own_tempered kV_own_tempered dc_own_tempered pm_own_tempered cd_own_tempered ct_own_tempered oc_tempered kV_tempered dc_tempered pm_tempered cd_tempered ct_tempered oc_undo_factor kV_undo_factor dc_undo_factor pm_undo_factor cd_undo_factor ct_undo_factor oc_untempered kV_untempered dc_untempered pm_untempered cd_untempered ct_untempered oc_s3_is_whole kV_s3_is_whole dc_s3_is_whole pm_s3_is_whole cd_s3_is_whole ct_s3_is_whole oc_is_polynomial kV_is_polynomial dc_is_polynomial pm_is_polynomial cd_is_polynomial ct_is_polynomial oc_s3_need kV_s3_need dc_s3_need pm_s3_need cd_s3_need ct_s3_need oc_s3_need_modulus kV_s3_need_modulus dc_s3_need_modulus pm_s3_need_modulus cd_s3_need_modulus ct_s3_need_modulus oc_s3_product kV_s3_product dc_s3_product pm_s3_product cd_s3_product ct_s3_product oc_s3_parts kV_s3_parts dc_s3_parts pm_s3_parts cd_s3_parts ct_s3_parts oc_s3_power kV_s3_power dc_s3_power pm_s3_power cd_s3_power ct_s3_power oc_power_of kV_power_of dc_power_of pm_power_of cd_power_of ct_power_of oc_s3_need_bits kV_s3_need_bits dc_s3_need_bits pm_s3_need_bits cd_s3_need_bits ct_s3_need_bits oc_follows kV_follows dc_follows pm_follows cd_follows ct_follows oc_shortest_rule kV_shortest_rule dc_shortest_rule pm_shortest_rule cd_shortest_rule ct_shortest_rule oc_rule_length kV_rule_length dc_rule_length pm_rule_length cd_rule_length ct_rule_length oc_need_steps kV_need_steps dc_need_steps pm_need_steps cd_need_steps ct_need_steps oc_s3_need_row kV_s3_need_row dc_s3_need_row pm_s3_need_row cd_s3_need_row ct_s3_need_row oc_s3_moved kV_s3_moved dc_s3_moved pm_s3_moved cd_s3_moved ct_s3_moved oc_Twisted___init__ kV_Twisted___init__ dc_Twisted___init__ pm_Twisted___init__ cd_Twisted___init__ ct_Twisted___init__ oc_Twisted_state_after kV_Twisted_state_after dc_Twisted_state_after pm_Twisted_state_after cd_Twisted_state_after ct_Twisted_state_after oc_Twisted_state kV_Twisted_state dc_Twisted_state pm_Twisted_state cd_Twisted_state ct_Twisted_state oc_Twisted_next_word kV_Twisted_next_word dc_Twisted_next_word pm_Twisted_next_word cd_Twisted_next_word ct_Twisted_next_word oc_Twisted_lane kV_Twisted_lane dc_Twisted_lane pm_Twisted_lane cd_Twisted_lane ct_Twisted_lane oc__law_begun kV__law_begun dc__law_begun pm__law_begun cd__law_begun ct__law_begun oc__law_next kV__law_next dc__law_next pm__law_next cd__law_next ct__law_next oc__law_start kV__law_start dc__law_start pm__law_start cd__law_start ct__law_start oc__law_joined kV__law_joined dc__law_joined pm__law_joined cd__law_joined ct__law_joined oc__law_sums_right kV__law_sums_right dc__law_sums_right pm__law_sums_right cd__law_sums_right ct__law_sums_right oc__law_lane_right kV__law_lane_right dc__law_lane_right pm__law_lane_right cd__law_lane_right ct__law_lane_right oc__law_alone_right kV__law_alone_right dc__law_alone_right pm__law_alone_right cd__law_alone_right ct__law_alone_right oc_law kV_law dc_law pm_law cd_law ct_law : Value} {rs_Twisted_state_after rs_Twisted_state : List Value} {tk_WORDS tk_FACTOR tk_MOST_DIGITS tk_MOST_BITS tk_MOST_STEPS tk_SIZE tk_TAP tk_RULE tk_PERIOD : Tok} (X : K.In h) (G : h.Ns mainGlobals mg)
    (a_BadWord___init__ : PySem.W.findIn K (.ref C_BadWord) "__init__" = some (some (.ref f_BadWord___init__)))
    (ti_BadWord___init__ : PySem.W.typeIn K (.ref f_BadWord___init__) = some (.type "function"))
    (l_BadWord___init__ : K.lookup f_BadWord___init__ = some ⟨oc_BadWord___init__, od_BadWord___init__, .func (PySem.W.fnOf "__init__" "BadWord.__init__" (C8.fnArgs s_BadWord___init__) (C8.fnBody s_BadWord___init__) (C8.fnScope s_BadWord___init__) .none kV_BadWord___init__ dc_BadWord___init__ pm_BadWord___init__ an_BadWord___init__ cd_BadWord___init__ ct_BadWord___init__), sl_BadWord___init__⟩)
    (c_BadWord___init__ : PySem.W.codeIn K cd_BadWord___init__ "BadWord.__init__" = true)
    (a_BadState___init__ : PySem.W.findIn K (.ref C_BadState) "__init__" = some (some (.ref f_BadState___init__)))
    (ti_BadState___init__ : PySem.W.typeIn K (.ref f_BadState___init__) = some (.type "function"))
    (l_BadState___init__ : K.lookup f_BadState___init__ = some ⟨oc_BadState___init__, od_BadState___init__, .func (PySem.W.fnOf "__init__" "BadState.__init__" (C8.fnArgs s_BadState___init__) (C8.fnBody s_BadState___init__) (C8.fnScope s_BadState___init__) .none kV_BadState___init__ dc_BadState___init__ pm_BadState___init__ an_BadState___init__ cd_BadState___init__ ct_BadState___init__), sl_BadState___init__⟩)
    (c_BadState___init__ : PySem.W.codeIn K cd_BadState___init__ "BadState.__init__" = true)
    (a_BadSteps___init__ : PySem.W.findIn K (.ref C_BadSteps) "__init__" = some (some (.ref f_BadSteps___init__)))
    (ti_BadSteps___init__ : PySem.W.typeIn K (.ref f_BadSteps___init__) = some (.type "function"))
    (l_BadSteps___init__ : K.lookup f_BadSteps___init__ = some ⟨oc_BadSteps___init__, od_BadSteps___init__, .func (PySem.W.fnOf "__init__" "BadSteps.__init__" (C8.fnArgs s_BadSteps___init__) (C8.fnBody s_BadSteps___init__) (C8.fnScope s_BadSteps___init__) .none kV_BadSteps___init__ dc_BadSteps___init__ pm_BadSteps___init__ an_BadSteps___init__ cd_BadSteps___init__ ct_BadSteps___init__), sl_BadSteps___init__⟩)
    (c_BadSteps___init__ : PySem.W.codeIn K cd_BadSteps___init__ "BadSteps.__init__" = true)
    (a_BadNumber___init__ : PySem.W.findIn K (.ref C_BadNumber) "__init__" = some (some (.ref f_BadNumber___init__)))
    (ti_BadNumber___init__ : PySem.W.typeIn K (.ref f_BadNumber___init__) = some (.type "function"))
    (l_BadNumber___init__ : K.lookup f_BadNumber___init__ = some ⟨oc_BadNumber___init__, od_BadNumber___init__, .func (PySem.W.fnOf "__init__" "BadNumber.__init__" (C8.fnArgs s_BadNumber___init__) (C8.fnBody s_BadNumber___init__) (C8.fnScope s_BadNumber___init__) .none kV_BadNumber___init__ dc_BadNumber___init__ pm_BadNumber___init__ an_BadNumber___init__ cd_BadNumber___init__ ct_BadNumber___init__), sl_BadNumber___init__⟩)
    (c_BadNumber___init__ : PySem.W.codeIn K cd_BadNumber___init__ "BadNumber.__init__" = true)
    (a_BadPolynomial___init__ : PySem.W.findIn K (.ref C_BadPolynomial) "__init__" = some (some (.ref f_BadPolynomial___init__)))
    (ti_BadPolynomial___init__ : PySem.W.typeIn K (.ref f_BadPolynomial___init__) = some (.type "function"))
    (l_BadPolynomial___init__ : K.lookup f_BadPolynomial___init__ = some ⟨oc_BadPolynomial___init__, od_BadPolynomial___init__, .func (PySem.W.fnOf "__init__" "BadPolynomial.__init__" (C8.fnArgs s_BadPolynomial___init__) (C8.fnBody s_BadPolynomial___init__) (C8.fnScope s_BadPolynomial___init__) .none kV_BadPolynomial___init__ dc_BadPolynomial___init__ pm_BadPolynomial___init__ an_BadPolynomial___init__ cd_BadPolynomial___init__ ct_BadPolynomial___init__), sl_BadPolynomial___init__⟩)
    (c_BadPolynomial___init__ : PySem.W.codeIn K cd_BadPolynomial___init__ "BadPolynomial.__init__" = true)
    (a_BadBits___init__ : PySem.W.findIn K (.ref C_BadBits) "__init__" = some (some (.ref f_BadBits___init__)))
    (ti_BadBits___init__ : PySem.W.typeIn K (.ref f_BadBits___init__) = some (.type "function"))
    (l_BadBits___init__ : K.lookup f_BadBits___init__ = some ⟨oc_BadBits___init__, od_BadBits___init__, .func (PySem.W.fnOf "__init__" "BadBits.__init__" (C8.fnArgs s_BadBits___init__) (C8.fnBody s_BadBits___init__) (C8.fnScope s_BadBits___init__) .none kV_BadBits___init__ dc_BadBits___init__ pm_BadBits___init__ an_BadBits___init__ cd_BadBits___init__ ct_BadBits___init__), sl_BadBits___init__⟩)
    (c_BadBits___init__ : PySem.W.codeIn K cd_BadBits___init__ "BadBits.__init__" = true)
    (a_is_integer : PySem.W.nsIn K mainGlobals "is_integer" = some (some (.ref f_is_integer)))
    (l_is_integer : K.lookup f_is_integer = some ⟨oc_is_integer, od_is_integer, .func (PySem.W.fnOf "is_integer" "is_integer" (C8.fnArgs s_is_integer) (C8.fnBody s_is_integer) (C8.fnScope s_is_integer) .none kV_is_integer dc_is_integer pm_is_integer an_is_integer cd_is_integer ct_is_integer), sl_is_integer⟩)
    (c_is_integer : PySem.W.codeIn K cd_is_integer "is_integer" = true)
    (k_is_integer : PySem.W.keepIn K (.ref f_is_integer) = true)
    (a_is_word : PySem.W.nsIn K mainGlobals "is_word" = some (some (.ref f_is_word)))
    (l_is_word : K.lookup f_is_word = some ⟨oc_is_word, od_is_word, .func (PySem.W.fnOf "is_word" "is_word" (C8.fnArgs s_is_word) (C8.fnBody s_is_word) (C8.fnScope s_is_word) .none kV_is_word dc_is_word pm_is_word an_is_word cd_is_word ct_is_word), sl_is_word⟩)
    (c_is_word : PySem.W.codeIn K cd_is_word "is_word" = true)
    (k_is_word : PySem.W.keepIn K (.ref f_is_word) = true)
    (a_need_word : PySem.W.nsIn K mainGlobals "need_word" = some (some (.ref f_need_word)))
    (l_need_word : K.lookup f_need_word = some ⟨oc_need_word, od_need_word, .func (PySem.W.fnOf "need_word" "need_word" (C8.fnArgs s_need_word) (C8.fnBody s_need_word) (C8.fnScope s_need_word) .none kV_need_word dc_need_word pm_need_word an_need_word cd_need_word ct_need_word), sl_need_word⟩)
    (c_need_word : PySem.W.codeIn K cd_need_word "need_word" = true)
    (k_need_word : PySem.W.keepIn K (.ref f_need_word) = true)
    (a_own_tempered : PySem.W.nsIn K mainGlobals "own_tempered" = some (some (.ref f_own_tempered)))
    (l_own_tempered : K.lookup f_own_tempered = some ⟨oc_own_tempered, od_own_tempered, .func (PySem.W.fnOf "own_tempered" "own_tempered" (C8.fnArgs s_own_tempered) (C8.fnBody s_own_tempered) (C8.fnScope s_own_tempered) .none kV_own_tempered dc_own_tempered pm_own_tempered an_own_tempered cd_own_tempered ct_own_tempered), sl_own_tempered⟩)
    (c_own_tempered : PySem.W.codeIn K cd_own_tempered "own_tempered" = true)
    (k_own_tempered : PySem.W.keepIn K (.ref f_own_tempered) = true)
    (a_tempered : PySem.W.nsIn K mainGlobals "tempered" = some (some (.ref f_tempered)))
    (l_tempered : K.lookup f_tempered = some ⟨oc_tempered, od_tempered, .func (PySem.W.fnOf "tempered" "tempered" (C8.fnArgs s_tempered) (C8.fnBody s_tempered) (C8.fnScope s_tempered) .none kV_tempered dc_tempered pm_tempered an_tempered cd_tempered ct_tempered), sl_tempered⟩)
    (c_tempered : PySem.W.codeIn K cd_tempered "tempered" = true)
    (k_tempered : PySem.W.keepIn K (.ref f_tempered) = true)
    (a_undo_factor : PySem.W.nsIn K mainGlobals "undo_factor" = some (some (.ref f_undo_factor)))
    (l_undo_factor : K.lookup f_undo_factor = some ⟨oc_undo_factor, od_undo_factor, .func (PySem.W.fnOf "undo_factor" "undo_factor" (C8.fnArgs s_undo_factor) (C8.fnBody s_undo_factor) (C8.fnScope s_undo_factor) .none kV_undo_factor dc_undo_factor pm_undo_factor an_undo_factor cd_undo_factor ct_undo_factor), sl_undo_factor⟩)
    (c_undo_factor : PySem.W.codeIn K cd_undo_factor "undo_factor" = true)
    (k_undo_factor : PySem.W.keepIn K (.ref f_undo_factor) = true)
    (a_untempered : PySem.W.nsIn K mainGlobals "untempered" = some (some (.ref f_untempered)))
    (l_untempered : K.lookup f_untempered = some ⟨oc_untempered, od_untempered, .func (PySem.W.fnOf "untempered" "untempered" (C8.fnArgs s_untempered) (C8.fnBody s_untempered) (C8.fnScope s_untempered) .none kV_untempered dc_untempered pm_untempered an_untempered cd_untempered ct_untempered), sl_untempered⟩)
    (c_untempered : PySem.W.codeIn K cd_untempered "untempered" = true)
    (k_untempered : PySem.W.keepIn K (.ref f_untempered) = true)
    (a_s3_is_whole : PySem.W.nsIn K mainGlobals "s3_is_whole" = some (some (.ref f_s3_is_whole)))
    (l_s3_is_whole : K.lookup f_s3_is_whole = some ⟨oc_s3_is_whole, od_s3_is_whole, .func (PySem.W.fnOf "s3_is_whole" "s3_is_whole" (C8.fnArgs s_s3_is_whole) (C8.fnBody s_s3_is_whole) (C8.fnScope s_s3_is_whole) .none kV_s3_is_whole dc_s3_is_whole pm_s3_is_whole an_s3_is_whole cd_s3_is_whole ct_s3_is_whole), sl_s3_is_whole⟩)
    (c_s3_is_whole : PySem.W.codeIn K cd_s3_is_whole "s3_is_whole" = true)
    (k_s3_is_whole : PySem.W.keepIn K (.ref f_s3_is_whole) = true)
    (a_is_polynomial : PySem.W.nsIn K mainGlobals "is_polynomial" = some (some (.ref f_is_polynomial)))
    (l_is_polynomial : K.lookup f_is_polynomial = some ⟨oc_is_polynomial, od_is_polynomial, .func (PySem.W.fnOf "is_polynomial" "is_polynomial" (C8.fnArgs s_is_polynomial) (C8.fnBody s_is_polynomial) (C8.fnScope s_is_polynomial) .none kV_is_polynomial dc_is_polynomial pm_is_polynomial an_is_polynomial cd_is_polynomial ct_is_polynomial), sl_is_polynomial⟩)
    (c_is_polynomial : PySem.W.codeIn K cd_is_polynomial "is_polynomial" = true)
    (k_is_polynomial : PySem.W.keepIn K (.ref f_is_polynomial) = true)
    (a_s3_need : PySem.W.nsIn K mainGlobals "s3_need" = some (some (.ref f_s3_need)))
    (l_s3_need : K.lookup f_s3_need = some ⟨oc_s3_need, od_s3_need, .func (PySem.W.fnOf "s3_need" "s3_need" (C8.fnArgs s_s3_need) (C8.fnBody s_s3_need) (C8.fnScope s_s3_need) .none kV_s3_need dc_s3_need pm_s3_need an_s3_need cd_s3_need ct_s3_need), sl_s3_need⟩)
    (c_s3_need : PySem.W.codeIn K cd_s3_need "s3_need" = true)
    (k_s3_need : PySem.W.keepIn K (.ref f_s3_need) = true)
    (a_s3_need_modulus : PySem.W.nsIn K mainGlobals "s3_need_modulus" = some (some (.ref f_s3_need_modulus)))
    (l_s3_need_modulus : K.lookup f_s3_need_modulus = some ⟨oc_s3_need_modulus, od_s3_need_modulus, .func (PySem.W.fnOf "s3_need_modulus" "s3_need_modulus" (C8.fnArgs s_s3_need_modulus) (C8.fnBody s_s3_need_modulus) (C8.fnScope s_s3_need_modulus) .none kV_s3_need_modulus dc_s3_need_modulus pm_s3_need_modulus an_s3_need_modulus cd_s3_need_modulus ct_s3_need_modulus), sl_s3_need_modulus⟩)
    (c_s3_need_modulus : PySem.W.codeIn K cd_s3_need_modulus "s3_need_modulus" = true)
    (k_s3_need_modulus : PySem.W.keepIn K (.ref f_s3_need_modulus) = true)
    (a_s3_product : PySem.W.nsIn K mainGlobals "s3_product" = some (some (.ref f_s3_product)))
    (l_s3_product : K.lookup f_s3_product = some ⟨oc_s3_product, od_s3_product, .func (PySem.W.fnOf "s3_product" "s3_product" (C8.fnArgs s_s3_product) (C8.fnBody s_s3_product) (C8.fnScope s_s3_product) .none kV_s3_product dc_s3_product pm_s3_product an_s3_product cd_s3_product ct_s3_product), sl_s3_product⟩)
    (c_s3_product : PySem.W.codeIn K cd_s3_product "s3_product" = true)
    (k_s3_product : PySem.W.keepIn K (.ref f_s3_product) = true)
    (a_s3_parts : PySem.W.nsIn K mainGlobals "s3_parts" = some (some (.ref f_s3_parts)))
    (l_s3_parts : K.lookup f_s3_parts = some ⟨oc_s3_parts, od_s3_parts, .func (PySem.W.fnOf "s3_parts" "s3_parts" (C8.fnArgs s_s3_parts) (C8.fnBody s_s3_parts) (C8.fnScope s_s3_parts) .none kV_s3_parts dc_s3_parts pm_s3_parts an_s3_parts cd_s3_parts ct_s3_parts), sl_s3_parts⟩)
    (c_s3_parts : PySem.W.codeIn K cd_s3_parts "s3_parts" = true)
    (k_s3_parts : PySem.W.keepIn K (.ref f_s3_parts) = true)
    (a_s3_power : PySem.W.nsIn K mainGlobals "s3_power" = some (some (.ref f_s3_power)))
    (l_s3_power : K.lookup f_s3_power = some ⟨oc_s3_power, od_s3_power, .func (PySem.W.fnOf "s3_power" "s3_power" (C8.fnArgs s_s3_power) (C8.fnBody s_s3_power) (C8.fnScope s_s3_power) .none kV_s3_power dc_s3_power pm_s3_power an_s3_power cd_s3_power ct_s3_power), sl_s3_power⟩)
    (c_s3_power : PySem.W.codeIn K cd_s3_power "s3_power" = true)
    (k_s3_power : PySem.W.keepIn K (.ref f_s3_power) = true)
    (a_power_of : PySem.W.nsIn K mainGlobals "power_of" = some (some (.ref f_power_of)))
    (l_power_of : K.lookup f_power_of = some ⟨oc_power_of, od_power_of, .func (PySem.W.fnOf "power_of" "power_of" (C8.fnArgs s_power_of) (C8.fnBody s_power_of) (C8.fnScope s_power_of) .none kV_power_of dc_power_of pm_power_of an_power_of cd_power_of ct_power_of), sl_power_of⟩)
    (c_power_of : PySem.W.codeIn K cd_power_of "power_of" = true)
    (k_power_of : PySem.W.keepIn K (.ref f_power_of) = true)
    (a_s3_need_bits : PySem.W.nsIn K mainGlobals "s3_need_bits" = some (some (.ref f_s3_need_bits)))
    (l_s3_need_bits : K.lookup f_s3_need_bits = some ⟨oc_s3_need_bits, od_s3_need_bits, .func (PySem.W.fnOf "s3_need_bits" "s3_need_bits" (C8.fnArgs s_s3_need_bits) (C8.fnBody s_s3_need_bits) (C8.fnScope s_s3_need_bits) .none kV_s3_need_bits dc_s3_need_bits pm_s3_need_bits an_s3_need_bits cd_s3_need_bits ct_s3_need_bits), sl_s3_need_bits⟩)
    (c_s3_need_bits : PySem.W.codeIn K cd_s3_need_bits "s3_need_bits" = true)
    (k_s3_need_bits : PySem.W.keepIn K (.ref f_s3_need_bits) = true)
    (a_follows : PySem.W.nsIn K mainGlobals "follows" = some (some (.ref f_follows)))
    (l_follows : K.lookup f_follows = some ⟨oc_follows, od_follows, .func (PySem.W.fnOf "follows" "follows" (C8.fnArgs s_follows) (C8.fnBody s_follows) (C8.fnScope s_follows) .none kV_follows dc_follows pm_follows an_follows cd_follows ct_follows), sl_follows⟩)
    (c_follows : PySem.W.codeIn K cd_follows "follows" = true)
    (k_follows : PySem.W.keepIn K (.ref f_follows) = true)
    (a_shortest_rule : PySem.W.nsIn K mainGlobals "shortest_rule" = some (some (.ref f_shortest_rule)))
    (l_shortest_rule : K.lookup f_shortest_rule = some ⟨oc_shortest_rule, od_shortest_rule, .func (PySem.W.fnOf "shortest_rule" "shortest_rule" (C8.fnArgs s_shortest_rule) (C8.fnBody s_shortest_rule) (C8.fnScope s_shortest_rule) .none kV_shortest_rule dc_shortest_rule pm_shortest_rule an_shortest_rule cd_shortest_rule ct_shortest_rule), sl_shortest_rule⟩)
    (c_shortest_rule : PySem.W.codeIn K cd_shortest_rule "shortest_rule" = true)
    (k_shortest_rule : PySem.W.keepIn K (.ref f_shortest_rule) = true)
    (a_rule_length : PySem.W.nsIn K mainGlobals "rule_length" = some (some (.ref f_rule_length)))
    (l_rule_length : K.lookup f_rule_length = some ⟨oc_rule_length, od_rule_length, .func (PySem.W.fnOf "rule_length" "rule_length" (C8.fnArgs s_rule_length) (C8.fnBody s_rule_length) (C8.fnScope s_rule_length) .none kV_rule_length dc_rule_length pm_rule_length an_rule_length cd_rule_length ct_rule_length), sl_rule_length⟩)
    (c_rule_length : PySem.W.codeIn K cd_rule_length "rule_length" = true)
    (k_rule_length : PySem.W.keepIn K (.ref f_rule_length) = true)
    (a_need_steps : PySem.W.nsIn K mainGlobals "need_steps" = some (some (.ref f_need_steps)))
    (l_need_steps : K.lookup f_need_steps = some ⟨oc_need_steps, od_need_steps, .func (PySem.W.fnOf "need_steps" "need_steps" (C8.fnArgs s_need_steps) (C8.fnBody s_need_steps) (C8.fnScope s_need_steps) .none kV_need_steps dc_need_steps pm_need_steps an_need_steps cd_need_steps ct_need_steps), sl_need_steps⟩)
    (c_need_steps : PySem.W.codeIn K cd_need_steps "need_steps" = true)
    (k_need_steps : PySem.W.keepIn K (.ref f_need_steps) = true)
    (a_s3_need_row : PySem.W.nsIn K mainGlobals "s3_need_row" = some (some (.ref f_s3_need_row)))
    (l_s3_need_row : K.lookup f_s3_need_row = some ⟨oc_s3_need_row, od_s3_need_row, .func (PySem.W.fnOf "s3_need_row" "s3_need_row" (C8.fnArgs s_s3_need_row) (C8.fnBody s_s3_need_row) (C8.fnScope s_s3_need_row) .none kV_s3_need_row dc_s3_need_row pm_s3_need_row an_s3_need_row cd_s3_need_row ct_s3_need_row), sl_s3_need_row⟩)
    (c_s3_need_row : PySem.W.codeIn K cd_s3_need_row "s3_need_row" = true)
    (k_s3_need_row : PySem.W.keepIn K (.ref f_s3_need_row) = true)
    (a_s3_moved : PySem.W.nsIn K mainGlobals "s3_moved" = some (some (.ref f_s3_moved)))
    (l_s3_moved : K.lookup f_s3_moved = some ⟨oc_s3_moved, od_s3_moved, .func (PySem.W.fnOf "s3_moved" "s3_moved" (C8.fnArgs s_s3_moved) (C8.fnBody s_s3_moved) (C8.fnScope s_s3_moved) .none kV_s3_moved dc_s3_moved pm_s3_moved an_s3_moved cd_s3_moved ct_s3_moved), sl_s3_moved⟩)
    (c_s3_moved : PySem.W.codeIn K cd_s3_moved "s3_moved" = true)
    (k_s3_moved : PySem.W.keepIn K (.ref f_s3_moved) = true)
    (a_Twisted___init__ : PySem.W.findIn K (.ref C_Twisted) "__init__" = some (some (.ref f_Twisted___init__)))
    (i_Twisted___init__ : PySem.W.isFn K (.ref f_Twisted___init__) = true)
    (l_Twisted___init__ : K.lookup f_Twisted___init__ = some ⟨oc_Twisted___init__, od_Twisted___init__, .func (PySem.W.fnOf "__init__" "Twisted.__init__" (C8.fnArgs s_Twisted___init__) (C8.fnBody s_Twisted___init__) (C8.fnScope s_Twisted___init__) .none kV_Twisted___init__ dc_Twisted___init__ pm_Twisted___init__ an_Twisted___init__ cd_Twisted___init__ ct_Twisted___init__), sl_Twisted___init__⟩)
    (c_Twisted___init__ : PySem.W.codeIn K cd_Twisted___init__ "Twisted.__init__" = true)
    (k_Twisted___init__ : PySem.W.keepIn K (.ref f_Twisted___init__) = true)
    (mk_Twisted___init__ : PySem.W.makesIn K C_Twisted = true)
    (kc_Twisted___init__ : PySem.W.keepIn K (.ref C_Twisted) = true)
    (rd_Twisted_state_after : PySem.W.readsIn K C_Twisted (.type "type") = true)
    (ga_Twisted_state_after : PySem.W.specialIn K (.ref C_Twisted) "__getattribute__" = some (some (.builtin "type.__getattribute__")))
    (a_Twisted_state_after : PySem.W.findCls K (.ref C_Twisted) (.type "type") "state_after" = some (.get (.builtin "staticmethod.__get__") (.ref p_Twisted_state_after) .none (.ref C_Twisted)))
    (r_Twisted_state_after : PySem.W.recIn K p_Twisted_state_after "staticmethod" = some (.ref f_Twisted_state_after :: rs_Twisted_state_after))
    (l_Twisted_state_after : K.lookup f_Twisted_state_after = some ⟨oc_Twisted_state_after, od_Twisted_state_after, .func (PySem.W.fnOf "state_after" "Twisted.state_after" (C8.fnArgs s_Twisted_state_after) (C8.fnBody s_Twisted_state_after) (C8.fnScope s_Twisted_state_after) .none kV_Twisted_state_after dc_Twisted_state_after pm_Twisted_state_after an_Twisted_state_after cd_Twisted_state_after ct_Twisted_state_after), sl_Twisted_state_after⟩)
    (c_Twisted_state_after : PySem.W.codeIn K cd_Twisted_state_after "Twisted.state_after" = true)
    (k_Twisted_state_after : PySem.W.keepIn K (.ref f_Twisted_state_after) = true)
    (a_Twisted_state : PySem.W.findIn K (.ref C_Twisted) "state" = some (some (.ref p_Twisted_state)))
    (g_Twisted_state : PySem.W.specialIn K (.ref p_Twisted_state) "__get__" = some (some (.builtin "property.__get__")))
    (t_Twisted_state : PySem.W.takesIn K (.ref p_Twisted_state) = some true)
    (r_Twisted_state : PySem.W.recIn K p_Twisted_state "property" = some (.ref f_Twisted_state :: rs_Twisted_state))
    (l_Twisted_state : K.lookup f_Twisted_state = some ⟨oc_Twisted_state, od_Twisted_state, .func (PySem.W.fnOf "state" "Twisted.state" (C8.fnArgs s_Twisted_state) (C8.fnBody s_Twisted_state) (C8.fnScope s_Twisted_state) .none kV_Twisted_state dc_Twisted_state pm_Twisted_state an_Twisted_state cd_Twisted_state ct_Twisted_state), sl_Twisted_state⟩)
    (c_Twisted_state : PySem.W.codeIn K cd_Twisted_state "Twisted.state" = true)
    (k_Twisted_state : PySem.W.keepIn K (.ref f_Twisted_state) = true)
    (a_Twisted_next_word : PySem.W.findIn K (.ref C_Twisted) "next_word" = some (some (.ref f_Twisted_next_word)))
    (i_Twisted_next_word : PySem.W.isFn K (.ref f_Twisted_next_word) = true)
    (l_Twisted_next_word : K.lookup f_Twisted_next_word = some ⟨oc_Twisted_next_word, od_Twisted_next_word, .func (PySem.W.fnOf "next_word" "Twisted.next_word" (C8.fnArgs s_Twisted_next_word) (C8.fnBody s_Twisted_next_word) (C8.fnScope s_Twisted_next_word) .none kV_Twisted_next_word dc_Twisted_next_word pm_Twisted_next_word an_Twisted_next_word cd_Twisted_next_word ct_Twisted_next_word), sl_Twisted_next_word⟩)
    (c_Twisted_next_word : PySem.W.codeIn K cd_Twisted_next_word "Twisted.next_word" = true)
    (k_Twisted_next_word : PySem.W.keepIn K (.ref f_Twisted_next_word) = true)
    (a_Twisted_lane : PySem.W.findIn K (.ref C_Twisted) "lane" = some (some (.ref f_Twisted_lane)))
    (i_Twisted_lane : PySem.W.isFn K (.ref f_Twisted_lane) = true)
    (l_Twisted_lane : K.lookup f_Twisted_lane = some ⟨oc_Twisted_lane, od_Twisted_lane, .func (PySem.W.fnOf "lane" "Twisted.lane" (C8.fnArgs s_Twisted_lane) (C8.fnBody s_Twisted_lane) (C8.fnScope s_Twisted_lane) .none kV_Twisted_lane dc_Twisted_lane pm_Twisted_lane an_Twisted_lane cd_Twisted_lane ct_Twisted_lane), sl_Twisted_lane⟩)
    (c_Twisted_lane : PySem.W.codeIn K cd_Twisted_lane "Twisted.lane" = true)
    (k_Twisted_lane : PySem.W.keepIn K (.ref f_Twisted_lane) = true)
    (a__law_begun : PySem.W.nsIn K mainGlobals "_law_begun" = some (some (.ref f__law_begun)))
    (l__law_begun : K.lookup f__law_begun = some ⟨oc__law_begun, od__law_begun, .func (PySem.W.fnOf "_law_begun" "_law_begun" (C8.fnArgs s__law_begun) (C8.fnBody s__law_begun) (C8.fnScope s__law_begun) .none kV__law_begun dc__law_begun pm__law_begun an__law_begun cd__law_begun ct__law_begun), sl__law_begun⟩)
    (c__law_begun : PySem.W.codeIn K cd__law_begun "_law_begun" = true)
    (k__law_begun : PySem.W.keepIn K (.ref f__law_begun) = true)
    (a__law_next : PySem.W.nsIn K mainGlobals "_law_next" = some (some (.ref f__law_next)))
    (l__law_next : K.lookup f__law_next = some ⟨oc__law_next, od__law_next, .func (PySem.W.fnOf "_law_next" "_law_next" (C8.fnArgs s__law_next) (C8.fnBody s__law_next) (C8.fnScope s__law_next) .none kV__law_next dc__law_next pm__law_next an__law_next cd__law_next ct__law_next), sl__law_next⟩)
    (c__law_next : PySem.W.codeIn K cd__law_next "_law_next" = true)
    (k__law_next : PySem.W.keepIn K (.ref f__law_next) = true)
    (a__law_start : PySem.W.nsIn K mainGlobals "_law_start" = some (some (.ref f__law_start)))
    (l__law_start : K.lookup f__law_start = some ⟨oc__law_start, od__law_start, .func (PySem.W.fnOf "_law_start" "_law_start" (C8.fnArgs s__law_start) (C8.fnBody s__law_start) (C8.fnScope s__law_start) .none kV__law_start dc__law_start pm__law_start an__law_start cd__law_start ct__law_start), sl__law_start⟩)
    (c__law_start : PySem.W.codeIn K cd__law_start "_law_start" = true)
    (k__law_start : PySem.W.keepIn K (.ref f__law_start) = true)
    (a__law_joined : PySem.W.nsIn K mainGlobals "_law_joined" = some (some (.ref f__law_joined)))
    (l__law_joined : K.lookup f__law_joined = some ⟨oc__law_joined, od__law_joined, .func (PySem.W.fnOf "_law_joined" "_law_joined" (C8.fnArgs s__law_joined) (C8.fnBody s__law_joined) (C8.fnScope s__law_joined) .none kV__law_joined dc__law_joined pm__law_joined an__law_joined cd__law_joined ct__law_joined), sl__law_joined⟩)
    (c__law_joined : PySem.W.codeIn K cd__law_joined "_law_joined" = true)
    (k__law_joined : PySem.W.keepIn K (.ref f__law_joined) = true)
    (a__law_sums_right : PySem.W.nsIn K mainGlobals "_law_sums_right" = some (some (.ref f__law_sums_right)))
    (l__law_sums_right : K.lookup f__law_sums_right = some ⟨oc__law_sums_right, od__law_sums_right, .func (PySem.W.fnOf "_law_sums_right" "_law_sums_right" (C8.fnArgs s__law_sums_right) (C8.fnBody s__law_sums_right) (C8.fnScope s__law_sums_right) .none kV__law_sums_right dc__law_sums_right pm__law_sums_right an__law_sums_right cd__law_sums_right ct__law_sums_right), sl__law_sums_right⟩)
    (c__law_sums_right : PySem.W.codeIn K cd__law_sums_right "_law_sums_right" = true)
    (k__law_sums_right : PySem.W.keepIn K (.ref f__law_sums_right) = true)
    (a__law_lane_right : PySem.W.nsIn K mainGlobals "_law_lane_right" = some (some (.ref f__law_lane_right)))
    (l__law_lane_right : K.lookup f__law_lane_right = some ⟨oc__law_lane_right, od__law_lane_right, .func (PySem.W.fnOf "_law_lane_right" "_law_lane_right" (C8.fnArgs s__law_lane_right) (C8.fnBody s__law_lane_right) (C8.fnScope s__law_lane_right) .none kV__law_lane_right dc__law_lane_right pm__law_lane_right an__law_lane_right cd__law_lane_right ct__law_lane_right), sl__law_lane_right⟩)
    (c__law_lane_right : PySem.W.codeIn K cd__law_lane_right "_law_lane_right" = true)
    (k__law_lane_right : PySem.W.keepIn K (.ref f__law_lane_right) = true)
    (a__law_alone_right : PySem.W.nsIn K mainGlobals "_law_alone_right" = some (some (.ref f__law_alone_right)))
    (l__law_alone_right : K.lookup f__law_alone_right = some ⟨oc__law_alone_right, od__law_alone_right, .func (PySem.W.fnOf "_law_alone_right" "_law_alone_right" (C8.fnArgs s__law_alone_right) (C8.fnBody s__law_alone_right) (C8.fnScope s__law_alone_right) .none kV__law_alone_right dc__law_alone_right pm__law_alone_right an__law_alone_right cd__law_alone_right ct__law_alone_right), sl__law_alone_right⟩)
    (c__law_alone_right : PySem.W.codeIn K cd__law_alone_right "_law_alone_right" = true)
    (k__law_alone_right : PySem.W.keepIn K (.ref f__law_alone_right) = true)
    (a_law : PySem.W.nsIn K mainGlobals "law" = some (some (.ref f_law)))
    (l_law : K.lookup f_law = some ⟨oc_law, od_law, .func (PySem.W.fnOf "law" "law" (C8.fnArgs s_law) (C8.fnBody s_law) (C8.fnScope s_law) .none kV_law dc_law pm_law an_law cd_law ct_law), sl_law⟩)
    (c_law : PySem.W.codeIn K cd_law "law" = true)
    (k_law : PySem.W.keepIn K (.ref f_law) = true)
    (e_WORDS : PySem.W.nsIn K mainGlobals "WORDS" = some (some (.int 4294967296 tk_WORDS)))
    (e_FACTOR : PySem.W.nsIn K mainGlobals "FACTOR" = some (some (.int 3486784401 tk_FACTOR)))
    (e_MOST_DIGITS : PySem.W.nsIn K mainGlobals "MOST_DIGITS" = some (some (.int 512 tk_MOST_DIGITS)))
    (e_MOST_BITS : PySem.W.nsIn K mainGlobals "MOST_BITS" = some (some (.int 512 tk_MOST_BITS)))
    (e_MOST_STEPS : PySem.W.nsIn K mainGlobals "MOST_STEPS" = some (some (.int 18446744073709551616 tk_MOST_STEPS)))
    (e_SIZE : PySem.W.nsIn K mainGlobals "SIZE" = some (some (.int 31 tk_SIZE)))
    (e_TAP : PySem.W.nsIn K mainGlobals "TAP" = some (some (.int 3 tk_TAP)))
    (e_RULE : PySem.W.nsIn K mainGlobals "RULE" = some (some (.int 2147483657 tk_RULE)))
    (e_PERIOD : PySem.W.nsIn K mainGlobals "PERIOD" = some (some (.int 2147483647 tk_PERIOD)))
    (q_Twisted : PySem.W.nsIn K mainGlobals "Twisted" = some (some (.ref C_Twisted)))
    (pg_Twisted : PySem.W.plainGet K C_Twisted Str.empty = true)
    (hd_Twisted : PySem.W.hasDictIn K C_Twisted = true)
    (po_Twisted : PySem.W.plainOver K C_Twisted = true)
    (sa_Twisted : PySem.W.findIn K (.ref C_Twisted) "__setattr__" = some (some (.builtin "object.__setattr__")))
    (ha_Twisted : PySem.W.findIn K (.ref C_Twisted) "__class__" = some (some (.builtin "object.__class__")))
    (hn_Twisted : PySem.W.specialIn K (.builtin "object.__class__") "__get__" = some (some (.builtin "getset_descriptor.__get__")))
    (ht_Twisted : PySem.W.takesIn K (.builtin "object.__class__") = some true)
    (hm_Twisted : PySem.W.mroIn K C_Twisted (.type "object") = some true)
    (na_Twisted_s3_state : PySem.W.findIn K (.ref C_Twisted) "s3_state" = some none)
    (q_DrawError : PySem.W.nsIn K mainGlobals "DrawError" = some (some (.ref C_DrawError)))
    (rd_DrawError : PySem.W.readsIn K C_DrawError (.type "type") = true)
    (rg_DrawError : PySem.W.specialIn K (.ref C_DrawError) "__getattribute__" = some (some (.builtin "type.__getattribute__")))
    (fi_DrawError : PySem.W.findCls K (.ref C_DrawError) (.type "type") "__init__" = some (.val (.builtin "ValueError.__init__")))
    (ha_BadWord : PySem.W.findIn K (.ref C_BadWord) "__class__" = some (some (.builtin "object.__class__")))
    (hn_BadWord : PySem.W.specialIn K (.builtin "object.__class__") "__get__" = some (some (.builtin "getset_descriptor.__get__")))
    (ht_BadWord : PySem.W.takesIn K (.builtin "object.__class__") = some true)
    (hm_BadWord : PySem.W.mroIn K C_BadWord (.type "object") = some true)
    (ha_BadState : PySem.W.findIn K (.ref C_BadState) "__class__" = some (some (.builtin "object.__class__")))
    (hn_BadState : PySem.W.specialIn K (.builtin "object.__class__") "__get__" = some (some (.builtin "getset_descriptor.__get__")))
    (ht_BadState : PySem.W.takesIn K (.builtin "object.__class__") = some true)
    (hm_BadState : PySem.W.mroIn K C_BadState (.type "object") = some true)
    (ha_BadSteps : PySem.W.findIn K (.ref C_BadSteps) "__class__" = some (some (.builtin "object.__class__")))
    (hn_BadSteps : PySem.W.specialIn K (.builtin "object.__class__") "__get__" = some (some (.builtin "getset_descriptor.__get__")))
    (ht_BadSteps : PySem.W.takesIn K (.builtin "object.__class__") = some true)
    (hm_BadSteps : PySem.W.mroIn K C_BadSteps (.type "object") = some true)
    (ha_BadNumber : PySem.W.findIn K (.ref C_BadNumber) "__class__" = some (some (.builtin "object.__class__")))
    (hn_BadNumber : PySem.W.specialIn K (.builtin "object.__class__") "__get__" = some (some (.builtin "getset_descriptor.__get__")))
    (ht_BadNumber : PySem.W.takesIn K (.builtin "object.__class__") = some true)
    (hm_BadNumber : PySem.W.mroIn K C_BadNumber (.type "object") = some true)
    (ha_BadPolynomial : PySem.W.findIn K (.ref C_BadPolynomial) "__class__" = some (some (.builtin "object.__class__")))
    (hn_BadPolynomial : PySem.W.specialIn K (.builtin "object.__class__") "__get__" = some (some (.builtin "getset_descriptor.__get__")))
    (ht_BadPolynomial : PySem.W.takesIn K (.builtin "object.__class__") = some true)
    (hm_BadPolynomial : PySem.W.mroIn K C_BadPolynomial (.type "object") = some true)
    (ha_BadBits : PySem.W.findIn K (.ref C_BadBits) "__class__" = some (some (.builtin "object.__class__")))
    (hn_BadBits : PySem.W.specialIn K (.builtin "object.__class__") "__get__" = some (some (.builtin "getset_descriptor.__get__")))
    (ht_BadBits : PySem.W.takesIn K (.builtin "object.__class__") = some true)
    (hm_BadBits : PySem.W.mroIn K C_BadBits (.type "object") = some true)
    (q_BadWord : PySem.W.nsIn K mainGlobals "BadWord" = some (some (.ref C_BadWord)))
    (in_BadWord : PySem.W.excInitIn K C_BadWord [.type "ValueError", .type "Exception", .type "BaseException", .type "object"] "ValueError.__new__" = true)
    (ov_BadWord : PySem.W.excOver K C_BadWord [.type "ValueError", .type "Exception", .type "BaseException", .type "object"] = true)
    (hd_BadWord : PySem.W.hasDictIn K C_BadWord = true)
    (sa_BadWord : PySem.W.findIn K (.ref C_BadWord) "__setattr__" = some (some (.builtin "object.__setattr__")))
    (ex_BadWord : PySem.W.subIn K (.ref C_BadWord) (.type "BaseException") = some true)
    (ty_BadWord : PySem.W.typeIn K (.ref C_BadWord) = some (.type "type"))
    (kc_BadWord : PySem.W.keepIn K (.ref C_BadWord) = true)
    (ga_BadWord : PySem.W.findIn K (.ref C_BadWord) "__getattribute__" = some (some (.builtin "BaseException.__getattribute__")))
    (gg_BadWord : PySem.W.findIn K (.ref C_BadWord) "__getattr__" = some none)
    (na_BadWord : PySem.W.findIn K (.ref C_BadWord) "given" = some none)
    (tk_BadWord : PySem.W.takerIn K C_BadWord "given" = some none)
    (sb_BadWord : PySem.W.subIn K (.ref C_BadWord) (.ref C_BadWord) = some true)
    (q_BadState : PySem.W.nsIn K mainGlobals "BadState" = some (some (.ref C_BadState)))
    (in_BadState : PySem.W.excInitIn K C_BadState [.type "ValueError", .type "Exception", .type "BaseException", .type "object"] "ValueError.__new__" = true)
    (ov_BadState : PySem.W.excOver K C_BadState [.type "ValueError", .type "Exception", .type "BaseException", .type "object"] = true)
    (hd_BadState : PySem.W.hasDictIn K C_BadState = true)
    (sa_BadState : PySem.W.findIn K (.ref C_BadState) "__setattr__" = some (some (.builtin "object.__setattr__")))
    (ex_BadState : PySem.W.subIn K (.ref C_BadState) (.type "BaseException") = some true)
    (ty_BadState : PySem.W.typeIn K (.ref C_BadState) = some (.type "type"))
    (kc_BadState : PySem.W.keepIn K (.ref C_BadState) = true)
    (ga_BadState : PySem.W.findIn K (.ref C_BadState) "__getattribute__" = some (some (.builtin "BaseException.__getattribute__")))
    (gg_BadState : PySem.W.findIn K (.ref C_BadState) "__getattr__" = some none)
    (na_BadState : PySem.W.findIn K (.ref C_BadState) "given" = some none)
    (tk_BadState : PySem.W.takerIn K C_BadState "given" = some none)
    (sb_BadState : PySem.W.subIn K (.ref C_BadState) (.ref C_BadState) = some true)
    (q_BadSteps : PySem.W.nsIn K mainGlobals "BadSteps" = some (some (.ref C_BadSteps)))
    (in_BadSteps : PySem.W.excInitIn K C_BadSteps [.type "ValueError", .type "Exception", .type "BaseException", .type "object"] "ValueError.__new__" = true)
    (ov_BadSteps : PySem.W.excOver K C_BadSteps [.type "ValueError", .type "Exception", .type "BaseException", .type "object"] = true)
    (hd_BadSteps : PySem.W.hasDictIn K C_BadSteps = true)
    (sa_BadSteps : PySem.W.findIn K (.ref C_BadSteps) "__setattr__" = some (some (.builtin "object.__setattr__")))
    (ex_BadSteps : PySem.W.subIn K (.ref C_BadSteps) (.type "BaseException") = some true)
    (ty_BadSteps : PySem.W.typeIn K (.ref C_BadSteps) = some (.type "type"))
    (kc_BadSteps : PySem.W.keepIn K (.ref C_BadSteps) = true)
    (ga_BadSteps : PySem.W.findIn K (.ref C_BadSteps) "__getattribute__" = some (some (.builtin "BaseException.__getattribute__")))
    (gg_BadSteps : PySem.W.findIn K (.ref C_BadSteps) "__getattr__" = some none)
    (na_BadSteps : PySem.W.findIn K (.ref C_BadSteps) "given" = some none)
    (tk_BadSteps : PySem.W.takerIn K C_BadSteps "given" = some none)
    (sb_BadSteps : PySem.W.subIn K (.ref C_BadSteps) (.ref C_BadSteps) = some true)
    (q_BadNumber : PySem.W.nsIn K mainGlobals "BadNumber" = some (some (.ref C_BadNumber)))
    (in_BadNumber : PySem.W.excInitIn K C_BadNumber [.type "ValueError", .type "Exception", .type "BaseException", .type "object"] "ValueError.__new__" = true)
    (ov_BadNumber : PySem.W.excOver K C_BadNumber [.type "ValueError", .type "Exception", .type "BaseException", .type "object"] = true)
    (hd_BadNumber : PySem.W.hasDictIn K C_BadNumber = true)
    (sa_BadNumber : PySem.W.findIn K (.ref C_BadNumber) "__setattr__" = some (some (.builtin "object.__setattr__")))
    (ex_BadNumber : PySem.W.subIn K (.ref C_BadNumber) (.type "BaseException") = some true)
    (ty_BadNumber : PySem.W.typeIn K (.ref C_BadNumber) = some (.type "type"))
    (kc_BadNumber : PySem.W.keepIn K (.ref C_BadNumber) = true)
    (ga_BadNumber : PySem.W.findIn K (.ref C_BadNumber) "__getattribute__" = some (some (.builtin "BaseException.__getattribute__")))
    (gg_BadNumber : PySem.W.findIn K (.ref C_BadNumber) "__getattr__" = some none)
    (na_BadNumber : PySem.W.findIn K (.ref C_BadNumber) "given" = some none)
    (tk_BadNumber : PySem.W.takerIn K C_BadNumber "given" = some none)
    (sb_BadNumber : PySem.W.subIn K (.ref C_BadNumber) (.ref C_BadNumber) = some true)
    (q_BadPolynomial : PySem.W.nsIn K mainGlobals "BadPolynomial" = some (some (.ref C_BadPolynomial)))
    (in_BadPolynomial : PySem.W.excInitIn K C_BadPolynomial [.type "ValueError", .type "Exception", .type "BaseException", .type "object"] "ValueError.__new__" = true)
    (ov_BadPolynomial : PySem.W.excOver K C_BadPolynomial [.type "ValueError", .type "Exception", .type "BaseException", .type "object"] = true)
    (hd_BadPolynomial : PySem.W.hasDictIn K C_BadPolynomial = true)
    (sa_BadPolynomial : PySem.W.findIn K (.ref C_BadPolynomial) "__setattr__" = some (some (.builtin "object.__setattr__")))
    (ex_BadPolynomial : PySem.W.subIn K (.ref C_BadPolynomial) (.type "BaseException") = some true)
    (ty_BadPolynomial : PySem.W.typeIn K (.ref C_BadPolynomial) = some (.type "type"))
    (kc_BadPolynomial : PySem.W.keepIn K (.ref C_BadPolynomial) = true)
    (ga_BadPolynomial : PySem.W.findIn K (.ref C_BadPolynomial) "__getattribute__" = some (some (.builtin "BaseException.__getattribute__")))
    (gg_BadPolynomial : PySem.W.findIn K (.ref C_BadPolynomial) "__getattr__" = some none)
    (na_BadPolynomial : PySem.W.findIn K (.ref C_BadPolynomial) "given" = some none)
    (tk_BadPolynomial : PySem.W.takerIn K C_BadPolynomial "given" = some none)
    (sb_BadPolynomial : PySem.W.subIn K (.ref C_BadPolynomial) (.ref C_BadPolynomial) = some true)
    (q_BadBits : PySem.W.nsIn K mainGlobals "BadBits" = some (some (.ref C_BadBits)))
    (in_BadBits : PySem.W.excInitIn K C_BadBits [.type "ValueError", .type "Exception", .type "BaseException", .type "object"] "ValueError.__new__" = true)
    (ov_BadBits : PySem.W.excOver K C_BadBits [.type "ValueError", .type "Exception", .type "BaseException", .type "object"] = true)
    (hd_BadBits : PySem.W.hasDictIn K C_BadBits = true)
    (sa_BadBits : PySem.W.findIn K (.ref C_BadBits) "__setattr__" = some (some (.builtin "object.__setattr__")))
    (ex_BadBits : PySem.W.subIn K (.ref C_BadBits) (.type "BaseException") = some true)
    (ty_BadBits : PySem.W.typeIn K (.ref C_BadBits) = some (.type "type"))
    (kc_BadBits : PySem.W.keepIn K (.ref C_BadBits) = true)
    (ga_BadBits : PySem.W.findIn K (.ref C_BadBits) "__getattribute__" = some (some (.builtin "BaseException.__getattribute__")))
    (gg_BadBits : PySem.W.findIn K (.ref C_BadBits) "__getattr__" = some none)
    (na_BadBits : PySem.W.findIn K (.ref C_BadBits) "given" = some none)
    (tk_BadBits : PySem.W.takerIn K C_BadBits "given" = some none)
    (sb_BadBits : PySem.W.subIn K (.ref C_BadBits) (.ref C_BadBits) = some true)
    (z_all : PySem.W.nsIn K mainGlobals "all" = some none)
    (z_bool : PySem.W.nsIn K mainGlobals "bool" = some none)
    (z_enumerate : PySem.W.nsIn K mainGlobals "enumerate" = some none)
    (z_int : PySem.W.nsIn K mainGlobals "int" = some none)
    (z_isinstance : PySem.W.nsIn K mainGlobals "isinstance" = some none)
    (z_len : PySem.W.nsIn K mainGlobals "len" = some none)
    (z_list : PySem.W.nsIn K mainGlobals "list" = some none)
    (z_max : PySem.W.nsIn K mainGlobals "max" = some none)
    (z_min : PySem.W.nsIn K mainGlobals "min" = some none)
    (z_range : PySem.W.nsIn K mainGlobals "range" = some none)
    (z_sum : PySem.W.nsIn K mainGlobals "sum" = some none)
    (z_tuple : PySem.W.nsIn K mainGlobals "tuple" = some none)
    (ob_kt_Twisted_int : PySem.W.kitOne K (.ref C_Twisted) (.type "int") = some false)
    (ob_kt_BadWord_int : PySem.W.kitOne K (.ref C_BadWord) (.type "int") = some false)
    (ob_kt_BadState_int : PySem.W.kitOne K (.ref C_BadState) (.type "int") = some false)
    (ob_kt_BadSteps_int : PySem.W.kitOne K (.ref C_BadSteps) (.type "int") = some false)
    (ob_kt_BadNumber_int : PySem.W.kitOne K (.ref C_BadNumber) (.type "int") = some false)
    (ob_kt_BadPolynomial_int : PySem.W.kitOne K (.ref C_BadPolynomial) (.type "int") = some false)
    (ob_kt_BadBits_int : PySem.W.kitOne K (.ref C_BadBits) (.type "int") = some false)
    (ob_kt_Twisted_bool : PySem.W.kitOne K (.ref C_Twisted) (.type "bool") = some false)
    (ob_kt_BadWord_bool : PySem.W.kitOne K (.ref C_BadWord) (.type "bool") = some false)
    (ob_kt_BadState_bool : PySem.W.kitOne K (.ref C_BadState) (.type "bool") = some false)
    (ob_kt_BadSteps_bool : PySem.W.kitOne K (.ref C_BadSteps) (.type "bool") = some false)
    (ob_kt_BadNumber_bool : PySem.W.kitOne K (.ref C_BadNumber) (.type "bool") = some false)
    (ob_kt_BadPolynomial_bool : PySem.W.kitOne K (.ref C_BadPolynomial) (.type "bool") = some false)
    (ob_kt_BadBits_bool : PySem.W.kitOne K (.ref C_BadBits) (.type "bool") = some false)
    (ob_kt_Twisted_tuple : PySem.W.kitOne K (.ref C_Twisted) (.type "tuple") = some false)
    (ob_kt_BadWord_tuple : PySem.W.kitOne K (.ref C_BadWord) (.type "tuple") = some false)
    (ob_kt_BadState_tuple : PySem.W.kitOne K (.ref C_BadState) (.type "tuple") = some false)
    (ob_kt_BadSteps_tuple : PySem.W.kitOne K (.ref C_BadSteps) (.type "tuple") = some false)
    (ob_kt_BadNumber_tuple : PySem.W.kitOne K (.ref C_BadNumber) (.type "tuple") = some false)
    (ob_kt_BadPolynomial_tuple : PySem.W.kitOne K (.ref C_BadPolynomial) (.type "tuple") = some false)
    (ob_kt_BadBits_tuple : PySem.W.kitOne K (.ref C_BadBits) (.type "tuple") = some false)
    : Txt K mg C_Twisted C_DrawError C_BadWord C_BadState C_BadSteps C_BadNumber C_BadPolynomial C_BadBits :=
  { d_BadWord___init__ := ⟨f_BadWord___init__, _, a_BadWord___init__, ti_BadWord___init__, ⟨⟨oc_BadWord___init__, od_BadWord___init__, .none, kV_BadWord___init__, dc_BadWord___init__, pm_BadWord___init__, an_BadWord___init__, cd_BadWord___init__, ct_BadWord___init__, sl_BadWord___init__, rfl, l_BadWord___init__, c_BadWord___init__⟩⟩, C8.Fun.binds (x := "__init__") (qual := "BadWord.__init__") (st := s_BadWord___init__) (f := f_BadWord___init__) ⟨⟨oc_BadWord___init__, od_BadWord___init__, .none, kV_BadWord___init__, dc_BadWord___init__, pm_BadWord___init__, an_BadWord___init__, cd_BadWord___init__, ct_BadWord___init__, sl_BadWord___init__, rfl, l_BadWord___init__, c_BadWord___init__⟩⟩ rfl (fun _ _ _ _ _ _ us hl => match us, hl with | [_, _], _ => rfl)⟩,
    d_BadState___init__ := ⟨f_BadState___init__, _, a_BadState___init__, ti_BadState___init__, ⟨⟨oc_BadState___init__, od_BadState___init__, .none, kV_BadState___init__, dc_BadState___init__, pm_BadState___init__, an_BadState___init__, cd_BadState___init__, ct_BadState___init__, sl_BadState___init__, rfl, l_BadState___init__, c_BadState___init__⟩⟩, C8.Fun.binds (x := "__init__") (qual := "BadState.__init__") (st := s_BadState___init__) (f := f_BadState___init__) ⟨⟨oc_BadState___init__, od_BadState___init__, .none, kV_BadState___init__, dc_BadState___init__, pm_BadState___init__, an_BadState___init__, cd_BadState___init__, ct_BadState___init__, sl_BadState___init__, rfl, l_BadState___init__, c_BadState___init__⟩⟩ rfl (fun _ _ _ _ _ _ us hl => match us, hl with | [_, _], _ => rfl)⟩,
    d_BadSteps___init__ := ⟨f_BadSteps___init__, _, a_BadSteps___init__, ti_BadSteps___init__, ⟨⟨oc_BadSteps___init__, od_BadSteps___init__, .none, kV_BadSteps___init__, dc_BadSteps___init__, pm_BadSteps___init__, an_BadSteps___init__, cd_BadSteps___init__, ct_BadSteps___init__, sl_BadSteps___init__, rfl, l_BadSteps___init__, c_BadSteps___init__⟩⟩, C8.Fun.binds (x := "__init__") (qual := "BadSteps.__init__") (st := s_BadSteps___init__) (f := f_BadSteps___init__) ⟨⟨oc_BadSteps___init__, od_BadSteps___init__, .none, kV_BadSteps___init__, dc_BadSteps___init__, pm_BadSteps___init__, an_BadSteps___init__, cd_BadSteps___init__, ct_BadSteps___init__, sl_BadSteps___init__, rfl, l_BadSteps___init__, c_BadSteps___init__⟩⟩ rfl (fun _ _ _ _ _ _ us hl => match us, hl with | [_, _], _ => rfl)⟩,
    d_BadNumber___init__ := ⟨f_BadNumber___init__, _, a_BadNumber___init__, ti_BadNumber___init__, ⟨⟨oc_BadNumber___init__, od_BadNumber___init__, .none, kV_BadNumber___init__, dc_BadNumber___init__, pm_BadNumber___init__, an_BadNumber___init__, cd_BadNumber___init__, ct_BadNumber___init__, sl_BadNumber___init__, rfl, l_BadNumber___init__, c_BadNumber___init__⟩⟩, C8.Fun.binds (x := "__init__") (qual := "BadNumber.__init__") (st := s_BadNumber___init__) (f := f_BadNumber___init__) ⟨⟨oc_BadNumber___init__, od_BadNumber___init__, .none, kV_BadNumber___init__, dc_BadNumber___init__, pm_BadNumber___init__, an_BadNumber___init__, cd_BadNumber___init__, ct_BadNumber___init__, sl_BadNumber___init__, rfl, l_BadNumber___init__, c_BadNumber___init__⟩⟩ rfl (fun _ _ _ _ _ _ us hl => match us, hl with | [_, _], _ => rfl)⟩,
    d_BadPolynomial___init__ := ⟨f_BadPolynomial___init__, _, a_BadPolynomial___init__, ti_BadPolynomial___init__, ⟨⟨oc_BadPolynomial___init__, od_BadPolynomial___init__, .none, kV_BadPolynomial___init__, dc_BadPolynomial___init__, pm_BadPolynomial___init__, an_BadPolynomial___init__, cd_BadPolynomial___init__, ct_BadPolynomial___init__, sl_BadPolynomial___init__, rfl, l_BadPolynomial___init__, c_BadPolynomial___init__⟩⟩, C8.Fun.binds (x := "__init__") (qual := "BadPolynomial.__init__") (st := s_BadPolynomial___init__) (f := f_BadPolynomial___init__) ⟨⟨oc_BadPolynomial___init__, od_BadPolynomial___init__, .none, kV_BadPolynomial___init__, dc_BadPolynomial___init__, pm_BadPolynomial___init__, an_BadPolynomial___init__, cd_BadPolynomial___init__, ct_BadPolynomial___init__, sl_BadPolynomial___init__, rfl, l_BadPolynomial___init__, c_BadPolynomial___init__⟩⟩ rfl (fun _ _ _ _ _ _ us hl => match us, hl with | [_, _], _ => rfl)⟩,
    d_BadBits___init__ := ⟨f_BadBits___init__, _, a_BadBits___init__, ti_BadBits___init__, ⟨⟨oc_BadBits___init__, od_BadBits___init__, .none, kV_BadBits___init__, dc_BadBits___init__, pm_BadBits___init__, an_BadBits___init__, cd_BadBits___init__, ct_BadBits___init__, sl_BadBits___init__, rfl, l_BadBits___init__, c_BadBits___init__⟩⟩, C8.Fun.binds (x := "__init__") (qual := "BadBits.__init__") (st := s_BadBits___init__) (f := f_BadBits___init__) ⟨⟨oc_BadBits___init__, od_BadBits___init__, .none, kV_BadBits___init__, dc_BadBits___init__, pm_BadBits___init__, an_BadBits___init__, cd_BadBits___init__, ct_BadBits___init__, sl_BadBits___init__, rfl, l_BadBits___init__, c_BadBits___init__⟩⟩ rfl (fun _ _ _ _ _ _ us hl => match us, hl with | [_, _], _ => rfl)⟩,
    d_is_integer := ⟨f_is_integer, _, ⟨⟨⟨oc_is_integer, od_is_integer, .none, kV_is_integer, dc_is_integer, pm_is_integer, an_is_integer, cd_is_integer, ct_is_integer, sl_is_integer, rfl, l_is_integer, c_is_integer⟩⟩, PySem.W.mg_of X G a_is_integer, k_is_integer⟩, C8.Fun.binds (x := "is_integer") (qual := "is_integer") (st := s_is_integer) (f := f_is_integer) ⟨⟨oc_is_integer, od_is_integer, .none, kV_is_integer, dc_is_integer, pm_is_integer, an_is_integer, cd_is_integer, ct_is_integer, sl_is_integer, rfl, l_is_integer, c_is_integer⟩⟩ rfl (fun _ _ _ _ _ _ us hl => match us, hl with | [_], _ => rfl)⟩,
    d_is_word := ⟨f_is_word, _, ⟨⟨⟨oc_is_word, od_is_word, .none, kV_is_word, dc_is_word, pm_is_word, an_is_word, cd_is_word, ct_is_word, sl_is_word, rfl, l_is_word, c_is_word⟩⟩, PySem.W.mg_of X G a_is_word, k_is_word⟩, C8.Fun.binds (x := "is_word") (qual := "is_word") (st := s_is_word) (f := f_is_word) ⟨⟨oc_is_word, od_is_word, .none, kV_is_word, dc_is_word, pm_is_word, an_is_word, cd_is_word, ct_is_word, sl_is_word, rfl, l_is_word, c_is_word⟩⟩ rfl (fun _ _ _ _ _ _ us hl => match us, hl with | [_], _ => rfl)⟩,
    d_need_word := ⟨f_need_word, _, ⟨⟨⟨oc_need_word, od_need_word, .none, kV_need_word, dc_need_word, pm_need_word, an_need_word, cd_need_word, ct_need_word, sl_need_word, rfl, l_need_word, c_need_word⟩⟩, PySem.W.mg_of X G a_need_word, k_need_word⟩, C8.Fun.binds (x := "need_word") (qual := "need_word") (st := s_need_word) (f := f_need_word) ⟨⟨oc_need_word, od_need_word, .none, kV_need_word, dc_need_word, pm_need_word, an_need_word, cd_need_word, ct_need_word, sl_need_word, rfl, l_need_word, c_need_word⟩⟩ rfl (fun _ _ _ _ _ _ us hl => match us, hl with | [_], _ => rfl)⟩,
    d_own_tempered := ⟨f_own_tempered, _, ⟨⟨⟨oc_own_tempered, od_own_tempered, .none, kV_own_tempered, dc_own_tempered, pm_own_tempered, an_own_tempered, cd_own_tempered, ct_own_tempered, sl_own_tempered, rfl, l_own_tempered, c_own_tempered⟩⟩, PySem.W.mg_of X G a_own_tempered, k_own_tempered⟩, C8.Fun.binds (x := "own_tempered") (qual := "own_tempered") (st := s_own_tempered) (f := f_own_tempered) ⟨⟨oc_own_tempered, od_own_tempered, .none, kV_own_tempered, dc_own_tempered, pm_own_tempered, an_own_tempered, cd_own_tempered, ct_own_tempered, sl_own_tempered, rfl, l_own_tempered, c_own_tempered⟩⟩ rfl (fun _ _ _ _ _ _ us hl => match us, hl with | [_], _ => rfl)⟩,
    d_tempered := ⟨f_tempered, _, ⟨⟨⟨oc_tempered, od_tempered, .none, kV_tempered, dc_tempered, pm_tempered, an_tempered, cd_tempered, ct_tempered, sl_tempered, rfl, l_tempered, c_tempered⟩⟩, PySem.W.mg_of X G a_tempered, k_tempered⟩, C8.Fun.binds (x := "tempered") (qual := "tempered") (st := s_tempered) (f := f_tempered) ⟨⟨oc_tempered, od_tempered, .none, kV_tempered, dc_tempered, pm_tempered, an_tempered, cd_tempered, ct_tempered, sl_tempered, rfl, l_tempered, c_tempered⟩⟩ rfl (fun _ _ _ _ _ _ us hl => match us, hl with | [_], _ => rfl)⟩,
    d_undo_factor := ⟨f_undo_factor, _, ⟨⟨⟨oc_undo_factor, od_undo_factor, .none, kV_undo_factor, dc_undo_factor, pm_undo_factor, an_undo_factor, cd_undo_factor, ct_undo_factor, sl_undo_factor, rfl, l_undo_factor, c_undo_factor⟩⟩, PySem.W.mg_of X G a_undo_factor, k_undo_factor⟩, C8.Fun.binds (x := "undo_factor") (qual := "undo_factor") (st := s_undo_factor) (f := f_undo_factor) ⟨⟨oc_undo_factor, od_undo_factor, .none, kV_undo_factor, dc_undo_factor, pm_undo_factor, an_undo_factor, cd_undo_factor, ct_undo_factor, sl_undo_factor, rfl, l_undo_factor, c_undo_factor⟩⟩ rfl (fun _ _ _ _ _ _ us hl => match us, hl with | [], _ => rfl)⟩,
    d_untempered := ⟨f_untempered, _, ⟨⟨⟨oc_untempered, od_untempered, .none, kV_untempered, dc_untempered, pm_untempered, an_untempered, cd_untempered, ct_untempered, sl_untempered, rfl, l_untempered, c_untempered⟩⟩, PySem.W.mg_of X G a_untempered, k_untempered⟩, C8.Fun.binds (x := "untempered") (qual := "untempered") (st := s_untempered) (f := f_untempered) ⟨⟨oc_untempered, od_untempered, .none, kV_untempered, dc_untempered, pm_untempered, an_untempered, cd_untempered, ct_untempered, sl_untempered, rfl, l_untempered, c_untempered⟩⟩ rfl (fun _ _ _ _ _ _ us hl => match us, hl with | [_], _ => rfl)⟩,
    d_s3_is_whole := ⟨f_s3_is_whole, _, ⟨⟨⟨oc_s3_is_whole, od_s3_is_whole, .none, kV_s3_is_whole, dc_s3_is_whole, pm_s3_is_whole, an_s3_is_whole, cd_s3_is_whole, ct_s3_is_whole, sl_s3_is_whole, rfl, l_s3_is_whole, c_s3_is_whole⟩⟩, PySem.W.mg_of X G a_s3_is_whole, k_s3_is_whole⟩, C8.Fun.binds (x := "s3_is_whole") (qual := "s3_is_whole") (st := s_s3_is_whole) (f := f_s3_is_whole) ⟨⟨oc_s3_is_whole, od_s3_is_whole, .none, kV_s3_is_whole, dc_s3_is_whole, pm_s3_is_whole, an_s3_is_whole, cd_s3_is_whole, ct_s3_is_whole, sl_s3_is_whole, rfl, l_s3_is_whole, c_s3_is_whole⟩⟩ rfl (fun _ _ _ _ _ _ us hl => match us, hl with | [_, _, _], _ => rfl)⟩,
    d_is_polynomial := ⟨f_is_polynomial, _, ⟨⟨⟨oc_is_polynomial, od_is_polynomial, .none, kV_is_polynomial, dc_is_polynomial, pm_is_polynomial, an_is_polynomial, cd_is_polynomial, ct_is_polynomial, sl_is_polynomial, rfl, l_is_polynomial, c_is_polynomial⟩⟩, PySem.W.mg_of X G a_is_polynomial, k_is_polynomial⟩, C8.Fun.binds (x := "is_polynomial") (qual := "is_polynomial") (st := s_is_polynomial) (f := f_is_polynomial) ⟨⟨oc_is_polynomial, od_is_polynomial, .none, kV_is_polynomial, dc_is_polynomial, pm_is_polynomial, an_is_polynomial, cd_is_polynomial, ct_is_polynomial, sl_is_polynomial, rfl, l_is_polynomial, c_is_polynomial⟩⟩ rfl (fun _ _ _ _ _ _ us hl => match us, hl with | [_], _ => rfl)⟩,
    d_s3_need := ⟨f_s3_need, _, ⟨⟨⟨oc_s3_need, od_s3_need, .none, kV_s3_need, dc_s3_need, pm_s3_need, an_s3_need, cd_s3_need, ct_s3_need, sl_s3_need, rfl, l_s3_need, c_s3_need⟩⟩, PySem.W.mg_of X G a_s3_need, k_s3_need⟩, Gx.starB_of rfl (fun _ _ => rfl)⟩,
    d_s3_need_modulus := ⟨f_s3_need_modulus, _, ⟨⟨⟨oc_s3_need_modulus, od_s3_need_modulus, .none, kV_s3_need_modulus, dc_s3_need_modulus, pm_s3_need_modulus, an_s3_need_modulus, cd_s3_need_modulus, ct_s3_need_modulus, sl_s3_need_modulus, rfl, l_s3_need_modulus, c_s3_need_modulus⟩⟩, PySem.W.mg_of X G a_s3_need_modulus, k_s3_need_modulus⟩, C8.Fun.binds (x := "s3_need_modulus") (qual := "s3_need_modulus") (st := s_s3_need_modulus) (f := f_s3_need_modulus) ⟨⟨oc_s3_need_modulus, od_s3_need_modulus, .none, kV_s3_need_modulus, dc_s3_need_modulus, pm_s3_need_modulus, an_s3_need_modulus, cd_s3_need_modulus, ct_s3_need_modulus, sl_s3_need_modulus, rfl, l_s3_need_modulus, c_s3_need_modulus⟩⟩ rfl (fun _ _ _ _ _ _ us hl => match us, hl with | [_], _ => rfl)⟩,
    d_s3_product := ⟨f_s3_product, _, ⟨⟨⟨oc_s3_product, od_s3_product, .none, kV_s3_product, dc_s3_product, pm_s3_product, an_s3_product, cd_s3_product, ct_s3_product, sl_s3_product, rfl, l_s3_product, c_s3_product⟩⟩, PySem.W.mg_of X G a_s3_product, k_s3_product⟩, C8.Fun.binds (x := "s3_product") (qual := "s3_product") (st := s_s3_product) (f := f_s3_product) ⟨⟨oc_s3_product, od_s3_product, .none, kV_s3_product, dc_s3_product, pm_s3_product, an_s3_product, cd_s3_product, ct_s3_product, sl_s3_product, rfl, l_s3_product, c_s3_product⟩⟩ rfl (fun _ _ _ _ _ _ us hl => match us, hl with | [_, _], _ => rfl)⟩,
    d_s3_parts := ⟨f_s3_parts, _, ⟨⟨⟨oc_s3_parts, od_s3_parts, .none, kV_s3_parts, dc_s3_parts, pm_s3_parts, an_s3_parts, cd_s3_parts, ct_s3_parts, sl_s3_parts, rfl, l_s3_parts, c_s3_parts⟩⟩, PySem.W.mg_of X G a_s3_parts, k_s3_parts⟩, C8.Fun.binds (x := "s3_parts") (qual := "s3_parts") (st := s_s3_parts) (f := f_s3_parts) ⟨⟨oc_s3_parts, od_s3_parts, .none, kV_s3_parts, dc_s3_parts, pm_s3_parts, an_s3_parts, cd_s3_parts, ct_s3_parts, sl_s3_parts, rfl, l_s3_parts, c_s3_parts⟩⟩ rfl (fun _ _ _ _ _ _ us hl => match us, hl with | [_, _], _ => rfl)⟩,
    d_s3_power := ⟨f_s3_power, _, ⟨⟨⟨oc_s3_power, od_s3_power, .none, kV_s3_power, dc_s3_power, pm_s3_power, an_s3_power, cd_s3_power, ct_s3_power, sl_s3_power, rfl, l_s3_power, c_s3_power⟩⟩, PySem.W.mg_of X G a_s3_power, k_s3_power⟩, C8.Fun.binds (x := "s3_power") (qual := "s3_power") (st := s_s3_power) (f := f_s3_power) ⟨⟨oc_s3_power, od_s3_power, .none, kV_s3_power, dc_s3_power, pm_s3_power, an_s3_power, cd_s3_power, ct_s3_power, sl_s3_power, rfl, l_s3_power, c_s3_power⟩⟩ rfl (fun _ _ _ _ _ _ us hl => match us, hl with | [_, _, _], _ => rfl)⟩,
    d_power_of := ⟨f_power_of, _, ⟨⟨⟨oc_power_of, od_power_of, .none, kV_power_of, dc_power_of, pm_power_of, an_power_of, cd_power_of, ct_power_of, sl_power_of, rfl, l_power_of, c_power_of⟩⟩, PySem.W.mg_of X G a_power_of, k_power_of⟩, C8.Fun.binds (x := "power_of") (qual := "power_of") (st := s_power_of) (f := f_power_of) ⟨⟨oc_power_of, od_power_of, .none, kV_power_of, dc_power_of, pm_power_of, an_power_of, cd_power_of, ct_power_of, sl_power_of, rfl, l_power_of, c_power_of⟩⟩ rfl (fun _ _ _ _ _ _ us hl => match us, hl with | [_, _, _], _ => rfl)⟩,
    d_s3_need_bits := ⟨f_s3_need_bits, _, ⟨⟨⟨oc_s3_need_bits, od_s3_need_bits, .none, kV_s3_need_bits, dc_s3_need_bits, pm_s3_need_bits, an_s3_need_bits, cd_s3_need_bits, ct_s3_need_bits, sl_s3_need_bits, rfl, l_s3_need_bits, c_s3_need_bits⟩⟩, PySem.W.mg_of X G a_s3_need_bits, k_s3_need_bits⟩, C8.Fun.binds (x := "s3_need_bits") (qual := "s3_need_bits") (st := s_s3_need_bits) (f := f_s3_need_bits) ⟨⟨oc_s3_need_bits, od_s3_need_bits, .none, kV_s3_need_bits, dc_s3_need_bits, pm_s3_need_bits, an_s3_need_bits, cd_s3_need_bits, ct_s3_need_bits, sl_s3_need_bits, rfl, l_s3_need_bits, c_s3_need_bits⟩⟩ rfl (fun _ _ _ _ _ _ us hl => match us, hl with | [_], _ => rfl)⟩,
    d_follows := ⟨f_follows, _, ⟨⟨⟨oc_follows, od_follows, .none, kV_follows, dc_follows, pm_follows, an_follows, cd_follows, ct_follows, sl_follows, rfl, l_follows, c_follows⟩⟩, PySem.W.mg_of X G a_follows, k_follows⟩, C8.Fun.binds (x := "follows") (qual := "follows") (st := s_follows) (f := f_follows) ⟨⟨oc_follows, od_follows, .none, kV_follows, dc_follows, pm_follows, an_follows, cd_follows, ct_follows, sl_follows, rfl, l_follows, c_follows⟩⟩ rfl (fun _ _ _ _ _ _ us hl => match us, hl with | [_, _], _ => rfl)⟩,
    d_shortest_rule := ⟨f_shortest_rule, _, ⟨⟨⟨oc_shortest_rule, od_shortest_rule, .none, kV_shortest_rule, dc_shortest_rule, pm_shortest_rule, an_shortest_rule, cd_shortest_rule, ct_shortest_rule, sl_shortest_rule, rfl, l_shortest_rule, c_shortest_rule⟩⟩, PySem.W.mg_of X G a_shortest_rule, k_shortest_rule⟩, C8.Fun.binds (x := "shortest_rule") (qual := "shortest_rule") (st := s_shortest_rule) (f := f_shortest_rule) ⟨⟨oc_shortest_rule, od_shortest_rule, .none, kV_shortest_rule, dc_shortest_rule, pm_shortest_rule, an_shortest_rule, cd_shortest_rule, ct_shortest_rule, sl_shortest_rule, rfl, l_shortest_rule, c_shortest_rule⟩⟩ rfl (fun _ _ _ _ _ _ us hl => match us, hl with | [_], _ => rfl)⟩,
    d_rule_length := ⟨f_rule_length, _, ⟨⟨⟨oc_rule_length, od_rule_length, .none, kV_rule_length, dc_rule_length, pm_rule_length, an_rule_length, cd_rule_length, ct_rule_length, sl_rule_length, rfl, l_rule_length, c_rule_length⟩⟩, PySem.W.mg_of X G a_rule_length, k_rule_length⟩, C8.Fun.binds (x := "rule_length") (qual := "rule_length") (st := s_rule_length) (f := f_rule_length) ⟨⟨oc_rule_length, od_rule_length, .none, kV_rule_length, dc_rule_length, pm_rule_length, an_rule_length, cd_rule_length, ct_rule_length, sl_rule_length, rfl, l_rule_length, c_rule_length⟩⟩ rfl (fun _ _ _ _ _ _ us hl => match us, hl with | [_], _ => rfl)⟩,
    d_need_steps := ⟨f_need_steps, _, ⟨⟨⟨oc_need_steps, od_need_steps, .none, kV_need_steps, dc_need_steps, pm_need_steps, an_need_steps, cd_need_steps, ct_need_steps, sl_need_steps, rfl, l_need_steps, c_need_steps⟩⟩, PySem.W.mg_of X G a_need_steps, k_need_steps⟩, C8.Fun.binds (x := "need_steps") (qual := "need_steps") (st := s_need_steps) (f := f_need_steps) ⟨⟨oc_need_steps, od_need_steps, .none, kV_need_steps, dc_need_steps, pm_need_steps, an_need_steps, cd_need_steps, ct_need_steps, sl_need_steps, rfl, l_need_steps, c_need_steps⟩⟩ rfl (fun _ _ _ _ _ _ us hl => match us, hl with | [_], _ => rfl)⟩,
    d_s3_need_row := ⟨f_s3_need_row, _, ⟨⟨⟨oc_s3_need_row, od_s3_need_row, .none, kV_s3_need_row, dc_s3_need_row, pm_s3_need_row, an_s3_need_row, cd_s3_need_row, ct_s3_need_row, sl_s3_need_row, rfl, l_s3_need_row, c_s3_need_row⟩⟩, PySem.W.mg_of X G a_s3_need_row, k_s3_need_row⟩, C8.Fun.binds (x := "s3_need_row") (qual := "s3_need_row") (st := s_s3_need_row) (f := f_s3_need_row) ⟨⟨oc_s3_need_row, od_s3_need_row, .none, kV_s3_need_row, dc_s3_need_row, pm_s3_need_row, an_s3_need_row, cd_s3_need_row, ct_s3_need_row, sl_s3_need_row, rfl, l_s3_need_row, c_s3_need_row⟩⟩ rfl (fun _ _ _ _ _ _ us hl => match us, hl with | [_], _ => rfl)⟩,
    d_s3_moved := ⟨f_s3_moved, _, ⟨⟨⟨oc_s3_moved, od_s3_moved, .none, kV_s3_moved, dc_s3_moved, pm_s3_moved, an_s3_moved, cd_s3_moved, ct_s3_moved, sl_s3_moved, rfl, l_s3_moved, c_s3_moved⟩⟩, PySem.W.mg_of X G a_s3_moved, k_s3_moved⟩, C8.Fun.binds (x := "s3_moved") (qual := "s3_moved") (st := s_s3_moved) (f := f_s3_moved) ⟨⟨oc_s3_moved, od_s3_moved, .none, kV_s3_moved, dc_s3_moved, pm_s3_moved, an_s3_moved, cd_s3_moved, ct_s3_moved, sl_s3_moved, rfl, l_s3_moved, c_s3_moved⟩⟩ rfl (fun _ _ _ _ _ _ us hl => match us, hl with | [_, _], _ => rfl)⟩,
    d_Twisted___init__ := ⟨f_Twisted___init__, _, ⟨mk_Twisted___init__, a_Twisted___init__, i_Twisted___init__, kc_Twisted___init__⟩, ⟨⟨oc_Twisted___init__, od_Twisted___init__, .none, kV_Twisted___init__, dc_Twisted___init__, pm_Twisted___init__, an_Twisted___init__, cd_Twisted___init__, ct_Twisted___init__, sl_Twisted___init__, rfl, l_Twisted___init__, c_Twisted___init__⟩⟩, C8.Fun.binds (x := "__init__") (qual := "Twisted.__init__") (st := s_Twisted___init__) (f := f_Twisted___init__) ⟨⟨oc_Twisted___init__, od_Twisted___init__, .none, kV_Twisted___init__, dc_Twisted___init__, pm_Twisted___init__, an_Twisted___init__, cd_Twisted___init__, ct_Twisted___init__, sl_Twisted___init__, rfl, l_Twisted___init__, c_Twisted___init__⟩⟩ rfl (fun _ _ _ _ _ _ us hl => match us, hl with | [_, _], _ => rfl)⟩,
    d_Twisted_state_after := ⟨f_Twisted_state_after, _, ⟨_, p_Twisted_state_after, _, ⟨rd_Twisted_state_after, ga_Twisted_state_after⟩, a_Twisted_state_after, r_Twisted_state_after, k_Twisted_state_after⟩, ⟨⟨oc_Twisted_state_after, od_Twisted_state_after, .none, kV_Twisted_state_after, dc_Twisted_state_after, pm_Twisted_state_after, an_Twisted_state_after, cd_Twisted_state_after, ct_Twisted_state_after, sl_Twisted_state_after, rfl, l_Twisted_state_after, c_Twisted_state_after⟩⟩, C8.Fun.binds (x := "state_after") (qual := "Twisted.state_after") (st := s_Twisted_state_after) (f := f_Twisted_state_after) ⟨⟨oc_Twisted_state_after, od_Twisted_state_after, .none, kV_Twisted_state_after, dc_Twisted_state_after, pm_Twisted_state_after, an_Twisted_state_after, cd_Twisted_state_after, ct_Twisted_state_after, sl_Twisted_state_after, rfl, l_Twisted_state_after, c_Twisted_state_after⟩⟩ rfl (fun _ _ _ _ _ _ us hl => match us, hl with | [_, _], _ => rfl)⟩,
    d_Twisted_state := ⟨p_Twisted_state, f_Twisted_state, _, ⟨a_Twisted_state, g_Twisted_state, t_Twisted_state, _, r_Twisted_state⟩, ⟨⟨oc_Twisted_state, od_Twisted_state, .none, kV_Twisted_state, dc_Twisted_state, pm_Twisted_state, an_Twisted_state, cd_Twisted_state, ct_Twisted_state, sl_Twisted_state, rfl, l_Twisted_state, c_Twisted_state⟩⟩, C8.Fun.binds (x := "state") (qual := "Twisted.state") (st := s_Twisted_state) (f := f_Twisted_state) ⟨⟨oc_Twisted_state, od_Twisted_state, .none, kV_Twisted_state, dc_Twisted_state, pm_Twisted_state, an_Twisted_state, cd_Twisted_state, ct_Twisted_state, sl_Twisted_state, rfl, l_Twisted_state, c_Twisted_state⟩⟩ rfl (fun _ _ _ _ _ _ us hl => match us, hl with | [_], _ => rfl)⟩,
    d_Twisted_next_word := ⟨f_Twisted_next_word, _, ⟨a_Twisted_next_word, i_Twisted_next_word, k_Twisted_next_word⟩, ⟨⟨oc_Twisted_next_word, od_Twisted_next_word, .none, kV_Twisted_next_word, dc_Twisted_next_word, pm_Twisted_next_word, an_Twisted_next_word, cd_Twisted_next_word, ct_Twisted_next_word, sl_Twisted_next_word, rfl, l_Twisted_next_word, c_Twisted_next_word⟩⟩, C8.Fun.binds (x := "next_word") (qual := "Twisted.next_word") (st := s_Twisted_next_word) (f := f_Twisted_next_word) ⟨⟨oc_Twisted_next_word, od_Twisted_next_word, .none, kV_Twisted_next_word, dc_Twisted_next_word, pm_Twisted_next_word, an_Twisted_next_word, cd_Twisted_next_word, ct_Twisted_next_word, sl_Twisted_next_word, rfl, l_Twisted_next_word, c_Twisted_next_word⟩⟩ rfl (fun _ _ _ _ _ _ us hl => match us, hl with | [_], _ => rfl)⟩,
    d_Twisted_lane := ⟨f_Twisted_lane, _, ⟨a_Twisted_lane, i_Twisted_lane, k_Twisted_lane⟩, ⟨⟨oc_Twisted_lane, od_Twisted_lane, .none, kV_Twisted_lane, dc_Twisted_lane, pm_Twisted_lane, an_Twisted_lane, cd_Twisted_lane, ct_Twisted_lane, sl_Twisted_lane, rfl, l_Twisted_lane, c_Twisted_lane⟩⟩, C8.Fun.binds (x := "lane") (qual := "Twisted.lane") (st := s_Twisted_lane) (f := f_Twisted_lane) ⟨⟨oc_Twisted_lane, od_Twisted_lane, .none, kV_Twisted_lane, dc_Twisted_lane, pm_Twisted_lane, an_Twisted_lane, cd_Twisted_lane, ct_Twisted_lane, sl_Twisted_lane, rfl, l_Twisted_lane, c_Twisted_lane⟩⟩ rfl (fun _ _ _ _ _ _ us hl => match us, hl with | [_, _], _ => rfl)⟩,
    d__law_begun := ⟨f__law_begun, _, ⟨⟨⟨oc__law_begun, od__law_begun, .none, kV__law_begun, dc__law_begun, pm__law_begun, an__law_begun, cd__law_begun, ct__law_begun, sl__law_begun, rfl, l__law_begun, c__law_begun⟩⟩, PySem.W.mg_of X G a__law_begun, k__law_begun⟩, C8.Fun.binds (x := "_law_begun") (qual := "_law_begun") (st := s__law_begun) (f := f__law_begun) ⟨⟨oc__law_begun, od__law_begun, .none, kV__law_begun, dc__law_begun, pm__law_begun, an__law_begun, cd__law_begun, ct__law_begun, sl__law_begun, rfl, l__law_begun, c__law_begun⟩⟩ rfl (fun _ _ _ _ _ _ us hl => match us, hl with | [_], _ => rfl)⟩,
    d__law_next := ⟨f__law_next, _, ⟨⟨⟨oc__law_next, od__law_next, .none, kV__law_next, dc__law_next, pm__law_next, an__law_next, cd__law_next, ct__law_next, sl__law_next, rfl, l__law_next, c__law_next⟩⟩, PySem.W.mg_of X G a__law_next, k__law_next⟩, C8.Fun.binds (x := "_law_next") (qual := "_law_next") (st := s__law_next) (f := f__law_next) ⟨⟨oc__law_next, od__law_next, .none, kV__law_next, dc__law_next, pm__law_next, an__law_next, cd__law_next, ct__law_next, sl__law_next, rfl, l__law_next, c__law_next⟩⟩ rfl (fun _ _ _ _ _ _ us hl => match us, hl with | [_, _], _ => rfl)⟩,
    d__law_start := ⟨f__law_start, _, ⟨⟨⟨oc__law_start, od__law_start, .none, kV__law_start, dc__law_start, pm__law_start, an__law_start, cd__law_start, ct__law_start, sl__law_start, rfl, l__law_start, c__law_start⟩⟩, PySem.W.mg_of X G a__law_start, k__law_start⟩, C8.Fun.binds (x := "_law_start") (qual := "_law_start") (st := s__law_start) (f := f__law_start) ⟨⟨oc__law_start, od__law_start, .none, kV__law_start, dc__law_start, pm__law_start, an__law_start, cd__law_start, ct__law_start, sl__law_start, rfl, l__law_start, c__law_start⟩⟩ rfl (fun _ _ _ _ _ _ us hl => match us, hl with | [_], _ => rfl)⟩,
    d__law_joined := ⟨f__law_joined, _, ⟨⟨⟨oc__law_joined, od__law_joined, .none, kV__law_joined, dc__law_joined, pm__law_joined, an__law_joined, cd__law_joined, ct__law_joined, sl__law_joined, rfl, l__law_joined, c__law_joined⟩⟩, PySem.W.mg_of X G a__law_joined, k__law_joined⟩, C8.Fun.binds (x := "_law_joined") (qual := "_law_joined") (st := s__law_joined) (f := f__law_joined) ⟨⟨oc__law_joined, od__law_joined, .none, kV__law_joined, dc__law_joined, pm__law_joined, an__law_joined, cd__law_joined, ct__law_joined, sl__law_joined, rfl, l__law_joined, c__law_joined⟩⟩ rfl (fun _ _ _ _ _ _ us hl => match us, hl with | [_, _], _ => rfl)⟩,
    d__law_sums_right := ⟨f__law_sums_right, _, ⟨⟨⟨oc__law_sums_right, od__law_sums_right, .none, kV__law_sums_right, dc__law_sums_right, pm__law_sums_right, an__law_sums_right, cd__law_sums_right, ct__law_sums_right, sl__law_sums_right, rfl, l__law_sums_right, c__law_sums_right⟩⟩, PySem.W.mg_of X G a__law_sums_right, k__law_sums_right⟩, C8.Fun.binds (x := "_law_sums_right") (qual := "_law_sums_right") (st := s__law_sums_right) (f := f__law_sums_right) ⟨⟨oc__law_sums_right, od__law_sums_right, .none, kV__law_sums_right, dc__law_sums_right, pm__law_sums_right, an__law_sums_right, cd__law_sums_right, ct__law_sums_right, sl__law_sums_right, rfl, l__law_sums_right, c__law_sums_right⟩⟩ rfl (fun _ _ _ _ _ _ us hl => match us, hl with | [_, _, _], _ => rfl)⟩,
    d__law_lane_right := ⟨f__law_lane_right, _, ⟨⟨⟨oc__law_lane_right, od__law_lane_right, .none, kV__law_lane_right, dc__law_lane_right, pm__law_lane_right, an__law_lane_right, cd__law_lane_right, ct__law_lane_right, sl__law_lane_right, rfl, l__law_lane_right, c__law_lane_right⟩⟩, PySem.W.mg_of X G a__law_lane_right, k__law_lane_right⟩, C8.Fun.binds (x := "_law_lane_right") (qual := "_law_lane_right") (st := s__law_lane_right) (f := f__law_lane_right) ⟨⟨oc__law_lane_right, od__law_lane_right, .none, kV__law_lane_right, dc__law_lane_right, pm__law_lane_right, an__law_lane_right, cd__law_lane_right, ct__law_lane_right, sl__law_lane_right, rfl, l__law_lane_right, c__law_lane_right⟩⟩ rfl (fun _ _ _ _ _ _ us hl => match us, hl with | [_, _, _], _ => rfl)⟩,
    d__law_alone_right := ⟨f__law_alone_right, _, ⟨⟨⟨oc__law_alone_right, od__law_alone_right, .none, kV__law_alone_right, dc__law_alone_right, pm__law_alone_right, an__law_alone_right, cd__law_alone_right, ct__law_alone_right, sl__law_alone_right, rfl, l__law_alone_right, c__law_alone_right⟩⟩, PySem.W.mg_of X G a__law_alone_right, k__law_alone_right⟩, C8.Fun.binds (x := "_law_alone_right") (qual := "_law_alone_right") (st := s__law_alone_right) (f := f__law_alone_right) ⟨⟨oc__law_alone_right, od__law_alone_right, .none, kV__law_alone_right, dc__law_alone_right, pm__law_alone_right, an__law_alone_right, cd__law_alone_right, ct__law_alone_right, sl__law_alone_right, rfl, l__law_alone_right, c__law_alone_right⟩⟩ rfl (fun _ _ _ _ _ _ us hl => match us, hl with | [_, _, _], _ => rfl)⟩,
    d_law := ⟨f_law, _, ⟨⟨⟨oc_law, od_law, .none, kV_law, dc_law, pm_law, an_law, cd_law, ct_law, sl_law, rfl, l_law, c_law⟩⟩, PySem.W.mg_of X G a_law, k_law⟩, C8.Fun.binds (x := "law") (qual := "law") (st := s_law) (f := f_law) ⟨⟨oc_law, od_law, .none, kV_law, dc_law, pm_law, an_law, cd_law, ct_law, sl_law, rfl, l_law, c_law⟩⟩ rfl (fun _ _ _ _ _ _ us hl => match us, hl with | [_], _ => rfl), fun s v => .of_eq rfl⟩,
    c_WORDS := ⟨_, PySem.W.mg_of X G e_WORDS, _, rfl⟩,
    c_FACTOR := ⟨_, PySem.W.mg_of X G e_FACTOR, _, rfl⟩,
    c_MOST_DIGITS := ⟨_, PySem.W.mg_of X G e_MOST_DIGITS, _, rfl⟩,
    c_MOST_BITS := ⟨_, PySem.W.mg_of X G e_MOST_BITS, _, rfl⟩,
    c_MOST_STEPS := ⟨_, PySem.W.mg_of X G e_MOST_STEPS, _, rfl⟩,
    c_SIZE := ⟨_, PySem.W.mg_of X G e_SIZE, _, rfl⟩,
    c_TAP := ⟨_, PySem.W.mg_of X G e_TAP, _, rfl⟩,
    c_RULE := ⟨_, PySem.W.mg_of X G e_RULE, _, rfl⟩,
    c_PERIOD := ⟨_, PySem.W.mg_of X G e_PERIOD, _, rfl⟩,
    k_Twisted := ⟨_, PySem.W.mg_of X G q_Twisted, rfl⟩,
    cl_Twisted := ⟨pg_Twisted, hd_Twisted, po_Twisted, sa_Twisted⟩,
    is_Twisted := ⟨⟨pg_Twisted, hd_Twisted, po_Twisted, sa_Twisted⟩, ha_Twisted, hn_Twisted, ht_Twisted, hm_Twisted, Rd.kit_self K C_Twisted⟩,
    n_Twisted_s3_state := na_Twisted_s3_state,
    k_DrawError := ⟨_, PySem.W.mg_of X G q_DrawError, rfl⟩,
    g_DrawError := PySem.W.mg_of X G q_DrawError,
    r_DrawError := ⟨rd_DrawError, rg_DrawError⟩,
    i_DrawError := fi_DrawError,
    e_BadWord := ⟨ga_BadWord, gg_BadWord, ex_BadWord, hd_BadWord, ha_BadWord, hn_BadWord, ht_BadWord, hm_BadWord⟩,
    e_BadState := ⟨ga_BadState, gg_BadState, ex_BadState, hd_BadState, ha_BadState, hn_BadState, ht_BadState, hm_BadState⟩,
    e_BadSteps := ⟨ga_BadSteps, gg_BadSteps, ex_BadSteps, hd_BadSteps, ha_BadSteps, hn_BadSteps, ht_BadSteps, hm_BadSteps⟩,
    e_BadNumber := ⟨ga_BadNumber, gg_BadNumber, ex_BadNumber, hd_BadNumber, ha_BadNumber, hn_BadNumber, ht_BadNumber, hm_BadNumber⟩,
    e_BadPolynomial := ⟨ga_BadPolynomial, gg_BadPolynomial, ex_BadPolynomial, hd_BadPolynomial, ha_BadPolynomial, hn_BadPolynomial, ht_BadPolynomial, hm_BadPolynomial⟩,
    e_BadBits := ⟨ga_BadBits, gg_BadBits, ex_BadBits, hd_BadBits, ha_BadBits, hn_BadBits, ht_BadBits, hm_BadBits⟩,
    k_BadWord := ⟨_, PySem.W.mg_of X G q_BadWord, rfl⟩,
    g_BadWord := PySem.W.mg_of X G q_BadWord,
    y_BadWord := ⟨⟨"ValueError", "ValueError.__new__", _, PySem.F.excBase_ValueError, PySem.F.store_ValueError, in_BadWord, ov_BadWord⟩, hd_BadWord, sa_BadWord, ex_BadWord, ty_BadWord, kc_BadWord⟩,
    f_BadWord := ⟨ga_BadWord, gg_BadWord, ex_BadWord, hd_BadWord⟩,
    n_BadWord_given := na_BadWord,
    t_BadWord_given := tk_BadWord,
    m_BadWord := PySem.W.exm_ref ex_BadWord hd_BadWord ty_BadWord sb_BadWord,
    k_BadState := ⟨_, PySem.W.mg_of X G q_BadState, rfl⟩,
    g_BadState := PySem.W.mg_of X G q_BadState,
    y_BadState := ⟨⟨"ValueError", "ValueError.__new__", _, PySem.F.excBase_ValueError, PySem.F.store_ValueError, in_BadState, ov_BadState⟩, hd_BadState, sa_BadState, ex_BadState, ty_BadState, kc_BadState⟩,
    f_BadState := ⟨ga_BadState, gg_BadState, ex_BadState, hd_BadState⟩,
    n_BadState_given := na_BadState,
    t_BadState_given := tk_BadState,
    m_BadState := PySem.W.exm_ref ex_BadState hd_BadState ty_BadState sb_BadState,
    k_BadSteps := ⟨_, PySem.W.mg_of X G q_BadSteps, rfl⟩,
    g_BadSteps := PySem.W.mg_of X G q_BadSteps,
    y_BadSteps := ⟨⟨"ValueError", "ValueError.__new__", _, PySem.F.excBase_ValueError, PySem.F.store_ValueError, in_BadSteps, ov_BadSteps⟩, hd_BadSteps, sa_BadSteps, ex_BadSteps, ty_BadSteps, kc_BadSteps⟩,
    f_BadSteps := ⟨ga_BadSteps, gg_BadSteps, ex_BadSteps, hd_BadSteps⟩,
    n_BadSteps_given := na_BadSteps,
    t_BadSteps_given := tk_BadSteps,
    m_BadSteps := PySem.W.exm_ref ex_BadSteps hd_BadSteps ty_BadSteps sb_BadSteps,
    k_BadNumber := ⟨_, PySem.W.mg_of X G q_BadNumber, rfl⟩,
    g_BadNumber := PySem.W.mg_of X G q_BadNumber,
    y_BadNumber := ⟨⟨"ValueError", "ValueError.__new__", _, PySem.F.excBase_ValueError, PySem.F.store_ValueError, in_BadNumber, ov_BadNumber⟩, hd_BadNumber, sa_BadNumber, ex_BadNumber, ty_BadNumber, kc_BadNumber⟩,
    f_BadNumber := ⟨ga_BadNumber, gg_BadNumber, ex_BadNumber, hd_BadNumber⟩,
    n_BadNumber_given := na_BadNumber,
    t_BadNumber_given := tk_BadNumber,
    m_BadNumber := PySem.W.exm_ref ex_BadNumber hd_BadNumber ty_BadNumber sb_BadNumber,
    k_BadPolynomial := ⟨_, PySem.W.mg_of X G q_BadPolynomial, rfl⟩,
    g_BadPolynomial := PySem.W.mg_of X G q_BadPolynomial,
    y_BadPolynomial := ⟨⟨"ValueError", "ValueError.__new__", _, PySem.F.excBase_ValueError, PySem.F.store_ValueError, in_BadPolynomial, ov_BadPolynomial⟩, hd_BadPolynomial, sa_BadPolynomial, ex_BadPolynomial, ty_BadPolynomial, kc_BadPolynomial⟩,
    f_BadPolynomial := ⟨ga_BadPolynomial, gg_BadPolynomial, ex_BadPolynomial, hd_BadPolynomial⟩,
    n_BadPolynomial_given := na_BadPolynomial,
    t_BadPolynomial_given := tk_BadPolynomial,
    m_BadPolynomial := PySem.W.exm_ref ex_BadPolynomial hd_BadPolynomial ty_BadPolynomial sb_BadPolynomial,
    k_BadBits := ⟨_, PySem.W.mg_of X G q_BadBits, rfl⟩,
    g_BadBits := PySem.W.mg_of X G q_BadBits,
    y_BadBits := ⟨⟨"ValueError", "ValueError.__new__", _, PySem.F.excBase_ValueError, PySem.F.store_ValueError, in_BadBits, ov_BadBits⟩, hd_BadBits, sa_BadBits, ex_BadBits, ty_BadBits, kc_BadBits⟩,
    f_BadBits := ⟨ga_BadBits, gg_BadBits, ex_BadBits, hd_BadBits⟩,
    n_BadBits_given := na_BadBits,
    t_BadBits_given := tk_BadBits,
    m_BadBits := PySem.W.exm_ref ex_BadBits hd_BadBits ty_BadBits sb_BadBits,
    b_all := PySem.W.mg_none_of X G z_all,
    b_bool := PySem.W.mg_none_of X G z_bool,
    b_enumerate := PySem.W.mg_none_of X G z_enumerate,
    b_int := PySem.W.mg_none_of X G z_int,
    b_isinstance := PySem.W.mg_none_of X G z_isinstance,
    b_len := PySem.W.mg_none_of X G z_len,
    b_list := PySem.W.mg_none_of X G z_list,
    b_max := PySem.W.mg_none_of X G z_max,
    b_min := PySem.W.mg_none_of X G z_min,
    b_range := PySem.W.mg_none_of X G z_range,
    b_sum := PySem.W.mg_none_of X G z_sum,
    b_tuple := PySem.W.mg_none_of X G z_tuple,
    kt_Twisted_int := ob_kt_Twisted_int,
    kt_BadWord_int := ob_kt_BadWord_int,
    kt_BadState_int := ob_kt_BadState_int,
    kt_BadSteps_int := ob_kt_BadSteps_int,
    kt_BadNumber_int := ob_kt_BadNumber_int,
    kt_BadPolynomial_int := ob_kt_BadPolynomial_int,
    kt_BadBits_int := ob_kt_BadBits_int,
    kt_Twisted_bool := ob_kt_Twisted_bool,
    kt_BadWord_bool := ob_kt_BadWord_bool,
    kt_BadState_bool := ob_kt_BadState_bool,
    kt_BadSteps_bool := ob_kt_BadSteps_bool,
    kt_BadNumber_bool := ob_kt_BadNumber_bool,
    kt_BadPolynomial_bool := ob_kt_BadPolynomial_bool,
    kt_BadBits_bool := ob_kt_BadBits_bool,
    kt_Twisted_tuple := ob_kt_Twisted_tuple,
    kt_BadWord_tuple := ob_kt_BadWord_tuple,
    kt_BadState_tuple := ob_kt_BadState_tuple,
    kt_BadSteps_tuple := ob_kt_BadSteps_tuple,
    kt_BadNumber_tuple := ob_kt_BadNumber_tuple,
    kt_BadPolynomial_tuple := ob_kt_BadPolynomial_tuple,
    kt_BadBits_tuple := ob_kt_BadBits_tuple }
end Pf
open PySem PySem.W PyProof.Rows
set_option maxRecDepth 100000 in
set_option maxHeartbeats 0 in
theorem PySem.Challenge.cw_drawstate_k28_whole_lanes_of_twisted_sou_holds : PySem.Challenge.rw_drawstate_k28_whole_lanes_of_twisted_sou.Holds := by
  refine Pf.hd ?_
  k_fill
  refine Gx.walkF (l := PySem.Challenge.rw_drawstate_k28_whole_lanes_of_twisted_sou) (k := 9) (x := "_law_script") rfl rfl ⟨rfl, by decide, by decide⟩ (fun w h Y => PySem.W.kIn_of Y) ?F
  case F =>
    intro w mg fa h Y KX G hmg
    refine' Pf.law_mk hmg (Pf.txt_mk KX G ?a_BadWord___init__ ?ti_BadWord___init__ ?l_BadWord___init__ ?c_BadWord___init__ ?a_BadState___init__ ?ti_BadState___init__ ?l_BadState___init__ ?c_BadState___init__ ?a_BadSteps___init__ ?ti_BadSteps___init__ ?l_BadSteps___init__ ?c_BadSteps___init__ ?a_BadNumber___init__ ?ti_BadNumber___init__ ?l_BadNumber___init__ ?c_BadNumber___init__ ?a_BadPolynomial___init__ ?ti_BadPolynomial___init__ ?l_BadPolynomial___init__ ?c_BadPolynomial___init__ ?a_BadBits___init__ ?ti_BadBits___init__ ?l_BadBits___init__ ?c_BadBits___init__ ?a_is_integer ?l_is_integer ?c_is_integer ?k_is_integer ?a_is_word ?l_is_word ?c_is_word ?k_is_word ?a_need_word ?l_need_word ?c_need_word ?k_need_word ?a_own_tempered ?l_own_tempered ?c_own_tempered ?k_own_tempered ?a_tempered ?l_tempered ?c_tempered ?k_tempered ?a_undo_factor ?l_undo_factor ?c_undo_factor ?k_undo_factor ?a_untempered ?l_untempered ?c_untempered ?k_untempered ?a_s3_is_whole ?l_s3_is_whole ?c_s3_is_whole ?k_s3_is_whole ?a_is_polynomial ?l_is_polynomial ?c_is_polynomial ?k_is_polynomial ?a_s3_need ?l_s3_need ?c_s3_need ?k_s3_need ?a_s3_need_modulus ?l_s3_need_modulus ?c_s3_need_modulus ?k_s3_need_modulus ?a_s3_product ?l_s3_product ?c_s3_product ?k_s3_product ?a_s3_parts ?l_s3_parts ?c_s3_parts ?k_s3_parts ?a_s3_power ?l_s3_power ?c_s3_power ?k_s3_power ?a_power_of ?l_power_of ?c_power_of ?k_power_of ?a_s3_need_bits ?l_s3_need_bits ?c_s3_need_bits ?k_s3_need_bits ?a_follows ?l_follows ?c_follows ?k_follows ?a_shortest_rule ?l_shortest_rule ?c_shortest_rule ?k_shortest_rule ?a_rule_length ?l_rule_length ?c_rule_length ?k_rule_length ?a_need_steps ?l_need_steps ?c_need_steps ?k_need_steps ?a_s3_need_row ?l_s3_need_row ?c_s3_need_row ?k_s3_need_row ?a_s3_moved ?l_s3_moved ?c_s3_moved ?k_s3_moved ?a_Twisted___init__ ?i_Twisted___init__ ?l_Twisted___init__ ?c_Twisted___init__ ?k_Twisted___init__ ?mk_Twisted___init__ ?kc_Twisted___init__ ?rd_Twisted_state_after ?ga_Twisted_state_after ?a_Twisted_state_after ?r_Twisted_state_after ?l_Twisted_state_after ?c_Twisted_state_after ?k_Twisted_state_after ?a_Twisted_state ?g_Twisted_state ?t_Twisted_state ?r_Twisted_state ?l_Twisted_state ?c_Twisted_state ?k_Twisted_state ?a_Twisted_next_word ?i_Twisted_next_word ?l_Twisted_next_word ?c_Twisted_next_word ?k_Twisted_next_word ?a_Twisted_lane ?i_Twisted_lane ?l_Twisted_lane ?c_Twisted_lane ?k_Twisted_lane ?a__law_begun ?l__law_begun ?c__law_begun ?k__law_begun ?a__law_next ?l__law_next ?c__law_next ?k__law_next ?a__law_start ?l__law_start ?c__law_start ?k__law_start ?a__law_joined ?l__law_joined ?c__law_joined ?k__law_joined ?a__law_sums_right ?l__law_sums_right ?c__law_sums_right ?k__law_sums_right ?a__law_lane_right ?l__law_lane_right ?c__law_lane_right ?k__law_lane_right ?a__law_alone_right ?l__law_alone_right ?c__law_alone_right ?k__law_alone_right ?a_law ?l_law ?c_law ?k_law ?e_WORDS ?e_FACTOR ?e_MOST_DIGITS ?e_MOST_BITS ?e_MOST_STEPS ?e_SIZE ?e_TAP ?e_RULE ?e_PERIOD ?q_Twisted ?pg_Twisted ?hd_Twisted ?po_Twisted ?sa_Twisted ?ha_Twisted ?hn_Twisted ?ht_Twisted ?hm_Twisted ?na_Twisted_s3_state ?q_DrawError ?rd_DrawError ?rg_DrawError ?fi_DrawError ?ha_BadWord ?hn_BadWord ?ht_BadWord ?hm_BadWord ?ha_BadState ?hn_BadState ?ht_BadState ?hm_BadState ?ha_BadSteps ?hn_BadSteps ?ht_BadSteps ?hm_BadSteps ?ha_BadNumber ?hn_BadNumber ?ht_BadNumber ?hm_BadNumber ?ha_BadPolynomial ?hn_BadPolynomial ?ht_BadPolynomial ?hm_BadPolynomial ?ha_BadBits ?hn_BadBits ?ht_BadBits ?hm_BadBits ?q_BadWord ?in_BadWord ?ov_BadWord ?hd_BadWord ?sa_BadWord ?ex_BadWord ?ty_BadWord ?kc_BadWord ?ga_BadWord ?gg_BadWord ?na_BadWord ?tk_BadWord ?sb_BadWord ?q_BadState ?in_BadState ?ov_BadState ?hd_BadState ?sa_BadState ?ex_BadState ?ty_BadState ?kc_BadState ?ga_BadState ?gg_BadState ?na_BadState ?tk_BadState ?sb_BadState ?q_BadSteps ?in_BadSteps ?ov_BadSteps ?hd_BadSteps ?sa_BadSteps ?ex_BadSteps ?ty_BadSteps ?kc_BadSteps ?ga_BadSteps ?gg_BadSteps ?na_BadSteps ?tk_BadSteps ?sb_BadSteps ?q_BadNumber ?in_BadNumber ?ov_BadNumber ?hd_BadNumber ?sa_BadNumber ?ex_BadNumber ?ty_BadNumber ?kc_BadNumber ?ga_BadNumber ?gg_BadNumber ?na_BadNumber ?tk_BadNumber ?sb_BadNumber ?q_BadPolynomial ?in_BadPolynomial ?ov_BadPolynomial ?hd_BadPolynomial ?sa_BadPolynomial ?ex_BadPolynomial ?ty_BadPolynomial ?kc_BadPolynomial ?ga_BadPolynomial ?gg_BadPolynomial ?na_BadPolynomial ?tk_BadPolynomial ?sb_BadPolynomial ?q_BadBits ?in_BadBits ?ov_BadBits ?hd_BadBits ?sa_BadBits ?ex_BadBits ?ty_BadBits ?kc_BadBits ?ga_BadBits ?gg_BadBits ?na_BadBits ?tk_BadBits ?sb_BadBits ?z_all ?z_bool ?z_enumerate ?z_int ?z_isinstance ?z_len ?z_list ?z_max ?z_min ?z_range ?z_sum ?z_tuple ?ob_kt_Twisted_int ?ob_kt_BadWord_int ?ob_kt_BadState_int ?ob_kt_BadSteps_int ?ob_kt_BadNumber_int ?ob_kt_BadPolynomial_int ?ob_kt_BadBits_int ?ob_kt_Twisted_bool ?ob_kt_BadWord_bool ?ob_kt_BadState_bool ?ob_kt_BadSteps_bool ?ob_kt_BadNumber_bool ?ob_kt_BadPolynomial_bool ?ob_kt_BadBits_bool ?ob_kt_Twisted_tuple ?ob_kt_BadWord_tuple ?ob_kt_BadState_tuple ?ob_kt_BadSteps_tuple ?ob_kt_BadNumber_tuple ?ob_kt_BadPolynomial_tuple ?ob_kt_BadBits_tuple)
    (case q_Twisted => k_is)
    (case q_DrawError => k_is)
    (case q_BadWord => k_is)
    (case q_BadState => k_is)
    (case q_BadSteps => k_is)
    (case q_BadNumber => k_is)
    (case q_BadPolynomial => k_is)
    (case q_BadBits => k_is)
    (case a_BadWord___init__ => k_is)
    (case ti_BadWord___init__ => k_is)
    (case l_BadWord___init__ => k_is)
    (case c_BadWord___init__ => k_is)
    (case a_BadState___init__ => k_is)
    (case ti_BadState___init__ => k_is)
    (case l_BadState___init__ => k_is)
    (case c_BadState___init__ => k_is)
    (case a_BadSteps___init__ => k_is)
    (case ti_BadSteps___init__ => k_is)
    (case l_BadSteps___init__ => k_is)
    (case c_BadSteps___init__ => k_is)
    (case a_BadNumber___init__ => k_is)
    (case ti_BadNumber___init__ => k_is)
    (case l_BadNumber___init__ => k_is)
    (case c_BadNumber___init__ => k_is)
    (case a_BadPolynomial___init__ => k_is)
    (case ti_BadPolynomial___init__ => k_is)
    (case l_BadPolynomial___init__ => k_is)
    (case c_BadPolynomial___init__ => k_is)
    (case a_BadBits___init__ => k_is)
    (case ti_BadBits___init__ => k_is)
    (case l_BadBits___init__ => k_is)
    (case c_BadBits___init__ => k_is)
    (case a_is_integer => k_is)
    (case l_is_integer => k_is)
    (case c_is_integer => k_is)
    (case k_is_integer => k_is)
    (case a_is_word => k_is)
    (case l_is_word => k_is)
    (case c_is_word => k_is)
    (case k_is_word => k_is)
    (case a_need_word => k_is)
    (case l_need_word => k_is)
    (case c_need_word => k_is)
    (case k_need_word => k_is)
    (case a_own_tempered => k_is)
    (case l_own_tempered => k_is)
    (case c_own_tempered => k_is)
    (case k_own_tempered => k_is)
    (case a_tempered => k_is)
    (case l_tempered => k_is)
    (case c_tempered => k_is)
    (case k_tempered => k_is)
    (case a_undo_factor => k_is)
    (case l_undo_factor => k_is)
    (case c_undo_factor => k_is)
    (case k_undo_factor => k_is)
    (case a_untempered => k_is)
    (case l_untempered => k_is)
    (case c_untempered => k_is)
    (case k_untempered => k_is)
    (case a_s3_is_whole => k_is)
    (case l_s3_is_whole => k_is)
    (case c_s3_is_whole => k_is)
    (case k_s3_is_whole => k_is)
    (case a_is_polynomial => k_is)
    (case l_is_polynomial => k_is)
    (case c_is_polynomial => k_is)
    (case k_is_polynomial => k_is)
    (case a_s3_need => k_is)
    (case l_s3_need => k_is)
    (case c_s3_need => k_is)
    (case k_s3_need => k_is)
    (case a_s3_need_modulus => k_is)
    (case l_s3_need_modulus => k_is)
    (case c_s3_need_modulus => k_is)
    (case k_s3_need_modulus => k_is)
    (case a_s3_product => k_is)
    (case l_s3_product => k_is)
    (case c_s3_product => k_is)
    (case k_s3_product => k_is)
    (case a_s3_parts => k_is)
    (case l_s3_parts => k_is)
    (case c_s3_parts => k_is)
    (case k_s3_parts => k_is)
    (case a_s3_power => k_is)
    (case l_s3_power => k_is)
    (case c_s3_power => k_is)
    (case k_s3_power => k_is)
    (case a_power_of => k_is)
    (case l_power_of => k_is)
    (case c_power_of => k_is)
    (case k_power_of => k_is)
    (case a_s3_need_bits => k_is)
    (case l_s3_need_bits => k_is)
    (case c_s3_need_bits => k_is)
    (case k_s3_need_bits => k_is)
    (case a_follows => k_is)
    (case l_follows => k_is)
    (case c_follows => k_is)
    (case k_follows => k_is)
    (case a_shortest_rule => k_is)
    (case l_shortest_rule => k_is)
    (case c_shortest_rule => k_is)
    (case k_shortest_rule => k_is)
    (case a_rule_length => k_is)
    (case l_rule_length => k_is)
    (case c_rule_length => k_is)
    (case k_rule_length => k_is)
    (case a_need_steps => k_is)
    (case l_need_steps => k_is)
    (case c_need_steps => k_is)
    (case k_need_steps => k_is)
    (case a_s3_need_row => k_is)
    (case l_s3_need_row => k_is)
    (case c_s3_need_row => k_is)
    (case k_s3_need_row => k_is)
    (case a_s3_moved => k_is)
    (case l_s3_moved => k_is)
    (case c_s3_moved => k_is)
    (case k_s3_moved => k_is)
    (case a_Twisted___init__ => k_is)
    (case i_Twisted___init__ => k_is)
    (case l_Twisted___init__ => k_is)
    (case c_Twisted___init__ => k_is)
    (case k_Twisted___init__ => k_is)
    (case mk_Twisted___init__ => k_is)
    (case kc_Twisted___init__ => k_is)
    (case rd_Twisted_state_after => k_is)
    (case ga_Twisted_state_after => k_is)
    (case a_Twisted_state_after => k_is)
    (case r_Twisted_state_after => k_is)
    (case l_Twisted_state_after => k_is)
    (case c_Twisted_state_after => k_is)
    (case k_Twisted_state_after => k_is)
    (case a_Twisted_state => k_is)
    (case g_Twisted_state => k_is)
    (case t_Twisted_state => k_is)
    (case r_Twisted_state => k_is)
    (case l_Twisted_state => k_is)
    (case c_Twisted_state => k_is)
    (case k_Twisted_state => k_is)
    (case a_Twisted_next_word => k_is)
    (case i_Twisted_next_word => k_is)
    (case l_Twisted_next_word => k_is)
    (case c_Twisted_next_word => k_is)
    (case k_Twisted_next_word => k_is)
    (case a_Twisted_lane => k_is)
    (case i_Twisted_lane => k_is)
    (case l_Twisted_lane => k_is)
    (case c_Twisted_lane => k_is)
    (case k_Twisted_lane => k_is)
    (case a__law_begun => k_is)
    (case l__law_begun => k_is)
    (case c__law_begun => k_is)
    (case k__law_begun => k_is)
    (case a__law_next => k_is)
    (case l__law_next => k_is)
    (case c__law_next => k_is)
    (case k__law_next => k_is)
    (case a__law_start => k_is)
    (case l__law_start => k_is)
    (case c__law_start => k_is)
    (case k__law_start => k_is)
    (case a__law_joined => k_is)
    (case l__law_joined => k_is)
    (case c__law_joined => k_is)
    (case k__law_joined => k_is)
    (case a__law_sums_right => k_is)
    (case l__law_sums_right => k_is)
    (case c__law_sums_right => k_is)
    (case k__law_sums_right => k_is)
    (case a__law_lane_right => k_is)
    (case l__law_lane_right => k_is)
    (case c__law_lane_right => k_is)
    (case k__law_lane_right => k_is)
    (case a__law_alone_right => k_is)
    (case l__law_alone_right => k_is)
    (case c__law_alone_right => k_is)
    (case k__law_alone_right => k_is)
    (case a_law => k_is)
    (case l_law => k_is)
    (case c_law => k_is)
    (case k_law => k_is)
    (case e_WORDS => k_is)
    (case e_FACTOR => k_is)
    (case e_MOST_DIGITS => k_is)
    (case e_MOST_BITS => k_is)
    (case e_MOST_STEPS => k_is)
    (case e_SIZE => k_is)
    (case e_TAP => k_is)
    (case e_RULE => k_is)
    (case e_PERIOD => k_is)
    (case pg_Twisted => k_is)
    (case hd_Twisted => k_is)
    (case po_Twisted => k_is)
    (case sa_Twisted => k_is)
    (case ha_Twisted => k_is)
    (case hn_Twisted => k_is)
    (case ht_Twisted => k_is)
    (case hm_Twisted => k_is)
    (case na_Twisted_s3_state => k_is)
    (case rd_DrawError => k_is)
    (case rg_DrawError => k_is)
    (case fi_DrawError => k_is)
    (case ha_BadWord => k_is)
    (case hn_BadWord => k_is)
    (case ht_BadWord => k_is)
    (case hm_BadWord => k_is)
    (case ha_BadState => k_is)
    (case hn_BadState => k_is)
    (case ht_BadState => k_is)
    (case hm_BadState => k_is)
    (case ha_BadSteps => k_is)
    (case hn_BadSteps => k_is)
    (case ht_BadSteps => k_is)
    (case hm_BadSteps => k_is)
    (case ha_BadNumber => k_is)
    (case hn_BadNumber => k_is)
    (case ht_BadNumber => k_is)
    (case hm_BadNumber => k_is)
    (case ha_BadPolynomial => k_is)
    (case hn_BadPolynomial => k_is)
    (case ht_BadPolynomial => k_is)
    (case hm_BadPolynomial => k_is)
    (case ha_BadBits => k_is)
    (case hn_BadBits => k_is)
    (case ht_BadBits => k_is)
    (case hm_BadBits => k_is)
    (case in_BadWord => kernel_rfl)
    (case ov_BadWord => kernel_rfl)
    (case hd_BadWord => k_is)
    (case sa_BadWord => k_is)
    (case ex_BadWord => k_is)
    (case ty_BadWord => k_is)
    (case kc_BadWord => k_is)
    (case ga_BadWord => k_is)
    (case gg_BadWord => k_is)
    (case na_BadWord => k_is)
    (case tk_BadWord => k_is)
    (case sb_BadWord => k_is)
    (case in_BadState => kernel_rfl)
    (case ov_BadState => kernel_rfl)
    (case hd_BadState => k_is)
    (case sa_BadState => k_is)
    (case ex_BadState => k_is)
    (case ty_BadState => k_is)
    (case kc_BadState => k_is)
    (case ga_BadState => k_is)
    (case gg_BadState => k_is)
    (case na_BadState => k_is)
    (case tk_BadState => k_is)
    (case sb_BadState => k_is)
    (case in_BadSteps => kernel_rfl)
    (case ov_BadSteps => kernel_rfl)
    (case hd_BadSteps => k_is)
    (case sa_BadSteps => k_is)
    (case ex_BadSteps => k_is)
    (case ty_BadSteps => k_is)
    (case kc_BadSteps => k_is)
    (case ga_BadSteps => k_is)
    (case gg_BadSteps => k_is)
    (case na_BadSteps => k_is)
    (case tk_BadSteps => k_is)
    (case sb_BadSteps => k_is)
    (case in_BadNumber => kernel_rfl)
    (case ov_BadNumber => kernel_rfl)
    (case hd_BadNumber => k_is)
    (case sa_BadNumber => k_is)
    (case ex_BadNumber => k_is)
    (case ty_BadNumber => k_is)
    (case kc_BadNumber => k_is)
    (case ga_BadNumber => k_is)
    (case gg_BadNumber => k_is)
    (case na_BadNumber => k_is)
    (case tk_BadNumber => k_is)
    (case sb_BadNumber => k_is)
    (case in_BadPolynomial => kernel_rfl)
    (case ov_BadPolynomial => kernel_rfl)
    (case hd_BadPolynomial => k_is)
    (case sa_BadPolynomial => k_is)
    (case ex_BadPolynomial => k_is)
    (case ty_BadPolynomial => k_is)
    (case kc_BadPolynomial => k_is)
    (case ga_BadPolynomial => k_is)
    (case gg_BadPolynomial => k_is)
    (case na_BadPolynomial => k_is)
    (case tk_BadPolynomial => k_is)
    (case sb_BadPolynomial => k_is)
    (case in_BadBits => kernel_rfl)
    (case ov_BadBits => kernel_rfl)
    (case hd_BadBits => k_is)
    (case sa_BadBits => k_is)
    (case ex_BadBits => k_is)
    (case ty_BadBits => k_is)
    (case kc_BadBits => k_is)
    (case ga_BadBits => k_is)
    (case gg_BadBits => k_is)
    (case na_BadBits => k_is)
    (case tk_BadBits => k_is)
    (case sb_BadBits => k_is)
    (case z_all => k_is)
    (case z_bool => k_is)
    (case z_enumerate => k_is)
    (case z_int => k_is)
    (case z_isinstance => k_is)
    (case z_len => k_is)
    (case z_list => k_is)
    (case z_max => k_is)
    (case z_min => k_is)
    (case z_range => k_is)
    (case z_sum => k_is)
    (case z_tuple => k_is)
    (case ob_kt_Twisted_int => kernel_rfl)
    (case ob_kt_BadWord_int => kernel_rfl)
    (case ob_kt_BadState_int => kernel_rfl)
    (case ob_kt_BadSteps_int => kernel_rfl)
    (case ob_kt_BadNumber_int => kernel_rfl)
    (case ob_kt_BadPolynomial_int => kernel_rfl)
    (case ob_kt_BadBits_int => kernel_rfl)
    (case ob_kt_Twisted_bool => kernel_rfl)
    (case ob_kt_BadWord_bool => kernel_rfl)
    (case ob_kt_BadState_bool => kernel_rfl)
    (case ob_kt_BadSteps_bool => kernel_rfl)
    (case ob_kt_BadNumber_bool => kernel_rfl)
    (case ob_kt_BadPolynomial_bool => kernel_rfl)
    (case ob_kt_BadBits_bool => kernel_rfl)
    (case ob_kt_Twisted_tuple => kernel_rfl)
    (case ob_kt_BadWord_tuple => kernel_rfl)
    (case ob_kt_BadState_tuple => kernel_rfl)
    (case ob_kt_BadSteps_tuple => kernel_rfl)
    (case ob_kt_BadNumber_tuple => kernel_rfl)
    (case ob_kt_BadPolynomial_tuple => kernel_rfl)
    (case ob_kt_BadBits_tuple => kernel_rfl)
#print axioms PySem.Challenge.cw_drawstate_k28_whole_lanes_of_twisted_sou_holds
