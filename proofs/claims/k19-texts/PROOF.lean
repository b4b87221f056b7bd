import PyProof.Rows.All
import Wide.All
import OpenK.AllK
import Wide.FinOn
import PySem.Challenge.RW_drawstate_k19_sums_and_products
import HandS.ForMost
import HandS.Exc
import HandS.Codes
import HandS.Wide
import HandS.WideBits
import HandS.IsInst
import HandS.Property
import HandS.Style
import HandS.Flow
import HandS.Small
import HandS.Lambda
import HandS.EndTab
import HandS.Walk
import HandS.GenCall
import HandS.GenList
import KE.KOpsOwn
import HandS.ClsMeth
import HandS.TupAny
import HandS.ExcInit
import HandS.ExcField
import HandS.ExcIs
import KE.KExcInit
import HandS.CallSlots
import HandS.Defaults
import HandS.TryMany
import HandS.Zip
import KE.KTryMore
import PyProof.StrLawsRepr
import HandS.HotCalls
import KE.KDflt
import HandS.TupMul
import HandS.Deep
import HandS.SetFor
import HandS.Star
import HandS.TupSets
import HandS.Iter
import KE.GoesEnum
import HandS.DictSubView
import KE.KDictWalk
import HandS.Conv
import HandS.Comp
import HandS.SortInts
import HandS.GenOver
import PyProof.GenRules
import PyProof.GenQ
import HandS.FStr
def PySem.W.Fast.tw10045970223693550466 : Nat := 0
def PySem.W.Fast.tw1429032805472970830 : Nat := 0
def PySem.W.Fast.tw15095938278169824852 : Nat := 0
def PySem.W.Fast.tw15650707214663502369 : Nat := 0
def PySem.W.Fast.tw1717494907254855979 : Nat := 0
def PySem.W.Fast.tw17194110111808864883 : Nat := 0
def PySem.W.Fast.tw17901595179088974504 : Nat := 0
def PySem.W.Fast.tw4011200076328491085 : Nat := 0
def PySem.W.Fast.tw4762886473779509036 : Nat := 0
def PySem.W.Fast.tw6283852534734941112 : Nat := 0
def PySem.W.Fast.tw9480240329380037689 : Nat := 0
set_option Elab.async false
set_option linter.all false
namespace Pf
open PySem PySem.W PyProof.Rows
set_option maxRecDepth 100000
set_option maxHeartbeats 0
open_top hd for PySem.Challenge.rw_drawstate_k19_sums_and_products
end Pf
set_option Elab.async false
set_option linter.all false
set_option maxRecDepth 100000
set_option maxHeartbeats 4000000
namespace Gx
open PySem PySem.Spec PyProof.Rows L2
structure FnG (P : Program) (w : World) (K : PySem.W.Frag) (mg : Str → Option Value) (base : Heap) (k : Nat) (f : Addr) (fd : FuncData) (ps : List Str) (sp : Sp) : Prop where
  len : ∀ vs H Q E, sp vs H Q E → vs.length = ps.length
  run : ∀ (A : Around) (outer : List Env) (s : Shared) (H : Hp) (args : Args) (us : List Value) (vs : List V) (Q : VK), A.guards = some [] → Room k A → Env0 P w K mg base A outer s H →
    BindsTo s fd args (ps.zip us) → Vals vs us → sp vs H Q C8.E0 → codeAny (model P w) A (.call (.ref f) args) (CR C8.CX0 outer P w H s Q C8.E0) s
structure CalG (P : Program) (w : World) (K : PySem.W.Frag) (mg : Str → Option Value) (base : Heap) (k : Nat) (x : Str) (sp : Sp) : Prop where
  ex : ∃ (f : Addr) (fd : FuncData) (ps : List Str), FnG P w K mg base k f fd ps sp ∧ mg x = some (.ref f) ∧ PySem.W.keepIn K (.ref f) = true ∧ Binds K fd ps []
section
variable {P : Program} {w : World} {K : PySem.W.Frag} {mg : Str → Option Value} {base : Heap}
theorem fnG_of {x qual : Str} {st : Stmt} {f : Addr} {fd : FuncData} {N ps : List Str} {k : Nat} {sp : Sp} (F : C8.Fun K x qual st f fd) (S : FnScope N ps (C8.fnScope st)) (len : ∀ vs H Q E, sp vs H Q E → vs.length = ps.length)
    (hbody : ∀ (cdv : Value) (A : Around) (outer : List Env) (s : Shared) (H : Hp) (vs : List V) (Q : VK), A.guards = some [] → Room k (A.deeper (envOfC qual (C8.fnScope st) s.heap.objs.size f cdv)) → sp vs H Q C8.E0 →
      ∃ t, PSs (cxOf C8.CX0 P w K mg base N qual (C8.fnScope st) f cdv A outer s H C8.E0).nox (C8.fnBody st) t ∧ t { nx := fun _ H' => Q .non H', rt := Q } (start N vs) H) : FnG P w K mg base (k + 1) f fd ps sp := by
  obtain ⟨oc, od, dV, kV, doc, pm, an, cdv, ct, osl, rfl, lk, hcd⟩ := F.ex
  refine ⟨len, fun A outer s H args us vs Q hg hr e0 hb r hsp => ?_⟩
  refine LamX.run_ofS (CX := C8.CX0) (E := C8.E0) lk hcd S hr e0 hb r (len _ _ _ _ hsp) fun hr' => ?_
  obtain ⟨t, h, q⟩ := hbody cdv A outer s H vs Q hg hr' hsp
  exact ⟨t, h.nox, q⟩
theorem calG {x : Str} {st : Stmt} {f : Addr} {fd : FuncData} {N ps : List Str} {k : Nat} {sp : Sp} (F : C8.Def K mg x st f fd) (b : Binds K fd ps []) (S : FnScope N ps (C8.fnScope st)) (len : ∀ vs H Q E, sp vs H Q E → vs.length = ps.length)
    (hbody : ∀ (cdv : Value) (A : Around) (outer : List Env) (s : Shared) (H : Hp) (vs : List V) (Q : VK), A.guards = some [] → Room k (A.deeper (envOfC x (C8.fnScope st) s.heap.objs.size f cdv)) → sp vs H Q C8.E0 →
      ∃ t, PSs (cxOf C8.CX0 P w K mg base N x (C8.fnScope st) f cdv A outer s H C8.E0).nox (C8.fnBody st) t ∧ t { nx := fun _ H' => Q .non H', rt := Q } (start N vs) H) : CalG P w K mg base (k + 1) x sp :=
  ⟨f, fd, ps, fnG_of F.fn S len hbody, F.mgf, F.kp, b⟩
end
section
variable {X : Cx} {k j : Nat} {x : Str} {sp : Sp} {p pos : Pos} {e : Expr} {es : List Expr} {t : TA}
theorem runG {f : Addr} {fd : FuncData} {ps : List Str} {pins : List (Addr × Obj)} {σ : L2.St} {H : Hp} {s : Shared} {Q : VK} {us : List Value} {vs : List V} (F : FnG X.prog X.w X.K X.mg X.base k f fd ps sp) (gd : X.A.guards = some []) (hr : Room k X.A) (hb : Binds X.K fd ps [])
    (I : Inv X pins σ H s) (r : Vals vs us) (h : sp vs H Q C8.E0) : wpAny (model X.prog X.w) X.A (call (.ref f) us) (EP X pins σ Q) X.xe s := by
  have hl : us.length = ps.length := r.length.symm.trans (F.len _ _ _ _ h)
  have hbt : BindsTo s fd ⟨us, []⟩ (ps.zip us) := by
    have z := hb s us I.kIn (by rw [List.append_nil]; exact hl)
    rw [List.append_nil] at z
    exact z
  have go := F.run X.A X.stack s H ⟨us, []⟩ us vs Q gd hr I.env0 hbt r h
  refine wpAny_call (codeAny_mono go fun res s2 hres => ?_)
  match res, hres with
  | .ok (.ret u), hq => exact I.after hq
  | .ok .next, hq => exact hq.elim
  | .ok .brk, hq => exact hq.elim
  | .ok .cont, hq => exact hq.elim
  | .error er, hq => exact (show False from hq).elim
theorem pe_g (c : CalG X.prog X.w X.K X.mg X.base k x sp) (gd : X.A.guards = some []) (hr : Room j X.A) (hk : k ≤ j) (hgl : Gl X x) (ha : PA X (e :: es) t)
    (hdb : (x == ("__debug__" : Str)) = false := by decide) (hst : starEach (e :: es) X.env = (false, eval e X.env) :: starEach es X.env := by rfl)
    (hpl : (backTo pos (starEach es X.env)).any (·.1) = false := by rfl) : PE X (.Call (.Name x p) (e :: es) [] pos) (tCall sp [] C8.E0 t) := by
  obtain ⟨f, fd, ps, F, hm, kp, b⟩ := c.ex
  constructor
  intro pins s σ H Q I h
  refine wpAny_Call_Name_kw (ld_glob I hgl hm ?_ hdb)
  refine PySem.W.callWith_K (h₀ := X.base) I.ok.mod.kin kp ?_ hst hpl
  refine thn (ha.run pos pins s σ H _ I h) fun us s1 got => ?_
  obtain ⟨vs, H1, I1, r, q⟩ := got
  refine ⟨I1.kIn, runG F gd (hr.mono hk) b I1 r ?_⟩
  have z : sp (vs ++ []) H1 Q C8.E0 := q
  rw [List.append_nil] at z
  exact z
end
end Gx
set_option Elab.async false
set_option linter.all false
set_option maxRecDepth 100000
set_option maxHeartbeats 4000000
namespace Gx
open PySem PySem.Spec PyProof.Rows L2
end Gx
set_option Elab.async false
set_option linter.all false
set_option maxRecDepth 100000
set_option maxHeartbeats 4000000
namespace Rd
open PySem PySem.Spec PyProof.Rows L2
section
variable {D : Ends} {σ : L2.St} {H H1 : Hp} {Q : VK} {QB : Bool → Hp → Prop} {QA : List V → Hp → Prop} {t1 t2 : TS} {te ta tb tc : TE} {t u : TT} {i j : Nat} {v x y : V} {m n : Int} {r r2 : R2} {K : PySem.W.Frag} {A B : Prop} {b : Bool} {p : Prop}
theorem seq (h : t1 { D with nx := t2 D } σ H) : tSeq t1 t2 D σ H := h
theorem next (h : D.nx σ H) : tNext D σ H := h
theorem nm {Qs : L2.St → Hp → Prop} (h : Qs (σ.set i (some v)) H) : gName i v σ H Qs := h
theorem ret (h : te σ H D.rt) : tRet te D σ H := h
theorem drop (h : te σ H fun _ H1 => D.nx σ H1) : tDrop te D σ H := h
theorem un {g : V → Hp → VK → Prop} (h : ta σ H fun x H1 => g x H1 Q) : tUn g ta σ H Q := h
theorem nil (h : QA [] H) : tNil σ H QA := h
theorem cons {tr : TA} (h : ta σ H fun x H1 => tr σ H1 fun xs H2 => QA (x :: xs) H2) : tCons ta tr σ H QA := h
theorem call {sp : Sp} {E : XK} {tr : TA} (h : tr σ H fun vs H1 => sp (vs ++ []) H1 Q E) : tCall sp [] E tr σ H Q := h
theorem cb {g : List V → Hp → VK → Prop} {tr : TA} (h : tr σ H fun vs H1 => g vs H1 Q) : tCB g tr σ H Q := h
theorem tup {tr : TA} (h : tr σ H fun xs H1 => xs.length ≤ sizeLine ∧ ∀ p, H1 p = none → Q (.ref p) (upd H1 p (.tup xs))) : tTup tr σ H Q := h
theorem lst {tr : TA} (h : tr σ H fun xs H1 => xs.length ≤ sizeLine ∧ ∀ p, H1 p = none → Q (.ref p) (upd H1 p (.lst xs))) : tLst tr σ H Q := h
end
def rLenQ (K : PySem.W.Frag) : List V → Hp → VK → Prop := fun xs H Q => ∃ p ys, xs = [.ref p] ∧ (SqL K H p ys ∨ SqT K H p ys) ∧ Q (.int ys.length) H
theorem call_lenQ {X : Cx} : CallR X (.builtin "len") (rLenQ X.K) := call_len_seq
def rMax2 : List V → Hp → VK → Prop := fun xs H Q => ∃ i j, xs = [.int i, .int j] ∧ Q (.int (if j > i then j else i)) H
theorem call_mx2 {X : Cx} (hc : X.calm = true) : CallR X (.builtin "max") rMax2 := call_max2 hc
def rMin2 : List V → Hp → VK → Prop := fun xs H Q => ∃ i j, xs = [.int i, .int j] ∧ Q (.int (if j < i then j else i)) H
theorem call_mn2 {X : Cx} (hc : X.calm = true) : CallR X (.builtin "min") rMin2 := call_min2 hc
theorem kit_self (K : PySem.W.Frag) (C : Addr) : PySem.W.kitOne K (.ref C) (.ref C) = some true := by
  unfold PySem.W.kitOne
  simp
theorem sql {K : PySem.W.Frag} {H : Hp} {a : Addr} {xs : List V} (h : H a = some (.lst xs)) : SqL K H a xs := .inl (.inl h)
theorem make {C : Addr} {sp : Sp} {E : XK} {t : TA} {σ : L2.St} {H : Hp} {Q : VK} (h : t σ H fun vs H1 => ∀ x dx, H1 x = none → H1 dx = none → dx ≠ x →
  sp (.ref x :: (vs ++ [])) (upd (upd H1 dx (.own x)) x (.ins C dx [])) (fun v H2 => v = .non ∧ Q (.ref x) H2) E) : tMake C sp [] E t σ H Q := h
theorem cut {t u : TS} {D : Ends} {σ : L2.St} {H : Hp} (Mid : L2.St → Hp → Prop) (h1 : t { D with nx := Mid } σ H) (h2 : ∀ σ' H', Mid σ' H' → u D σ' H') : C8.tCut t u D σ H := ⟨Mid, h1, h2⟩
theorem bm {K : PySem.W.Frag} {T : String} {r : V → List V → Hp → VK → Prop} {to : TE} {t : TA} {σ : L2.St} {H : Hp} {Q : VK} (h : to σ H fun x H1 => tyV K T x H1 ∧ t σ H1 fun xs H2 => r x xs H2 Q) : tBM K T r to t σ H Q := h
/-- all that was tracked stands -/
abbrev Ex := L2.Same
theorem ex_new {H : Hp} {p : Addr} {o : HO} (h : H p = none) : Ex H (upd H p o) := fun b z e => by
  rw [upd_ne (ne_of_none e h)]
  exact e
theorem ex_t {K : PySem.W.Frag} {H H' : Hp} {a : Addr} {xs : List V} (e : Ex H H') (h : SqT K H a xs) : SqT K H' a xs := by
  rcases h with (h | ⟨o, h⟩) | h
  · exact .inl (.inl (e _ _ h))
  · exact .inl (.inr ⟨o, e _ _ h⟩)
  · exact .inr h
end Rd
set_option Elab.async false
set_option linter.all false
set_option maxRecDepth 100000
set_option maxHeartbeats 4000000
set_option exponentiation.threshold 2000
namespace Gx
open PySem PySem.Spec PyProof.Rows L2
mutual
def nodes : PyData → Nat
  | .list xs => nodesAll xs + 1
  | .tuple xs => nodesAll xs + 1
  | .none => 1
  | .bool _ => 1
  | .int _ => 1
  | .str _ => 1
  | .dict _ => 1
def nodesAll : List PyData → Nat
  | [] => 0
  | x :: xs => nodes x + nodesAll xs
end
theorem log_lt {n k : Nat} (hk : 0 < k) (h : n < 2 ^ k) : n.log2 < k := PySem.Flt.log2_lt_of hk h
/-- what repr asks of the data -/
structure Okd (d : PyData) : Prop where
  sh : d.showable = true
  dp : d.depth ≤ 60
  ln : d.shown.length ≤ sizeLine
end Gx
set_option Elab.async false
set_option linter.all false
set_option maxRecDepth 100000
set_option maxHeartbeats 1000000
namespace Gx
open PySem PySem.Spec PyProof.Rows L2 GenW
end Gx
set_option Elab.async false
set_option linter.all false
set_option maxRecDepth 100000
set_option maxHeartbeats 1000000
namespace Gx
open PySem PySem.Spec PyProof.Rows L2 GenW
structure SAt (K : PySem.W.Frag) (C : Addr) (m : Str) (f : Addr) : Prop where
  ex : ∃ (mc : Value) (p : Addr) (rest : List Value), ClX.CRead K C mc ∧ PySem.W.findCls K (.ref C) mc m = some (.get (.builtin "staticmethod.__get__") (.ref p) .none (.ref C)) ∧ PySem.W.recIn K p "staticmethod" = some (.ref f :: rest) ∧ PySem.W.keepIn K (.ref f) = true
end Gx
namespace Gx
open PySem PySem.Spec PyProof.Rows L2 GenW
theorem isTup {K : PySem.W.Frag} {a : Addr} {xs : List V} {H : Hp} {Q : VK} (h : H a = some (.tup xs)) (q : Q (.bl true) H) : rIsi K [.ref a, .ty "tuple"] H Q :=
  ⟨_, _, .type "tuple", _, true, rfl, .ty _, .base (.tup h), by first | rfl | decide +kernel | kernel_rfl, q⟩
section
variable {t u : TGn} {tp : TS} {te : TE} {D : GEnds} {ys : List V} {σ : L2.St} {H : Hp}
theorem lg {tg : TGen} {Q : VK} (h : tg σ H fun out H2 => ∀ p, H2 p = none → Q (.ref p) (upd H2 p (.lst out))) : tListG tg σ H Q := h
theorem mg {C : Addr} {m : Str} {sp : SpG} {E : XK} {ta : TE} {t : TA} {cont : List V → Hp → Prop} (h : ta σ H fun x H1 => ∃ a dx fs, x = .ref a ∧ H1 a = some (.ins C dx fs) ∧ fs.lookup m = none ∧ t σ H1 fun vs H2 => sp (x :: (vs ++ [])) H2 cont E) : tMethG C m sp [] E ta t σ H cont := h
end
end Gx
namespace Gx
open PySem PySem.Spec PyProof.Rows L2 GenW
end Gx
set_option Elab.async false
set_option linter.all false
set_option maxRecDepth 100000
set_option maxHeartbeats 1000000
namespace Gx
open PySem PySem.Spec PyProof.Rows L2 GenW HT
end Gx
set_option Elab.async false
set_option linter.all false
set_option maxRecDepth 100000
set_option maxHeartbeats 1000000
namespace Gx
open PySem PySem.Spec PyProof.Rows L2 GenW
/-- the promise of such a class's __init__ -/
def spExc (C : Addr) (fl : Str) : Sp := fun vs H Q _ => ∃ (p : Addr) (v : V), vs = [.ref p, v] ∧ H p = some (exo p C none) ∧ ∀ dx, H dx = none → dx ≠ p → Q .non (upd (upd H dx (exd dx [(fl, v)])) p (exo p C (some dx)))
/-- the exception is made: its dict holds the value -/
theorem mkO {C : Addr} {fl : Str} {v : V} {H : Hp} {Q : XK} (q : ∀ d H', H d = none → Rd.Ex H H' → H' d = some (.xd [(fl, v)]) → Q (.ref C) (some d) H') :
    [v].length ≤ 1000 ∧ ∀ a, H a = none → spExc C fl (.ref a :: ([v] ++ [])) (upd H a (exo a C none))
      (fun r H2 => r = .non ∧ ∃ (d : Addr) (fs : List (Str × V)), H2 a = some (exo a C (some d)) ∧ H2 d = some (exd d fs) ∧ H d = none ∧ Q (.ref C) (some d) (upd (del H2 a) d (.xd fs))) (fun _ _ _ => False) := by
  refine ⟨Nat.le_of_ble_eq_true rfl, fun a ha => ⟨a, v, rfl, upd_same, fun dx hd ne => ⟨rfl, dx, [(fl, v)], upd_same, ?_, ?_, ?_⟩⟩⟩
  · rw [upd_ne ne, upd_same]
  · rw [upd_ne ne] at hd; exact hd
  · have hd' : H dx = none := by rw [upd_ne ne] at hd; exact hd
    refine q dx _ hd' (fun c o h => ?_) upd_same
    have n1 : c ≠ a := ne_of_none h ha
    have n2 : c ≠ dx := ne_of_none h hd'
    rw [upd_ne n2, del_ne n1, upd_ne n1, upd_ne n2, upd_ne n1]
    exact h
structure CalX (P : Program) (w : World) (K : PySem.W.Frag) (mg : Str → Option Value) (base : Heap) (k : Nat) (x : Str) (sp : Sp) : Prop where
  ex : ∃ (f : Addr) (fd : FuncData) (ps : List Str), FnOk P w K mg base (CX P w) k f fd ps sp ∧ mg x = some (.ref f) ∧ PySem.W.keepIn K (.ref f) = true ∧ Binds K fd ps []
theorem takes_cx {P : Program} {w : World} {K : PySem.W.Frag} {mg : Str → Option Value} {base : Heap} {N : List Str} {qual : Str} {scope : Scope} {f : Addr} {cd : Value} {A : Around} {outer : List Env} {s : Shared} {H : Hp} {E : XK} :
    Takes (cxOf (CX P w) P w K mg base N qual scope f cd A outer s H E) (fun cls d _ H' => E cls d H') := takes_of rfl rfl rfl rfl
theorem calX {P : Program} {w : World} {K : PySem.W.Frag} {mg : Str → Option Value} {base : Heap} {x : Str} {st : Stmt} {f : Addr} {fd : FuncData} {N ps : List Str} {k : Nat} {sp : Sp} (F : C8.Def K mg x st f fd) (b : Binds K fd ps []) (S : FnScope N ps (C8.fnScope st)) (len : ∀ vs H Q E, sp vs H Q E → vs.length = ps.length)
    (hbody : ∀ (cdv : Value) (A : Around) (outer : List Env) (s : Shared) (H : Hp) (vs : List V) (Q : VK) (E : XK), Room k (A.deeper (envOfC x (C8.fnScope st) s.heap.objs.size f cdv)) → sp vs H Q E →
      ∃ t, PSs (cxOf (CX P w) P w K mg base N x (C8.fnScope st) f cdv A outer s H E) (C8.fnBody st) t ∧ t { nx := fun _ H' => Q .non H', rt := Q } (start N vs) H) : CalX P w K mg base (k + 1) x sp := by
  obtain ⟨oc, od, dV, kV, doc, pm, an, cdv, ct, osl, rfl, lk, hcd⟩ := F.fn.ex
  exact ⟨f, _, ps, fn_of lk hcd S len (hbody cdv), F.mgf, F.kp, b⟩
section
variable {X : Cx} {k j : Nat} {x : Str} {sp : Sp} {p pos : Pos} {e : Expr} {es : List Expr} {t : TA} {W : WX} {E : XK}
theorem pe_cx (c : CalX X.prog X.w X.K X.mg X.base k x sp) (tk : Takes X W) (hW : ∀ cls d σ H, E cls d H → W cls d σ H) (hr : Room j X.A) (hk : k ≤ j) (hg : Gl X x) (ha : PA X (e :: es) t)
    (hdb : (x == ("__debug__" : Str)) = false := by decide) (he : starEach (e :: es) X.env = (false, eval e X.env) :: starEach es X.env := by rfl) (hpl : (backTo pos (starEach es X.env)).any (·.1) = false := by rfl) :
    PE X (.Call (.Name x p) (e :: es) [] pos) (tCall sp [] E t) := by
  obtain ⟨f, fd, ps, F, hm, kp, b⟩ := c.ex
  exact pe_call F (hr.mono hk) hg hm kp b .nil (passes_call tk hW) ha hdb he hpl
end
end Gx
set_option Elab.async false
set_option linter.all false
set_option maxRecDepth 100000
set_option maxHeartbeats 1000000
namespace Gx
open PySem PySem.Spec PySem.Calls PyProof.Rows PySem.W
section
variable {prog : Program} {w : World} {A : Around} {E : Value → Shared → Prop} {s : Shared} {K : Frag} {a D : Addr} {oa odict : Obj}
/-- e.__class__ -/
theorem cls_of_exc {Q : Option Value → Shared → Prop} (G : L2.ExcC K D) (KI : K.In s.heap) (J : InstAt s.heap a oa D (some odict)) (q : Q (some (.ref D)) { s with toks := s.toks + 1 }) : wpAny (model prog w) A (getAttr? (.ref a) "__class__") Q E s := by
  have some1 : (clsIn K D).isSome = true := by
    obtain ⟨_, e, _⟩ := any_some G.hd
    rw [e]; rfl
  have found := findObj_data (od := odict) some1 G.ha G.hn G.ht
  obtain ⟨hp, gs, dr, tk, oss⟩ := s
  have M1 : Looks (model prog w) hp (typeOf (.ref a)) (.ref D) := J.type
  have M2 := looks_findIn (M := model prog w) KI G.hg
  have M3 := looks_findIn (M := model prog w) KI G.hk
  have M4 := looks_find (M := model prog w) KI J found
  have M5 : Looks (model prog w) hp (isInstance (.ref a) (.type "BaseException")) true := M1.andThen (looks_subIn KI G.hs)
  have other : (Value.builtin "BaseException.__getattribute__" == Value.builtin "object.__getattribute__") = false := by decide +kernel
  have b1 : (onTheHeap (Value.ref D) && Value.builtin "BaseException.__getattribute__" == Value.builtin "object.__getattribute__") = false := by rw [other]; rfl
  unfold getAttr? getAttrBy? getAttrBy
  refine wpAny_bind (wpAny_mkText (wpAny_bind (wpAny_attempt (wpAny_holding (wpAny_bind (M1.at (wpAny_bind (M2.at ?a1))))))))
  case a1 =>
    show wpAny _ _ (if (onTheHeap (Value.ref D) && Value.builtin "BaseException.__getattribute__" == Value.builtin "object.__getattribute__") = true then _ else _) _ _ _
    rw [b1, if_neg Bool.false_ne_true]
    unfold getAttrByItsOwn hookBefore
    refine wpAny_bind ?a2
    case a2 =>
      rw [if_pos (show onTheHeap (Value.ref D) = true from rfl)]
      refine M3.at (wpAny_bind (wpAny_attempt (wpAny_holding ?a3)))
      case a3 =>
        unfold callGetattribute
        rw [show (false && onTheHeap (Value.builtin "BaseException.__getattribute__")) = false from rfl, if_neg Bool.false_ne_true]
        unfold boundAndCalled
        rw [PySem.F.excAttr_ValueError.ga.bind (.ref a)]
        refine wpAny_bind (wpAny_pure ?a4)
        case a4 =>
          show wpAny _ _ (call (.builtin "BaseException.__getattribute__") [.ref a, .str "__class__" tk]) _ _ _
          refine wpAny_call (codeAny_call_builtin PySem.F.excAttr_ValueError.ga.plain PySem.F.entry_bexc_ga (@check_slot (model prog w) _ _ ⟨hp, gs, dr, tk + 1, oss⟩ "BaseException.__getattribute__" "BaseException" "__getattribute__" (.ref a) [.str "__class__" tk] [] _
            (by decide +kernel) (by decide +kernel) M5 (PySem.F.args_bexc_ga (.ref a) (.str "__class__" tk)) ?a5))
          case a5 =>
            unfold Builtin.«object.__getattribute__»
            refine wpAny_bind (wpAny_of_eq (a := ((Value.ref a : Value), [Value.str "__class__" tk])) (by first | rfl | (simp only [slotArgs]; rfl)) (wpAny_bind (wpAny_pure (wpAny_bind (M1.at (wpAny_bind (M4.at ?a6)))))))
            case a6 =>
              show wpAny _ _ (holding [Value.builtin "object.__class__"] (call (.builtin "getset_descriptor.__get__") [.builtin "object.__class__", .ref a, .ref D]) >>= ret) _ _ _
              refine wpAny_bind (wpAny_holding (wpAny_call (class_get (s := ⟨hp, gs, dr, tk + 1, oss⟩) KI J G.hm (wpAny_pure ?a7))))
              case a7 =>
                show wpAny _ _ (handedOut (.ref D)) _ _ _
                rw [handedOut_of (v := .ref D) rfl]
                first
                  | exact wpAny_pure (wpAny_pure q)
                  | exact wpAny_pure q
                  | exact wpAny_pure (wpAny_bind (wpAny_pure (wpAny_pure q)))
theorem kit_exc (G : L2.ExcC K D) : KitX K (.ref a) (.ref D) (fun h => InstAt h a oa D (some odict)) := by
  have atK : ∃ c d cd sl, K.lookup D = some ⟨c, d, .cls cd, sl⟩ := by
    obtain ⟨_, e, _⟩ := any_some G.hd
    unfold clsIn at e
    split at e
    · exact ⟨_, _, _, _, by assumption⟩
    · cases e
  obtain ⟨c, d, cd, sl, eD⟩ := atK
  refine ⟨fun _ _ _ J => J.type, fun _ _ KI _ => ?_, fun h tp dd its n sl' KI e => ?_, fun KI J q => cls_of_exc G KI J q⟩
  · intro A' Q' E' s' k q
    unfold isType loadHead
    exact wpAny_bind (wpAny_loadPart (k _ _ (KI _ _ eD)) (wpAny_pure q))
  · refine Bool.eq_false_iff.mpr fun z => ?_
    obtain rfl : D = tp := Value.ref.inj (beq_iff_eq.mp z)
    cases (KI _ _ eD).symm.trans e
end
open L2
end Gx
set_option Elab.async false
set_option linter.all false
set_option maxRecDepth 100000
set_option maxHeartbeats 1000000
namespace Gx
open PySem PySem.Spec PyProof.Rows L2
structure LamDef (K : PySem.W.Frag) (mg : Str → Option Value) (x : Str) (st : Stmt) (f c : Addr) (fd : FuncData) : Prop where
  ex : ∃ (oc : Value) (od : Option Addr) (dV kV doc pm : Value) (an : Option Addr) (ct : Value) (osl : Array (Option Value)),
    fd = PySem.W.fnOf x x (C8.fnArgs st) (C8.fnBody st) (C8.fnScope st) dV kV doc pm an (.ref c) ct ∧ K.lookup f = some ⟨oc, od, .func fd, osl⟩ ∧ PySem.W.codeIn K (.ref c) x = true
  mgf : mg x = some (.ref f)
  kp : PySem.W.keepIn K (.ref f) = true
theorem calGc {P : Program} {w : World} {K : PySem.W.Frag} {mg : Str → Option Value} {base : Heap} {x : Str} {st : Stmt} {f c : Addr} {fd : FuncData} {N ps : List Str} {k : Nat} {sp : Sp} (F : LamDef K mg x st f c fd) (b : Binds K fd ps []) (S : FnScope N ps (C8.fnScope st))
    (len : ∀ vs H Q E, sp vs H Q E → vs.length = ps.length)
    (hbody : ∀ (A : Around) (outer : List Env) (s : Shared) (H : Hp) (vs : List V) (Q : VK), A.guards = some [] → Room k (A.deeper (envOfC x (C8.fnScope st) s.heap.objs.size f (.ref c))) → sp vs H Q C8.E0 →
      ∃ t, PSs (cxOf C8.CX0 P w K mg base N x (C8.fnScope st) f (.ref c) A outer s H C8.E0).nox (C8.fnBody st) t ∧ t { nx := fun _ H' => Q .non H', rt := Q } (start N vs) H) : CalG P w K mg base (k + 1) x sp := by
  obtain ⟨oc, od, dV, kV, doc, pm, an, ct, osl, rfl, lk, hcd⟩ := F.ex
  refine ⟨f, _, ps, ⟨len, fun A outer s H args us vs Q hg hr e0 hb r hsp => LamX.run_ofS (CX := C8.CX0) (E := C8.E0) lk hcd S hr e0 hb r (len _ _ _ _ hsp) fun hr' => ?_⟩, F.mgf, F.kp, b⟩
  obtain ⟨t, h, q⟩ := hbody A outer s H vs Q hg hr' hsp
  exact ⟨t, h.nox, q⟩
theorem takes_lam {X : Cx} {A : Around} {outer : List Env} {s : Shared} {H : Hp} {E : XK} {scope : Scope} {f c : Addr} : Takes (LamX.lamCx X A outer s H E scope f c) (fun cls d _ H' => E cls d H') := takes_of rfl rfl rfl rfl
/-- x(lambda: body), x a def that calls what it gets -/
theorem pe_lam {X : Cx} {T : List (Addr × Str)} {TT : (XK → Hp → VK → Prop) → Hp → VK → Prop} {x a : Str} {st : Stmt} {g c tb : Addr} {k j : Nat} {fd : FuncData} {Ng : List Str} {params : Arguments} {body : Expr} {scope : Scope} {t : XK → TE} {p lpos pos : Pos}
    (D : C8.Def X.K X.mg x st g fd) (b : Binds X.K fd [a] []) (Sg : FnScope Ng [a] (C8.fnScope st)) (hNg : Ng[0]? = some a) (hva : Vis (C8.fnScope st) a) (hG : ∀ cdg, LamX.GivesTo X Ng x (C8.fnScope st) g cdg (C8.fnBody st) a (X.env.qual ++ "<lambda>") TT)
    (TB : LamX.TabB X.base X.mg c tb) (hcode : X.env.code = .ref c) (hmT : (tb, X.env.qual ++ "<lambda>") ∈ T) (hu : ∀ p ∈ T, p.1 = tb → p.2 = X.env.qual ++ "<lambda>") (hr : Room j X.A) (hk : k + 2 ≤ j) (hg : Gl X x) (L : LamX.LamS X.env.scope scope)
    (hbody : ∀ (A : Around) (outer : List Env) (s : Shared) (H : Hp) (E : XK) (f c' : Addr), Room k (A.deeper (LamX.lamEnv X scope s.heap.objs.size f c')) → PE (LamX.lamCx X A outer s H E scope f c') body (t E))
    (hdef : defaultsOf params X.env = ([], []) := by rfl) (hbind : ∀ (q : Str) (cl : List (Str × Addr)) (pm cv ctv : Value), bindArgs (PySem.W.kla_fn "<lambda>" q params body scope cl pm cv ctv) ⟨[], []⟩ = pure [] := by intros; rfl)
    (hdb : (x == ("__debug__" : Str)) = false := by decide) (hd : (a == ("__debug__" : Str)) = false := by decide) (hcd : (a == ("__classdict__" : Str)) = false := by decide) :
    PE X (.Call (.Name x p) [.Lambda params body scope lpos] [] pos) (LamX.tLam T TT t) := by
  obtain ⟨oc, od, dV, kV, doc, pm, an, cdv, ct, osl, rfl, lk, hc⟩ := D.fn.ex
  exact LamX.pe_lamcall hg D.mgf D.kp lk hc b Sg hNg hva (hG cdv) TB hcode hmT hu (hr.mono hk) L hdef hbind hbody hdb hd hcd
end Gx
set_option Elab.async false
set_option linter.all false
set_option maxRecDepth 100000
set_option maxHeartbeats 1000000
namespace Gx
open PySem PySem.Spec PyProof.Rows L2
end Gx
set_option Elab.async false
set_option linter.all false
set_option maxRecDepth 100000
set_option maxHeartbeats 4000000
namespace Au
open PySem PySem.Spec PyProof.Rows L2
def ExP (p : Addr) (H H' : Hp) : Prop := ∀ c o, H c = some o → c ≠ p → H' c = some o
theorem ExP.refl {p : Addr} (H : Hp) : ExP p H H := fun _ _ e _ => e
theorem ExP.of {p : Addr} {H H' : Hp} (e : Rd.Ex H H') : ExP p H H' := fun c o h _ => e c o h
theorem ExP.trans {p : Addr} {H H1 H2 : Hp} (a : ExP p H H1) (b : ExP p H1 H2) : ExP p H H2 := fun c o h n => b c o (a c o h n) n
theorem rep {H : Hp} {Q : VK} {l : Addr} {k : Int} {xs : List V} (h1 : H l = some (.lst xs)) (hk : 0 ≤ k ∧ k < 100) (hl : xs.length ≤ 10) (q : ∀ p H', H p = none → Rd.Ex H H' → H' p = some (.lst (List.replicate k.toNat xs).flatten) → Q (.ref p) H') : rRep (.ref l) (.int k) H Q :=
  ⟨l, k, xs, rfl, rfl, h1, by omega, by omega, Nat.le_trans (Nat.mul_le_mul hl (show k.toNat ≤ 100 by omega)) (Nat.le_of_ble_eq_true rfl), fun p hp => q p _ hp (Rd.ex_new hp) upd_same⟩
def NewO (H : Hp) (o : HO) (Q : VK) : Prop := ∀ p, H p = none → Q (.ref p) (upd H p o)
section
variable {σ : L2.St} {H : Hp} {Q : VK} {K : PySem.W.Frag} {tr : TA} {te ti : TE} {o : HO} {a C dx : Addr} {fs : List (Str × V)} {xs : List V} {v : V}
theorem new (q : ∀ p H', H p = none → Rd.Ex H H' → H' p = some o → Q (.ref p) H') : NewO H o Q := fun p hp => q p _ hp (Rd.ex_new hp) upd_same
theorem tup (h : tr σ H fun xs H1 => xs.length ≤ sizeLine ∧ NewO H1 (.tup xs) Q) : tTup tr σ H Q := h
theorem lst (h : tr σ H fun xs H1 => xs.length ≤ sizeLine ∧ NewO H1 (.lst xs) Q) : tLst tr σ H Q := h
theorem sum {ns : List Int} (h : SqL K H a (ns.map V.int)) (q : Q (.int ns.sum) H) : rSum K [.ref a] H Q := ⟨a, ns, rfl, h, q⟩
end
end Au
set_option maxRecDepth 100000
namespace ML
def A : Int := 205891132094649
def M : Int := 281474976710656
def S : Nat → Int
  | 0 => 0
  | n + 1 => A * S n + 1
/-- the state after n steps, as an integer -/
def raw (n : Nat) (x : Int) : Int := A ^ n * x + 11 * S n
def m1 (n : Nat) : Int := A ^ n % 281474976710656
def m2 (n : Nat) : Int := 11 * S n % 281474976710656
end ML
set_option linter.all false
namespace MX
def xs (k n : Nat) : Nat := n ^^^ (n / 2 ^ k)
def F : Nat := 3486784401
def U : Nat := 3396732273
def tmp (n : Nat) : Nat := xs 16 (xs 13 n * F % 4294967296)
theorem xx (a b : Nat) : a ^^^ b ^^^ b = a := by rw [Nat.xor_assoc, Nat.xor_self, Nat.xor_zero]
/-- the rounds -/
def fe (s : Nat) (p : Nat × Nat) : Nat × Nat := (p.2, p.1 ^^^ tmp ((p.2 + 1000003 * s) % 4294967296))
def bk (s : Nat) (p : Nat × Nat) : Nat × Nat := (p.2 ^^^ tmp ((p.1 + 1000003 * s) % 4294967296), p.1)
def ok (p : Nat × Nat) : Prop := p.1 < 2 ^ 32 ∧ p.2 < 2 ^ 32
end MX
set_option Elab.async false
set_option linter.all false
set_option maxRecDepth 100000
set_option maxHeartbeats 4000000
set_option exponentiation.threshold 2000
namespace Pr
open PySem PySem.Spec PyProof.Rows L2
def NonInt (H : Hp) (v : V) : Prop := v = .non ∨ (∃ b, v = .bl b) ∨ (∃ s, v = .str s) ∨ (∃ a xs, v = .ref a ∧ H a = some (.tup xs)) ∨ (∃ a xs, v = .ref a ∧ H a = some (.lst xs)) ∨ ∃ a kvs, v = .ref a ∧ H a = some (.dK kvs)
/-- is the value a number in its bounds -/
abbrev spIs (lo hi : Int) : Sp := fun vs H Q _ => ∃ v, vs = [v] ∧ ((∃ n : Int, v = .int n ∧ Q (.bl (decide (lo ≤ n ∧ n ≤ hi))) H) ∨ (NonInt H v ∧ Q (.bl false) H))
def MapAt (K : PySem.W.Frag) (H : Hp) (a : Addr) (n : Nat) : Prop := SqT K H a [.int (ML.m1 n), .int (ML.m2 n)]
theorem MapAt.ex {K : PySem.W.Frag} {H H' : Hp} {a : Addr} {n : Nat} (e : Rd.Ex H H') (h : MapAt K H a n) : MapAt K H' a n := Rd.ex_t e h
end Pr
set_option Elab.async false
set_option linter.all false
set_option maxRecDepth 100000
set_option maxHeartbeats 4000000
namespace Gx
open PySem PySem.Spec PyProof.Rows L2
def gFld (K : PySem.W.Frag) (to : TE) (f : Str) : TG := fun v σ H Q => to σ H fun x H1 => ∃ a C dx fs, x = .ref a ∧ H1 a = some (.ins C dx fs) ∧ Cls K C ∧ NoAttr K C f ∧ fs.length < 1000 ∧ Q σ (upd H1 a (.ins C dx (putF f v fs)))
end Gx
set_option Elab.async false
set_option linter.all false
set_option maxRecDepth 100000
set_option maxHeartbeats 1000000
namespace Gx
open PySem PySem.Spec PyProof.Rows L2 GenW Builtin Builtin.ObjectAttr
structure YexC (K : PySem.W.Frag) (C : Addr) (initId : String) : Prop where
  cls : ∃ (B newId : String) (bmB : List Value), ExcBaseFacts B newId initId bmB ∧ PySem.StoreFacts B bmB "object.__setattr__" "object" ∧ PySem.W.excInitIn K C bmB newId = true ∧ PySem.W.excOver K C bmB = true
  hd : PySem.W.hasDictIn K C = true
  sa : PySem.W.findIn K (.ref C) "__setattr__" = some (some (.builtin "object.__setattr__"))
  exC : PySem.W.subIn K (.ref C) (.type "BaseException") = some true
  tyC : PySem.W.typeIn K (.ref C) = some (.type "type")
  kC : PySem.W.keepIn K (.ref C) = true
section
variable {X : Cx} {pins : List (Addr × Obj)} {σ : L2.St} {H : Hp} {s : Shared} {a C dx : Addr} {f : Str} {y : V} {u : Value} {initId : String} {A : Around} {E : Value → Shared → Prop}
theorem ostY {Q : Unit → Shared → Prop} (T : YexC X.K C initId) (I : Inv X pins σ H s) (ea : H a = some (exo a C none)) (tf : PySem.W.takerIn X.K C f = some none) (ry : RelV y u)
    (next : ∀ dx s', H dx = none → dx ≠ a → Inv X pins σ (upd (upd H dx (exd dx [(f, y)])) a (exo a C (some dx))) s' → Q () s') : wpAny (model X.prog X.w) A (setAttr (.ref a) f u) Q E s := by
  obtain ⟨B, newId, bmB, FB, SF, hin, hov⟩ := T.cls
  obtain ⟨t1, ho⟩ := exo_at I.hok ea
  obtain ⟨cd, hcd, hdict⟩ := PySem.W.any_some T.hd
  have lcd : PySem.W.Looks (model X.prog X.w) s.heap (classData C) cd := PySem.W.looks_clsIn I.kIn hcd
  obtain ⟨hp, g, dr, t, os⟩ := s
  have inst : PySem.W.InstAt hp a ({ cls := .ref C, dict := none, data := .fields #[.ref t1, .none, .none, .none, .bool false, .none] } : Obj) C none := ⟨ho, rfl, rfl, trivial⟩
  refine PySem.W.set_plain I.kIn (od := none) inst T.sa (PySem.W.osa_openX SF I.kIn inst hov tf fun b => ?_)
  obtain ⟨c1, c2, c3, c4, c5, c6, c7, c8, c9, c10, c11⟩ := cd
  have c6t : c6 = true := hdict
  subst c6t
  have apart : a ≠ hp.objs.size := Nat.ne_of_lt (Heap.lt_size ho)
  show wpAny _ _ (storeInOwnDict _ _ _ _ _ _) _ _ _
  unfold storeInOwnDict ownDictForStores
  repeat (first | with_reducible refine PySem.HandSPX.store_in_new ?_ ?_ | with_reducible refine wpAny_loadPart_at ho ?_ | with_reducible refine lcd.at ?_ | wp_step)
  · exact ⟨_, #[], _, (Heap.get?_update_ne _ _ _ _ (Ne.symm apart)).trans (Heap.get?_push_at rfl rfl), rfl, fun en hen => absurd hen (by simp), fun _ => rfl⟩
  intro h' tk' ns' sb
  have free : H hp.objs.size = none := I.hok.fresh (Nat.le_refl _)
  have off : ∀ {b : Addr}, H b = none → b ≠ a := fun {b} hb z => by rw [z, ea] at hb; cases hb
  have low : ∀ {b : Addr} {o : Obj}, hp.get? b = some o → b ≠ hp.objs.size := fun {b o} hb => Nat.ne_of_lt (Heap.lt_size hb)
  have stays : ∀ b o, b ≠ a → hp.get? b = some o → h'.get? b = some o := fun b o hb ho => by
    rw [sb.2 b (low ho), Heap.get?_update_ne _ _ _ _ hb]
    exact Heap.get?_push_of_some _ ho
  have atA : h'.get? a = some ({ cls := .ref C, dict := some hp.objs.size, data := .fields #[.ref t1, .none, .none, .none, .bool false, .none] } : Obj) := by
    rw [sb.2 a apart]
    exact Heap.get?_update_self _ (Heap.get?_push_of_some _ ho) rfl
  have nTup : ∀ {b : Addr} {xs : List V}, H b = some (.tup xs) → b ≠ a := fun {b xs} hb z => by rw [z, ea] at hb; exact exo_tup (Option.some.inj hb)
  have nFrz : ∀ {b : Addr} {o : Obj} {v : HO}, H b = some (.frz o v) → b ≠ a := fun {b o v} hb z => by rw [z, ea] at hb; exact exo_frz (Option.some.inj hb)
  have nTbl : ∀ {b : Addr} {ps : Array Value}, H b = some (.tbl ps) → b ≠ a := fun {b ps} hb z => by rw [z, ea] at hb; exact exo_tbl (Option.some.inj hb)
  have nOwn : ∀ {b c : Addr}, H b = some (.own c) → b ≠ a := fun {b c} hb z => by rw [z, ea] at hb; exact exo_own (Option.some.inj hb)
  have both : ∀ {b : Addr} {o : HO}, H b = some o → b ≠ a → upd (upd H hp.objs.size (exd hp.objs.size [(f, y)])) a (exo a C (some hp.objs.size)) b = some o := fun {b o} hb n => by
    rw [upd_ne n, upd_ne (ne_of_none hb free)]
    exact hb
  have U : Un X.fs [] H (upd (upd H hp.objs.size (exd hp.objs.size [(f, y)])) a (exo a C (some hp.objs.size))) hp h' := by
    refine ⟨fun b o ho hb _ _ => stays b o (off hb) ho, fun b o ho hb _ _ => ⟨o.slots, stays b o (off hb) ho⟩, fun b o ho hb _ => ?_, fun b o ho _ => ?_, fun b xs hb => both hb (nTup hb), fun b o v hb => both hb (nFrz hb), fun b ps hb => ⟨#[], by rw [Array.append_empty]; exact both hb (nTbl hb)⟩⟩
    · rw [upd_ne (off hb), upd_ne (low ho)]; exact hb
    · by_cases z : b = a
      · exact ⟨_, z ▸ atA⟩
      · exact ⟨o, stays b o z ho⟩
  refine next hp.objs.size _ free (Ne.symm apart) (I.un (t' := tk') U fun b o hb => ?_)
  by_cases z : b = a
  · rw [z, upd_same] at hb
    cases hb
    rw [z]
    exact exo_ok atA
  rw [upd_ne z] at hb
  by_cases z2 : b = hp.objs.size
  · rw [z2, upd_same] at hb
    cases hb
    rw [z2]
    exact exd_ok ns' (relO_put (fs := []) ry fun _ => True.intro)
  rw [upd_ne z2] at hb
  refine (I.hok b o hb).stay (fun c v hc hv => stays c v ?_ hv) (fun c hc => both hc (nOwn hc)) fun c xs hc => both hc (nTup hc)
  rcases hc with hc | hc
  · exact hc ▸ z
  · exact nOwn hc
theorem initY {us : List Value} {Q : Value → Shared → Prop} (T : YexC X.K C initId) (I : Inv X pins σ H s) (ea : H a = some (exo a C none)) (hl : us.length ≤ sizeLine) (next : ∀ s', Inv X pins σ H s' → Q .none s') :
    wpAny (model X.prog X.w) A (call (.builtin initId) (.ref a :: us)) Q E s := by
  obtain ⟨B, newId, bmB, FB, SF, hin, hov⟩ := T.cls
  obtain ⟨nm, N, qn, bs, bm, hdct, sn, sub, ab, col, dd, k0, k1, k2, k3, k5, hC, hT⟩ := PySem.W.excInit_of I.kIn hin
  obtain ⟨t1, ho⟩ := exo_at I.hok ea
  obtain ⟨hp, g, dr, t, os⟩ := s
  refine wpAny_call (PySem.HandSPX.init_base FB hT hC ho hl fun h' t2 kept hx => ?_)
  have same : upd H a (exo a C none) = H := funext fun b => by
    by_cases z : b = a
    · rw [z, upd_same, ea]
    · rw [upd_ne z]
  have J := I.write (t' := t) (x := a) (e := a) (o := exo a C none) (by rw [ea]; trivial) (.inl rfl) kept ⟨_, hx⟩ (exo_ok hx)
  rw [same] at J
  exact next _ J
end
def tBI (K : PySem.W.Frag) (initId : String) (ta : TA) : TE := fun σ H Q => ta σ H fun vs H1 => ∃ (a C : Addr) (ws : List V), vs = .ref a :: ws ∧ ws.length ≤ 1000 ∧ YexC K C initId ∧ H1 a = some (exo a C none) ∧ Q .non H1
def tOstY (K : PySem.W.Frag) (initId : String) (f : Str) (to te : TE) : TS := fun D σ H => te σ H fun y H1 => to σ H1 fun x H2 => ∃ a C : Addr, x = .ref a ∧ YexC K C initId ∧ PySem.W.takerIn K C f = some none ∧
  H2 a = some (exo a C none) ∧ ∀ dx, H2 dx = none → dx ≠ a → D.nx σ (upd (upd H2 dx (exd dx [(f, y)])) a (exo a C (some dx)))
section
variable {X : Cx} {x f : Str} {e o : Expr} {es : List Expr} {ta : TA} {to te : TE} {p p' p1 p2 pos : Pos} {initId : String}
/-- B.__init__(self, ..), B an own class over a built-in one, without an __init__ of its own -/
theorem pe_bi {pl : Sem Bool} {B : Addr} {mc : Value} (hg : Gl X x) (hm : X.mg x = some (.ref B)) (r : ClX.CRead X.K B mc) (hv : PySem.W.findCls X.K (.ref B) mc "__init__" = some (.val (.builtin initId))) (hh : PySem.W.handedIn (.builtin initId) = true) (ha : PA X (e :: es) ta)
    (hdb : (x == ("__debug__" : Str)) = false := by decide)
    (hc : eval (.Call (.Attribute (.Name x p1) "__init__" p2) (e :: es) [] pos) X.env = (do
      let ov ← eval (.Name x p1) X.env
      standAt p2.atName
      let (f, first) ← holding [ov] (getMethod ov "__init__" pl)
      callWith pos f first (backTo pos (starEach (e :: es) X.env)) (backToKw pos (keywordEach [] X.env))) := by rfl)
    (he : starEach (e :: es) X.env = (false, eval e X.env) :: starEach es X.env := by rfl) (hpl : (backTo pos (starEach es X.env)).any (·.1) = false := by rfl) :
    PE X (.Call (.Attribute (.Name x p1) "__init__" p2) (e :: es) [] pos) (tBI X.K initId ta) := by
  refine ⟨fun pins s σ H Q I h => PySem.W.methodCall_KW (ld_glob I hg hm ?_ hdb) hc⟩
  refine PySem.W.method_cls I.kIn r.ga (PySem.W.cls_value I.kIn r.rd hv hh ?_)
  refine PyProof.Rows.callWith_method1 (thn (ha.run pos pins _ σ H _ (I.tok _) h) fun us s1 got => ?_) he hpl
  obtain ⟨vs, H1, I1, r1, a, C, ws, ev, hl, T, ea, q⟩ := got
  subst ev
  cases r1 with
  | @cons _ u _ ur ra rr =>
    obtain rfl : u = Value.ref a := ra
    exact initY T I1 ea (by rw [← Paired.length rr, sizeLine_eq]; omega) fun s' J => ⟨.non, H1, J, rfl, q⟩
theorem ps_ostY (ho : PE X o to) (he : PE X e te) (hs : swapsWith e (some (.Attribute o f p')) pos.line X.env = pure false := by rfl) : PS X (.Assign [.Attribute o f p'] e pos) (tOstY X.K initId f to te) := by
  refine ⟨fun pins s σ H D I h => plainObj_wpAny_Assign_Attribute (thn (he.run pins s σ H _ I h) fun v s1 got => ?_) hs⟩
  obtain ⟨y, H1, I1, r1, q1⟩ := got
  refine thn (ho.run pins s1 σ H1 _ I1 q1) fun u s2 got => ?_
  obtain ⟨z, H2, I2, r2, a, C, ez, T, tf, ea, q⟩ := got
  subst ez
  obtain rfl : u = Value.ref a := r2
  exact ostY T I2 ea tf r1 fun dx s' n ne J => ⟨σ, _, J, q dx n ne⟩
/-- C(e, ..), C's own __init__ keeping sp -/
theorem pmkY {CX : CXT} {C fI : Addr} {k : Nat} {fd : FuncData} {ps : List Str} {sp : Sp} (T : YexC X.K C initId) (iC : PySem.W.findIn X.K (.ref C) "__init__" = some (some (.ref fI))) (tI : PySem.W.typeIn X.K (.ref fI) = some (.type "function"))
    (F1 : FnOk X.prog X.w X.K X.mg X.base CX k fI fd ps sp) (hr : Room (k + 1) X.A) (hb : Binds X.K fd ps []) (hx : Passes CX X (fun _ _ _ => False)) (hg : Gl X x) (hm : X.mg x = some (.ref C)) (ha : PA X (e :: es) ta)
    (hdb : (x == ("__debug__" : Str)) = false := by decide) (he : starEach (e :: es) X.env = (false, eval e X.env) :: starEach es X.env := by rfl) (hpl : (backTo pos (starEach es X.env)).any (·.1) = false := by rfl) :
    PMk X (.Call (.Name x p) (e :: es) [] pos) (tMkO C sp [] ta) := by
  intro pins s σ H Q I h
  obtain ⟨B, newId, bmB, FB, SF, hin, hov⟩ := T.cls
  refine wpAny_Call_Name_kw (ld_glob I hg hm (PySem.W.callWith_K (h₀ := X.base) I.ok.mod.kin T.kC (thn (ha.run pos pins s σ H _ I h) fun us s1 got => ?_) he hpl) hdb)
  obtain ⟨vs, H1, I1, r1, hz, q1⟩ := got
  refine ⟨I1.kIn, ?_⟩
  obtain ⟨nm, N, qn, bs, bm, hdct, sn, sub, ab, col, dd, k0, k1, k2, k3, k5, hC, hT⟩ := PySem.W.excInit_of I1.kIn hin
  show wpAny _ _ (call (.ref C) us) _ _ _
  obtain ⟨hp, g, dr, tk, os⟩ := s1
  generalize hE : hp.objs.size + 1 = ex at *
  have above : hp.objs.size ≤ ex := by omega
  have fresh : H1 ex = none := I1.hok.fresh above
  have wish := q1 ex fresh
  have old : ∀ b o, hp.get? b = some o → ((hp.push (PySem.W.kdv_tup us)).push (PySem.HandSPX.excO C hp.objs.size)).get? b = some o := fun b o hb => Heap.get?_push_of_some _ (Heap.get?_push_of_some _ hb)
  have made : ((hp.push (PySem.W.kdv_tup us)).push (PySem.HandSPX.excO C hp.objs.size)).get? ex = some (PySem.HandSPX.excO C hp.objs.size) := by subst hE; heap_get
  have J : Inv X pins σ (upd H1 ex (exo ex C none)) ⟨(hp.push (PySem.W.kdv_tup us)).push (PySem.HandSPX.excO C hp.objs.size), g, dr, tk, os⟩ := I1.laid (t' := tk) old above (exo_ok made)
  have vals : Vals (V.ref ex :: (vs ++ [])) (Value.ref ex :: (us ++ [])) := .cons rfl (r1.append .nil)
  have len : (Value.ref ex :: us ++ []).length = ps.length := (F1.len _ _ _ _ wish ▸ vals.length).symm
  have lus : us.length ≤ sizeLine := by rw [← Paired.length r1, sizeLine_eq]; omega
  have go := F1.run _ X.stack _ _ ⟨Value.ref ex :: us, []⟩ (Value.ref ex :: (us ++ [])) _ _ (fun _ _ _ => False) (hr.make C us []) (J.env0.make C us []) (by rw [← List.cons_append]; exact hb _ (Value.ref ex :: us) J.kIn len) vals wish
  subst hE
  refine wpAny_call (PySem.HandSPX.call_own FB hT hC (PySem.W.looks_findIn I1.kIn iC) (fun self => PySem.W.bind_fn I1.kIn self tI) lus (codeAny_mono go fun r s' res => ?_))
  match r, res with
  | .error er, res => exact hx pins σ _ _ er s' J res
  | .ok (.ret u), res =>
    obtain ⟨v, H2, os2, bare2, un2, hok2, rv, ev, d, fs, e1, e2, e3, q2⟩ := res
    subst ev
    obtain ⟨h2, g2, d2, t2, os'⟩ := s'
    exact ⟨rv, mk_end (raises_own T.exC T.tyC) I1 above old un2 hok2 os2 bare2 e1 e2 e3 q2⟩
  | .ok .next, res => exact False.elim res
  | .ok .brk, res => exact False.elim res
  | .ok .cont, res => exact False.elim res
end
/-- an own exception class and what its __init__ promises -/
structure ExcMkY (P : Program) (w : World) (K : PySem.W.Frag) (mg : Str → Option Value) (base : Heap) (k : Nat) (x : Str) (C : Addr) (fl : Str) : Prop where
  ex : ∃ (f : Addr) (fd : FuncData) (ps : List Str) (initId : String), YexC K C initId ∧ PySem.W.findIn K (.ref C) "__init__" = some (some (.ref f)) ∧ PySem.W.typeIn K (.ref f) = some (.type "function") ∧ FnOk P w K mg base C8.CX0 k f fd ps (spExc C fl) ∧ Binds K fd ps [] ∧ mg x = some (.ref C)
theorem pmk_exY {X : Cx} {x : Str} {e : Expr} {ta : TA} {p pos : Pos} {k j : Nat} {C : Addr} {fl : Str} (c : ExcMkY X.prog X.w X.K X.mg X.base k x C fl) (hr : Room j X.A) (hk : k + 1 ≤ j) (hg : Gl X x) (ha : PA X [e] ta) (hdb : (x == ("__debug__" : Str)) = false := by decide)
    (he : starEach [e] X.env = (false, eval e X.env) :: starEach [] X.env := by rfl) (hpl : (backTo pos (starEach [] X.env)).any (·.1) = false := by rfl) : PMk X (.Call (.Name x p) [e] [] pos) (tMkO C (spExc C fl) [] ta) := by
  obtain ⟨f, fd, ps, initId, T, i, t, F, b, hm⟩ := c.ex
  exact pmkY T i t F (hr.mono hk) b C8.pass0 hg hm ha hdb he hpl
end Gx
set_option Elab.async false
set_option linter.all false
set_option maxRecDepth 100000
set_option maxHeartbeats 1000000
namespace Gx
open PySem PySem.Spec PyProof.Rows L2 GenW
end Gx
set_option Elab.async false
set_option linter.all false
set_option maxRecDepth 100000
set_option maxHeartbeats 1000000
namespace Gx
open PySem PySem.Spec PyProof.Rows L2 GenW
def rTupOf (K : PySem.W.Frag) : List V → Hp → VK → Prop := fun xs H Q => ∃ p ys, xs = [.ref p] ∧ ((SqL K H p ys ∧ ∀ l, H l = none → Q (.ref l) (upd H l (.tup ys))) ∨ (SqT K H p ys ∧ Q (.ref p) H))
def rLstOf (K : PySem.W.Frag) : List V → Hp → VK → Prop := fun xs H Q => ∃ p ys, xs = [.ref p] ∧ (SqL K H p ys ∨ SqT K H p ys) ∧ ∀ l, H l = none → Q (.ref l) (upd H l (.lst ys))
section
variable {H : Hp} {Q : VK} {K : PySem.W.Frag} {a b : Addr} {xs zs : List V}
theorem ext (h : H a = some (.lst xs)) (h2 : H b = some (.lst zs)) (hl : xs.length + zs.length ≤ 1000000) (q : ∀ H', Au.ExP a H H' → H' a = some (.lst (xs ++ zs)) → Q .non H') : rExtend (.ref a) [.ref b] H Q :=
  ⟨a, b, xs, zs, rfl, rfl, h, h2, Nat.le_trans hl (Nat.le_of_ble_eq_true rfl), q _ (fun c z h n => by rw [upd_ne n]; exact h) upd_same⟩
theorem frz {ta : TA} {g : TG} {tb : TS} {D : Ends} {σ : L2.St} (h : ta σ H fun vs H1 => ∃ a b xs ys, vs = [.ref a, .ref b] ∧ SqL K H1 a xs ∧ SqL K H1 b ys ∧ ∃ W : Nat → Nat → L2.St → Hp → Prop, (∃ m, W 0 m σ H1) ∧ ∀ i m σ H, W i m σ H →
    ((Itz K a b).stop i H ∧ D.nx σ H) ∨ ((Itz K a b).go i H ∧ ∃ N : L2.St → Hp → Prop, (∀ σ' H', N σ' H' → ∃ m', m' < m ∧ W (i + 1) m' σ' H') ∧ ∀ x H', (Itz K a b).yld i H x H' → g x σ H' fun σ2 H2 => tb { D with nx := N, ct := N, bk := D.nx } σ2 H2)) :
    tFor (iZip K ta) g tb D σ H := h
end
end Gx
set_option Elab.async false
set_option linter.all false
set_option maxRecDepth 100000
set_option maxHeartbeats 1000000
namespace Pr
open PySem PySem.Spec PyProof.Rows L2
/-- all but two objects stand -/
def ExQ (p r : Addr) (H H' : Hp) : Prop := ∀ c o, H c = some o → c ≠ p → c ≠ r → H' c = some o
theorem ExQ.refl {p r : Addr} (H : Hp) : ExQ p r H H := fun _ _ e _ _ => e
abbrev ScrO (C dx sa : Addr) (pl : Nat) : HO := .ins C dx [("s1_script", .ref sa), ("s1_place", .int (pl : Int))]
abbrev DrwO (C dx so : Addr) (n : Nat) : HO := .ins C dx [("s5_source", .ref so), ("s5_used", .int (n : Int))]
abbrev words (ws : List Nat) : List V := ws.map fun (w : Nat) => V.int (w : Int)
/-- a script at its object -/
structure SAt (C : Addr) (H : Hp) (o dx a : Addr) (ws : List Nat) (pl : Nat) : Prop where
  obj : H o = some (ScrO C dx a pl)
  tup : H a = some (.tup (words ws))
  le : pl ≤ ws.length
/-- draws over a script -/
structure DAt (C S : Addr) (H : Hp) (p dx o dy a : Addr) (ws : List Nat) (pl n : Nat) : Prop where
  drw : H p = some (DrwO C dx o n)
  scr : SAt S H o dy a ws pl
theorem DAt.ne {C S p dx o dy a : Addr} {H : Hp} {ws : List Nat} {pl n : Nat} (h : DAt C S H p dx o dy a ws pl n) : p ≠ o ∧ a ≠ p ∧ a ≠ o := by
  refine ⟨ne_of h.drw h.scr.obj (fun z => ?_), ne_of h.scr.tup h.drw (fun z => by cases z), ne_of h.scr.tup h.scr.obj (fun z => by cases z)⟩
  have e : ("s5_source" : Str) = "s1_script" := congrArg (fun o => match o with | HO.ins _ _ ((f, _) :: _) => f | _ => "") z
  exact absurd e (by decide +kernel)
end Pr
set_option Elab.async false
set_option linter.all false
set_option maxRecDepth 100000
set_option maxHeartbeats 1000000
namespace Gx
open PySem PySem.Spec PyProof.Rows L2 GenW
end Gx
set_option Elab.async false
set_option linter.all false
set_option maxRecDepth 100000
set_option maxHeartbeats 1000000
namespace Gx
open PySem PySem.Spec PyProof.Rows L2
section
variable {σ : L2.St} {H : Hp} {Q : VK} {te : TE} {j : Nat} {z : Str}
def rLenS : List V → Hp → VK → Prop := fun xs H Q => ∃ z, xs = [.str z] ∧ z.length ≤ sizeLine ∧ Q (.int (z.length : Nat)) H
theorem call_lenS {X : Cx} : CallR X (.builtin "len") rLenS := call_len_str
end
end Gx
set_option Elab.async false
set_option linter.all false
set_option maxRecDepth 100000
set_option maxHeartbeats 1000000
namespace Gx
open PySem PySem.Spec PyProof.Rows L2
/-- an exception that is kept: at a, of the class cls, its dict at d -/
def xob (a : Addr) (cls : Value) (d : Option Addr) : HO := .ext fun h => ∃ (oe : Obj) (vs : Array Value), h.get? a = some oe ∧ oe.cls = cls ∧ oe.dict = d ∧ oe.data = .fields vs
section
variable {X : Cx} {pins : List (Addr × Obj)} {σ : L2.St} {H : Hp} {s : Shared}
/-- a new object of ours is tracked from now on -/
theorem inv_track {a : Addr} {oe : Obj} {vs : Array Value} {cls : Value} {d : Option Addr} (I : Inv X pins σ H s) (ho : s.heap.get? a = some oe) (hz : Zc cls d oe) (hd : oe.data = .fields vs) (na : H a = none) (h0 : X.s_0.heap.get? a = none) (nL : a ≠ X.env.locals)
    (np : ∀ p ∈ X.pn ++ pins, p.1 ≠ a) : Inv X pins σ (upd H a (xob a cls d)) s := by
  have ne : ∀ b o, H b = some o → b ≠ a := fun b o e => ne_of_none e na
  refine ⟨I.ok, I.os, I.bare, ⟨I.base.keep, I.base.slot, fun b o e n hx => ?_, I.base.there, fun b xs e => ?_, fun b o u e => ?_, fun b ps e => ?_⟩, I.loc, I.cell, ?_, fun x c e => ?_, fun p hp => ?_, fun b o e => ?_, I.len⟩
  · have : b ≠ a := fun z => by rw [z, h0] at e; cases e
    rw [upd_ne this]; exact I.base.free b o e n hx
  · have q := I.base.tups b xs e
    rw [upd_ne (ne _ _ q)]; exact q
  · have q := I.base.frzs b o u e
    rw [upd_ne (ne _ _ q)]; exact q
  · obtain ⟨m, q⟩ := I.base.tbls b ps e
    exact ⟨m, by rw [upd_ne (ne _ _ q)]; exact q⟩
  · rw [upd_ne (Ne.symm nL)]; exact I.free
  · have : c ≠ a := fun z => by
      obtain ⟨v, o, q1, q2⟩ := I.cell x c e
      rw [z, ho] at q1
      cases q1
      rw [hd] at q2
      cases q2
    rw [upd_ne this]; exact I.freeC x c e
  · obtain ⟨q1, q2, q3⟩ := I.pin p hp
    exact ⟨q1, by rw [upd_ne (np p hp)]; exact q2, q3⟩
  · by_cases hb : b = a
    · subst hb
      rw [upd_same] at e
      cases e
      exact ⟨⟨oe, vs, ho, hz.1, hz.2, hd⟩, ⟨oe, ho⟩, fun h1 h2 ⟨oe', vs', q1, q2⟩ k => ⟨oe', vs', k _ q1, q2⟩⟩
    · rw [upd_ne hb] at e
      exact (I.hok b o e).stay (fun _ _ _ q => q) (fun c q => by rw [upd_ne (ne _ _ q)]; exact q) fun c xs q => by rw [upd_ne (ne _ _ q)]; exact q
end
/-- the clause's test: m tells of a class whether it is caught -/
def HTest (X : Cx) (t : Expr) (m : Value → Option Bool) : Prop := ∀ (a : Addr) (oe : Obj) (pn pins : List (Addr × Obj)) (σ : L2.St) (H : Hp) (s : Shared) (cls : Value) (b : Bool) (Q : Bool → Shared → Prop) (E : Value → Shared → Prop), Inv (X.suite a ((a, oe) :: pn)) pins σ H s → oe.cls = cls → m cls = some b →
  (∀ h', (∀ q o, s.heap.get? q = some o → h'.get? q = some o) → Q b { s with heap := h' }) → wpAny (model X.prog X.w) (X.A.mark (some (.ref a))) (eval t X.env) (fun c s₁ => wpAny (model X.prog X.w) (X.A.mark (some (.ref a))) (excMatches (.ref a) c) Q E s₁) E s
section
variable {X : Cx} {x x1 x2 x3 : Str} {c c1 c2 c3 : Value} {np p1 p2 p3 tpos : Pos} {kk : Nat}
theorem ht_ld {a : Addr} {oe : Obj} {pn pins : List (Addr × Obj)} {σ : L2.St} {H : Hp} {s : Shared} {Q : Value → Shared → Prop} {E : Value → Shared → Prop} (I : Inv (X.suite a ((a, oe) :: pn)) pins σ H s) (hc : Names X x c) (q : Q c s) :
    wpAny (model X.prog X.w) (X.A.mark (some (.ref a))) (eval (.Name x np) X.env) Q E s := by
  obtain ⟨hg, hdbg, hm | ⟨hm, hv, hnn⟩⟩ := hc
  · exact ld_glob (X := X.suite a ((a, oe) :: pn)) I hg hm q hdbg
  · exact ld_blt (X := X.suite a ((a, oe) :: pn)) I hg hm hv q hnn hdbg
theorem ht_type {a : Addr} {oe : Obj} {pn pins : List (Addr × Obj)} {σ : L2.St} {H : Hp} {s : Shared} {cls : Value} (I : Inv (X.suite a ((a, oe) :: pn)) pins σ H s) (e : oe.cls = cls) : PySem.W.Looks (model X.prog X.w) s.heap (typeOf (.ref a)) cls :=
  fun A Q E s' k q => wpAny_typeOf_ref (k _ _ (I.pin (a, oe) (List.mem_append_left _ List.mem_cons_self)).1) (by rw [e]; exact q)
theorem ht_name (hc : Names X x c) : HTest X (.Name x np) (fun cls => PySem.W.exmOne X.K cls c) := fun a oe pn pins σ H s cls b Q E I e m q => by
  refine ht_ld I hc ?_
  have LM := PySem.W.exm_one (M := model X.prog X.w) I.kIn (ht_type I e) m
  exact LM.here (q s.heap fun _ _ z => z)
end
theorem fly_on {B h h' : Heap} {l : List Env} {a : Addr} {Z : Obj → Prop} (f : HandSPX.FlyingZ B l a Z h) (k : ∀ q o, h.get? q = some o → h'.get? q = some o) : HandSPX.FlyingZ B l a Z h' := by
  obtain ⟨f1, f2, f3, oe, vs, T, oT, ts, he, hz, hd, h1, hnT, hTe, hT, hdT, h3⟩ := f
  exact ⟨fun b o e => k b o (f1 b o e), f2, f3.of_keeps fun b o e _ => ⟨o, k b o e, rfl⟩, oe, vs, T, oT, ts, k _ _ he, hz, hd, h1, hnT, hTe, k _ _ hT, hdT, h3⟩
theorem xob_at {P : Program} {w : World} {H : Hp} {h : Heap} {a : Addr} {cls : Value} {d : Option Addr} (ok : HOk P w H h) (e : H a = some (xob a cls d)) : ∃ (oe : Obj) (vs : Array Value), h.get? a = some oe ∧ oe.cls = cls ∧ oe.dict = d ∧ oe.data = .fields vs := (ok a _ e).1
def rIsK (K : PySem.W.Frag) : List V → Hp → VK → Prop := fun xs H Q => ∃ (a D dd : Addr) (fs : List (Str × V)) (c : V) (cv : Value) (b : Bool), xs = [.ref a, c] ∧ ExcC K D ∧ H a = some (xob a (.ref D) (some dd)) ∧ H dd = some (.xd fs) ∧ (∀ u, RelV c u → u = cv) ∧ PySem.W.kitOne K (.ref D) cv = some b ∧ Q (.bl b) H
theorem call_isK {X : Cx} : CallR X (.builtin "isinstance") (rIsK X.K) := by
  intro pins s σ H xs us Q I r h
  obtain ⟨a, D, dd, fs, c, cv, b, rfl, G, ha, hd, hcv, e, q⟩ := h
  cases r with
  | cons rx rr =>
    cases rr with
    | cons rt rr =>
      cases rr
      cases rx
      obtain rfl := hcv _ rt
      obtain ⟨oe, vs, e1, e2, e3, e4⟩ := xob_at I.hok ha
      obtain ⟨mA, ns, _⟩ := (show ObjOk X.prog X.w H s.heap dd (.xd fs) from I.hok dd _ hd)
      obtain ⟨od, ho, _⟩ := lookIn_ns ns
      have J : PySem.W.InstAt s.heap a oe D (some od) := ⟨e1, e2, by unfold PySem.W.notCls; rw [e4] <;> rfl, by rw [e3]; exact ho⟩
      exact PySem.W.kia_one (kit_exc G) I.kIn J e (fun z => nomatch z) fun tk => ⟨.bl b, H, I.kept (t' := tk) fun _ _ z => z, rfl, q⟩
/-- e.f of a kept exception -/
def tXk (K : PySem.W.Frag) (f : Str) (te : TE) : TE := fun σ H Q => te σ H fun x H1 => ∃ (a C dd : Addr) (fs : List (Str × V)) (v : V), x = .ref a ∧ XfC K C ∧ PySem.W.findIn K (.ref C) f = some none ∧ H1 a = some (xob a (.ref C) (some dd)) ∧ H1 dd = some (.xd fs) ∧ fs.lookup f = some v ∧ Q v H1
theorem pe_xk {X : Cx} {e : Expr} {te : TE} {pos : Pos} {n : Str} (he : PE X e te) (hb : attributeBase e n X.env (eval e X.env) = eval e X.env := by rfl) : PE X (.Attribute e n pos) (tXk X.K n te) := by
  refine ⟨fun pins s σ H Q I h => attr_of hb (thn (he.run pins s σ H _ I h) fun u s1 hh => ?_)⟩
  obtain ⟨x, H1, I1, rx, a, C, dd, fs, v, rfl, T, hno, ha, ea, l, q⟩ := hh
  obtain rfl : u = Value.ref a := rx
  obtain ⟨oe, vs, e1, e2, e3, e4⟩ := xob_at I1.hok ha
  have hx : ObjOk X.prog X.w H1 s1.heap dd (.xd fs) := I1.hok dd _ ea
  obtain ⟨mA, hns, hr⟩ := hx
  obtain ⟨od, ho, hl⟩ := lookIn_ns hns
  obtain ⟨u, hu, ru⟩ := RelO.some_of (v := v) (o := mA n) (by rw [← l]; exact hr n)
  have J : PySem.W.InstAt s1.heap a oe C (some od) := ⟨e1, e2, by unfold PySem.W.notCls; rw [e4] <;> rfl, by rw [e3]; exact ho⟩
  exact HandSPX.exc_get I1.kIn J T.ga T.gg T.exC (PySem.W.findObj_own T.hdC hno rfl (by rw [hl, hu])) (handed_of ru) ⟨v, H1, I1.tok _, ru, q⟩
end Gx
set_option Elab.async false
set_option linter.all false
set_option maxRecDepth 100000
set_option maxHeartbeats 1000000
namespace Gx
open PySem PySem.Spec PyProof.Rows L2
end Gx
set_option Elab.async false
set_option linter.all false
set_option maxRecDepth 100000
set_option maxHeartbeats 1000000
namespace Pr
open PySem PySem.Spec PyProof.Rows L2
/-- a value as a number in its bounds -/
inductive Nm (lo hi : Int) (H : Hp) : V → Option Int → Prop
  | int (n : Int) : Nm lo hi H (.int n) (if lo ≤ n ∧ n ≤ hi then some n else none)
  | non {v : V} (h : NonInt H v) : Nm lo hi H v none
theorem Nm.bad {lo hi n : Int} {H : Hp} (h : ¬ (lo ≤ n ∧ n ≤ hi)) : Nm lo hi H (.int n) none := by
  have z := Nm.int (lo := lo) (hi := hi) (H := H) n
  rwa [if_neg h] at z
/-- what is refused -/
abbrev Out (lo hi : Int) (H : Hp) (v : V) : Prop := Nm lo hi H v none
theorem NonInt.ex {H H' : Hp} {v : V} (e : Rd.Ex H H') (h : NonInt H v) : NonInt H' v := by
  rcases h with h | h | h | ⟨a, xs, h, k⟩ | ⟨a, xs, h, k⟩ | ⟨a, xs, h, k⟩
  · exact .inl h
  · exact .inr (.inl h)
  · exact .inr (.inr (.inl h))
  · exact .inr (.inr (.inr (.inl ⟨a, xs, h, e _ _ k⟩)))
  · exact .inr (.inr (.inr (.inr (.inl ⟨a, xs, h, e _ _ k⟩))))
  · exact .inr (.inr (.inr (.inr (.inr ⟨a, xs, h, e _ _ k⟩))))
theorem Nm.ex {lo hi : Int} {H H' : Hp} {v : V} {r : Option Int} (e : Rd.Ex H H') (h : Nm lo hi H v r) : Nm lo hi H' v r := by
  cases h with
  | int n => exact .int n
  | non h => exact .non (NonInt.ex e h)
theorem Nm.inv {lo hi : Int} {H : Hp} {v : V} {r : Option Int} (h : Nm lo hi H v r) : (∃ n, v = .int n ∧ r = some n ∧ lo ≤ n ∧ n ≤ hi) ∨ (∃ n, v = .int n ∧ r = none ∧ ¬ (lo ≤ n ∧ n ≤ hi)) ∨ (NonInt H v ∧ r = none) := by
  cases h with
  | int n =>
    by_cases c : lo ≤ n ∧ n ≤ hi
    · exact .inl ⟨n, rfl, if_pos c, c⟩
    · exact .inr (.inl ⟨n, rfl, if_neg c, c⟩)
  | non h => exact .inr (.inr ⟨h, rfl⟩)
/-- exception of the class CE with the value v in its field fl -/
def Xs (CE : Addr) (fl : Str) (v : V) (H : Hp) (E : XK) : Prop := ∀ d H', H d = none → Rd.Ex H H' → H' d = some (.xd [(fl, v)]) → E (.ref CE) (some d) H'
theorem ex_none {H H1 : Hp} {p : Addr} (e : Rd.Ex H H1) (h : H1 p = none) : H p = none := by
  cases hh : H p with
  | none => rfl
  | some o => rw [e p o hh] at h; cases h
theorem Xs.ex {CE : Addr} {fl : Str} {v : V} {H H' : Hp} {E : XK} (e : Rd.Ex H H') (h : Xs CE fl v H E) : Xs CE fl v H' E := fun d H2 hd e2 k => h d H2 (ex_none e hd) (e.trans e2) k
theorem Xs.mk {C : Addr} {fl : Str} {v : V} {H : Hp} {Q : XK} (h : Xs C fl v H Q) :
    [v].length ≤ 1000 ∧ ∀ a, H a = none → Gx.spExc C fl (.ref a :: ([v] ++ [])) (upd H a (exo a C none))
      (fun r H2 => r = .non ∧ ∃ (d : Addr) (fs : List (Str × V)), H2 a = some (exo a C (some d)) ∧ H2 d = some (exd d fs) ∧ H d = none ∧ Q (.ref C) (some d) (upd (del H2 a) d (.xd fs))) (fun _ _ _ => False) := Gx.mkO h
theorem Out.is {lo hi : Int} {H : Hp} {v : V} {Q : VK} {E : XK} (h : Out lo hi H v) (q : Q (.bl false) H) : spIs lo hi ([v] ++ []) H Q E := by
  refine ⟨v, rfl, ?_⟩
  rcases h.inv with ⟨n, _, z, _⟩ | ⟨n, rfl, _, c⟩ | ⟨h', _⟩
  · cases z
  · exact .inl ⟨n, rfl, by rw [decide_eq_false c]; exact q⟩
  · exact .inr ⟨h', q⟩
theorem Nm.is {lo hi : Int} {H : Hp} {v : V} {r : Option Int} {Q : VK} {E : XK} (h : Nm lo hi H v r) (q : Q (.bl r.isSome) H) : spIs lo hi ([v] ++ []) H Q E := by
  refine ⟨v, rfl, ?_⟩
  rcases h.inv with ⟨n, rfl, rfl, c⟩ | ⟨n, rfl, rfl, c⟩ | ⟨h', rfl⟩
  · exact .inl ⟨n, rfl, by rw [decide_eq_true c]; exact q⟩
  · exact .inl ⟨n, rfl, by rw [decide_eq_false c]; exact q⟩
  · exact .inr ⟨h', q⟩
end Pr
namespace Gx
open PySem PySem.Spec PyProof.Rows L2
/-- written objects that stand -/
def Hold (L : List (Addr × HO)) (H : Hp) : Prop := ∀ x ∈ L, H x.1 = some x.2
def Plain (L : List (Addr × HO)) : Prop := ∀ x ∈ L, (∃ xs, x.2 = .tup xs) ∨ ∃ xs, x.2 = .lst xs
section
variable {L : List (Addr × HO)} {H H' : Hp}
theorem Hold.ex (h : Hold L H) (e : Rd.Ex H H') : Hold L H' := fun x hx => e _ _ (h x hx)
/-- an object that was not there then is changed -/
theorem Hold.new {H0 : Hp} (h : Hold L H) (h0 : Hold L H0) {d : Addr} (hd : H0 d = none) (e : Au.ExP d H H') : Hold L H' := fun x hx => e _ _ (h x hx) fun z => by
  have k := h0 x hx
  rw [z, hd] at k
  cases k
theorem Hold.cons {a : Addr} {o : HO} (h : Hold L H) (k : H a = some o) : Hold ((a, o) :: L) H := fun x hx => by
  rcases List.mem_cons.mp hx with rfl | hx
  · exact k
  · exact h x hx
theorem Hold.nil : Hold [] H := fun x hx => by cases hx
theorem Plain.nil : Plain [] := fun x hx => by cases hx
theorem Plain.tup {a : Addr} {xs : List V} (h : Plain L) : Plain ((a, .tup xs) :: L) := fun x hx => by
  rcases List.mem_cons.mp hx with rfl | hx
  · exact .inl ⟨_, rfl⟩
  · exact h x hx
theorem Plain.lst {a : Addr} {xs : List V} (h : Plain L) : Plain ((a, .lst xs) :: L) := fun x hx => by
  rcases List.mem_cons.mp hx with rfl | hx
  · exact .inr ⟨_, rfl⟩
  · exact h x hx
theorem Hold.at {a : Addr} {o : HO} (i : Nat) (h : Hold L H) (hi : L[i]? = some (a, o)) : H a = some o := h (a, o) (List.mem_of_getElem? hi)
end
end Gx
set_option Elab.async false
set_option linter.all false
set_option maxRecDepth 100000
set_option maxHeartbeats 1000000
namespace Sx
open PySem PySem.Spec PyProof.Rows L2
/-- a thing that may be written -/
def Mo : HO → Prop
  | .lst _ => True
  | .ins _ _ _ => True
  | .dK _ => True
  | .dT _ => True
  | .set _ _ => True
  | .xd _ => True
  | _ => False
theorem Mo.tup {xs : List V} : ¬ Mo (.tup xs) := fun h => h
theorem Mo.tbl {ps} : ¬ Mo (.tbl ps) := fun h => h
theorem Mo.ext {ps} : ¬ Mo (.ext ps) := fun h => h
/-- tuples stay -/
def Kp (H H' : Hp) : Prop := ∀ c xs, H c = some (.tup xs) → H' c = some (.tup xs)
theorem Kp.ex {H H' : Hp} (e : Rd.Ex H H') : Kp H H' := fun c xs h => e c _ h
theorem Kp.exn {H H' : Hp} (e : LamX.ExtN H H') : Kp H H' := fun c xs h => e c _ h fun _ z => by cases z
theorem Kp.exp {H H' : Hp} {x : Addr} {o : HO} (e : Au.ExP x H H') (hx : H x = some o) (m : Mo o) : Kp H H' := fun c xs h => e c _ h fun z => by
  rw [z, hx] at h
  cases h
  exact m
/-- what is told of a thing -/
structure Cl where
  P : Hp → HO → Prop
  st : ∀ {H H' : Hp} {o : HO}, Kp H H' → P H o → P H' o
def Is (o : HO) : Cl := ⟨fun _ x => x = o, fun _ h => h⟩
/-- read only; new tuple; new and writable; to be written -/
inductive Fl where | ro | nt | nm | mu
def Fl.mut : Fl → Bool
  | .nm => true
  | .mu => true
  | _ => false
abbrev En := Addr × Cl × Fl
structure Bs where
  H0 : Hp
  M : List Addr
  T : List (Addr × Str)
/-- it was not there at the entry -/
def Fr (B : Bs) (a : Addr) : Prop := ∀ o, B.H0 a = some o → B.T ≠ [] ∧ ∃ ps, o = .tbl ps
def Fl.ok (B : Bs) (a : Addr) : Fl → Prop
  | .ro => True
  | .nt => Fr B a
  | .nm => Fr B a
  | .mu => a ∈ B.M
def Df (e e' : En) : Prop := (e.2.2.mut = false ∧ e'.2.2.mut = false) ∨ e.1 ≠ e'.1
theorem Df.symm {e e' : En} (h : Df e e') : Df e' e := h.elim (fun h => .inl ⟨h.2, h.1⟩) (fun h => .inr (Ne.symm h))
structure Hs (B : Bs) (L : List En) (H : Hp) : Prop where
  fr : ∀ c o, B.H0 c = some o → c ∉ B.M → (B.T ≠ [] → ∀ ps, o ≠ .tbl ps) → H c = some o
  mm : ∀ c ∈ B.M, ∃ o, H c = some o ∧ Mo o
  tb : LamX.Tabs B.T H
  df : L.Pairwise Df
  ok : ∀ e ∈ L, e.2.2.ok B e.1 ∧ ∃ o, H e.1 = some o ∧ e.2.1.P H o ∧ (e.2.2.mut = true → Mo o) ∧ ∀ ps, o ≠ .tbl ps
def W (B : Bs) (L : List En) (G : Hp → Prop) : Prop := ∀ H, Hs B L H → G H
section
variable {B : Bs} {L L' L1 L2 : List En} {H H' H1 : Hp} {p x a : Addr} {o : HO} {φ φ' : Cl} {f : Fl} {G G' : Hp → Prop}
theorem Hs.at (S : Hs B L H) (m : (a, Is o, f) ∈ L) : H a = some o := by
  obtain ⟨_, z, h1, h2, _⟩ := S.ok _ m
  cases h2
  exact h1
theorem Hs.fresh (S : Hs B L H) (n : H p = none) : Fr B p := fun o h => by
  refine Classical.byContradiction fun nc => ?_
  by_cases hm : p ∈ B.M
  · obtain ⟨o', h', _⟩ := S.mm p hm
    rw [n] at h'; cases h'
  · have := S.fr p o h hm fun hT ps z => nc ⟨hT, ps, z⟩
    rw [n] at this; cases this
theorem Hs.ex (S : Hs B L H) (e : Rd.Ex H H') : Hs B L H' where
  fr := fun c o h n t => e _ _ (S.fr c o h n t)
  mm := fun c h => by
    obtain ⟨o, h1, h2⟩ := S.mm c h
    exact ⟨o, e _ _ h1, h2⟩
  tb := S.tb.ext e
  df := S.df
  ok := fun z hz => by
    obtain ⟨h0, o, h1, h2, h3⟩ := S.ok z hz
    exact ⟨h0, o, e _ _ h1, z.2.1.st (.ex e) h2, h3⟩
theorem Hs.exn (S : Hs B L H) (hT : B.T ≠ []) (e : LamX.ExtN H H') (t : LamX.Tabs B.T H') : Hs B L H' where
  fr := fun c o h n t => e _ _ (S.fr c o h n t) (t hT)
  mm := fun c h => by
    obtain ⟨o, h1, h2⟩ := S.mm c h
    exact ⟨o, e _ _ h1 (fun ps z => by subst z; exact h2), h2⟩
  tb := t
  df := S.df
  ok := fun z hz => by
    obtain ⟨h0, o, h1, h2, h3, h4⟩ := S.ok z hz
    exact ⟨h0, o, e _ _ h1 h4, z.2.1.st (.exn e) h2, h3, h4⟩
theorem Hs.ad (S : Hs B L H) (n : H p = none) (e : Rd.Ex H H') (k : H' p = some o) (c : φ.P H' o) (hf : f = .nt ∨ f = .nm ∧ Mo o) (nb : ∀ ps, o ≠ .tbl ps) : Hs B ((p, φ, f) :: L) H' where
  fr := (S.ex e).fr
  mm := (S.ex e).mm
  tb := (S.ex e).tb
  df := List.pairwise_cons.mpr ⟨fun z hz => .inr fun q => (by
    obtain ⟨_, o', h1, _⟩ := S.ok z hz
    simp only at q
    rw [← q, n] at h1
    cases h1), S.df⟩
  ok := fun z hz => by
    rcases List.mem_cons.mp hz with rfl | hz
    · refine ⟨?_, o, k, c, ?_, nb⟩
      · rcases hf with rfl | ⟨rfl, _⟩ <;> exact S.fresh n
      · rcases hf with rfl | ⟨rfl, h⟩
        · intro h; cases h
        · exact fun _ => h
    · exact (S.ex e).ok z hz
theorem Hs.nw (S : Hs B L H) (n : H p = none) (e : Rd.Ex H H') (k : H' p = some o) (hf : f = .nt ∨ f = .nm ∧ Mo o) (nb : ∀ ps, o ≠ .tbl ps) : Hs B ((p, Is o, f) :: L) H' := S.ad n e k rfl hf nb
/-- one thing's row is written anew -/
inductive Upd : List En → Addr → Cl → List En → Prop
  | hd {φ φ' : Cl} {f : Fl} {x : Addr} {L : List En} (h : f.mut = true) : Upd ((x, φ, f) :: L) x φ' ((x, φ', f) :: L)
  | tl {e : En} {L L' : List En} {x : Addr} {φ' : Cl} (h : Upd L x φ' L') : Upd (e :: L) x φ' (e :: L')
theorem Upd.mem {L L' : List En} {x : Addr} {φ' : Cl} (u : Upd L x φ' L') (d : L.Pairwise Df) : (∃ φ f, f.mut = true ∧ (x, φ, f) ∈ L) ∧ (∀ e ∈ L', (e.1 = x ∧ e.2.1 = φ' ∧ e.2.2.mut = true ∧ ∃ φ, (x, φ, e.2.2) ∈ L) ∨ (e ∈ L ∧ e.1 ≠ x)) ∧ L'.map (fun e => (e.1, e.2.2)) = L.map (fun e => (e.1, e.2.2)) := by
  induction u with
  | hd h =>
    refine ⟨⟨_, _, h, List.mem_cons_self⟩, fun e he => ?_, rfl⟩
    rcases List.mem_cons.mp he with rfl | he
    · exact .inl ⟨rfl, rfl, h, _, List.mem_cons_self⟩
    · refine .inr ⟨List.mem_cons_of_mem _ he, fun z => ?_⟩
      rcases (List.pairwise_cons.mp d).1 e he with q | q
      · rw [h] at q; cases q.1
      · exact q z.symm
  | @tl e L L' x φ' u ih =>
    obtain ⟨⟨φ, f, h1, h2⟩, h3, h4⟩ := ih (List.pairwise_cons.mp d).2
    refine ⟨⟨φ, f, h1, List.mem_cons_of_mem _ h2⟩, fun z hz => ?_, by simp only [List.map_cons, h4]⟩
    rcases List.mem_cons.mp hz with rfl | hz
    · refine .inr ⟨List.mem_cons_self, fun q => ?_⟩
      rcases (List.pairwise_cons.mp d).1 _ h2 with w | w
      · rw [h1] at w; cases w.2
      · exact w q
    · rcases h3 z hz with ⟨a, b, c, φ, d⟩ | ⟨a, b⟩
      · exact .inl ⟨a, b, c, φ, List.mem_cons_of_mem _ d⟩
      · exact .inr ⟨List.mem_cons_of_mem _ a, b⟩
theorem df_map {L L' : List En} (h : L'.map (fun e => (e.1, e.2.2)) = L.map (fun e => (e.1, e.2.2))) (d : L.Pairwise Df) : L'.Pairwise Df := by
  have e : ∀ K : List En, K.Pairwise Df ↔ (K.map (fun e => (e.1, e.2.2))).Pairwise (fun p q => (p.2.mut = false ∧ q.2.mut = false) ∨ p.1 ≠ q.1) := fun K => by
    rw [List.pairwise_map]; rfl
  rw [e, h, ← e]
  exact d
theorem Hs.set (S : Hs B L H) (u : Upd L x φ L') (e : Au.ExP x H H') (k : H' x = some o) (c : φ.P H' o) (mo : Mo o) : Hs B L' H' := by
  obtain ⟨⟨ψ, f, h1, h2⟩, h3, h4⟩ := u.mem S.df
  obtain ⟨s0, z, s1, s2, s3, s4⟩ := S.ok _ h2
  have mz := s3 h1
  have kp := Kp.exp e s1 mz
  have nb : ∀ ps, o ≠ .tbl ps := fun ps q => by subst q; exact mo
  refine ⟨fun c o' h n t => e _ _ (S.fr c o' h n t) fun q => ?_, fun c hc => ?_, fun q hq => ?_, df_map h4 S.df, fun v hv => ?_⟩
  · subst q
    cases f with
    | ro => cases h1
    | nt => cases h1
    | nm =>
      obtain ⟨hT, ps, q⟩ := s0 _ h
      exact t hT ps q
    | mu => exact n s0
  · by_cases q : c = x
    · exact ⟨o, q ▸ k, mo⟩
    · obtain ⟨o', h1, h2⟩ := S.mm c hc
      exact ⟨o', e _ _ h1 q, h2⟩
  · obtain ⟨ps, t1, t2, t3⟩ := S.tb q hq
    refine ⟨ps, e _ _ t1 (fun w => by rw [w, s1] at t1; cases t1; exact mz), t2, fun pos cv hcv => ?_⟩
    obtain ⟨c', rfl, hc'⟩ := t3 pos cv hcv
    exact ⟨c', rfl, e _ _ hc' (fun w => by rw [w, s1] at hc'; cases hc'; exact mz)⟩
  · rcases h3 v hv with ⟨rfl, rfl, q3, φ0, q4⟩ | ⟨q1, q2⟩
    · exact ⟨(S.ok _ q4).1, o, k, c, fun _ => mo, nb⟩
    · obtain ⟨w0, o', w1, w2, w3⟩ := S.ok v q1
      exact ⟨w0, o', e _ _ w1 q2, v.2.1.st kp w2, w3⟩
inductive Sel : List En → Addr → Cl → List En → Prop
  | hd {φ : Cl} {f : Fl} {x : Addr} {L : List En} (h : f.mut = true) : Sel ((x, φ, f) :: L) x φ L
  | tl {e : En} {L L' : List En} {x : Addr} {φ : Cl} (h : Sel L x φ L') : Sel (e :: L) x φ (e :: L')
inductive FindR : List En → List En → Prop
  | nil {L : List En} : FindR L []
  | cons {L ps : List En} {x : Addr} {φ : Cl} {f : Fl} (m : (x, φ, f) ∈ L) (h : FindR L ps) : FindR L ((x, φ, .ro) :: ps)
/-- first what is to be written, then what is read -/
inductive Find : List En → List En → Prop
  | ros {L ps : List En} (h : FindR L ps) : Find L ps
  | mu {L L1 ps : List En} {x : Addr} {φ : Cl} (m : Sel L x φ L1) (h : Find L1 ps) : Find L ((x, φ, .mu) :: ps)
theorem Sel.mem {L L' : List En} {x : Addr} {φ : Cl} (u : Sel L x φ L') (d : L.Pairwise Df) : (∃ f, f.mut = true ∧ (x, φ, f) ∈ L) ∧ (∀ e ∈ L', e ∈ L ∧ e.1 ≠ x) ∧ L'.Sublist L := by
  induction u with
  | hd h =>
    refine ⟨⟨_, h, List.mem_cons_self⟩, fun e he => ⟨List.mem_cons_of_mem _ he, fun z => ?_⟩, List.sublist_cons_self _ _⟩
    rcases (List.pairwise_cons.mp d).1 e he with q | q
    · rw [h] at q; cases q.1
    · exact q z.symm
  | @tl e L L' x φ u ih =>
    obtain ⟨⟨f, h1, h2⟩, h3, h4⟩ := ih (List.pairwise_cons.mp d).2
    refine ⟨⟨f, h1, List.mem_cons_of_mem _ h2⟩, fun z hz => ?_, h4.cons_cons _⟩
    rcases List.mem_cons.mp hz with rfl | hz
    · refine ⟨List.mem_cons_self, fun q => ?_⟩
      rcases (List.pairwise_cons.mp d).1 _ h2 with w | w
      · rw [h1] at w; cases w.2
      · exact w q
    · exact ⟨List.mem_cons_of_mem _ (h3 z hz).1, (h3 z hz).2⟩
def mus (L : List En) : List Addr := (L.filter fun e => match e.2.2 with | .mu => true | _ => false).map (·.1)
theorem FindR.mem {L ps : List En} (u : FindR L ps) : (∀ e ∈ ps, e.2.2 = .ro ∧ ∃ f, (e.1, e.2.1, f) ∈ L) ∧ ps.Pairwise Df := by
  induction u with
  | nil => exact ⟨fun e h => (by cases h), .nil⟩
  | @cons ps x φ f m h ih =>
    refine ⟨fun e he => ?_, List.pairwise_cons.mpr ⟨fun e he => .inl ⟨rfl, by rw [(ih.1 e he).1]; rfl⟩, ih.2⟩⟩
    rcases List.mem_cons.mp he with rfl | he
    · exact ⟨rfl, f, m⟩
    · exact ih.1 e he
theorem Find.mem {L ps : List En} (u : Find L ps) (d : L.Pairwise Df) : (∀ e ∈ ps, ∃ f, (e.1, e.2.1, f) ∈ L ∧ (e.2.2 = .ro ∨ (e.2.2 = .mu ∧ f.mut = true))) ∧ ps.Pairwise Df := by
  induction u with
  | ros h =>
    refine ⟨fun e he => ?_, h.mem.2⟩
    obtain ⟨h1, f, h2⟩ := h.mem.1 e he
    exact ⟨f, h2, .inl h1⟩
  | @mu L L1 ps x φ m h ih =>
    obtain ⟨⟨f, m1, m2⟩, m3, m4⟩ := m.mem d
    obtain ⟨h1, h2⟩ := ih (d.sublist m4)
    refine ⟨fun e he => ?_, List.pairwise_cons.mpr ⟨fun e he => ?_, h2⟩⟩
    · rcases List.mem_cons.mp he with rfl | he
      · exact ⟨f, m2, .inr ⟨rfl, m1⟩⟩
      · obtain ⟨g, g1, g2⟩ := h1 e he
        exact ⟨g, (m3 _ g1).1, g2⟩
    · obtain ⟨g, g1, g2⟩ := h1 e he
      exact .inr fun z => (m3 _ g1).2 z.symm
/-- what it leaves -/
def Post (H : Hp) (T : List (Addr × Str)) (pre post : List En) (G : Hp → Prop) : Prop := ∀ H', Hs ⟨H, mus pre, T⟩ post H' → G H'
/-- the caller's list behind the call -/
inductive Rep : List En → List En → List En → Prop
  | nil {L : List En} : Rep L [] L
  | ro {L ps L' : List En} {x : Addr} {φ : Cl} (h : Rep L ps L') : Rep L ((x, φ, .ro) :: ps) L'
  | nt {L ps L' : List En} {x : Addr} {φ : Cl} (h : Rep L ps L') : Rep L ((x, φ, .nt) :: ps) ((x, φ, .nt) :: L')
  | nm {L ps L' : List En} {x : Addr} {φ : Cl} (h : Rep L ps L') : Rep L ((x, φ, .nm) :: ps) ((x, φ, .nm) :: L')
  | mu {L ps L' L1 : List En} {x : Addr} {φ : Cl} (u : Upd L x φ L1) (h : Rep L1 ps L') : Rep L ((x, φ, .mu) :: ps) L'
/-- new -/
def Fl.isN : Fl → Prop
  | .nt => True
  | .nm => True
  | _ => False
theorem Rep.mem {L ps L' : List En} (u : Rep L ps L') : L.Pairwise Df → ps.Pairwise Df → (∀ e ∈ ps, e.2.2.isN → ∀ z ∈ L, e.1 ≠ z.1) →
    (∀ e ∈ L', (e ∈ ps ∧ e.2.2.isN) ∨ (∃ φ, (e.1, φ, e.2.2) ∈ L ∧ (e.1, e.2.1, .mu) ∈ ps ∧ e.2.2.mut = true) ∨ (e ∈ L ∧ ∀ φ, (e.1, φ, .mu) ∉ ps)) ∧ L'.Pairwise Df := by
  induction u with
  | nil => exact fun d _ _ => ⟨fun e he => .inr (.inr ⟨he, fun φ h => (by cases h)⟩), d⟩
  | ro h ih =>
    intro d dp hn
    obtain ⟨h1, h2⟩ := ih d (List.pairwise_cons.mp dp).2 fun e he => hn e (List.mem_cons_of_mem _ he)
    refine ⟨fun e he => ?_, h2⟩
    rcases h1 e he with ⟨a, b⟩ | ⟨φ, a, b, c⟩ | ⟨a, b⟩
    · exact .inl ⟨List.mem_cons_of_mem _ a, b⟩
    · exact .inr (.inl ⟨φ, a, List.mem_cons_of_mem _ b, c⟩)
    · refine .inr (.inr ⟨a, fun φ z => ?_⟩)
      rcases List.mem_cons.mp z with z | z
      · cases z
      · exact b φ z
  | @nt L ps L' x φ h ih =>
    intro d dp hn
    obtain ⟨h1, h2⟩ := ih d (List.pairwise_cons.mp dp).2 fun e he => hn e (List.mem_cons_of_mem _ he)
    refine ⟨fun e he => ?_, List.pairwise_cons.mpr ⟨fun e he => ?_, h2⟩⟩
    · rcases List.mem_cons.mp he with rfl | he
      · exact .inl ⟨List.mem_cons_self, trivial⟩
      rcases h1 e he with ⟨a, b⟩ | ⟨φ, a, b, c⟩ | ⟨a, b⟩
      · exact .inl ⟨List.mem_cons_of_mem _ a, b⟩
      · exact .inr (.inl ⟨φ, a, List.mem_cons_of_mem _ b, c⟩)
      · refine .inr (.inr ⟨a, fun φ z => ?_⟩)
        rcases List.mem_cons.mp z with z | z
        · cases z
        · exact b φ z
    · rcases h1 e he with ⟨a, b⟩ | ⟨φ, a, b⟩ | ⟨a, b⟩
      · exact (List.pairwise_cons.mp dp).1 e a
      · exact .inr fun q => hn _ List.mem_cons_self trivial _ a q
      · exact .inr (hn _ List.mem_cons_self trivial _ a)
  | @nm L ps L' x φ h ih =>
    intro d dp hn
    obtain ⟨h1, h2⟩ := ih d (List.pairwise_cons.mp dp).2 fun e he => hn e (List.mem_cons_of_mem _ he)
    refine ⟨fun e he => ?_, List.pairwise_cons.mpr ⟨fun e he => ?_, h2⟩⟩
    · rcases List.mem_cons.mp he with rfl | he
      · exact .inl ⟨List.mem_cons_self, trivial⟩
      rcases h1 e he with ⟨a, b⟩ | ⟨φ, a, b, c⟩ | ⟨a, b⟩
      · exact .inl ⟨List.mem_cons_of_mem _ a, b⟩
      · exact .inr (.inl ⟨φ, a, List.mem_cons_of_mem _ b, c⟩)
      · refine .inr (.inr ⟨a, fun φ z => ?_⟩)
        rcases List.mem_cons.mp z with z | z
        · cases z
        · exact b φ z
    · rcases h1 e he with ⟨a, b⟩ | ⟨φ, a, b⟩ | ⟨a, b⟩
      · exact (List.pairwise_cons.mp dp).1 e a
      · exact .inr fun q => hn _ List.mem_cons_self trivial _ a q
      · exact .inr (hn _ List.mem_cons_self trivial _ a)
  | @mu L ps L' L1 x φ u h ih =>
    intro d dp hn
    obtain ⟨u1, u2, u3⟩ := u.mem d
    have ads : ∀ z ∈ L1, ∃ y ∈ L, y.1 = z.1 := fun z hz => by
      rcases u2 z hz with ⟨a, _, _, φ0, b⟩ | ⟨a, _⟩
      · exact ⟨_, b, a.symm⟩
      · exact ⟨_, a, rfl⟩
    obtain ⟨h1, h2⟩ := ih (df_map u3 d) (List.pairwise_cons.mp dp).2 fun e he hN z hz => by
      obtain ⟨y, y1, y2⟩ := ads z hz
      rw [← y2]
      exact hn e (List.mem_cons_of_mem _ he) hN y y1
    refine ⟨fun e he => ?_, h2⟩
    rcases h1 e he with ⟨a, b⟩ | ⟨φ', a, b, c⟩ | ⟨a, b⟩
    · exact .inl ⟨List.mem_cons_of_mem _ a, b⟩
    · rcases u2 _ a with ⟨w1, w2, _, φ0, w3⟩ | ⟨w1, w2⟩
      · simp only at w1 w2 w3
        refine .inr (.inl ⟨φ0, ?_, List.mem_cons_of_mem _ b, c⟩)
        rw [w1]
        exact w3
      · exact .inr (.inl ⟨φ', w1, List.mem_cons_of_mem _ b, c⟩)
    · rcases u2 _ a with ⟨w1, w2, w3, φ0, w4⟩ | ⟨w1, w2⟩
      · refine .inr (.inl ⟨φ0, by rw [w1]; exact w4, ?_, w3⟩)
        rw [w1, w2]
        exact List.mem_cons_self
      · refine .inr (.inr ⟨w1, fun ψ z => ?_⟩)
        rcases List.mem_cons.mp z with z | z
        · cases z
          exact w2 rfl
        · exact b ψ z
def Cl.le (φ ψ : Cl) : Prop := ∀ H o, φ.P H o → ψ.P H o
theorem Cl.le.rfl {φ : Cl} : Cl.le φ φ := fun _ _ h => h
/-- a row is taken out -/
inductive Rm : List En → Addr → Cl → Fl → List En → Prop
  | hd {φ : Cl} {f : Fl} {x : Addr} {L : List En} : Rm ((x, φ, f) :: L) x φ f L
  | tl {e : En} {L L' : List En} {x : Addr} {φ : Cl} {f : Fl} (h : Rm L x φ f L') : Rm (e :: L) x φ f (e :: L')
theorem Rm.ex {L L' : List En} {x : Addr} {φ : Cl} {f : Fl} (h : Rm L x φ f L') : ∃ L0 R0, L = L0 ++ (x, φ, f) :: R0 ∧ L' = L0 ++ R0 := by
  induction h with
  | hd => exact ⟨[], _, rfl, rfl⟩
  | @tl e L L' x φ f h ih =>
    obtain ⟨L0, R0, h1, h2⟩ := ih
    exact ⟨e :: L0, R0, by rw [h1]; rfl, by rw [h2]; rfl⟩
inductive Sub : List En → List En → Prop
  | nil {L : List En} : Sub [] L
  | rfl {L : List En} : Sub L L
  | cons {L L1 ps : List En} {x : Addr} {φ ψ : Cl} {f : Fl} (m : Rm L x φ f L1) (h : Cl.le φ ψ) (r : Sub ps L1) : Sub ((x, ψ, f) :: ps) L
theorem Sub.mem {L ps : List En} (u : Sub ps L) : L.Pairwise Df → (∀ e ∈ ps, ∃ φ, (e.1, φ, e.2.2) ∈ L ∧ Cl.le φ e.2.1) ∧ ps.Pairwise Df := by
  induction u with
  | nil => exact fun _ => ⟨fun e h => (by cases h), .nil⟩
  | rfl => exact fun d => ⟨fun e h => ⟨_, h, Cl.le.rfl⟩, d⟩
  | @cons L L1 ps x φ ψ f m h r ih =>
    intro d
    obtain ⟨L0, R0, rfl, rfl⟩ := m.ex
    have d' := (List.pairwise_append.mp d)
    have dm : ∀ e ∈ L0 ++ R0, Df (x, φ, f) e := fun e he => by
      rcases List.mem_append.mp he with he | he
      · exact (d'.2.2 e he _ List.mem_cons_self).symm
      · exact (List.pairwise_cons.mp d'.2.1).1 e he
    have sub : (L0 ++ R0).Sublist (L0 ++ (x, φ, f) :: R0) := (List.Sublist.refl L0).append (List.sublist_cons_self _ _)
    obtain ⟨h1, h2⟩ := ih (d.sublist sub)
    refine ⟨fun e he => ?_, List.pairwise_cons.mpr ⟨fun e he => ?_, h2⟩⟩
    · rcases List.mem_cons.mp he with rfl | he
      · exact ⟨φ, by simp, h⟩
      · obtain ⟨φ', a, b⟩ := h1 e he
        exact ⟨φ', sub.mem a, b⟩
    · obtain ⟨φ', a, _⟩ := h1 e he
      rcases dm _ a with q | q
      · exact .inl q
      · exact .inr q
theorem Hs.sub {ps : List En} (S : Hs B L H) (u : Sub ps L) : Hs B ps H where
  fr := S.fr
  mm := S.mm
  tb := S.tb
  df := (u.mem S.df).2
  ok := fun e he => by
    obtain ⟨φ, h1, h2⟩ := (u.mem S.df).1 e he
    obtain ⟨k0, o, k1, k2, k3⟩ := S.ok _ h1
    exact ⟨k0, o, k1, h2 _ _ k2, k3⟩
end
end Sx
set_option Elab.async false
set_option linter.all false
set_option maxRecDepth 100000
set_option maxHeartbeats 1000000
namespace Gx
open PySem PySem.Spec PyProof.Rows L2 GenW
structure OwnT (K : PySem.W.Frag) (C : Addr) (nm T : String) : Prop where
  l1 : ∃ fo, PySem.W.findIn K (.type T) (PySem.dunder nm) = some fo
  l2 : ∃ ro, PySem.W.findIn K (.type T) (dunderR nm) = some ro
  sub : PySem.W.subIn K (.type T) (.ref C) = some false
def rOwnX (K : PySem.W.Frag) (C : Addr) (nm : String) (sp : Sp) (E : XK) : V → V → Hp → VK → Prop := fun x y H Q => ∃ (a dx : Addr) (fs : List (Str × V)) (T : String), x = .ref a ∧ TyX K H y (.type T) ∧ OwnT K C nm T ∧ H a = some (.ins C dx fs) ∧ sp ([x, y] ++ []) H (fun v H' => (∃ b, v = .ref b) ∧ Q v H') E
/-- a text times a number -/
def rMulS : R2 := fun x y H Q => ∃ (z : Str) (n : Int), x = .str z ∧ y = .int n ∧ PySem.MulOk z n ∧ Q (.str (Txt.mul z n)) H
theorem op_mulS {X : Cx} : OpR X (binaryOp .Mult) rMulS := by
  intro pins s σ H x y v u Q I rx ry h
  obtain ⟨z, n, rfl, rfl, ok, q⟩ := h
  obtain ⟨t, rfl⟩ := rx
  obtain ⟨t', rfl⟩ := ry
  exact PySem.SB.mul ok fun a k => ⟨.str _, H, I.tok _, ⟨_, rfl⟩, q⟩
/-- what is wished of an exception may lean on the number of slots -/
theorem takesL {X : Cx} {W : WX} (tk : Takes X W) : Takes X (fun cls d σ H => σ.length = X.N.length → W cls d σ H) := fun u s' z => by
  obtain ⟨a, B, sI, pins, σ, H, cls, d, e, I, r1, r2, r3, r4, r5, r6, w⟩ := z
  exact tk u s' ⟨a, B, sI, pins, σ, H, cls, d, e, I, r1, r2, r3, r4, r5, r6, w I.len⟩
end Gx
set_option Elab.async false
set_option linter.all false
set_option maxRecDepth 100000
set_option maxHeartbeats 1000000
namespace Gx
open PySem PySem.Spec PyProof.Rows L2 L2H
end Gx
set_option Elab.async false
set_option linter.all false
set_option maxRecDepth 100000
set_option maxHeartbeats 4000000
set_option exponentiation.threshold 2000
namespace Gx
open PySem PySem.Spec PyProof.Rows L2
end Gx
set_option Elab.async false
set_option linter.all false
set_option maxRecDepth 100000
set_option maxHeartbeats 1000000
namespace Sx
open PySem PySem.Spec PyProof.Rows L2
/-- a promise is being read -/
def Do (p : Prop) : Prop := p
section
variable {B : Bs} {L L' L1 : List En} {D : Ends} {σ : L2.St} {Q : VK} {QB : Bool → Hp → Prop} {QA : List V → Hp → Prop} {t1 t2 : TS} {te ta tb tc : TE} {tr : TA} {t u : TT} {i j : Nat} {v x y : V} {m n : Int} {r r2 : R2} {K : PySem.W.Frag} {G G1 G2 : Hp → Prop} {b : Bool} {p : Prop} {C a dx : Addr} {fs : List (Str × V)} {f : Str} {fl : Fl} {sp : Sp} {E : XK} {g : TG} {xs : List V}
theorem seq (h : W B L fun H => t1 { D with nx := t2 D } σ H) : W B L fun H => tSeq t1 t2 D σ H := h
theorem next (h : W B L fun H => D.nx σ H) : W B L fun H => tNext D σ H := h
theorem nm {Qs : L2.St → Hp → Prop} (h : W B L fun H => Qs (σ.set i (some v)) H) : W B L fun H => gName i v σ H Qs := h
theorem ret (h : W B L fun H => te σ H D.rt) : W B L fun H => tRet te D σ H := h
theorem brk (h : W B L fun H => D.bk σ H) : W B L fun H => tBreak D σ H := h
theorem drop (h : W B L fun H => te σ H fun _ H1 => D.nx σ H1) : W B L fun H => tDrop te D σ H := h
theorem un {g : V → Hp → VK → Prop} (h : W B L fun H => ta σ H fun x H1 => g x H1 Q) : W B L fun H => tUn g ta σ H Q := h
/-- is None, is not None -/
theorem isN {G : V → Hp → Prop} (h : W B L fun H => G (.bl (decide (v = .non))) H) : W B L fun H => V.non = .non ∧ G (.bl (decide (v = .non))) H := fun H S => ⟨rfl, h H S⟩
theorem nil (h : W B L fun H => QA [] H) : W B L fun H => tNil σ H QA := h
theorem cons (h : W B L fun H => ta σ H fun x H1 => tr σ H1 fun xs H2 => QA (x :: xs) H2) : W B L fun H => tCons ta tr σ H QA := h
theorem cb {g : List V → Hp → VK → Prop} (h : W B L fun H => tr σ H fun vs H1 => g vs H1 Q) : W B L fun H => tCB g tr σ H Q := h
theorem bm {T : String} {r : V → List V → Hp → VK → Prop} (h : W B L fun H => ta σ H fun x H1 => tyV K T x H1 ∧ tr σ H1 fun xs H2 => r x xs H2 Q) : W B L fun H => tBM K T r ta tr σ H Q := h
theorem call {dvs : List V} (h : W B L fun H => tr σ H fun vs H1 => Do (sp (vs ++ dvs) H1 Q E)) : W B L fun H => tCall sp dvs E tr σ H Q := h
theorem make {dvs : List V} (h : W B L fun H => tr σ H fun vs H1 => ∀ x dx, H1 x = none → H1 dx = none → dx ≠ x →
  Do (sp (.ref x :: (vs ++ dvs)) (upd (upd H1 dx (.own x)) x (.ins C dx [])) (fun v H2 => v = .non ∧ Q (.ref x) H2) E)) : W B L fun H => tMake C sp dvs E tr σ H Q := h
theorem tup (h : W B L fun H => tr σ H fun xs H1 => xs.length ≤ sizeLine ∧ Au.NewO H1 (.tup xs) Q) : W B L fun H => tTup tr σ H Q := h
theorem lst (h : W B L fun H => tr σ H fun xs H1 => xs.length ≤ sizeLine ∧ Au.NewO H1 (.lst xs) Q) : W B L fun H => tLst tr σ H Q := h
theorem rep {xs : List V} {k : Int} {fl : Fl} (m : (a, Is (.lst xs), fl) ∈ L) (hk : 0 ≤ k ∧ k < 100) (hl : xs.length ≤ 10) (q : ∀ t, W B ((t, Is (.lst (List.replicate k.toNat xs).flatten), .nm) :: L) fun H => Q (.ref t) H) : W B L fun H => rRep (.ref a) (.int k) H Q :=
  fun H S => Au.rep (S.at m) hk hl fun p H' n e k => q p H' (S.nw n e k (.inr ⟨rfl, trivial⟩) fun ps z => by cases z)
def In (B : Bs) (P : L2.St → List En → Prop) : L2.St → Hp → Prop := fun σ H => ∃ L, P σ L ∧ Hs B L H
theorem sub (s : Sub L' L) (h : W B L' G) : W B L G := fun H S => h H (S.sub s)
theorem frz {g : TG} {tb : TS} (h : W B L fun H => tr σ H fun vs H1 => ∃ a b xs ys, vs = [.ref a, .ref b] ∧ SqL K H1 a xs ∧ SqL K H1 b ys ∧ ∃ W : Nat → Nat → L2.St → Hp → Prop, (∃ m, W 0 m σ H1) ∧ ∀ i m σ H, W i m σ H →
    ((Itz K a b).stop i H ∧ D.nx σ H) ∨ ((Itz K a b).go i H ∧ ∃ N : L2.St → Hp → Prop, (∀ σ' H', N σ' H' → ∃ m', m' < m ∧ W (i + 1) m' σ' H') ∧ ∀ x H', (Itz K a b).yld i H x H' → g x σ H' fun σ2 H2 => tb { D with nx := N, ct := N, bk := D.nx } σ2 H2)) :
    W B L fun H => tFor (iZip K tr) g tb D σ H := h
theorem cut {t u : TS} (Mid : L2.St → List En → Prop) (h1 : W B L fun H => t { D with nx := In B Mid } σ H) (h2 : ∀ σ' L', Mid σ' L' → W B L' fun H => u D σ' H) : W B L fun H => C8.tCut t u D σ H := fun H S =>
  Rd.cut (In B Mid) (h1 H S) fun σ' H' z => by
    obtain ⟨L', p, S'⟩ := z
    exact h2 σ' L' p H' S'
theorem lg {tg : TGen} (h : W B L fun H => tg σ H fun out H2 => Au.NewO H2 (.lst out) Q) : W B L fun H => tListG tg σ H Q := h
theorem mg {spg : SpG} {cont : List V → Hp → Prop} (h : W B L fun H => ta σ H fun x H1 => ∃ a dx fs, x = .ref a ∧ H1 a = some (.ins C dx fs) ∧ fs.lookup f = none ∧ tr σ H1 fun vs H2 => Do (spg (x :: (vs ++ [])) H2 cont E)) : W B L fun H => tMethG C f spg [] E ta tr σ H cont := h
end
end Sx
set_option Elab.async false
set_option linter.all false
set_option maxRecDepth 100000
set_option maxHeartbeats 1000000
namespace Sx
open PySem PySem.Spec PyProof.Rows L2
section
variable {H0 H : Hp} {T : List (Addr × Str)} {L : List En} {K : PySem.W.Frag} {a : Addr} {xs : List V} {Q : VK}
/-- the first cells and the sum -/
theorem cells {ns : List Int} {k : Int} (hl : ns.length ≤ 63) : ∃ M : List Int, cutV (ns.map V.int) none (some k) ++ [V.int ns.sum] = M.map V.int ∧ M.length ≤ 64 := by
  refine ⟨((ns.drop (HT.sIx (ns.map V.int).length 0 none)).take (HT.sIx (ns.map V.int).length (ns.map V.int).length (some k) - HT.sIx (ns.map V.int).length 0 none)) ++ [ns.sum], ?_, ?_⟩
  · unfold cutV
    rw [List.map_append, List.map_take, List.map_drop]
    rfl
  · have h1 : ((ns.drop (HT.sIx (ns.map V.int).length 0 none)).take (HT.sIx (ns.map V.int).length (ns.map V.int).length (some k) - HT.sIx (ns.map V.int).length 0 none)).length ≤ ns.length := by
      rw [List.length_take, List.length_drop]; omega
    rw [List.length_append]
    simp only [List.length_cons, List.length_nil]
    omega
theorem Hs.here {B : Bs} {L : List En} {H : Hp} {p : Addr} {o : HO} {φ : Cl} {f : Fl} (S : Hs B L H) (k : H p = some o) (c : φ.P H o) (hf : f = .nt ∨ f = .nm ∧ Mo o) (nb : ∀ ps, o ≠ .tbl ps) (fr : Fr B p) (ne : ∀ e ∈ L, p ≠ e.1) : Hs B ((p, φ, f) :: L) H where
  fr := S.fr
  mm := S.mm
  tb := S.tb
  df := List.pairwise_cons.mpr ⟨fun z hz => .inr (ne z hz), S.df⟩
  ok := fun z hz => by
    rcases List.mem_cons.mp hz with rfl | hz
    · refine ⟨?_, o, k, c, ?_, nb⟩
      · rcases hf with rfl | ⟨rfl, _⟩ <;> exact fr
      · rcases hf with rfl | ⟨rfl, h⟩
        · intro h; cases h
        · exact fun _ => h
    · exact S.ok z hz
end
end Sx
set_option Elab.async false
set_option linter.all false
set_option maxRecDepth 100000
set_option maxHeartbeats 1000000
set_option Elab.async false
set_option linter.all false
set_option maxRecDepth 100000
set_option maxHeartbeats 1000000
namespace Sx
open PySem PySem.Spec PyProof.Rows L2
theorem kb_NoneType_int {K : PySem.W.Frag} : PySem.W.kitOne K (.type "NoneType") (.type "int") = some false := by first | rfl | decide +kernel | kernel_rfl
theorem kb_NoneType_bool {K : PySem.W.Frag} : PySem.W.kitOne K (.type "NoneType") (.type "bool") = some false := by first | rfl | decide +kernel | kernel_rfl
theorem kb_bool_int {K : PySem.W.Frag} : PySem.W.kitOne K (.type "bool") (.type "int") = some true := by first | rfl | decide +kernel | kernel_rfl
theorem kb_bool_bool {K : PySem.W.Frag} : PySem.W.kitOne K (.type "bool") (.type "bool") = some true := by first | rfl | decide +kernel | kernel_rfl
theorem kb_int_int {K : PySem.W.Frag} : PySem.W.kitOne K (.type "int") (.type "int") = some true := by first | rfl | decide +kernel | kernel_rfl
theorem kb_int_bool {K : PySem.W.Frag} : PySem.W.kitOne K (.type "int") (.type "bool") = some false := by first | rfl | decide +kernel | kernel_rfl
theorem kb_str_int {K : PySem.W.Frag} : PySem.W.kitOne K (.type "str") (.type "int") = some false := by first | rfl | decide +kernel | kernel_rfl
theorem kb_str_bool {K : PySem.W.Frag} : PySem.W.kitOne K (.type "str") (.type "bool") = some false := by first | rfl | decide +kernel | kernel_rfl
theorem kb_tuple_int {K : PySem.W.Frag} : PySem.W.kitOne K (.type "tuple") (.type "int") = some false := by first | rfl | decide +kernel | kernel_rfl
theorem kb_tuple_bool {K : PySem.W.Frag} : PySem.W.kitOne K (.type "tuple") (.type "bool") = some false := by first | rfl | decide +kernel | kernel_rfl
theorem kb_list_int {K : PySem.W.Frag} : PySem.W.kitOne K (.type "list") (.type "int") = some false := by first | rfl | decide +kernel | kernel_rfl
theorem kb_list_bool {K : PySem.W.Frag} : PySem.W.kitOne K (.type "list") (.type "bool") = some false := by first | rfl | decide +kernel | kernel_rfl
theorem kb_dict_int {K : PySem.W.Frag} : PySem.W.kitOne K (.type "dict") (.type "int") = some false := by first | rfl | decide +kernel | kernel_rfl
theorem kb_dict_bool {K : PySem.W.Frag} : PySem.W.kitOne K (.type "dict") (.type "bool") = some false := by first | rfl | decide +kernel | kernel_rfl
end Sx
set_option Elab.async false
set_option linter.all false
set_option maxRecDepth 100000
set_option maxHeartbeats 1000000
namespace Sm
open PySem PySem.Spec PyProof.Rows L2
inductive Sm (K : PySem.W.Frag) (H : Hp) : Nat → V → V → Prop
  | int {n : Nat} (i : Int) : Sm K H n (.int i) (.int i)
  | str {n : Nat} (z : Str) : Sm K H n (.str z) (.str z)
  | bl {n : Nat} (b : Bool) : Sm K H n (.bl b) (.bl b)
  | non {n : Nat} : Sm K H n .non .non
  | ref {n : Nat} (a : Addr) : Sm K H n (.ref a) (.ref a)
  | tup {n : Nat} {a b : Addr} {xs ys : List V} (h : SqT K H a xs) (h' : SqT K H b ys) (hl : xs.length = ys.length) (hi : ∀ (i : Nat) (x y : V), xs[i]? = some x → ys[i]? = some y → Sm K H n x y) : Sm K H (n + 1) (.ref a) (.ref b)
  | lst {n : Nat} {a b : Addr} {xs ys : List V} (h : SqL K H a xs) (h' : SqL K H b ys) (hl : xs.length = ys.length) (hi : ∀ (i : Nat) (x y : V), xs[i]? = some x → ys[i]? = some y → Sm K H n x y) : Sm K H (n + 1) (.ref a) (.ref b)
section
variable {X : Cx} {pins : List (Addr × Obj)} {σ : L2.St} {H : Hp} {s : Shared}
theorem at_of {xs : List V} {its : List Value} (r : Vals xs its) {i : Nat} (h : i < its.length) : ∃ x, xs[i]? = some x ∧ RelV x its[i] := by
  induction r generalizing i with
  | nil => exact absurd h (by simp)
  | cons h1 h2 ih =>
    cases i with
    | zero => exact ⟨_, rfl, h1⟩
    | succ i => exact ih (by simpa using h)
theorem allT (n : Nat) : ((List.range n).all fun _ => true) = true := by simp
theorem eqAt (I : Inv X pins σ H s) : ∀ (n : Nat) (x y : V) (v u : Value) (A : Around), Sm X.K H n x y → RelV x v → RelV y u → A.units + n < cLine → SeqAt.EqAt A s v u true := by
  intro n
  induction n with
  | zero =>
    intro x y v u A h rv ru hu
    cases h with
    | int i => obtain ⟨t, rfl⟩ := rv; obtain ⟨t', rfl⟩ := ru; have := SeqAt.EqAt.int_int (A := A) (s := s) i t i t'; rwa [beq_self_eq_true] at this
    | str z => obtain ⟨t, rfl⟩ := rv; obtain ⟨t', rfl⟩ := ru; have := SeqAt.EqAt.str_str (A := A) (s := s) z t z t'; rwa [beq_self_eq_true] at this
    | bl b => cases rv; cases ru; exact .same _
    | non => cases rv; cases ru; exact .same _
    | ref a => cases rv; cases ru; exact .same _
  | succ n ih =>
    intro x y v u A h rv ru hu
    cases h with
    | int i => obtain ⟨t, rfl⟩ := rv; obtain ⟨t', rfl⟩ := ru; have := SeqAt.EqAt.int_int (A := A) (s := s) i t i t'; rwa [beq_self_eq_true] at this
    | str z => obtain ⟨t, rfl⟩ := rv; obtain ⟨t', rfl⟩ := ru; have := SeqAt.EqAt.str_str (A := A) (s := s) z t z t'; rwa [beq_self_eq_true] at this
    | bl b => cases rv; cases ru; exact .same _
    | non => cases rv; cases ru; exact .same _
    | ref a => cases rv; cases ru; exact .same _
    | @tup _ a b xs ys h h' hl hi =>
      cases rv
      cases ru
      by_cases e : a = b
      · subst e; exact .same _
      · obtain ⟨its, r1, p1, _⟩ := I.tuple h
        obtain ⟨its2, r2, p2, _⟩ := I.tuple h'
        have e1 := r1.length
        have e2 := r2.length
        refine .of_refs e ?_
        have := SeqAt.RcAt.tuples (A := A) (e := fun _ => true) p1 p2 (by omega) fun j h1 h2 => ?_
        · rwa [allT, show (its.toArray.size == its2.toArray.size) = true by simp [← e1, ← e2, hl], Bool.and_true] at this
        · rw [List.size_toArray] at h1 h2
          obtain ⟨x, hx, rx⟩ := at_of r1 h1
          obtain ⟨y, hy, ry⟩ := at_of r2 h2
          simp only [List.getElem_toArray]
          exact ih x y _ _ A.in1 (hi j x y hx hy) rx ry (by show A.units + 1 + n < _; omega)
    | @lst _ a b xs ys h h' hl hi =>
      cases rv
      cases ru
      by_cases e : a = b
      · subst e; exact .same _
      · obtain ⟨its, r1, ⟨o, m, ho, hc, _, hd⟩, _⟩ := I.list h
        obtain ⟨its2, r2, ⟨o2, m2, ho2, hc2, _, hd2⟩, _⟩ := I.list h'
        have e1 := r1.length
        have e2 := r2.length
        refine .of_refs e ?_
        have := SeqAt.RcAt.lists (A := A) (e := fun _ => true) (items := its.toArray) (items2 := its2.toArray) ⟨o, ho, hc, m, hd⟩ ⟨o2, ho2, hc2, m2, hd2⟩ (by simp [← e1, ← e2, hl]) (by omega) fun j h1 h2 => ?_
        · rwa [allT] at this
        · rw [List.size_toArray] at h1 h2
          obtain ⟨x, hx, rx⟩ := at_of r1 h1
          obtain ⟨y, hy, ry⟩ := at_of r2 h2
          simp only [List.getElem_toArray]
          exact ih x y _ _ A.in1 (hi j x y hx hy) rx ry (by show A.units + 1 + n < _; omega)
/-- what may stand at the top -/
theorem Sm.up {K : PySem.W.Frag} {H : Hp} : ∀ {n : Nat} {x y : V}, Sm K H n x y → Sm K H (n + 1) x y := fun {n x y} h => by
  induction h with
  | int i => exact .int i
  | str z => exact .str z
  | bl b => exact .bl b
  | non => exact .non
  | ref a => exact .ref a
  | tup h h' hl hi ih => exact .tup h h' hl ih
  | lst h h' hl hi ih => exact .lst h h' hl ih
inductive Top (K : PySem.W.Frag) (H : Hp) : V → V → Prop
  | tup {a b : Addr} {xs ys : List V} (h : SqT K H a xs) (h' : SqT K H b ys) (hl : xs.length = ys.length) (hi : ∀ (i : Nat) (x y : V), xs[i]? = some x → ys[i]? = some y → Sm K H 20 x y) : Top K H (.ref a) (.ref b)
  | lst {a b : Addr} {xs ys : List V} (h : SqL K H a xs) (h' : SqL K H b ys) (hl : xs.length = ys.length) (hi : ∀ (i : Nat) (x y : V), xs[i]? = some x → ys[i]? = some y → Sm K H 20 x y) : Top K H (.ref a) (.ref b)
def rEqS (K : PySem.W.Frag) : R2 := fun x y H Q => rEqD K x y H Q ∨ (Top K H x y ∧ Q (.bl true) H)
def rNeS (K : PySem.W.Frag) : R2 := fun x y H Q => rNeD K x y H Q ∨ (Top K H x y ∧ Q (.bl false) H)
theorem op_eqS (hu : X.A.units + 64 < cLine) : OpR X (compareOp .Eq) (rEqS X.K) := by
  intro pins s σ H x y v u Q I rx ry h
  rcases h with h | ⟨t, q⟩
  · exact op_eqD hu pins s σ H x y v u Q I rx ry h
  · cases t with
    | tup h h' hl hi =>
      cases rx
      cases ry
      obtain ⟨its, r1, p1, _⟩ := I.tuple h
      obtain ⟨its2, r2, p2, _⟩ := I.tuple h'
      have e1 := r1.length
      have e2 := r2.length
      have := SeqAt.RcAt.tuples (A := X.A) (e := fun _ => true) p1 p2 (by omega) fun j h1 h2 => by
        rw [List.size_toArray] at h1 h2
        obtain ⟨x, hx, rx⟩ := at_of r1 h1
        obtain ⟨y, hy, ry⟩ := at_of r2 h2
        simp only [List.getElem_toArray]
        exact eqAt I 20 x y _ _ X.A.in1 (hi j x y hx hy) rx ry (by show X.A.units + 1 + 20 < _; omega)
      rw [allT, show (its.toArray.size == its2.toArray.size) = true by simp [← e1, ← e2, hl], Bool.and_true] at this
      exact this _ _ _ _ ⟨.bl _, H, I, rfl, q⟩
    | lst h h' hl hi =>
      cases rx
      cases ry
      obtain ⟨its, r1, ⟨o, m, ho, hc, _, hd⟩, _⟩ := I.list h
      obtain ⟨its2, r2, ⟨o2, m2, ho2, hc2, _, hd2⟩, _⟩ := I.list h'
      have e1 := r1.length
      have e2 := r2.length
      have := SeqAt.RcAt.lists (A := X.A) (e := fun _ => true) (items := its.toArray) (items2 := its2.toArray) ⟨o, ho, hc, m, hd⟩ ⟨o2, ho2, hc2, m2, hd2⟩ (by simp [← e1, ← e2, hl]) (by omega) fun j h1 h2 => by
        rw [List.size_toArray] at h1 h2
        obtain ⟨x, hx, rx⟩ := at_of r1 h1
        obtain ⟨y, hy, ry⟩ := at_of r2 h2
        simp only [List.getElem_toArray]
        exact eqAt I 20 x y _ _ X.A.in1 (hi j x y hx hy) rx ry (by show X.A.units + 1 + 20 < _; omega)
      rw [allT] at this
      exact this _ _ _ _ ⟨.bl _, H, I, rfl, q⟩
theorem op_neS (hu : X.A.units + 64 < cLine) : OpR X (compareOp .NotEq) (rNeS X.K) := by
  intro pins s σ H x y v u Q I rx ry h
  rcases h with h | ⟨t, q⟩
  · exact op_neD hu pins s σ H x y v u Q I rx ry h
  · cases t with
    | tup h h' hl hi =>
      cases rx
      cases ry
      obtain ⟨its, r1, p1, _⟩ := I.tuple h
      obtain ⟨its2, r2, p2, _⟩ := I.tuple h'
      have e1 := r1.length
      have e2 := r2.length
      have := SeqAt.RcNeAt.tuples (A := X.A) (e := fun _ => true) p1 p2 (by omega) fun j h1 h2 => by
        rw [List.size_toArray] at h1 h2
        obtain ⟨x, hx, rx⟩ := at_of r1 h1
        obtain ⟨y, hy, ry⟩ := at_of r2 h2
        simp only [List.getElem_toArray]
        exact eqAt I 20 x y _ _ X.A.in1 (hi j x y hx hy) rx ry (by show X.A.units + 1 + 20 < _; omega)
      rw [allT, show (its.toArray.size == its2.toArray.size) = true by simp [← e1, ← e2, hl], Bool.and_true] at this
      exact this _ _ _ _ ⟨.bl _, H, I, rfl, q⟩
    | lst h h' hl hi =>
      cases rx
      cases ry
      obtain ⟨its, r1, ⟨o, m, ho, hc, _, hd⟩, _⟩ := I.list h
      obtain ⟨its2, r2, ⟨o2, m2, ho2, hc2, _, hd2⟩, _⟩ := I.list h'
      have e1 := r1.length
      have e2 := r2.length
      have := SeqAt.RcNeAt.lists (A := X.A) (e := fun _ => true) (items := its.toArray) (items2 := its2.toArray) ⟨o, ho, hc, m, hd⟩ ⟨o2, ho2, hc2, m2, hd2⟩ (by simp [← e1, ← e2, hl]) (by omega) fun j h1 h2 => by
        rw [List.size_toArray] at h1 h2
        obtain ⟨x, hx, rx⟩ := at_of r1 h1
        obtain ⟨y, hy, ry⟩ := at_of r2 h2
        simp only [List.getElem_toArray]
        exact eqAt I 20 x y _ _ X.A.in1 (hi j x y hx hy) rx ry (by show X.A.units + 1 + 20 < _; omega)
      rw [allT] at this
      exact this _ _ _ _ ⟨.bl _, H, I, rfl, q⟩
end
end Sm
set_option Elab.async false
set_option linter.all false
set_option maxRecDepth 100000
set_option maxHeartbeats 2000000
namespace Cd
open PySem PySem.Spec PyProof.Rows L2
/-- an object that is a dict with these entries -/
def DicO (P : Program) (w : World) (o : Obj) (kvs : List (Key × V)) : Prop :=
  o.ExactDict ∧ ∃ es ep vs, o.data = .dict es ep ∧ KeysOf (mixKind P w) es ∧ Pairs (mixKind P w) es.toList vs ∧ KV kvs vs ∧ (vs.map (·.1)).Nodup
theorem DicO.at {P : Program} {w : World} {o : Obj} {kvs : List (Key × V)} {h : Heap} {a : Addr} (D : DicO P w o kvs) (e : h.get? a = some o) : ∃ vs, KV kvs vs ∧ h.DictOf (mixKind P w) a vs := by
  obtain ⟨h1, es, ep, vs, h2, h3, h4, h5, h6⟩ := D
  exact ⟨vs, h5, o, es, ep, e, h1, h2, h3, h4, h6⟩
/-- entries of texts -/
inductive Ents (w : World) : List DictEntry → List (Key × V) → Prop
  | nil : Ents w [] []
  | cons {x : Str} {t : Tok} {v : V} {u : Value} {hh : Int} {es : List DictEntry} {kvs : List (Key × V)} (e : hh = hashStr w x) (r : RelV v u) (h : Ents w es kvs) : Ents w (⟨hh, .str x t, u⟩ :: es) ((Sum.inr x, v) :: kvs)
theorem Ents.out {P : Program} {w : World} {es : List DictEntry} {kvs : List (Key × V)} (E : Ents w es kvs) : ∃ vs : List (Key × Value), (∀ e ∈ es, ∃ k, (mixKind P w).is k e.key = true ∧ e.hash = (mixKind P w).hash k) ∧ Pairs (mixKind P w) es vs ∧ KV kvs vs ∧ vs.map (·.1) = kvs.map (·.1) := by
  induction E with
  | nil => exact ⟨[], fun e h => (by cases h), .nil, .nil, rfl⟩
  | @cons x t v u hh es kvs e r h ih =>
    obtain ⟨vs, a, b, c, d⟩ := ih
    have k1 : keyIs (Sum.inr x) (Value.str x t) = true := kV_is (P := P) (w := w) (k := Sum.inr x) ⟨t, rfl⟩
    refine ⟨(Sum.inr x, u) :: vs, fun e' h' => ?_, .cons k1 rfl b, .cons ⟨rfl, r⟩ c, by rw [List.map_cons, List.map_cons, d]⟩
    rcases List.mem_cons.mp h' with rfl | h'
    · exact ⟨Sum.inr x, k1, e⟩
    · exact a e' h'
theorem DicO.mk {P : Program} {w : World} {es : Array DictEntry} {ep : Nat} {kvs : List (Key × V)} (E : Ents w es.toList kvs) (nd : (kvs.map (·.1)).Nodup) : DicO P w ⟨.type "dict", none, .dict es ep, #[]⟩ kvs := by
  obtain ⟨vs, a, b, c, d⟩ := E.out (P := P)
  exact ⟨⟨rfl, rfl, rfl⟩, es, ep, vs, rfl, fun e h => a e (Array.mem_toList_iff.mpr h), b, c, by rw [d]; exact nd⟩
end Cd
set_option Elab.async false
set_option linter.all false
set_option maxRecDepth 100000
set_option maxHeartbeats 2000000
namespace Mt
open PySem PySem.Spec PyProof.Rows L2
section
variable {X : Cx}
def tEnd : V → TS := fun _ D σ H => D.nx σ H
/-- the case of all -/
def tAny (tb : TS) : V → TS := fun _ => tb
def tMatch (te : TE) (tc : V → TS) : TS := fun D σ H => te σ H fun v H1 => tc v D σ H1
end
theorem any {tb : TS} {D : Ends} {σ : L2.St} {H : Hp} {v : V} (h : tb D σ H) : tAny tb v D σ H := h
end Mt
set_option Elab.async false
set_option linter.all false
set_option maxRecDepth 100000
set_option maxHeartbeats 2000000
namespace LamD
open PySem PySem.Spec PyProof.Rows L2 PySem.W
section
variable {X : Cx} {pins : List (Addr × Obj)} {σ : L2.St} {H : Hp} {s : Shared}
abbrev QL (X : Cx) : Str := X.env.qual ++ "<lambda>"
abbrev CL (X : Cx) (scope : Scope) : List (Str × Addr) := cloFrom X.env.cells scope.names []
/-- what is made: the function f, its defaults at t, its code object c' -/
structure Made (X : Cx) (pins : List (Addr × Obj)) (σ : L2.St) (H : Hp) (T : List (Addr × Str)) (params : Arguments) (body : Expr) (scope : Scope) (v : V) (f t c' : Addr) (u doc pm ct : Value) (G : Hp) (z : Shared) : Prop where
  inv : Inv X pins σ G z
  ex : LamX.ExtN H G
  tb : LamX.Tabs T G
  of : z.heap.get? f = some (kdv_obj "<lambda>" (QL X) params (.expr body) scope (CL X scope) (.ref t) doc pm c' ct)
  ot : z.heap.get? t = some (kdv_tup [u])
  ru : RelV v u
  nf : G f = none
  ff : f ∉ frs X.stack
  nt : G t = none
  ft : t ∉ frs X.stack
  co : G c' = some (LamX.CodeO c' (QL X))
theorem make {T : List (Addr × Str)} {c P : Addr} {params : Arguments} {body e : Expr} {v : V} {scope : Scope} {pos : Pos} {Q : Value → Shared → Prop} (I : Inv X pins σ H s) (TB : LamX.TabB X.base X.mg c P) (hcode : X.env.code = .ref c)
    (hm : (P, QL X) ∈ T) (hu : ∀ p ∈ T, p.1 = P → p.2 = QL X) (hT : LamX.Tabs T H) (hde : params.defaults = [e]) (hkw : params.kw_defaults = []) (he : PE X e (tC v)) (hfree : ∀ y ∈ scope.names, y.2 = .free → ∃ c, X.env.cells.lookup y.1 = some c)
    (h : ∀ (f t c' : Addr) (u doc pm ct : Value) (G : Hp) (z : Shared), Made X pins σ H T params body scope v f t c' u doc pm ct G z → Q (.ref f) z) : wpAny (model X.prog X.w) X.A (eval (.Lambda params body scope pos) X.env) Q X.xe s := by
  refine kdv_lam (by rw [hde]; rfl) hkw ?_
  rw [hde]
  refine kdv_all1 (thn (he.run pins s σ H (fun x G => x = v ∧ G = H) I ⟨rfl, rfl⟩) fun u s1 got => kdv_all0 ?_)
  obtain ⟨x, G, I1, ru, ex, eG⟩ := got
  subst ex eG
  rw [makeFunction_eq]
  simp only [List.zip_nil_right, List.filterMap_nil, List.isEmpty_nil, List.isEmpty_cons, if_true, pure_bind, Bool.false_eq_true, if_false]
  refine wpAny_bind (wpAny_newTextTuple ?_)
  obtain ⟨t, ht⟩ : ∃ t, t = s1.heap.objs.size := ⟨_, rfl⟩
  rw [← ht]
  have J : Inv X pins σ G { s1 with heap := s1.heap.push { cls := .type "tuple", data := .seq [u].toArray } } := I1.kept fun b o q => Heap.get?_push_of_some _ q
  have hot : (s1.heap.push { cls := .type "tuple", data := .seq [u].toArray }).get? t = some (kdv_tup [u]) := by rw [ht]; exact Heap.get?_push_size _ rfl
  have tG : G t = none := I1.hok.fresh (Nat.le_of_eq ht.symm)
  generalize hz : ({ s1 with heap := s1.heap.push { cls := .type "tuple", data := .seq [u].toArray } } : Shared) = z1 at J
  have hot1 : z1.heap.get? t = some (kdv_tup [u]) := by rw [← hz]; exact hot
  have hts : t ∉ frs X.stack := fun m => by
    rcases List.mem_cons.mp (I1.stkSub _ m) with q | q
    · have l := I1.lt
      rw [← q, ht] at l
      exact Nat.lt_irrefl _ l
    · exact I1.nofs (Nat.le_of_eq ht.symm) q
  clear hz hot
  obtain ⟨ps, tP, tr, among⟩ := hT _ hm
  have bP : z1.heap.BuiltinsAt X.mg P := TB.bm.keeps J.bk
  have objP : z1.heap.get? P = some { cls := .none, data := .fields ps } := J.hok P _ tP
  have outF : ∀ a, z1.heap.objs.size ≤ a → a ∉ frs X.stack := fun a ha m => by
    rcases List.mem_cons.mp (J.stkSub _ m) with q | q
    · have l := J.lt
      rw [← q] at l
      exact absurd (Nat.lt_of_lt_of_le l ha) (Nat.lt_irrefl _)
    · exact J.nofs ha q
  have tneP : t ≠ P := fun q => by rw [q, tP] at tG; cases tG
  cases hc : codeAmong pos ps.toList with
  | some cv =>
    obtain ⟨c', rfl, hco⟩ := among pos cv hc
    refine kdv_makeTailHit (mg := X.mg) (c := c) (P := P) (ps := ps) (closure_ok hfree) J.ok.glob (J.mod.glob.keeps J.bk) hcode (TB.code.keeps J.bk) objP tr hc bP fun ct doc g tk old le => ?_
    refine h g.objs.size t c' u doc _ ct G _ ⟨J.kept fun b o q => Heap.get?_push_of_some _ (old b o q), LamX.ExtN.refl _, hT, Heap.get?_push_size _ rfl, Heap.get?_push_of_some _ (old _ _ hot1), ru, J.hok.fresh le, outF _ le, tG, hts, hco⟩
  | none =>
    refine kdv_makeTail (mg := X.mg) (c := c) (P := P) (ps := ps) (closure_ok hfree) J.ok.glob (J.mod.glob.keeps J.bk) hcode (TB.code.keeps J.bk) objP tr hc TB.gP bP fun c' ct doc g tk old ge lt rc tabP => ?_
    obtain ⟨c2, oc, vs, tq, e2, hoc, hd, hv⟩ := rc
    cases e2
    have le : z1.heap.objs.size ≤ g.objs.size := Nat.le_trans ge (Nat.le_of_lt lt)
    have nC : G c' = none := J.hok.fresh ge
    have J2 := LamX.inv_table (t' := tk) (more := #[rawInt pos.line, rawInt pos.col, .ref c']) (h' := g.push (kdv_obj "<lambda>" (QL X) params (.expr body) scope (CL X scope) (.ref t) doc ((X.mg "__name__").getD .none) c' ct)) J tP
      (fun b o nb q => Heap.get?_push_of_some _ (old b o nb q)) (Heap.get?_push_of_some _ tabP) ge ⟨oc, vs, tq, Heap.get?_push_of_some _ hoc, hd, hv⟩
    have ext : LamX.ExtN G (upd (upd G P (.tbl (ps ++ #[rawInt pos.line, rawInt pos.col, .ref c']))) c' (LamX.CodeO c' (QL X))) := fun b o q nb => by
      rw [upd_ne (ne_of_none q nC), upd_ne (fun z => by subst z; rw [tP] at q; exact nb ps (Option.some.inj q).symm)]
      exact q
    have eL : (ps ++ #[rawInt pos.line, rawInt pos.col, Value.ref c']).toList = ps.toList ++ [rawInt pos.line, rawInt pos.col, .ref c'] := by simp
    have fC : g.objs.size ≠ c' := fun q => Nat.lt_irrefl _ (q ▸ lt)
    have fP : g.objs.size ≠ P := fun q => by
      have l := Nat.lt_of_lt_of_le (Heap.lt_size objP) le
      rw [q] at l
      exact Nat.lt_irrefl _ l
    have tC : t ≠ c' := fun q => by
      have l := Nat.lt_of_lt_of_le (Heap.lt_size hot1) ge
      rw [q] at l
      exact Nat.lt_irrefl _ l
    refine h g.objs.size t c' u doc _ ct _ _ ⟨J2, ext, fun p hp => ?_, Heap.get?_push_size _ rfl, Heap.get?_push_of_some _ (old _ _ tneP hot1), ru, ?_, outF _ le, ?_, hts, upd_same⟩
    · by_cases hb : p.1 = P
      · rw [hu p hp hb, hb]
        refine ⟨_, (upd_ne (ne_of_none tP nC)).trans upd_same, by rw [eL]; exact TriplesOk_snoc _ _ _ _ tr, fun p' cv hcv => ?_⟩
        rw [eL] at hcv
        rcases LamX.among_app _ tr hcv with q | q
        · obtain ⟨c0, h1, h2⟩ := among p' cv q
          exact ⟨c0, h1, ext _ _ h2 LamX.codeO_ne⟩
        · exact ⟨c', q, upd_same⟩
      · obtain ⟨ps', a1, a2, a3⟩ := hT p hp
        refine ⟨ps', (upd_ne (ne_of_none a1 nC)).trans ((upd_ne hb).trans a1), a2, fun p' cv hcv => ?_⟩
        obtain ⟨c0, h1, h2⟩ := a3 p' cv hcv
        exact ⟨c0, h1, ext _ _ h2 LamX.codeO_ne⟩
    · rw [upd_ne fC, upd_ne fP]
      exact J.hok.fresh le
    · rw [upd_ne tC, upd_ne tneP]
      exact tG
/-- one local name x, captured ones and globals -/
structure LamS1 (sc scope : Scope) (x : Str) : Prop where
  kind : scope.kind = .function
  co : scope.isCoroutine = false
  gen : scope.isGenerator = false
  loc : scope.names.lookup x = some .local
  own : ∀ y ∈ scope.names, (y.2 = .local → y.1 = x) ∧ y.2 ≠ .cell
  free : ∀ y ∈ scope.names, y.2 = .free → sc.names.lookup y.1 = some .cell ∨ sc.names.lookup y.1 = some .free
def lamS1B (sc scope : Scope) (x : Str) : Bool :=
  decide (scope.kind = .function) && !scope.isCoroutine && !scope.isGenerator && decide (scope.names.lookup x = some .local) && scope.names.all fun y => (!decide (y.2 = .local) || decide (y.1 = x)) && !decide (y.2 = .cell) && (!decide (y.2 = .free) || decide (sc.names.lookup y.1 = some .cell) || decide (sc.names.lookup y.1 = some .free))
theorem lamS1_by {sc scope : Scope} {x : Str} (h : lamS1B sc scope x = true) : LamS1 sc scope x := by
  unfold lamS1B at h
  simp only [Bool.and_eq_true, Bool.or_eq_true, Bool.not_eq_true', decide_eq_true_eq, decide_eq_false_iff_not, List.all_eq_true] at h
  obtain ⟨⟨⟨⟨h1, h2⟩, h3⟩, hl⟩, h4⟩ := h
  refine ⟨h1, h2, h3, hl, fun y hy => ⟨fun e => ?_, (h4 y hy).1.2⟩, fun y hy e => ?_⟩
  · rcases (h4 y hy).1.1 with q | q
    · exact absurd e q
    · exact q
  · rcases (h4 y hy).2 with (q | q) | q
    · exact absurd e q
    · exact .inl q
    · exact .inr q
theorem LamS1.has {scope : Scope} {x : Str} (L : LamS1 X.env.scope scope x) (ok : X.Ok) : ∀ y ∈ scope.names, y.2 = .free → ∃ c, X.env.cells.lookup y.1 = some c := fun y hy q =>
  (L.free y hy q).elim (fun k => ok.has _ (.inl k)) (fun k => ok.has _ (.inr k))
theorem start {A : Around} {outer : List Env} {E : XK} {scope : Scope} {x : Str} {f c' : Addr} {g : Heap} {tk : Nat} {s1 : Shared} {HZ : Hp} {m : Str → Option Value} (I : Inv X pins σ H s) (L : LamS1 X.env.scope scope x) (hx : x ∉ X.N) (e0 : Env0 X.prog X.w X.K X.mg X.base A outer s1 HZ) (hd : A.handled = none)
    (un : Un (frs X.stack) [] H HZ s.heap s1.heap) (hns : g.Ns s1.heap.objs.size m) (kp : ∀ b o, s1.heap.get? b = some o → g.get? b = some o) : Inv (LamX.lamCx X A outer s1 HZ E scope f c') [] σ HZ { s1 with heap := g, toks := tk } := by
  have hfree := L.has I.ok
  have same : ∀ {y c}, (CL X scope).lookup y = some c → X.env.cells.lookup y = some c := fun {y c} q => by
    rcases cloFrom_mem (PySem.mem_of_lookup q) with k | ⟨k1, k2⟩
    · cases k
    · obtain ⟨c1, q1⟩ := hfree _ k1 rfl
      have q1 : X.env.cells.lookup y = some c1 := q1
      have : c = c1 := by rw [k2, q1] <;> rfl
      rw [this]; exact q1
  have there : ∀ {y}, scope.names.lookup y = some .free → ∃ c, (CL X scope).lookup y = some c := fun {y} q => mem_lookup (cloFrom_has (cells := X.env.cells) (acc := []) (show (y, NameKind.free) ∈ scope.names from PySem.mem_of_lookup q))
  have cell : ∀ {c : Addr} {v : Option Value}, H c = none → s.heap.IsCell c v → g.IsCell c v := fun {c v} n ⟨o, ho, hv⟩ => by
    obtain ⟨sl, q⟩ := un.any ho n (by simp)
    exact ⟨_, kp _ _ q, hv⟩
  have none_ : ∀ b : Addr, b ∉ (LamX.lamCx X A outer s1 HZ E scope f c').ex := fun b z => by cases (show b ∈ ([] : List Addr) from z)
  refine ⟨⟨e0.mod, L.kind, rfl, rfl, Nat.le_refl _, fun y z c q1 q2 => I.ok.inj y z c (same q1) (same q2), fun y hy => ?_, fun y c z _ => ?_, fun _ => hd, Around.frames_deeper e0.frames, .inr ⟨rfl, rfl⟩, fun b z => absurd z (none_ b), e0.bs, e0.bsz, fun b _ _ => none_ b,
      fun b z => absurd z (none_ b), e0.funs, e0.frf⟩, rfl, e0.bare, Un.kept kp, ⟨_, hns, fun i y v q1 q2 q3 => ?_⟩, fun y c q => ?_, e0.hok.fresh (Nat.le_refl _), fun y c q => ?_, fun q hq => (by cases (show q ∈ ([] : List (Addr × Obj)) ++ [] from hq)), e0.hok.kept kp, I.len⟩
  · rcases (show scope.names.lookup y = some .cell ∨ scope.names.lookup y = some .free from hy) with hy | hy
    · exact absurd rfl (L.own _ (PySem.mem_of_lookup hy)).2
    · exact there hy
  · cases (show false = true from z)
  · rcases (show Vis scope y from q3) with k | k | k
    · have hxy := (L.own _ (PySem.mem_of_lookup k)).1 rfl
      exact absurd (hxy ▸ List.mem_of_getElem? q1) hx
    · exact absurd rfl (L.own _ (PySem.mem_of_lookup k)).2
    · obtain ⟨m', hn, hl⟩ := I.loc
      have vis : Vis X.env.scope y := (L.free _ (PySem.mem_of_lookup k) rfl).elim (fun k => .inr (.inl k)) (fun k => .inr (.inr k))
      obtain ⟨w', r, q⟩ := hl i y v q1 q2 vis
      obtain ⟨c2, h2⟩ := there k
      refine ⟨w', r, .inr ⟨.inr k, c2, h2, ?_⟩⟩
      have c1 := same h2
      rcases q with ⟨k', _⟩ | ⟨_, c3, e', z⟩
      · rcases L.free _ (PySem.mem_of_lookup k) rfl with k2 | k2 <;> (have := (show X.env.scope.names.lookup y = _ from k2).symm.trans k'; cases this)
      · cases c1.symm.trans e'
        exact cell (I.freeC y _ c1) z
  · obtain ⟨w', z⟩ := I.cell y c (same q)
    exact ⟨w', cell (I.freeC y c (same q)) z⟩
  · obtain ⟨v, o, ho, hv⟩ := I.cell y c (same q)
    exact un.free c o ho (I.freeC y c (same q)) (by simp)
/-- x(), in the def that got the lambda -/
theorem act {Eg E : XK} {Ng : List Str} {qg x a : Str} {sg scope : Scope} {g f t c' : Addr} {u doc pm ct cdg : Value} {T : List (Addr × Str)} {H0 : Hp} {v : V} {params : Arguments} {body : Expr} {k i : Nat} {pn : List (Addr × Obj)} {xe : Value → Shared → Prop} {W : WX} {tb : TE} {p1 p2 : Pos}
    (M : Made X pins σ H0 T params body scope v f t c' u doc pm ct H s) (L : LamS1 X.env.scope scope x) (hx : x ∉ X.N)
    (hbind : ∃ kk : Option (Array Value) → Sem (List (Str × Value)), bindArgs (kdv_fn "<lambda>" (QL X) params (.expr body) scope (CL X scope) (.ref t) doc pm (.ref c') ct) ⟨[], []⟩ = seqItems? (.ref t) >>= kk ∧ kk (some [u].toArray) = pure [(x, u)])
    (tk : Takes ((cxOf C8.CX0 X.prog X.w X.K X.mg X.base Ng qg sg g cdg X.A X.stack s H Eg).tr pn xe) W) (hW : ∀ cls d σ' H', E cls d H' → W cls d σ' H') (hr : Room (k + 1) (X.A.deeper (envOfC qg sg s.heap.objs.size g cdg)))
    (hbody : ∀ (A : Around) (outer : List Env) (s : Shared) (H : Hp), Room k (A.deeper (LamX.lamEnv X scope s.heap.objs.size f c')) → PE (LamX.lamCx X A outer s H E scope f c') body tb)
    (hN : Ng[i]? = some a) (hv : Vis sg a) (hd : (a == ("__debug__" : Str)) = false := by decide) (hcd : (a == ("__classdict__" : Str)) = false := by decide) :
    PE ((cxOf C8.CX0 X.prog X.w X.K X.mg X.base Ng qg sg g cdg X.A X.stack s H Eg).tr pn xe) (.Call (.Name a p1) [] [] p2) (fun σZ HZ Q => σZ[i]? = some (some (.ref f)) ∧ HZ c' = some (LamX.CodeO c' (QL X)) ∧ tb σ HZ Q) := by
  refine ⟨fun pz sz σZ HZ Q IZ h => ?_⟩
  obtain ⟨hs, hc, hb⟩ := h
  refine wpAny_Call_Name_kw (thn ((pe_var (pos := p1) (i := i) hN hv hd hcd).run pz sz σZ HZ (fun y G => y = .ref f ∧ G = HZ) IZ ⟨.ref f, hs, rfl, rfl⟩) fun z s1 got => ?_)
  obtain ⟨y, G, J, r1, ey, eG⟩ := got
  subst ey
  rw [eG] at J
  obtain rfl : z = Value.ref f := r1
  have kf := J.base.keep f _ M.of M.nf M.ff (fun z => by cases (show f ∈ ([] : List Addr) from z))
  have kt := J.base.keep t _ M.ot M.nt M.ft (fun z => by cases (show t ∈ ([] : List Addr) from z))
  refine PySem.W.callWith_F0 ⟨_, _, _, _, kf⟩ ?_
  have un : Un (frs X.stack) [] H HZ s.heap s1.heap := J.base
  obtain ⟨⟨oc, vs, tq, hoc, hdc, hvc⟩, _, _⟩ := J.hok c' _ hc
  obtain ⟨kk, b1, b2⟩ := hbind
  have bt : BindsTo s1 (kdv_fn "<lambda>" (QL X) params (.expr body) scope (CL X scope) (.ref t) doc pm (.ref c') ct) ⟨[], []⟩ [(x, u)] := .of_defaults rfl kt rfl b1 b2
  have go : codeAny (model X.prog X.w) (X.A.deeper (envOfC qg sg s.heap.objs.size g cdg)) (.call (.ref f) ⟨[], []⟩) (CR (L2.CX X.prog X.w) (envOfC qg sg s.heap.objs.size g cdg :: X.stack) X.prog X.w HZ s1 Q E) s1 := by
    refine kla_callFunE hr.depth kf rfl L.co L.gen rfl ⟨c', oc, vs, tq, rfl, hoc, hdc, hvc⟩ (bt _ _ _ _ ?_)
    refine wpAny_newFunctionEnv (fun y hy => (L.own y hy).2) (fun y hy => ?_) (fun g1 hns hsb => ⟨J.nolimit.fresh _ hsb, ?_⟩) L.kind
    · cases List.mem_singleton.mp hy
      exact L.loc
    show codeAny _ _ (.expr body (LamX.lamEnv X scope s1.heap.objs.size f c')) _ _
    have kp : ∀ b o, s1.heap.get? b = some o → g1.get? b = some o := fun b o q => hsb.extBut b o (Nat.ne_of_lt (Heap.lt_size q)) (Heap.get?_push_of_some _ q)
    have J1 := start (E := E) (f := f) (c' := c') (tk := s1.toks + [(x, u)].length) M.inv L hx J.env0 hr.hd un hns kp
    refine kla_codeExpr (wpAny_mono ((hbody _ _ s1 HZ (hr.deeper _)).run [] _ _ HZ Q J1 hb) (fun z s' got => ?_) fun _ _ z => z)
    obtain ⟨w', H', J', rv, q⟩ := got
    exact ⟨w', H', J'.os, J'.bare, J'.base, J'.hok, rv, q⟩
  have px : Passes (L2.CX X.prog X.w) ((cxOf C8.CX0 X.prog X.w X.K X.mg X.base Ng qg sg g cdg X.A X.stack s H Eg).tr pn xe) E := passes_call tk hW
  refine wpAny_call (codeAny_mono go fun r s' got => ?_)
  cases r with
  | error er => exact px pz σZ HZ s1 er s' J got
  | ok fl =>
    cases fl with
    | ret z => exact J.after got
    | next => exact got.elim
    | brk => exact got.elim
    | cont => exact got.elim
/-- x(lambda y=d: body), x a def that calls what it gets -/
theorem pe_lamD {T : List (Addr × Str)} {TT : (XK → Hp → VK → Prop) → Hp → VK → Prop} {x a y : Str} {st : Stmt} {g c tb : Addr} {k j : Nat} {fd : FuncData} {Ng : List Str} {params : Arguments} {body e : Expr} {v : V} {scope : Scope} {t : XK → TE} {p lpos pos : Pos}
    (D : C8.Def X.K X.mg x st g fd) (b : Binds X.K fd [a] []) (Sg : FnScope Ng [a] (C8.fnScope st)) (hNg : Ng[0]? = some a) (hva : Vis (C8.fnScope st) a) (hG : ∀ cdg, LamX.GivesTo X Ng x (C8.fnScope st) g cdg (C8.fnBody st) a (QL X) TT)
    (TB : LamX.TabB X.base X.mg c tb) (hcode : X.env.code = .ref c) (hmT : (tb, QL X) ∈ T) (hu : ∀ p ∈ T, p.1 = tb → p.2 = QL X) (hr : Room j X.A) (hk : k + 2 ≤ j) (hg : Gl X x) (L : LamS1 X.env.scope scope y) (hy : y ∉ X.N)
    (hbody : ∀ (A : Around) (outer : List Env) (s : Shared) (H : Hp) (E : XK) (f c' : Addr), Room k (A.deeper (LamX.lamEnv X scope s.heap.objs.size f c')) → PE (LamX.lamCx X A outer s H E scope f c') body (t E))
    (he : PE X e (tC v)) (hde : params.defaults = [e] := by rfl) (hkw : params.kw_defaults = [] := by rfl)
    (hbind : ∀ (q : Str) (cl : List (Str × Addr)) (dd : Addr) (u doc pm cv ct : Value), ∃ kk : Option (Array Value) → Sem (List (Str × Value)), bindArgs (kdv_fn "<lambda>" q params (.expr body) scope cl (.ref dd) doc pm cv ct) ⟨[], []⟩ = seqItems? (.ref dd) >>= kk ∧ kk (some [u].toArray) = pure [(y, u)] := by exact fun _ _ _ _ _ _ _ _ => ⟨_, rfl, rfl⟩)
    (hdb : (x == ("__debug__" : Str)) = false := by decide) (hd : (a == ("__debug__" : Str)) = false := by decide) (hcd : (a == ("__classdict__" : Str)) = false := by decide) :
    PE X (.Call (.Name x p) [.Lambda params body scope lpos] [] pos) (LamX.tLam T TT t) := by
  obtain ⟨oc, od, dV, kV, doc, pm, an, cdv, ct, osl, rfl, lk, hc⟩ := D.fn.ex
  refine ⟨fun pins s σ H Q I h => ?_⟩
  obtain ⟨hT, h⟩ := h
  refine wpAny_Call_Name_kw (ld_glob I hg D.mgf ?_ hdb)
  refine PySem.W.callWith_K (h₀ := X.base) I.ok.mod.kin D.kp ?_ (by rfl) (by rfl)
  show wpAny _ _ (spliced ((false, eval (.Lambda params body scope lpos) X.env) :: backTo pos (starEach [] X.env))) _ _ s
  refine Calls.spliced_cons (make I TB hcode hmT hu hT hde hkw he (L.has I.ok) fun f t' c' u doc' pm' ct' G z M => ?_)
  refine Calls.spliced_nil ⟨M.inv.kIn, ?_⟩
  have go : codeAny (model X.prog X.w) X.A (.call (.ref g) ⟨[.ref f], []⟩) (CR C8.CX0 X.stack X.prog X.w G z Q C8.E0) z := by
    refine LamX.run_ofS (N := Ng) (ps := [a]) (us := [.ref f]) (vs := [.ref f]) lk hc Sg (hr.mono hk) M.inv.env0 (b z [.ref f] M.inv.kIn rfl) (.cons rfl .nil) rfl fun hr' => ?_
    obtain ⟨tt, ht', hq'⟩ := hG cdv f c' z G Q (fun E H' Q' => t E σ H' Q') (fun W pn xe E p1 p2 tk hW => act (i := 0) M L hy (hbind _ _ _ _ _ _ _ _) tk hW hr' (fun A outer s H hr2 => hbody A outer s H E f c' hr2) hNg hva hd hcd) M.co (h G M.ex M.tb)
    exact ⟨tt, ht'.nox, hq'⟩
  refine wpAny_call (codeAny_mono go fun r s2 got => ?_)
  cases r with
  | error er => exact (show False from got).elim
  | ok fl =>
    cases fl with
    | ret z => exact M.inv.after got
    | next => exact got.elim
    | brk => exact got.elim
    | cont => exact got.elim
end
end LamD
set_option Elab.async false
set_option linter.all false
set_option maxRecDepth 100000
set_option maxHeartbeats 1000000
namespace Ab
open PySem PySem.Spec PyProof.Rows L2
inductive AV where
  | non | bl (b : Bool) | int (i : Int) | str (s : Str) | ty (n : String) | cls (c : String)
  | raw (a : Addr) | obj (i : Nat) | tup (xs : List AV) | scr (xs : List AV) | exn (c : String) (ns : List Str) (vs : List AV)
inductive Cell where
  | lst (xs : List AV) | ins (c : String) (fs : List (Str × AV)) | dic (kvs : List (Key × AV))
structure Sto where
  n : Nat
  c : Nat → Cell
def Sto.new (s : Sto) (x : Cell) : Sto := ⟨s.n + 1, fun i => if i = s.n then x else s.c i⟩
def Sto.set (s : Sto) (i : Nat) (x : Cell) : Sto := ⟨s.n, fun j => if j = i then x else s.c j⟩
/-- where a store lies -/
structure Wd where
  m : Nat → Addr
  n : Nat
  H : Hp
def Imm : HO → Prop
  | .tup _ => True
  | .xd _ => True
  | .frz _ _ => True
  | .ext _ => True
  | _ => False
structure Ext (w w' : Wd) : Prop where
  n : w.n ≤ w'.n
  m : ∀ i, i < w.n → w'.m i = w.m i
  im : ∀ a o, w.H a = some o → Imm o → w'.H a = some o
theorem Ext.refl (w : Wd) : Ext w w := ⟨Nat.le_refl _, fun _ _ => rfl, fun _ _ h _ => h⟩
theorem imm_xob {a : Addr} {cls : Value} {d : Option Addr} : Imm (Gx.xob a cls d) := trivial
theorem Ext.trans {w w1 w2 : Wd} (a : Ext w w1) (b : Ext w1 w2) : Ext w w2 :=
  ⟨Nat.le_trans a.n b.n, fun i h => (b.m i (Nat.lt_of_lt_of_le h a.n)).trans (a.m i h), fun c o h k => b.im c o (a.im c o h k) k⟩
/-- what is known of the program: its module, its classes' addresses, the tables of code objects, the classes that live -/
structure Wc where
  K : PySem.W.Frag
  κ : String → Addr
  T : List (Addr × Str)
  live : List String
  xlive : List String
/-- and what stays true as it grows -/
structure Wl extends Wc where
  inv : Wd → Prop
  cl : ∀ w w', Ext w w' → inv w → inv w'
instance : Coe Wl Wc := ⟨Wl.toWc⟩
def SqF (K : PySem.W.Frag) (H : Hp) (a : Addr) (xs : List V) : Prop :=
  (∃ o, H a = some (.frz o (.lst xs))) ∨
    ∃ (o : Obj) (its : Array Value) (n : Nat), K.lookup a = some o ∧ o.cls = .type "list" ∧ o.dict = none ∧ o.data = .seq its n ∧ its.size ≤ sizeLine ∧ Vals xs its.toList
theorem SqF.sql {K : PySem.W.Frag} {H : Hp} {a : Addr} {xs : List V} (h : SqF K H a xs) : SqL K H a xs := h.elim (fun h => .inl (.inr h)) .inr
section
variable (W : Wc) (w : Wd)
mutual
inductive Rel : AV → V → Prop
  | non : Rel .non .non
  | bl (b : Bool) : Rel (.bl b) (.bl b)
  | int (i : Int) : Rel (.int i) (.int i)
  | str (s : Str) : Rel (.str s) (.str s)
  | ty (n : String) : Rel (.ty n) (.ty n)
  | cls (c : String) : Rel (.cls c) (.ref (W.κ c))
  | raw (a : Addr) : Rel (.raw a) (.ref a)
  | obj {i : Nat} (h : i < w.n) : Rel (.obj i) (.ref (w.m i))
  | tup {a : Addr} {xs : List AV} {vs : List V} (h : SqT W.K w.H a vs) (r : RelL xs vs) : Rel (.tup xs) (.ref a)
  | scr {a : Addr} {xs : List AV} {vs : List V} (h : SqF W.K w.H a vs) (r : RelL xs vs) : Rel (.scr xs) (.ref a)
  | exn {c : String} {a d : Addr} {ns : List Str} {xs : List AV} {vs : List V} (hc : c ∈ W.xlive) (h : w.H a = some (Gx.xob a (.ref (W.κ c)) (some d)) ) (hd : w.H d = some (.xd (ns.zip vs))) (hl : ns.length = xs.length) (r : RelL xs vs) : Rel (.exn c ns xs) (.ref a)
inductive RelL : List AV → List V → Prop
  | nil : RelL [] []
  | cons {x : AV} {v : V} {xs : List AV} {vs : List V} (h : Rel x v) (r : RelL xs vs) : RelL (x :: xs) (v :: vs)
end
def RelF (fs : List (Str × AV)) (gs : List (Str × V)) : Prop := Paired (fun (p : Str × AV) (q : Str × V) => p.1 = q.1 ∧ Rel W w p.2 q.2) fs gs
def RelK (fs : List (Key × AV)) (gs : List (Key × V)) : Prop := Paired (fun (p : Key × AV) (q : Key × V) => p.1 = q.1 ∧ Rel W w p.2 q.2) fs gs
inductive CRel : Cell → HO → Prop
  | lst {xs : List AV} {vs : List V} (r : RelL W w xs vs) : CRel (.lst xs) (.lst vs)
  | ins {c : String} {dx : Addr} {fs : List (Str × AV)} {gs : List (Str × V)} (hc : c ∈ W.live) (r : RelF W w fs gs) : CRel (.ins c fs) (.ins (W.κ c) dx gs)
  | dic {fs : List (Key × AV)} {gs : List (Key × V)} (r : RelK W w fs gs) : CRel (.dic fs) (.dK gs)
end
section
variable (W : Wl) (w : Wd)
structure Sim (s : Sto) : Prop where
  n : w.n = s.n
  inj : ∀ i j, i < s.n → j < s.n → w.m i = w.m j → i = j
  cell : ∀ i, i < s.n → ∃ o, w.H (w.m i) = some o ∧ CRel W w (s.c i) o
  tab : LamX.Tabs W.T w.H
  inv : W.inv w
end
section
variable (W : Wc) (w : Wd)
abbrev ASt := List (Option AV)
def RO : Option AV → Option V → Prop
  | some x, some v => Rel W w x v
  | none, _ => True
  | _, _ => False
def RSt (σ : ASt) (σc : L2.St) : Prop := Paired (RO W w) σ σc
end
theorem sqt_ext {K : PySem.W.Frag} {w w' : Wd} {a : Addr} {vs : List V} (e : Ext w w') (h : SqT K w.H a vs) : SqT K w'.H a vs := by
  rcases h with (h | ⟨o, h⟩) | h
  · exact .inl (.inl (e.im _ _ h trivial))
  · exact .inl (.inr ⟨o, e.im _ _ h trivial⟩)
  · exact .inr h
theorem sqf_ext {K : PySem.W.Frag} {w w' : Wd} {a : Addr} {vs : List V} (e : Ext w w') (h : SqF K w.H a vs) : SqF K w'.H a vs := by
  rcases h with ⟨o, h⟩ | h
  · exact .inl ⟨o, e.im _ _ h trivial⟩
  · exact .inr h
mutual
theorem Rel.mono {W : Wc} {w w' : Wd} (e : Ext w w') : ∀ {x : AV} {v : V}, Rel W w x v → Rel W w' x v
  | _, _, .non => .non
  | _, _, .bl b => .bl b
  | _, _, .int i => .int i
  | _, _, .str s => .str s
  | _, _, .ty n => .ty n
  | _, _, .cls c => .cls c
  | _, _, .raw a => .raw a
  | _, _, .obj h => by rw [← e.m _ h]; exact .obj (Nat.lt_of_lt_of_le h e.n)
  | _, _, .tup h r => .tup (sqt_ext e h) (RelL.mono e r)
  | _, _, .scr h r => .scr (sqf_ext e h) (RelL.mono e r)
  | _, _, .exn hc h hd hl r => .exn hc (e.im _ _ h imm_xob) (e.im _ _ hd trivial) hl (RelL.mono e r)
theorem RelL.mono {W : Wc} {w w' : Wd} (e : Ext w w') : ∀ {x : List AV} {v : List V}, RelL W w x v → RelL W w' x v
  | _, _, .nil => .nil
  | _, _, .cons h r => .cons (Rel.mono e h) (RelL.mono e r)
end
section
variable {W : Wc} {w w' : Wd} {s s' : Sto}
theorem RelF.mono (e : Ext w w') {fs : List (Str × AV)} {gs : List (Str × V)} (h : RelF W w fs gs) : RelF W w' fs gs := Paired.mapP h fun _ _ z => ⟨z.1, z.2.mono e⟩
theorem RelK.mono (e : Ext w w') {fs : List (Key × AV)} {gs : List (Key × V)} (h : RelK W w fs gs) : RelK W w' fs gs := Paired.mapP h fun _ _ z => ⟨z.1, z.2.mono e⟩
theorem CRel.mono (e : Ext w w') {c : Cell} {o : HO} (h : CRel W w c o) : CRel W w' c o := by
  cases h with
  | lst r => exact .lst (r.mono e)
  | ins hc r => exact .ins hc (r.mono e)
  | dic r => exact .dic (r.mono e)
theorem RO.mono (e : Ext w w') : ∀ {x : Option AV} {v : Option V}, RO W w x v → RO W w' x v
  | some _, some _, h => Rel.mono e h
  | none, _, _ => trivial
  | some _, none, h => h
theorem RSt.mono (e : Ext w w') {σ : ASt} {σc : L2.St} (h : RSt W w σ σc) : RSt W w' σ σc := Paired.mapP h fun _ _ z => z.mono e
theorem CRel.mut {c : Cell} {o : HO} (h : CRel W w c o) : ¬ Imm o ∧ (∀ ps, o ≠ .tbl ps) ∧ ∀ φ, o ≠ .ext φ := by
  cases h <;> exact ⟨fun z => z, fun ps z => (by cases z), fun φ z => (by cases z)⟩
theorem RelL.length : ∀ {xs : List AV} {vs : List V}, RelL W w xs vs → xs.length = vs.length
  | _, _, .nil => rfl
  | _, _, .cons _ r => congrArg (· + 1) (RelL.length r)
theorem RelL.append : ∀ {xs ys : List AV} {vs us : List V}, RelL W w xs vs → RelL W w ys us → RelL W w (xs ++ ys) (vs ++ us)
  | _, _, _, _, .nil, h => h
  | _, _, _, _, .cons h r, k => .cons h (RelL.append r k)
theorem RelL.get : ∀ {xs : List AV} {vs : List V}, RelL W w xs vs → ∀ (i : Nat) (x : AV), xs[i]? = some x → ∃ v, vs[i]? = some v ∧ Rel W w x v
  | _, _, .nil, i, x, e => by simp at e
  | _, _, .cons h r, 0, x, e => by
    simp only [List.getElem?_cons_zero, Option.some.injEq] at e
    subst e
    exact ⟨_, by simp, h⟩
  | _, _, .cons h r, i + 1, x, e => by
    simp only [List.getElem?_cons_succ] at e ⊢
    exact RelL.get r i x e
theorem RelL.getv : ∀ {xs : List AV} {vs : List V}, RelL W w xs vs → ∀ (i : Nat) (v : V), vs[i]? = some v → ∃ x, xs[i]? = some x ∧ Rel W w x v
  | _, _, .nil, i, x, e => by simp at e
  | _, _, .cons h r, 0, x, e => by
    simp only [List.getElem?_cons_zero, Option.some.injEq] at e
    subst e
    exact ⟨_, by simp, h⟩
  | _, _, .cons h r, i + 1, x, e => by
    simp only [List.getElem?_cons_succ] at e ⊢
    exact RelL.getv r i x e
theorem RelL.set : ∀ {xs : List AV} {vs : List V} {x : AV} {v : V}, RelL W w xs vs → Rel W w x v → ∀ i, RelL W w (xs.set i x) (vs.set i v)
  | _, _, _, _, .nil, _, _ => .nil
  | _, _, _, _, .cons h r, k, 0 => .cons k r
  | _, _, _, _, .cons h r, k, i + 1 => .cons h (RelL.set r k i)
theorem RelL.take : ∀ {xs : List AV} {vs : List V}, RelL W w xs vs → ∀ i, RelL W w (xs.take i) (vs.take i)
  | _, _, .nil, i => by simp only [List.take_nil]; exact .nil
  | _, _, .cons h r, 0 => .nil
  | _, _, .cons h r, i + 1 => .cons h (RelL.take r i)
theorem RelL.drop : ∀ {xs : List AV} {vs : List V}, RelL W w xs vs → ∀ i, RelL W w (xs.drop i) (vs.drop i)
  | _, _, .nil, i => by simp only [List.drop_nil]; exact .nil
  | _, _, .cons h r, 0 => .cons h r
  | _, _, .cons h r, i + 1 => RelL.drop r i
theorem RelL.rev : ∀ {xs : List AV} {vs : List V}, RelL W w xs vs → RelL W w xs.reverse vs.reverse
  | _, _, .nil => .nil
  | _, _, .cons h r => by
    rw [List.reverse_cons, List.reverse_cons]
    exact RelL.append (RelL.rev r) (.cons h .nil)
theorem RSt.get : ∀ {σ : ASt} {σc : L2.St}, RSt W w σ σc → ∀ (i : Nat) (x : AV), σ[i]? = some (some x) → ∃ v, σc[i]? = some (some v) ∧ Rel W w x v
  | _, _, .nil, i, x, e => by simp at e
  | _, _, .cons h r, 0, x, e => by
    simp only [List.getElem?_cons_zero, Option.some.injEq] at e
    subst e
    revert h
    rename_i oc _ _
    cases oc with
    | none => exact fun h => (show False from h).elim
    | some v => exact fun h => ⟨v, by simp, h⟩
  | _, _, .cons h r, i + 1, x, e => by
    simp only [List.getElem?_cons_succ] at e ⊢
    exact RSt.get r i x e
theorem RSt.set : ∀ {σ : ASt} {σc : L2.St} {x : Option AV} {v : Option V}, RSt W w σ σc → RO W w x v → ∀ i, RSt W w (σ.set i x) (σc.set i v)
  | _, _, _, _, .nil, _, _ => .nil
  | _, _, _, _, .cons h r, k, 0 => .cons k r
  | _, _, _, _, .cons h r, k, i + 1 => .cons h (RSt.set r k i)
theorem RSt.length {σ : ASt} {σc : L2.St} (h : RSt W w σ σc) : σ.length = σc.length := Paired.length h
/-- wipe -/
def wipeA (σ : ASt) : List Nat → ASt
  | [] => σ
  | v :: vs => (wipeA σ vs).set v none
theorem RSt.wipe {σ : ASt} {σc : L2.St} (h : RSt W w σ σc) : ∀ vs : List Nat, RSt W w (wipeA σ vs) (wipe σc vs)
  | [] => h
  | v :: vs => RSt.set (RSt.wipe h vs) (show RO W w none none from trivial) v
end
section
variable {W : Wl} {w w' : Wd} {s s' : Sto}
theorem Ext.grow {H' : Hp} (e : ∀ a o, w.H a = some o → H' a = some o) : Ext w { w with H := H' } := ⟨Nat.le_refl _, fun _ _ => rfl, fun a o h _ => e a o h⟩
theorem Sim.grow {H' : Hp} (S : Sim W w s) (e : ∀ a o, w.H a = some o → H' a = some o) : Sim W { w with H := H' } s :=
  ⟨S.n, S.inj, fun i h => by
    obtain ⟨o, h1, h2⟩ := S.cell i h
    exact ⟨o, e _ _ h1, h2.mono (.grow e)⟩, S.tab.ext e, W.cl _ _ (.grow e) S.inv⟩
theorem Ext.growN {H' : Hp} (e : LamX.ExtN w.H H') : Ext w { w with H := H' } := ⟨Nat.le_refl _, fun _ _ => rfl, fun a o h k => e a o h fun ps z => (by subst z; exact k)⟩
theorem Sim.growN {H' : Hp} (S : Sim W w s) (e : LamX.ExtN w.H H') (t : LamX.Tabs W.T H') : Sim W { w with H := H' } s :=
  ⟨S.n, S.inj, fun i h => by
    obtain ⟨o, h1, h2⟩ := S.cell i h
    exact ⟨o, e _ _ h1 h2.mut.2.1, h2.mono (.growN e)⟩, t, W.cl _ _ (.growN e) S.inv⟩
theorem grow_upd {H : Hp} {p : Addr} {o : HO} (n : H p = none) : ∀ a u, H a = some u → upd H p o a = some u := fun a u h => by
  rw [upd_ne (ne_of_none h n)]; exact h
/-- a new cell -/
def Wd.new (w : Wd) (p : Addr) (H' : Hp) : Wd := ⟨fun i => if i = w.n then p else w.m i, w.n + 1, H'⟩
theorem Ext.new {p : Addr} {H' : Hp} (e : ∀ a o, w.H a = some o → H' a = some o) : Ext w (w.new p H') :=
  ⟨Nat.le_succ _, fun i h => if_neg (Nat.ne_of_lt h), fun a o h _ => e a o h⟩
theorem Sim.new {p : Addr} {H' : Hp} {x : Cell} {o : HO} (S : Sim W w s) (hp : w.H p = none) (e : ∀ a o, w.H a = some o → H' a = some o) (k : H' p = some o) (r : CRel W (w.new p H') x o) : Sim W (w.new p H') (s.new x) := by
  have sn := S.n
  refine ⟨congrArg (· + 1) S.n, fun i j hi hj q => ?_, fun i hi => ?_, S.tab.ext e, W.cl _ _ (.new e) S.inv⟩
  · have hi : i < s.n + 1 := hi
    have hj : j < s.n + 1 := hj
    have q : (if i = w.n then p else w.m i) = if j = w.n then p else w.m j := q
    have at_ : ∀ i, i < s.n + 1 → ¬ i = w.n → w.m i ≠ p := fun i h1 h2 z => by
      obtain ⟨o, h3, _⟩ := S.cell i (by omega)
      rw [z, hp] at h3
      cases h3
    by_cases h1 : i = w.n
    · by_cases h2 : j = w.n
      · omega
      · rw [if_pos h1, if_neg h2] at q
        exact absurd q.symm (at_ j hj h2)
    · by_cases h2 : j = w.n
      · rw [if_neg h1, if_pos h2] at q
        exact absurd q (at_ i hi h1)
      · rw [if_neg h1, if_neg h2] at q
        exact S.inj i j (by omega) (by omega) q
  · have hi : i < s.n + 1 := hi
    by_cases h : i = s.n
    · subst h
      refine ⟨o, ?_, ?_⟩
      · show H' (if s.n = w.n then p else w.m s.n) = _
        rw [if_pos sn.symm]; exact k
      · show CRel W _ (if s.n = s.n then x else _) o
        rw [if_pos rfl]; exact r
    · obtain ⟨o', h1, h2⟩ := S.cell i (by omega)
      refine ⟨o', ?_, ?_⟩
      · show H' (if i = w.n then p else w.m i) = _
        rw [if_neg (by omega)]; exact e _ _ h1
      · show CRel W _ (if i = s.n then x else s.c i) o'
        rw [if_neg h]; exact h2.mono (.new e)
theorem Rel.new (p : Addr) (H' : Hp) (n : w.n = s.n) : Rel W (w.new p H') (.obj s.n) (.ref p) := by
  have := Rel.obj (W := W) (w := w.new p H') (i := s.n) (by show s.n < w.n + 1; omega)
  have e : (w.new p H').m s.n = p := if_pos n.symm
  rw [e] at this
  exact this
/-- a cell is written -/
theorem Ext.wr {i : Nat} {o : HO} (S : Sim W w s) (hi : i < s.n) : Ext w { w with H := upd w.H (w.m i) o } :=
  ⟨Nat.le_refl _, fun _ _ => rfl, fun a u h k => by
    obtain ⟨o', h1, h2⟩ := S.cell i hi
    have : a ≠ w.m i := fun z => by
      rw [z, h1] at h
      cases h
      exact h2.mut.1 k
    show upd w.H (w.m i) o a = some u
    rw [upd_ne this]; exact h⟩
theorem Sim.wr {i : Nat} {x : Cell} {o : HO} (S : Sim W w s) (hi : i < s.n) (r : CRel W w x o) : Sim W { w with H := upd w.H (w.m i) o } (s.set i x) := by
  have e := Ext.wr (o := o) S hi
  refine ⟨S.n, S.inj, fun j hj => ?_, fun p hp => ?_, W.cl _ _ e S.inv⟩
  · by_cases h : j = i
    · subst h
      exact ⟨o, upd_same, by show CRel W _ (if j = j then x else _) o; rw [if_pos rfl]; exact r.mono e⟩
    · obtain ⟨o', h1, h2⟩ := S.cell j hj
      refine ⟨o', ?_, ?_⟩
      · show upd w.H (w.m i) o (w.m j) = _
        rw [upd_ne fun z => h (S.inj j i hj hi z)]; exact h1
      · show CRel W _ (if j = i then x else s.c j) o'
        rw [if_neg h]; exact h2.mono e
  · obtain ⟨oi, i1, i2⟩ := S.cell i hi
    obtain ⟨ps, t1, t2, t3⟩ := S.tab p hp
    have ne1 : p.1 ≠ w.m i := fun z => by
      rw [z, i1] at t1
      cases t1
      exact i2.mut.2.1 _ rfl
    refine ⟨ps, by show upd w.H (w.m i) o p.1 = _; rw [upd_ne ne1]; exact t1, t2, fun pos cv hcv => ?_⟩
    obtain ⟨c', rfl, hc'⟩ := t3 pos cv hcv
    refine ⟨c', rfl, ?_⟩
    have ne2 : c' ≠ w.m i := fun z => by
      rw [z, i1] at hc'
      cases hc'
      exact i2.mut.2.2 _ rfl
    show upd w.H (w.m i) o c' = _
    rw [upd_ne ne2]; exact hc'
end
inductive Res (α : Type) where
  | ok (a : α) (s : Sto)
  | err (c : String) (ns : List Str) (vs : List AV) (s : Sto)
  | stuck
def Res.bind {α β : Type} : Res α → (α → Sto → Res β) → Res β
  | .ok a s, k => k a s
  | .err c ns vs s, _ => .err c ns vs s
  | .stuck, _ => .stuck
def Res.Post {α : Type} : Res α → (α → Sto → Prop) → (String → List Str → List AV → Sto → Prop) → Prop
  | .ok a s, P, _ => P a s
  | .err c ns vs s, _, R => R c ns vs s
  | .stuck, _, _ => False
@[simp] theorem Res.bind_ok {α β : Type} {a : α} {s : Sto} {k : α → Sto → Res β} : (Res.ok a s).bind k = k a s := rfl
@[simp] theorem Res.bind_err {α β : Type} {c : String} {ns : List Str} {vs : List AV} {s : Sto} {k : α → Sto → Res β} : (Res.err c ns vs s).bind k = .err c ns vs s := rfl
@[simp] theorem Res.bind_stuck {α β : Type} {k : α → Sto → Res β} : (Res.stuck : Res α).bind k = .stuck := rfl
theorem Res.post_bind {α β : Type} {r : Res α} {k : α → Sto → Res β} {P : β → Sto → Prop} {R : String → List Str → List AV → Sto → Prop} : (r.bind k).Post P R ↔ r.Post (fun a s => (k a s).Post P R) R := by
  cases r <;> exact Iff.rfl
theorem Res.Post.mono {α : Type} {r : Res α} {P P' : α → Sto → Prop} {R R' : String → List Str → List AV → Sto → Prop} (h : r.Post P R) (f : ∀ a s, P a s → P' a s) (g : ∀ c ns vs s, R c ns vs s → R' c ns vs s) : r.Post P' R' := by
  cases r with
  | ok a s => exact f _ _ h
  | err c ns vs s => exact g _ _ _ _ h
  | stuck => exact h
inductive SRes where
  | nx (σ : ASt) (s : Sto) | rt (v : AV) (s : Sto) | bk (σ : ASt) (s : Sto) | ct (σ : ASt) (s : Sto)
  | err (c : String) (ns : List Str) (vs : List AV) (σ : ASt) (s : Sto)
  | stuck
abbrev AE := ASt → Sto → Res AV
abbrev AT := ASt → Sto → Res Bool
abbrev AA := ASt → Sto → Res (List AV)
abbrev AS := ASt → Sto → SRes
section
variable (W : Wl)
def ExcD (w : Wd) (c : String) (d : Addr) (ns : List Str) (xs : List AV) : Prop := c ∈ W.xlive ∧ ∃ vs, w.H d = some (.xd (ns.zip vs)) ∧ ns.length = xs.length ∧ RelL W w xs vs
def ErrP (w : Wd) (E : XK) (c : String) (ns : List Str) (vs : List AV) (s : Sto) : Prop := ∀ w' d, Ext w w' → Sim W w' s → ExcD W w' c d ns vs → E (.ref (W.κ c)) (some d) w'.H
def OkP (w : Wd) (Q : VK) (v : AV) (s : Sto) : Prop := ∀ w' vc, Ext w w' → Sim W w' s → Rel W w' v vc → Q vc w'.H
def OkL (w : Wd) (Q : List V → Hp → Prop) (v : List AV) (s : Sto) : Prop := ∀ w' vc, Ext w w' → Sim W w' s → RelL W w' v vc → Q vc w'.H
def OkB (w : Wd) (Q : Bool → Hp → Prop) (b : Bool) (s : Sto) : Prop := ∀ w', Ext w w' → Sim W w' s → Q b w'.H
def DE (E : L2.St → XK) (te : TE) (f : AE) : Prop := ∀ (w : Wd) (s : Sto) (σ : ASt) (σc : L2.St) (Q : VK), Sim W w s → RSt W w σ σc → (f σ s).Post (OkP W w Q) (ErrP W w (E σc)) → te σc w.H Q
def DT (E : L2.St → XK) (tt : TT) (f : AT) : Prop := ∀ (w : Wd) (s : Sto) (σ : ASt) (σc : L2.St) (Q : Bool → Hp → Prop), Sim W w s → RSt W w σ σc → (f σ s).Post (OkB W w Q) (ErrP W w (E σc)) → tt σc w.H Q
def DA (E : L2.St → XK) (ta : TA) (f : AA) : Prop := ∀ (w : Wd) (s : Sto) (σ : ASt) (σc : L2.St) (Q : List V → Hp → Prop), Sim W w s → RSt W w σ σc → (f σ s).Post (OkL W w Q) (ErrP W w (E σc)) → ta σc w.H Q
def SRes.P (r : SRes) (w : Wd) (D : Ends) (E : L2.St → XK) : Prop :=
  match r with
  | .nx σ s => ∀ w' σc, Ext w w' → Sim W w' s → RSt W w' σ σc → D.nx σc w'.H
  | .rt v s => ∀ w' vc, Ext w w' → Sim W w' s → Rel W w' v vc → D.rt vc w'.H
  | .bk σ s => ∀ w' σc, Ext w w' → Sim W w' s → RSt W w' σ σc → D.bk σc w'.H
  | .ct σ s => ∀ w' σc, Ext w w' → Sim W w' s → RSt W w' σ σc → D.ct σc w'.H
  | .err c ns vs σ s => ∀ w' σc d, Ext w w' → Sim W w' s → RSt W w' σ σc → ExcD W w' c d ns vs → E σc (.ref (W.κ c)) (some d) w'.H
  | .stuck => False
def DS (E : L2.St → XK) (ts : TS) (f : AS) : Prop := ∀ (w : Wd) (s : Sto) (σ : ASt) (σc : L2.St) (D : Ends), Sim W w s → RSt W w σ σc → (f σ s).P W w D E → ts D σc w.H
/-- a target -/
def DG (tg : TG) (g : AV → AS) : Prop := ∀ (w : Wd) (s : Sto) (σ : ASt) (σc : L2.St) (x : AV) (v : V) (Q : L2.St → Hp → Prop), Sim W w s → RSt W w σ σc → Rel W w x v → (g x σ s).P W w ⟨Q, fun _ _ => False, fun _ _ => False, fun _ _ => False⟩ (fun _ _ _ _ => False) → tg v σc w.H Q
def DGs (tg : TGs) (g : List AV → AS) : Prop := ∀ (w : Wd) (s : Sto) (σ : ASt) (σc : L2.St) (x : List AV) (v : List V) (Q : L2.St → Hp → Prop), Sim W w s → RSt W w σ σc → RelL W w x v → (g x σ s).P W w ⟨Q, fun _ _ => False, fun _ _ => False, fun _ _ => False⟩ (fun _ _ _ _ => False) → tg v σc w.H Q
/-- an operator, a built-in of arguments -/
def DR (r : R2) (g : AV → AV → Sto → Res AV) : Prop := ∀ (w : Wd) (s : Sto) (x y : AV) (v u : V) (Q : VK), Sim W w s → Rel W w x v → Rel W w y u → (g x y s).Post (OkP W w Q) (fun _ _ _ _ => False) → r v u w.H Q
def DU (r : V → Hp → VK → Prop) (g : AV → Sto → Res AV) : Prop := ∀ (w : Wd) (s : Sto) (x : AV) (v : V) (Q : VK), Sim W w s → Rel W w x v → (g x s).Post (OkP W w Q) (fun _ _ _ _ => False) → r v w.H Q
def DB (r : List V → Hp → VK → Prop) (g : List AV → Sto → Res AV) : Prop := ∀ (w : Wd) (s : Sto) (x : List AV) (v : List V) (Q : VK), Sim W w s → RelL W w x v → (g x s).Post (OkP W w Q) (fun _ _ _ _ => False) → r v w.H Q
/-- a promise -/
def spF (n : Nat) (F : List AV → Sto → Res AV) : Sp := fun vs H Q E => ∃ (w : Wd) (s : Sto) (args : List AV), H = w.H ∧ Sim W w s ∧ RelL W w args vs ∧ args.length = n ∧ (F args s).Post (OkP W w Q) (ErrP W w E)
end
section
variable {W : Wl} {w w' : Wd}
theorem OkP.mono {Q : VK} {v : AV} {s : Sto} (e : Ext w w') (h : OkP W w Q v s) : OkP W w' Q v s := fun w2 vc e2 S r => h w2 vc (e.trans e2) S r
theorem OkL.mono {Q : List V → Hp → Prop} {v : List AV} {s : Sto} (e : Ext w w') (h : OkL W w Q v s) : OkL W w' Q v s := fun w2 vc e2 S r => h w2 vc (e.trans e2) S r
theorem OkB.mono {Q : Bool → Hp → Prop} {v : Bool} {s : Sto} (e : Ext w w') (h : OkB W w Q v s) : OkB W w' Q v s := fun w2 e2 S => h w2 (e.trans e2) S
theorem ErrP.mono {E : XK} {c : String} {ns : List Str} {vs : List AV} {s : Sto} (e : Ext w w') (h : ErrP W w E c ns vs s) : ErrP W w' E c ns vs s := fun w2 d e2 S x => h w2 d (e.trans e2) S x
theorem P.mono {r : SRes} {D : Ends} {E : L2.St → XK} (e : Ext w w') (h : r.P W w D E) : r.P W w' D E := by
  cases r with
  | nx σ s => exact fun w2 σc e2 S x => h w2 σc (e.trans e2) S x
  | rt v s => exact fun w2 σc e2 S x => h w2 σc (e.trans e2) S x
  | bk σ s => exact fun w2 σc e2 S x => h w2 σc (e.trans e2) S x
  | ct σ s => exact fun w2 σc e2 S x => h w2 σc (e.trans e2) S x
  | err c ns vs σ s => exact fun w2 σc d e2 S x y => h w2 σc d (e.trans e2) S x y
  | stuck => exact h
theorem P.imp {r : SRes} {D D' : Ends} {E E' : L2.St → XK} (h : r.P W w D E) (n : ∀ σ H, D.nx σ H → D'.nx σ H) (t : ∀ v H, D.rt v H → D'.rt v H) (b : ∀ σ H, D.bk σ H → D'.bk σ H) (c : ∀ σ H, D.ct σ H → D'.ct σ H) (x : ∀ σ c d H, E σ c d H → E' σ c d H) : r.P W w D' E' := by
  cases r with
  | nx σ s => exact fun w2 σc e2 S x => n _ _ (h w2 σc e2 S x)
  | rt v s => exact fun w2 σc e2 S x => t _ _ (h w2 σc e2 S x)
  | bk σ s => exact fun w2 σc e2 S x => b _ _ (h w2 σc e2 S x)
  | ct σ s => exact fun w2 σc e2 S x => c _ _ (h w2 σc e2 S x)
  | err c ns vs σ s => exact fun w2 σc d e2 S z y => x _ _ _ _ (h w2 σc d e2 S z y)
  | stuck => exact h
theorem post_mono {r : Res AV} {Q : VK} {E : XK} (e : Ext w w') (h : r.Post (OkP W w Q) (ErrP W w E)) : r.Post (OkP W w' Q) (ErrP W w' E) := h.mono (fun _ _ z => z.mono e) fun _ _ _ _ z => z.mono e
end
end Ab
set_option Elab.async false
set_option linter.all false
set_option maxRecDepth 100000
set_option maxHeartbeats 1000000
namespace Ab
open PySem PySem.Spec PyProof.Rows L2
open Classical
def aVar (i : Nat) : AE := fun σ s => match σ[i]? with | some (some v) => .ok v s | _ => .stuck
def aC (v : AV) : AE := fun _ s => .ok v s
def aOp (g : AV → AV → Sto → Res AV) (fa fb : AE) : AE := fun σ s => (fa σ s).bind fun x s1 => (fb σ s1).bind fun y s2 => g x y s2
def aUn (g : AV → Sto → Res AV) (fa : AE) : AE := fun σ s => (fa σ s).bind g
def aNil : AA := fun _ s => .ok [] s
def aCons (fa : AE) (fr : AA) : AA := fun σ s => (fa σ s).bind fun x s1 => (fr σ s1).bind fun xs s2 => .ok (x :: xs) s2
def aCB (g : List AV → Sto → Res AV) (fa : AA) : AE := fun σ s => (fa σ s).bind g
def aAndV (fa fb : AE) : AE := fun σ s => (fa σ s).bind fun x s1 => match x with | .bl true => fb σ s1 | .bl false => .ok (.bl false) s1 | _ => .stuck
def aOrV (fa fb : AE) : AE := fun σ s => (fa σ s).bind fun x s1 => match x with | .bl false => fb σ s1 | .bl true => .ok (.bl true) s1 | _ => .stuck
def aNotV (fa : AE) : AE := fun σ s => (fa σ s).bind fun x s1 => match x with | .bl b => .ok (.bl (!b)) s1 | _ => .stuck
def aTest (fa : AE) : AT := fun σ s => (fa σ s).bind fun x s1 => match x with | .bl b => .ok b s1 | _ => .stuck
def aAnd (t u : AT) : AT := fun σ s => (t σ s).bind fun b s1 => if b = true then u σ s1 else .ok false s1
def aOr (t u : AT) : AT := fun σ s => (t σ s).bind fun b s1 => if b = true then .ok true s1 else u σ s1
def aNot (t : AT) : AT := fun σ s => (t σ s).bind fun b s1 => .ok (!b) s1
def aIf (t : AT) (fa fb : AE) : AE := fun σ s => (t σ s).bind fun b s1 => if b = true then fa σ s1 else fb σ s1
def aChain (r r' : AV → AV → Sto → Res AV) (fa fb fc : AE) : AE := fun σ s => (fa σ s).bind fun x s1 => (fb σ s1).bind fun y s2 => (r x y s2).bind fun z s3 => match z with | .bl true => (fc σ s3).bind fun w s4 => r' y w s4 | .bl false => .ok (.bl false) s3 | _ => .stuck
def aTup (fa : AA) : AE := fun σ s => (fa σ s).bind fun xs s1 => if xs.length ≤ sizeLine then .ok (.tup xs) s1 else .stuck
def newL (xs : List AV) (s : Sto) : Res AV := .ok (.obj s.n) (s.new (.lst xs))
def aLst (fa : AA) : AE := fun σ s => (fa σ s).bind fun xs s1 => if xs.length ≤ sizeLine then newL xs s1 else .stuck
def aCall (n : Nat) (F : List AV → Sto → Res AV) (dvs : List AV) (fa : AA) : AE := fun σ s => (fa σ s).bind fun xs s1 => if (xs ++ dvs).length = n then F (xs ++ dvs) s1 else .stuck
def aNext : AS := fun σ s => .nx σ s
/-- an expression's end, then a statement's work -/
def Res.st {α : Type} : Res α → ASt → (α → Sto → SRes) → SRes
  | .ok a s, _, k => k a s
  | .err c ns vs s, σ, _ => .err c ns vs σ s
  | .stuck, _, _ => .stuck
@[simp] theorem Res.st_ok {α : Type} {a : α} {s : Sto} {σ : ASt} {k : α → Sto → SRes} : (Res.ok a s).st σ k = k a s := rfl
@[simp] theorem Res.st_err {α : Type} {c : String} {ns : List Str} {vs : List AV} {s : Sto} {σ : ASt} {k : α → Sto → SRes} : (Res.err c ns vs s).st σ k = .err c ns vs σ s := rfl
@[simp] theorem Res.st_stuck {α : Type} {σ : ASt} {k : α → Sto → SRes} : (Res.stuck : Res α).st σ k = .stuck := rfl
def SRes.thn : SRes → AS → SRes
  | .nx σ s, f => f σ s
  | .rt v s, _ => .rt v s
  | .bk σ s, _ => .bk σ s
  | .ct σ s, _ => .ct σ s
  | .err c ns vs σ s, _ => .err c ns vs σ s
  | .stuck, _ => .stuck
@[simp] theorem SRes.thn_nx {σ : ASt} {s : Sto} {f : AS} : (SRes.nx σ s).thn f = f σ s := rfl
@[simp] theorem SRes.thn_rt {v : AV} {s : Sto} {f : AS} : (SRes.rt v s).thn f = .rt v s := rfl
@[simp] theorem SRes.thn_bk {σ : ASt} {s : Sto} {f : AS} : (SRes.bk σ s).thn f = .bk σ s := rfl
@[simp] theorem SRes.thn_ct {σ : ASt} {s : Sto} {f : AS} : (SRes.ct σ s).thn f = .ct σ s := rfl
@[simp] theorem SRes.thn_err {c : String} {ns : List Str} {vs : List AV} {σ : ASt} {s : Sto} {f : AS} : (SRes.err c ns vs σ s).thn f = .err c ns vs σ s := rfl
@[simp] theorem SRes.thn_stuck {f : AS} : SRes.stuck.thn f = .stuck := rfl
def aSeq (f g : AS) : AS := fun σ s => (f σ s).thn g
def aBreak : AS := fun σ s => .bk σ s
def aCont : AS := fun σ s => .ct σ s
def aDrop (fa : AE) : AS := fun σ s => (fa σ s).st σ fun _ s1 => .nx σ s1
def aRet (fa : AE) : AS := fun σ s => (fa σ s).st σ fun v s1 => .rt v s1
def aRetN : AS := fun _ s => .rt .non s
def aIfS (t : AT) (f g : AS) : AS := fun σ s => (t σ s).st σ fun b s1 => if b = true then f σ s1 else g σ s1
def aAsg (fa : AE) (g : AV → AS) : AS := fun σ s => (fa σ s).st σ fun v s1 => g v σ s1
def agName (i : Nat) : AV → AS := fun v σ s => .nx (σ.set i (some v)) s
def parK (i j : Nat) (σ : ASt) : List AV → Sto → SRes
  | [v, u], s1 => .nx ((σ.set i (some v)).set j (some u)) s1
  | _, _ => .stuck
def aPar (i j : Nat) (fa : AA) : AS := fun σ s => (fa σ s).st σ (parK i j σ)
def parK3 (i j l : Nat) (σ : ASt) : List AV → Sto → SRes
  | [v, u, w], s1 => .nx (((σ.set i (some v)).set j (some u)).set l (some w)) s1
  | _, _ => .stuck
def aPar3 (i j l : Nat) (fa : AA) : AS := fun σ s => (fa σ s).st σ (parK3 i j l σ)
def agNil : List AV → AS := fun xs σ s => match xs with | [] => .nx σ s | _ => .stuck
def agCons (g : AV → AS) (h : List AV → AS) : List AV → AS := fun xs => match xs with | x :: r => aSeq (g x) (h r) | [] => fun _ _ => .stuck
def agTup (n : Nat) (g : List AV → AS) : AV → AS := fun v σ s => match v with | .tup xs => if xs.length = n then g xs σ s else .stuck | _ => .stuck
/-- a def's body -/
def SRes.fn : SRes → Res AV
  | .rt v s1 => .ok v s1
  | .nx _ s1 => .ok .non s1
  | .err c ns vs _ s1 => .err c ns vs s1
  | _ => .stuck
@[simp] theorem SRes.fn_rt {v : AV} {s : Sto} : (SRes.rt v s).fn = .ok v s := rfl
@[simp] theorem SRes.fn_nx {σ : ASt} {s : Sto} : (SRes.nx σ s).fn = .ok .non s := rfl
@[simp] theorem SRes.fn_err {c : String} {ns : List Str} {vs : List AV} {σ : ASt} {s : Sto} : (SRes.err c ns vs σ s).fn = .err c ns vs s := rfl
def aDef (k : Nat) (f : AS) : List AV → Sto → Res AV := fun args s => (f (args.map some ++ List.replicate k none) s).fn
section
variable {W : Wl} {E : L2.St → XK} {ta tb tc : TE} {fa fb fc : AE} {t u : TT} {ft fu : AT} {tr : TA} {fr : AA}
theorem DE.var {i : Nat} : DE W E (tVar i) (aVar i) := fun w s σ σc Q S R h => by
  unfold aVar at h
  split at h
  · rename_i v e
    obtain ⟨vc, h1, h2⟩ := R.get i v e
    exact ⟨vc, h1, h w vc (.refl w) S h2⟩
  · exact h.elim
theorem DE.c {v : AV} {vc : V} (r : ∀ w, Rel W w v vc) : DE W E (tC vc) (aC v) := fun w s σ σc Q S R h => h w vc (.refl w) S (r w)
theorem post_bind_ok {α β : Type} {r : Res α} {k : α → Sto → Res β} {P : β → Sto → Prop} {Er : String → List Str → List AV → Sto → Prop} (h : (r.bind k).Post P Er) : r.Post (fun a s => (k a s).Post P Er) Er := Res.post_bind.mp h
theorem postB_mono {w w' : Wd} {r : Res Bool} {Q : Bool → Hp → Prop} {E : XK} (e : Ext w w') (h : r.Post (OkB W w Q) (ErrP W w E)) : r.Post (OkB W w' Q) (ErrP W w' E) := h.mono (fun _ _ z => z.mono e) fun _ _ _ _ z => z.mono e
theorem DE.op {r : R2} {g : AV → AV → Sto → Res AV} (hr : DR W r g) (ha : DE W E ta fa) (hb : DE W E tb fb) (hg : ∀ x y s c ns vs s', g x y s ≠ .err c ns vs s') : DE W E (tOp r ta tb) (aOp g fa fb) := fun w s σ σc Q S R h => by
  refine ha w s σ σc _ S R ((post_bind_ok h).mono (fun x s1 h1 w1 v e1 S1 r1 => ?_) fun _ _ _ _ z => z)
  refine hb w1 s1 σ σc _ S1 (R.mono e1) ((post_bind_ok h1).mono (fun y s2 h2 w2 u e2 S2 r2 => ?_) fun _ _ _ _ z => z.mono e1)
  refine hr w2 s2 x y v u Q S2 (r1.mono e2) r2 ?_
  cases hh : g x y s2 with
  | ok a s3 =>
    rw [hh] at h2
    exact OkP.mono (e1.trans e2) h2
  | err c ns vs s3 => exact absurd hh (hg _ _ _ _ _ _ _)
  | stuck => rw [hh] at h2; exact h2
theorem DE.un {r : V → Hp → VK → Prop} {g : AV → Sto → Res AV} (hr : DU W r g) (ha : DE W E ta fa) (hg : ∀ x s c ns vs s', g x s ≠ .err c ns vs s') : DE W E (tUn r ta) (aUn g fa) := fun w s σ σc Q S R h => by
  refine ha w s σ σc _ S R ((post_bind_ok h).mono (fun x s1 h1 w1 v e1 S1 r1 => ?_) fun _ _ _ _ z => z)
  refine hr w1 s1 x v Q S1 r1 ?_
  cases hh : g x s1 with
  | ok a s3 =>
    rw [hh] at h1
    exact OkP.mono e1 h1
  | err c ns vs s3 => exact absurd hh (hg _ _ _ _ _ _)
  | stuck => rw [hh] at h1; exact h1
theorem DA.nil : DA W E tNil aNil := fun w s σ σc Q S R h => h w [] (.refl w) S .nil
theorem DA.cons (ha : DE W E ta fa) (hr : DA W E tr fr) : DA W E (tCons ta tr) (aCons fa fr) := fun w s σ σc Q S R h => by
  refine ha w s σ σc _ S R ((post_bind_ok h).mono (fun x s1 h1 w1 v e1 S1 r1 => ?_) fun _ _ _ _ z => z)
  refine hr w1 s1 σ σc _ S1 (R.mono e1) ((post_bind_ok h1).mono (fun y s2 h2 w2 u e2 S2 r2 => ?_) fun _ _ _ _ z => z.mono e1)
  exact h2 w2 _ (e1.trans e2) S2 (.cons (r1.mono e2) r2)
theorem DE.cb {r : List V → Hp → VK → Prop} {g : List AV → Sto → Res AV} (hr : DB W r g) (ha : DA W E tr fr) (hg : ∀ x s c ns vs s', g x s ≠ .err c ns vs s') : DE W E (tCB r tr) (aCB g fr) := fun w s σ σc Q S R h => by
  refine ha w s σ σc _ S R ((post_bind_ok h).mono (fun x s1 h1 w1 v e1 S1 r1 => ?_) fun _ _ _ _ z => z)
  refine hr w1 s1 x v Q S1 r1 ?_
  cases hh : g x s1 with
  | ok a s3 =>
    rw [hh] at h1
    exact OkP.mono e1 h1
  | err c ns vs s3 => exact absurd hh (hg _ _ _ _ _ _)
  | stuck => rw [hh] at h1; exact h1
theorem DE.andV (ha : DE W E ta fa) (hb : DE W E tb fb) : DE W E (tAndV ta tb) (aAndV fa fb) := fun w s σ σc Q S R h => by
  refine ha w s σ σc _ S R ((post_bind_ok h).mono (fun x s1 h1 w1 v e1 S1 r1 => ?_) fun _ _ _ _ z => z)
  cases r1 with
  | bl b =>
    refine ⟨b, rfl, ?_⟩
    cases b with
    | true => exact iteT (hb w1 s1 σ σc _ S1 (R.mono e1) (post_mono e1 h1))
    | false => exact iteF (h1 w1 _ e1 S1 (.bl false))
  | _ => exact (show False from h1).elim
theorem DE.notV (ha : DE W E ta fa) : DE W E (tNotV ta) (aNotV fa) := fun w s σ σc Q S R h => by
  refine ha w s σ σc _ S R ((post_bind_ok h).mono (fun x s1 h1 w1 v e1 S1 r1 => ?_) fun _ _ _ _ z => z)
  cases r1 with
  | bl b => exact ⟨b, rfl, h1 w1 _ e1 S1 (.bl _)⟩
  | _ => exact (show False from h1).elim
theorem DT.test (ha : DE W E ta fa) : DT W E (tTest ta) (aTest fa) := fun w s σ σc Q S R h => by
  refine ha w s σ σc _ S R ((post_bind_ok h).mono (fun x s1 h1 w1 v e1 S1 r1 => ?_) fun _ _ _ _ z => z)
  cases r1 with
  | bl b => exact ⟨b, rfl, h1 w1 e1 S1⟩
  | _ => exact (show False from h1).elim
theorem DT.b (ha : DE W E ta fa) : DT W E (tB ta) (aTest fa) := fun w s σ σc Q S R h => DT.test ha w s σ σc Q S R h
theorem DT.and (ha : DT W E t ft) (hb : DT W E u fu) : DT W E (tAnd t u) (aAnd ft fu) := fun w s σ σc Q S R h => by
  refine ha w s σ σc _ S R ((post_bind_ok h).mono (fun b s1 h1 w1 e1 S1 => ?_) fun _ _ _ _ z => z)
  cases b with
  | true => exact iteT (hb w1 s1 σ σc _ S1 (R.mono e1) (postB_mono e1 (by simpa using h1)))
  | false => exact iteF ((show OkB W w Q false s1 from by rw [if_neg (by decide)] at h1; exact h1) w1 e1 S1)
theorem DT.or (ha : DT W E t ft) (hb : DT W E u fu) : DT W E (tOr t u) (aOr ft fu) := fun w s σ σc Q S R h => by
  refine ha w s σ σc _ S R ((post_bind_ok h).mono (fun b s1 h1 w1 e1 S1 => ?_) fun _ _ _ _ z => z)
  cases b with
  | true => exact iteT ((show OkB W w Q true s1 from by rw [if_pos rfl] at h1; exact h1) w1 e1 S1)
  | false => exact iteF (hb w1 s1 σ σc _ S1 (R.mono e1) (postB_mono e1 (by simpa using h1)))
theorem DT.not (ha : DT W E t ft) : DT W E (tNot t) (aNot ft) := fun w s σ σc Q S R h =>
  ha w s σ σc _ S R ((post_bind_ok h).mono (fun b s1 h1 w1 e1 S1 => h1 w1 e1 S1) fun _ _ _ _ z => z)
theorem DE.ifE (ht : DT W E t ft) (ha : DE W E ta fa) (hb : DE W E tb fb) : DE W E (tIf t ta tb) (aIf ft fa fb) := fun w s σ σc Q S R h => by
  refine ht w s σ σc _ S R ((post_bind_ok h).mono (fun b s1 h1 w1 e1 S1 => ?_) fun _ _ _ _ z => z)
  cases b with
  | true => exact iteT (ha w1 s1 σ σc _ S1 (R.mono e1) (post_mono e1 (by simpa using h1)))
  | false => exact iteF (hb w1 s1 σ σc _ S1 (R.mono e1) (post_mono e1 (by simpa using h1)))
theorem DE.chain {r r' : R2} {g g' : AV → AV → Sto → Res AV} (hr : DR W r g) (hr' : DR W r' g') (ha : DE W E ta fa) (hb : DE W E tb fb) (hc : DE W E tc fc) (hg : ∀ x y s c ns vs s', g x y s ≠ .err c ns vs s') (hg' : ∀ x y s c ns vs s', g' x y s ≠ .err c ns vs s') :
    DE W E (tChain r r' ta tb tc) (aChain g g' fa fb fc) := fun w s σ σc Q S R h => by
  refine ha w s σ σc _ S R ((post_bind_ok h).mono (fun x s1 h1 w1 v e1 S1 r1 => ?_) fun _ _ _ _ z => z)
  refine hb w1 s1 σ σc _ S1 (R.mono e1) ((post_bind_ok h1).mono (fun y s2 h2 w2 u e2 S2 r2 => ?_) fun _ _ _ _ z => z.mono e1)
  have h2 := post_bind_ok h2
  refine hr w2 s2 x y v u _ S2 (r1.mono e2) r2 ?_
  cases hh : g x y s2 with
  | err c ns vs s3 => exact absurd hh (hg _ _ _ _ _ _ _)
  | stuck => rw [hh] at h2; exact h2
  | ok z s3 =>
    rw [hh] at h2
    intro w3 zc e3 S3 r3
    have e13 := (e1.trans e2).trans e3
    cases r3 with
    | bl b =>
      refine ⟨b, rfl, ?_⟩
      cases b with
      | false => exact iteF ((show OkP W w Q (.bl false) s3 from h2) w3 _ e13 S3 (.bl false))
      | true =>
        refine iteT (hc w3 s3 σ σc _ S3 (R.mono e13) ((post_bind_ok h2).mono (fun w' s4 h4 w4 uc e4 S4 r4 => ?_) fun _ _ _ _ z => z.mono e13))
        refine hr' w4 s4 y w' u uc Q S4 ((r2.mono e3).mono e4) r4 ?_
        cases hh : g' y w' s4 with
        | err c ns vs s3 => exact absurd hh (hg' _ _ _ _ _ _ _)
        | stuck => rw [hh] at h4; exact h4
        | ok a s5 =>
          rw [hh] at h4
          exact OkP.mono (e13.trans e4) h4
    | _ => exact (show False from h2).elim
theorem DE.tup (ha : DA W E tr fr) : DE W E (tTup tr) (aTup fr) := fun w s σ σc Q S R h => by
  refine ha w s σ σc _ S R ((post_bind_ok h).mono (fun xs s1 h1 w1 vs e1 S1 r1 => ?_) fun _ _ _ _ z => z)
  split at h1
  · rename_i hl
    refine ⟨by rw [← r1.length]; exact hl, fun p hp => ?_⟩
    have g := grow_upd (o := .tup vs) hp
    exact h1 _ _ (e1.trans (.grow g)) (S1.grow g) (.tup (.inl (.inl upd_same)) (r1.mono (.grow g)))
  · exact (show False from h1).elim
theorem newL_ok {w : Wd} {s : Sto} {xs : List AV} {vs : List V} {Q : VK} (S : Sim W w s) (r : RelL W w xs vs) (h : OkP W w Q (.obj s.n) (s.new (.lst xs))) : ∀ p, w.H p = none → Q (.ref p) (upd w.H p (.lst vs)) := fun p hp => by
  have g := grow_upd (o := .lst vs) hp
  exact h (w.new p _) _ (.new g) (S.new hp g upd_same (.lst (r.mono (.new g)))) (Rel.new p _ S.n)
theorem DE.lst (ha : DA W E tr fr) : DE W E (tLst tr) (aLst fr) := fun w s σ σc Q S R h => by
  refine ha w s σ σc _ S R ((post_bind_ok h).mono (fun xs s1 h1 w1 vs e1 S1 r1 => ?_) fun _ _ _ _ z => z)
  split at h1
  · rename_i hl
    exact ⟨by rw [← r1.length]; exact hl, newL_ok S1 r1 (OkP.mono e1 h1)⟩
  · exact (show False from h1).elim
theorem DE.call {n : Nat} {F : List AV → Sto → Res AV} {Ek : XK} {dvs : List AV} {dcs : List V} (hd : ∀ w, RelL W w dvs dcs) (ha : DA W (fun _ => Ek) tr fr) : DE W (fun _ => Ek) (tCall (spF W n F) dcs Ek tr) (aCall n F dvs fr) := fun w s σ σc Q S R h => by
  refine ha w s σ σc _ S R ((post_bind_ok h).mono (fun xs s1 h1 w1 vs e1 S1 r1 => ?_) fun _ _ _ _ z => z)
  split at h1
  · rename_i hl
    exact ⟨w1, s1, _, rfl, S1, r1.append (hd w1), hl, post_mono e1 h1⟩
  · exact (show False from h1).elim
end
section
variable {W : Wl} {E : L2.St → XK} {ta : TE} {fa : AE} {t : TT} {ft : AT} {tr : TA} {fr : AA} {t1 t2 : TS} {f1 f2 : AS} {tg : TG} {g : AV → AS} {tgs : TGs} {gs : List AV → AS}
theorem DS.next : DS W E tNext aNext := fun w s σ σc D S R h => h w σc (.refl w) S R
theorem DS.brk : DS W E tBreak aBreak := fun w s σ σc D S R h => h w σc (.refl w) S R
theorem DS.seq (h1 : DS W E t1 f1) (h2 : DS W E t2 f2) : DS W E (tSeq t1 t2) (aSeq f1 f2) := fun w s σ σc D S R h => by
  refine h1 w s σ σc { D with nx := t2 D } S R ?_
  unfold aSeq at h
  cases e : f1 σ s with
  | nx σ' s' =>
    rw [e] at h
    exact fun w' σc' e' S' R' => h2 w' s' σ' σc' D S' R' (P.mono e' h)
  | rt v s' => rw [e] at h; exact h
  | bk σ' s' => rw [e] at h; exact h
  | ct σ' s' => rw [e] at h; exact h
  | err c ns vs σ' s' => rw [e] at h; exact h
  | stuck => rw [e] at h; exact h
/-- from an expression's end to a statement's -/
theorem exp_post {α : Type} {r : Res α} {w : Wd} {σ : ASt} {σc : L2.St} {D : Ends} {k : α → Sto → SRes} (R : RSt W w σ σc) (h : (r.st σ k).P W w D E) : r.Post (fun v s1 => (k v s1).P W w D E) (ErrP W w (E σc)) := by
  cases r with
  | ok v s1 => exact h
  | err c ns vs s1 => exact fun w' d e' S' x => h w' σc d e' S' (R.mono e') x
  | stuck => exact h
theorem DS.drop (ha : DE W E ta fa) : DS W E (tDrop ta) (aDrop fa) := fun w s σ σc D S R h => by
  refine ha w s σ σc _ S R ((exp_post R h).mono (fun v s1 h1 w1 vc e1 S1 r1 => h1 w1 σc e1 S1 (R.mono e1)) fun _ _ _ _ z => z)
theorem DS.ret (ha : DE W E ta fa) : DS W E (tRet ta) (aRet fa) := fun w s σ σc D S R h => by
  refine ha w s σ σc _ S R ((exp_post R h).mono (fun v s1 h1 w1 vc e1 S1 r1 => h1 w1 vc e1 S1 r1) fun _ _ _ _ z => z)
theorem DS.ifs (ht : DT W E t ft) (h1 : DS W E t1 f1) (h2 : DS W E t2 f2) : DS W E (tIfS t t1 t2) (aIfS ft f1 f2) := fun w s σ σc D S R h => by
  refine ht w s σ σc _ S R ((exp_post R h).mono (fun b s1 hb w1 e1 S1 => ?_) fun _ _ _ _ z => z)
  cases b with
  | true => exact iteT (h1 w1 s1 σ σc D S1 (R.mono e1) (P.mono e1 (by simpa using hb)))
  | false => exact iteF (h2 w1 s1 σ σc D S1 (R.mono e1) (P.mono e1 (by simpa using hb)))
/-- a target ends by going on -/
def Goes (g : AV → AS) : Prop := ∀ x σ s, (∃ σ' s', g x σ s = .nx σ' s') ∨ g x σ s = .stuck
def GoesL (g : List AV → AS) : Prop := ∀ x σ s, (∃ σ' s', g x σ s = .nx σ' s') ∨ g x σ s = .stuck
theorem goes_P {r : SRes} {w : Wd} {D : Ends} (g : (∃ σ' s', r = .nx σ' s') ∨ r = .stuck) (h : r.P W w D E) : r.P W w ⟨D.nx, fun _ _ => False, fun _ _ => False, fun _ _ => False⟩ (fun _ _ _ _ => False) := by
  rcases g with ⟨σ', s', rfl⟩ | rfl
  · exact h
  · exact h
theorem DS.asg (ha : DE W E ta fa) (hg : DG W tg g) (hn : Goes g) : DS W E (tAsg ta tg) (aAsg fa g) := fun w s σ σc D S R h => by
  refine ha w s σ σc _ S R ((exp_post R h).mono (fun v s1 h1 w1 vc e1 S1 r1 => ?_) fun _ _ _ _ z => z)
  exact hg w1 s1 σ σc v vc _ S1 (R.mono e1) r1 (goes_P (hn _ _ _) (P.mono e1 h1))
theorem DG.name {i : Nat} : DG W (gName i) (agName i) := fun w s σ σc x v Q S R r h => h w _ (.refl w) S (R.set (x := some x) (v := some v) r i)
theorem Goes.name {i : Nat} : Goes (agName i) := fun x σ s => .inl ⟨_, _, rfl⟩
theorem DGs.nil : DGs W gNil agNil := fun w s σ σc x v Q S R r h => by
  cases r with
  | nil => exact ⟨rfl, h w σc (.refl w) S R⟩
  | cons => exact (show False from h).elim
theorem GoesL.nil : GoesL agNil := fun x σ s => by
  cases x with
  | nil => exact .inl ⟨_, _, rfl⟩
  | cons => exact .inr rfl
theorem DGs.cons (hg : DG W tg g) (hs : DGs W tgs gs) : DGs W (gCons tg tgs) (agCons g gs) := fun w s σ σc x v Q S R r h => by
  cases r with
  | nil => exact (show False from h).elim
  | @cons x v xs vs h1 h2 =>
    refine ⟨v, vs, rfl, hg w s σ σc x v _ S R h1 ?_⟩
    have h : (aSeq (g x) (gs xs) σ s).P W w _ _ := h
    unfold aSeq at h
    cases e : g x σ s with
    | nx σ' s' =>
      rw [e] at h
      exact fun w' σc' e' S' R' => hs w' s' σ' σc' xs vs Q S' R' (h2.mono e') (P.mono e' h)
    | rt v s' => rw [e] at h; exact h
    | bk σ' s' => rw [e] at h; exact h
    | ct σ' s' => rw [e] at h; exact h
    | err c ns vs σ' s' => rw [e] at h; exact h
    | stuck => rw [e] at h; exact h
theorem GoesL.cons (h1 : Goes g) (h2 : GoesL gs) : GoesL (agCons g gs) := fun x σ s => by
  cases x with
  | nil => exact .inr rfl
  | cons x xs =>
    show (∃ σ' s', (g x σ s).thn (gs xs) = .nx σ' s') ∨ (g x σ s).thn (gs xs) = .stuck
    rcases h1 x σ s with ⟨σ', s', e⟩ | e
    · rw [e]; exact h2 xs σ' s'
    · rw [e]; exact .inr rfl
theorem DG.tup {n : Nat} (hs : DGs W tgs gs) : DG W (gTup W.K n tgs) (agTup n gs) := fun w s σ σc x v Q S R r h => by
  cases r with
  | @tup a xs vs h1 h2 =>
    have h : (if xs.length = n then gs xs σ s else .stuck : SRes).P W w _ _ := h
    split at h
    · rename_i hl
      exact ⟨a, vs, rfl, h1, by rw [← h2.length]; exact hl, hs w s σ σc xs vs Q S R h2 h⟩
    · exact h.elim
  | _ => exact (show False from h).elim
theorem Goes.tup {n : Nat} (h : GoesL gs) : Goes (agTup n gs) := fun x σ s => by
  cases x with
  | tup xs =>
    show (∃ σ' s', (if xs.length = n then gs xs σ s else .stuck : SRes) = .nx σ' s') ∨ _
    by_cases e : xs.length = n
    · rw [if_pos e]
      rcases h xs σ s with h | h
      · exact .inl h
      · exact .inr (by show (if xs.length = n then gs xs σ s else .stuck : SRes) = _; rw [if_pos e]; exact h)
    · exact .inr (if_neg e)
  | _ => exact .inr rfl
theorem DS.par {i j : Nat} (ha : DA W E tr fr) : DS W E (tPar i j tr) (aPar i j fr) := fun w s σ σc D S R h => by
  refine ha w s σ σc _ S R ((exp_post R h).mono (fun xs s1 h1 w1 vs e1 S1 r1 => ?_) fun _ _ _ _ z => z)
  match xs, vs, r1, h1 with
  | [x, y], [v, u], .cons a (.cons b .nil), h => exact ⟨_, _, rfl, h w1 _ e1 S1 (((R.mono e1).set (x := some x) (v := some v) a i).set (x := some y) (v := some u) b j)⟩
theorem DS.par3 {i j l : Nat} (ha : DA W E tr fr) : DS W E (tPar3 i j l tr) (aPar3 i j l fr) := fun w s σ σc D S R h => by
  refine ha w s σ σc _ S R ((exp_post R h).mono (fun xs s1 h1 w1 vs e1 S1 r1 => ?_) fun _ _ _ _ z => z)
  match xs, vs, r1, h1 with
  | [x, y, z], [v, u, q], .cons a (.cons b (.cons c .nil)), h => exact ⟨_, _, _, rfl, h w1 _ e1 S1 ((((R.mono e1).set (x := some x) (v := some v) a i).set (x := some y) (v := some u) b j).set (x := some z) (v := some q) c l)⟩
theorem DS.never {f : AS} (h : ∀ σ s, f σ s = .stuck) : DS W E tNever f := fun w s σ σc D S R z => by rw [h] at z; exact z.elim
/-- a def's body keeps the def's promise -/
theorem RSt.start {w : Wd} : ∀ {xs : List AV} {vs : List V} {k : Nat}, RelL W w xs vs → RSt W w (xs.map some ++ List.replicate k none) (vs.map some ++ List.replicate k none)
  | _, _, 0, .nil => .nil
  | _, _, k + 1, .nil => .cons trivial (RSt.start (k := k) .nil)
  | _, _, _, .cons h r => .cons h (RSt.start r)
theorem DS.dfn {k n : Nat} {N : List Str} {f : AS} {ts : TS} {H : Hp} {vs : List V} {Q : VK} {Ek : XK} (h : spF W n (aDef k f) vs H Q Ek) (hk : n + k = N.length) (hs : DS W (fun _ => Ek) ts f) : ts { nx := fun _ H' => Q .non H', rt := Q } (L2.start N vs) H := by
  obtain ⟨w, s, args, rfl, S, R, hn, p⟩ := h
  have hv := R.length
  have e : L2.start N vs = vs.map some ++ List.replicate k none := by
    unfold L2.start
    rw [show N.length - vs.length = k from by omega]
  rw [e]
  refine hs w s _ _ _ S (RSt.start R) ?_
  have p : (f (args.map some ++ List.replicate k none) s).fn.Post _ _ := p
  cases e : f (args.map some ++ List.replicate k none) s with
  | nx σ' s' =>
    rw [e] at p
    exact fun w' σc' e' S' R' => p w' _ e' S' .non
  | rt v s' => rw [e] at p; exact p
  | bk σ' s' => rw [e] at p; exact p.elim
  | ct σ' s' => rw [e] at p; exact p.elim
  | err c ns vs σ' s' =>
    rw [e] at p
    exact fun w' σc' d e' S' R' x => p w' d e' S' x
  | stuck => rw [e] at p; exact p
theorem spF.len {n : Nat} {F : List AV → Sto → Res AV} {vs : List V} {H : Hp} {Q : VK} {Ek : XK} (h : spF W n F vs H Q Ek) : vs.length = n := by
  obtain ⟨w, s, args, rfl, S, R, hn, p⟩ := h
  rw [← R.length]; exact hn
end
end Ab
set_option Elab.async false
set_option linter.all false
set_option maxRecDepth 100000
set_option maxHeartbeats 1000000
namespace Ab
open PySem PySem.Spec PyProof.Rows L2
open Classical
noncomputable section
/-- no error comes of it -/
def NE2 (g : AV → AV → Sto → Res AV) : Prop := ∀ x y s c ns vs s', g x y s ≠ .err c ns vs s'
def NE1 (g : AV → Sto → Res AV) : Prop := ∀ x s c ns vs s', g x s ≠ .err c ns vs s'
def NEL (g : List AV → Sto → Res AV) : Prop := ∀ x s c ns vs s', g x s ≠ .err c ns vs s'
section
variable {W : Wl} {w : Wd} {s : Sto}
theorem obj_at {i : Nat} {v : V} (r : Rel W w (.obj i) v) : i < w.n ∧ v = .ref (w.m i) := by
  cases r with
  | obj h => exact ⟨h, rfl⟩
theorem cell_at {i : Nat} {v : V} {x : Cell} (S : Sim W w s) (r : Rel W w (.obj i) v) (e : s.c i = x) : ∃ o, i < s.n ∧ v = .ref (w.m i) ∧ w.H (w.m i) = some o ∧ CRel W w x o := by
  obtain ⟨h, rfl⟩ := obj_at r
  have h : i < s.n := S.n ▸ h
  obtain ⟨o, h1, h2⟩ := S.cell i h
  rw [e] at h2
  exact ⟨o, h, rfl, h1, h2⟩
/-- the items of a list -/
def lstOf (s : Sto) : AV → Option (List AV)
  | .scr xs => some xs
  | .obj i => match s.c i with | .lst xs => some xs | _ => none
  | _ => none
theorem lst_at {x : AV} {v : V} {xs : List AV} (S : Sim W w s) (r : Rel W w x v) (h : lstOf s x = some xs) : ∃ a vs, v = .ref a ∧ SqL W.K w.H a vs ∧ RelL W w xs vs := by
  cases r with
  | scr h1 h2 =>
    cases h
    exact ⟨_, _, rfl, h1.sql, h2⟩
  | @obj i hi =>
    unfold lstOf at h
    simp only at h
    split at h
    · rename_i xs' e
      cases h
      obtain ⟨o, h1, h2, h3, h4⟩ := cell_at S (.obj hi) e
      cases h4 with
      | lst r => exact ⟨_, _, rfl, .inl (.inl h3), r⟩
    · cases h
  | _ => cases h
theorem lstO_at {i : Nat} {v : V} {xs : List AV} (S : Sim W w s) (r : Rel W w (.obj i) v) (h : s.c i = .lst xs) : ∃ vs, i < s.n ∧ v = .ref (w.m i) ∧ w.H (w.m i) = some (.lst vs) ∧ RelL W w xs vs := by
  obtain ⟨o, h1, h2, h3, h4⟩ := cell_at S r h
  cases h4 with
  | lst r => exact ⟨_, h1, h2, h3, r⟩
theorem newT {xs : List AV} {vs : List V} {Q : VK} (S : Sim W w s) (r : RelL W w xs vs) (h : OkP W w Q (.tup xs) s) : ∀ p, w.H p = none → Q (.ref p) (upd w.H p (.tup vs)) := fun p hp => by
  have g := grow_upd (o := .tup vs) hp
  exact h _ _ (.grow g) (S.grow g) (.tup (.inl (.inl upd_same)) (r.mono (.grow g)))
theorem wr_ok {i : Nat} {x : Cell} {o : HO} {G : Hp → Prop} (S : Sim W w s) (hi : i < s.n) (r : CRel W w x o) (h : ∀ w', Ext w w' → Sim W w' (s.set i x) → G w'.H) : G (upd w.H (w.m i) o) := h _ (.wr S hi) (S.wr hi r)
end
theorem OpR.or {X : Cx} {f : Value → Value → Sem Value} {r1 r2 : R2} (h1 : OpR X f r1) (h2 : OpR X f r2) : OpR X f (fun x y H Q => r1 x y H Q ∨ r2 x y H Q) := fun pins s σ H x y v u Q I rx ry h => h.elim (h1 pins s σ H x y v u Q I rx ry) (h2 pins s σ H x y v u Q I rx ry)
theorem CallR.or {X : Cx} {f : Value} {r1 r2 : List V → Hp → VK → Prop} (h1 : CallR X f r1) (h2 : CallR X f r2) : CallR X f (fun xs H Q => r1 xs H Q ∨ r2 xs H Q) := fun pins s σ H xs us Q I r h => h.elim (h1 pins s σ H xs us Q I r) (h2 pins s σ H xs us Q I r)
theorem IxR.or {X : Cx} {r1 r2 : R2} (h1 : IxR X r1) (h2 : IxR X r2) : IxR X (fun x y H Q => r1 x y H Q ∨ r2 x y H Q) := fun va sl pins s σ H x y v u Q I rx ry h z => Or.elim h (fun h => h1 va sl pins s σ H x y v u Q I rx ry h z) (fun h => h2 va sl pins s σ H x y v u Q I rx ry h z)
def gI (C : Int → Int → Prop) (g : Int → Int → AV) : AV → AV → Sto → Res AV := fun x y s => match x, y with | .int i, .int j => if C i j then .ok (g i j) s else .stuck | _, _ => .stuck
def gI0 (g : Int → Int → AV) : AV → AV → Sto → Res AV := fun x y s => match x, y with | .int i, .int j => .ok (g i j) s | _, _ => .stuck
@[simp] theorem gI0_int {g : Int → Int → AV} {i j : Int} {s : Sto} : gI0 g (.int i) (.int j) s = .ok (g i j) s := rfl
theorem NE2.i {C : Int → Int → Prop} {g : Int → Int → AV} : NE2 (gI C g) := fun x y s c ns vs s' h => by 
  unfold gI at h
  repeat' split at h
  all_goals first | cases h | (unfold newL at h; cases h)
theorem NE2.i0 {g : Int → Int → AV} : NE2 (gI0 g) := fun x y s c ns vs s' h => by 
  unfold gI0 at h
  repeat' split at h
  all_goals first | cases h | (unfold newL at h; cases h)
theorem DR.i {W : Wl} {C : Int → Int → Prop} {g : Int → Int → AV} {gc : Int → Int → V} (r : ∀ w i j, Rel W w (g i j) (gc i j)) : DR W (rI C gc) (gI C g) := fun w s x y v u Q S rx ry h => by
  cases rx with
  | int i =>
    cases ry with
    | int j =>
      have h : (if C i j then .ok (g i j) s else .stuck : Res AV).Post _ _ := h
      split at h
      · rename_i hc
        exact ⟨i, j, rfl, rfl, hc, h w _ (.refl w) S (r w i j)⟩
      · exact h.elim
    | _ => exact h.elim
  | _ => exact h.elim
theorem DR.i0 {W : Wl} {g : Int → Int → AV} {gc : Int → Int → V} (r : ∀ w i j, Rel W w (g i j) (gc i j)) : DR W (rI0 gc) (gI0 g) := fun w s x y v u Q S rx ry h => by
  cases rx with
  | int i =>
    cases ry with
    | int j => exact ⟨i, j, rfl, rfl, h w _ (.refl w) S (r w i j)⟩
    | _ => exact h.elim
  | _ => exact h.elim
def gMinus := gI0 fun i j => .int (i - j)
def gMod := gI (fun _ j => 0 < j) fun i j => .int (i % j)
def gFdiv := gI CDivW fun i j => .int (i / j)
def gPow := gI CPow fun i j => .int (i ^ j.toNat)
def gXor := gI0 fun i j => .int (Builtin.bitXor i j)
def gOr := gI0 fun i j => .int (Builtin.bitOr i j)
def gAnd := gI0 fun i j => .int (Builtin.bitAnd i j)
def gShl := gI CShl fun i j => .int (i * 2 ^ j.toNat)
def gShr := gI (fun _ j => 0 ≤ j) fun i j => .int (i / 2 ^ j.toNat)
def gLt := gI0 fun i j => .bl (decide (i < j))
def gLe := gI0 fun i j => .bl (decide (i ≤ j))
def gGt := gI0 fun i j => .bl (decide (j < i))
def gGe := gI0 fun i j => .bl (decide (j ≤ i))
section
variable {i j : Int} {s : Sto}
@[simp] theorem gMinus_int : gMinus (.int i) (.int j) s = .ok (.int (i - j)) s := rfl
theorem gMod_int (h : 0 < j) : gMod (.int i) (.int j) s = .ok (.int (i % j)) s := if_pos h
theorem gFdiv_int (h : CDivW i j) : gFdiv (.int i) (.int j) s = .ok (.int (i / j)) s := if_pos h
theorem gPow_int (h : CPow i j) : gPow (.int i) (.int j) s = .ok (.int (i ^ j.toNat)) s := if_pos h
@[simp] theorem gXor_int : gXor (.int i) (.int j) s = .ok (.int (Builtin.bitXor i j)) s := rfl
@[simp] theorem gOr_int : gOr (.int i) (.int j) s = .ok (.int (Builtin.bitOr i j)) s := rfl
@[simp] theorem gAnd_int : gAnd (.int i) (.int j) s = .ok (.int (Builtin.bitAnd i j)) s := rfl
theorem gShl_int (h : CShl i j) : gShl (.int i) (.int j) s = .ok (.int (i * 2 ^ j.toNat)) s := if_pos h
theorem gShr_int (h : 0 ≤ j) : gShr (.int i) (.int j) s = .ok (.int (i / 2 ^ j.toNat)) s := if_pos h
@[simp] theorem gLt_int : gLt (.int i) (.int j) s = .ok (.bl (decide (i < j))) s := rfl
@[simp] theorem gLe_int : gLe (.int i) (.int j) s = .ok (.bl (decide (i ≤ j))) s := rfl
@[simp] theorem gGt_int : gGt (.int i) (.int j) s = .ok (.bl (decide (j < i))) s := rfl
@[simp] theorem gGe_int : gGe (.int i) (.int j) s = .ok (.bl (decide (j ≤ i))) s := rfl
end
def gNeg : AV → Sto → Res AV := fun x s => match x with | .int i => .ok (.int (-i)) s | _ => .stuck
@[simp] theorem gNeg_int {i : Int} {s : Sto} : gNeg (.int i) s = .ok (.int (-i)) s := rfl
theorem NE1.neg : NE1 gNeg := fun x s c ns vs s' h => by 
  unfold gNeg at h
  repeat' split at h
  all_goals first | cases h | (unfold newL at h; cases h)
theorem DU.neg {W : Wl} : DU W (rU fun i => V.int (-i)) gNeg := fun w s x v Q S r h => by
  cases r with
  | int i => exact ⟨i, rfl, h w _ (.refl w) S (.int _)⟩
  | _ => exact h.elim
def rAddU (K : PySem.W.Frag) : R2 := fun x y H Q => rI0 (fun i j => V.int (i + j)) x y H Q ∨ (∃ i j, x = .str i ∧ y = .str j ∧ i.length + j.length ≤ sizeLine ∧ Q (.str (i ++ j)) H) ∨ rCatA K x y H Q ∨ rCat x y H Q
theorem op_addU {X : Cx} : OpR X (binaryOp .Add) (rAddU X.K) := OpR.or op_add (OpR.or op_add_str (OpR.or op_catA op_cat))
def gAdd : AV → AV → Sto → Res AV := fun x y s => match x, y with
  | .int i, .int j => .ok (.int (i + j)) s
  | .str a, .str b => if a.length + b.length ≤ sizeLine then .ok (.str (a ++ b)) s else .stuck
  | .tup a, .tup b => if a.length + b.length ≤ sizeLine then .ok (.tup (a ++ b)) s else .stuck
  | .obj i, .obj j => match s.c i, s.c j with | .lst a, .lst b => if a.length + b.length ≤ sizeLine then newL (a ++ b) s else .stuck | _, _ => .stuck
  | _, _ => .stuck
@[simp] theorem gAdd_int {i j : Int} {s : Sto} : gAdd (.int i) (.int j) s = .ok (.int (i + j)) s := rfl
theorem gAdd_str {a b : Str} {s : Sto} (h : a.length + b.length ≤ sizeLine) : gAdd (.str a) (.str b) s = .ok (.str (a ++ b)) s := if_pos h
theorem gAdd_lst {i j : Nat} {a b : List AV} {s : Sto} (e1 : s.c i = .lst a) (e2 : s.c j = .lst b) (h : a.length + b.length ≤ sizeLine) : gAdd (.obj i) (.obj j) s = newL (a ++ b) s := by
  unfold gAdd; simp only [e1, e2]; exact if_pos h
theorem NE2.add : NE2 gAdd := fun x y s c ns vs s' h => by 
  unfold gAdd at h
  repeat' split at h
  all_goals first | cases h | (unfold newL at h; cases h)
theorem DR.add {W : Wl} : DR W (rAddU W.K) gAdd := fun w s x y v u Q S rx ry h => by
  unfold gAdd at h
  split at h
  · cases rx; cases ry
    exact .inl ⟨_, _, rfl, rfl, h w _ (.refl w) S (.int _)⟩
  · split at h
    · rename_i hl
      cases rx; cases ry
      exact .inr (.inl ⟨_, _, rfl, rfl, hl, h w _ (.refl w) S (.str _)⟩)
    · exact h.elim
  · split at h
    · rename_i hl
      cases rx with
      | @tup a xs vs h1 r1 =>
        cases ry with
        | @tup b ys us h2 r2 =>
          have e1 := r1.length
          have e2 := r2.length
          refine .inr (.inr (.inl ⟨a, b, vs, us, rfl, rfl, h1, h2, by rw [← e1, ← e2]; exact hl, fun z => ?_, fun _ z => ?_, fun _ _ => newT S (r1.append r2) h⟩))
          · subst z
            cases r1
            exact h w _ (.refl w) S (.tup h2 r2)
          · subst z
            cases r2
            refine h w _ (.refl w) S ?_
            rw [List.append_nil]
            exact .tup h1 r1
    · exact h.elim
  · split at h
    · rename_i i j a b e1 e2
      split at h
      · rename_i hl
        obtain ⟨vs, i1, i2, i3, i4⟩ := lstO_at S rx e1
        obtain ⟨us, j1, j2, j3, j4⟩ := lstO_at S ry e2
        exact .inr (.inr (.inr ⟨_, _, vs, us, i2, j2, i3, j3, by rw [← i4.length, ← j4.length]; exact hl, newL_ok S (i4.append j4) h⟩))
      · exact h.elim
    · exact h.elim
  · exact h.elim
def rMulU : R2 := fun x y H Q => rI CMulX (fun i j => V.int (i * j)) x y H Q ∨ rRep x y H Q ∨ Gx.rMulS x y H Q
theorem op_mulU {X : Cx} : OpR X (binaryOp .Mult) rMulU := OpR.or op_mulX (OpR.or op_rep Gx.op_mulS)
def gMul : AV → AV → Sto → Res AV := fun x y s => match x, y with
  | .int i, .int j => if CMulX i j then .ok (.int (i * j)) s else .stuck
  | .str a, .int k => if PySem.MulOk a k then .ok (.str (Txt.mul a k)) s else .stuck
  | .obj i, .int k => match s.c i with | .lst a => if -(2 ^ 63) ≤ k ∧ k < 2 ^ 63 ∧ a.length * k.toNat ≤ sizeLine then newL (List.replicate k.toNat a).flatten s else .stuck | _ => .stuck
  | _, _ => .stuck
theorem gMul_int {i j : Int} {s : Sto} (h : CMulX i j) : gMul (.int i) (.int j) s = .ok (.int (i * j)) s := if_pos h
theorem gMul_lst {i : Nat} {a : List AV} {k : Int} {s : Sto} (e : s.c i = .lst a) (h : -(2 ^ 63) ≤ k ∧ k < 2 ^ 63 ∧ a.length * k.toNat ≤ sizeLine) : gMul (.obj i) (.int k) s = newL (List.replicate k.toNat a).flatten s := by
  unfold gMul; simp only [e]; exact if_pos h
theorem NE2.mul : NE2 gMul := fun x y s c ns vs s' h => by 
  unfold gMul at h
  repeat' split at h
  all_goals first | cases h | (unfold newL at h; cases h)
theorem RelL.rep {W : Wl} {w : Wd} {xs : List AV} {vs : List V} (r : RelL W w xs vs) : ∀ k : Nat, RelL W w (List.replicate k xs).flatten (List.replicate k vs).flatten
  | 0 => .nil
  | k + 1 => by
    rw [List.replicate_succ, List.replicate_succ, List.flatten_cons, List.flatten_cons]
    exact r.append (RelL.rep r k)
theorem DR.mul {W : Wl} : DR W rMulU gMul := fun w s x y v u Q S rx ry h => by
  unfold gMul at h
  split at h
  · split at h
    · rename_i hl
      cases rx; cases ry
      exact .inl ⟨_, _, rfl, rfl, hl, h w _ (.refl w) S (.int _)⟩
    · exact h.elim
  · split at h
    · rename_i hl
      cases rx; cases ry
      exact .inr (.inr ⟨_, _, rfl, rfl, hl, h w _ (.refl w) S (.str _)⟩)
    · exact h.elim
  · split at h
    · rename_i i k a e
      split at h
      · rename_i hl
        obtain ⟨vs, i1, i2, i3, i4⟩ := lstO_at S rx e
        cases ry
        exact .inr (.inl ⟨_, _, vs, i2, rfl, i3, hl.1, hl.2.1, by rw [← i4.length]; exact hl.2.2, newL_ok S (i4.rep _) h⟩)
      · exact h.elim
    · exact h.elim
  · exact h.elim
def isNon : AV → Bool
  | .non => true
  | _ => false
theorem isNon_rel {W : Wl} {w : Wd} {x : AV} {v : V} (r : Rel W w x v) : isNon x = decide (v = .non) := by
  cases r <;> simp [isNon]
def gIsN : AV → AV → Sto → Res AV := fun x y s => match y with | .non => .ok (.bl (isNon x)) s | _ => .stuck
def gNotN : AV → AV → Sto → Res AV := fun x y s => match y with | .non => .ok (.bl (!isNon x)) s | _ => .stuck
@[simp] theorem gIsN_non {x : AV} {s : Sto} : gIsN x .non s = .ok (.bl (isNon x)) s := rfl
@[simp] theorem gNotN_non {x : AV} {s : Sto} : gNotN x .non s = .ok (.bl (!isNon x)) s := rfl
theorem NE2.isN : NE2 gIsN := fun x y s c ns vs s' h => by 
  unfold gIsN at h
  repeat' split at h
  all_goals first | cases h | (unfold newL at h; cases h)
theorem DR.isN {W : Wl} : DR W (fun x y H Q => y = .non ∧ Q (.bl (decide (x = .non))) H) gIsN := fun w s x y v u Q S rx ry h => by
  cases ry with
  | non => exact ⟨rfl, h w _ (.refl w) S (by rw [isNon_rel rx]; exact .bl _)⟩
  | _ => exact h.elim
def gIsB : AV → AV → Sto → Res AV := fun x y s => match x, y with | .bl a, .bl b => .ok (.bl (a == b)) s | _, _ => .stuck
def gNotB : AV → AV → Sto → Res AV := fun x y s => match x, y with | .bl a, .bl b => .ok (.bl (!(a == b))) s | _, _ => .stuck
@[simp] theorem gIsB_bl {a b : Bool} {s : Sto} : gIsB (.bl a) (.bl b) s = .ok (.bl (a == b)) s := rfl
@[simp] theorem gNotB_bl {a b : Bool} {s : Sto} : gNotB (.bl a) (.bl b) s = .ok (.bl (!(a == b))) s := rfl
theorem NE2.notB : NE2 gNotB := fun x y s c ns vs s' h => by 
  unfold gNotB at h
  repeat' split at h
  all_goals first | cases h | (unfold newL at h; cases h)
theorem beq_dec (a b : Bool) : (a == b) = decide (a = b) := by cases a <;> cases b <;> rfl
theorem DR.notB {W : Wl} : DR W rNotB gNotB := fun w s x y v u Q S rx ry h => by
  cases rx with
  | bl a =>
    cases ry with
    | bl b => exact ⟨a, b, rfl, rfl, by rw [← beq_dec]; exact h w _ (.refl w) S (.bl _)⟩
    | _ => exact h.elim
  | _ => exact h.elim
def optL (f : AV → Option PyData) : List AV → Option (List PyData)
  | [] => some []
  | x :: xs => match f x, optL f xs with | some d, some ds => some (d :: ds) | _, _ => none
def dat : Nat → Sto → AV → Option PyData
  | 0, _, _ => none
  | n + 1, s, x => match x with
    | .non => some .none
    | .bl b => some (.bool b)
    | .int i => some (.int i)
    | .str z => some (.str z)
    | .tup xs => (optL (dat n s) xs).map .tuple
    | .scr xs => (optL (dat n s) xs).map .list
    | .obj i => match s.c i with | .lst xs => (optL (dat n s) xs).map .list | _ => none
    | _ => none
section
variable {W : Wl} {w : Wd} {s : Sto}
theorem optL_dp {n : Nat} (ih : ∀ (x : AV) (v : V) (d : PyData), Rel W w x v → dat n s x = some d → Dp W.K w.H v d) : ∀ {xs : List AV} {vs : List V} {ds : List PyData}, RelL W w xs vs → optL (dat n s) xs = some ds → DpAll W.K w.H vs ds
  | _, _, _, .nil, e => by
    cases e
    exact .nil
  | _, _, _, .cons h r, e => by
    unfold optL at e
    split at e
    · rename_i d ds e1 e2
      cases e
      exact .cons (ih _ _ _ h e1) (optL_dp ih r e2)
    · cases e
theorem dat_dp (S : Sim W w s) : ∀ (n : Nat) (x : AV) (v : V) (d : PyData), Rel W w x v → dat n s x = some d → Dp W.K w.H v d
  | 0, _, _, _, _, e => by cases e
  | n + 1, x, v, d, r, e => by
    unfold dat at e
    cases r with
    | non => cases e; exact .non
    | bl b => cases e; exact .bl b
    | int i => cases e; exact .int i
    | str z => cases e; exact .str z
    | ty n => cases e
    | cls c => cases e
    | raw a => cases e
    | @obj i hi =>
      simp only at e
      split at e
      · rename_i xs e1
        obtain ⟨ds, e2, rfl⟩ := Option.map_eq_some_iff.mp e
        obtain ⟨vs, _, h2, h3, h4⟩ := lstO_at S (.obj hi) e1
        exact .lst (.inl (.inl h3)) (optL_dp (dat_dp S n) h4 e2)
      · cases e
    | tup h r =>
      obtain ⟨ds, e2, rfl⟩ := Option.map_eq_some_iff.mp e
      exact .tup h (optL_dp (dat_dp S n) r e2)
    | scr h r =>
      obtain ⟨ds, e2, rfl⟩ := Option.map_eq_some_iff.mp e
      exact .lst h.sql (optL_dp (dat_dp S n) r e2)
    | exn => cases e
end
def scalA : AV → AV → Bool
  | .non, .non => true | .non, .int _ => true | .int _, .non => true | .non, .bl _ => true | .bl _, .non => true | .non, .str _ => true | .str _, .non => true
  | .int _, .int _ => true | .bl _, .bl _ => true | .str _, .str _ => true
  | .int _, .str _ => true | .str _, .int _ => true | .bl _, .str _ => true | .str _, .bl _ => true
  | _, _ => false
def eqA : AV → AV → Bool
  | .non, .non => true
  | .bl a, .bl b => a == b
  | .bl a, .int b => (if a then 1 else 0) == b
  | .int a, .bl b => a == (if b then 1 else 0)
  | .int a, .int b => a == b
  | .str a, .str b => a == b
  | _, _ => false
theorem scalA_rel {W : Wl} {w : Wd} {x y : AV} {v u : V} (rx : Rel W w x v) (ry : Rel W w y u) (h : scalA x y = true) : scal v u = true ∧ eqA x y = decide (v = u) := by
  cases rx <;> cases ry <;> first | (exact absurd h (by decide)) | (cases h; done) | (refine ⟨rfl, ?_⟩; simp [eqA, beq_dec]; try rfl)
def rEqU (K : PySem.W.Frag) : R2 := fun x y H Q => rEq x y H Q ∨ Sm.rEqS K x y H Q
def rNeU (K : PySem.W.Frag) : R2 := fun x y H Q => rNe x y H Q ∨ Sm.rNeS K x y H Q
theorem op_eqU {X : Cx} (hu : X.A.units + 64 < cLine) : OpR X (compareOp .Eq) (rEqU X.K) := OpR.or op_eq (Sm.op_eqS hu)
theorem op_neU {X : Cx} (hu : X.A.units + 64 < cLine) : OpR X (compareOp .NotEq) (rNeU X.K) := OpR.or op_ne (Sm.op_neS hu)
/-- things that are the very same -/
def smA : Nat → AV → Bool
  | _, .non => true
  | _, .bl _ => true
  | _, .int _ => true
  | _, .str _ => true
  | _, .obj _ => true
  | n + 1, .tup xs => xs.all (smA n)
  | _, _ => false
def isTup : AV → Bool
  | .tup _ => true
  | _ => false
section
variable {W : Wl} {w : Wd}
theorem sm_rel : ∀ (n : Nat) (x : AV) (v u : V), Rel W w x v → Rel W w x u → smA n x = true → Sm.Sm W.K w.H n v u := by
  intro n
  induction n with
  | zero =>
    intro x v u r1 r2 h
    cases r1 <;> cases r2 <;> first | exact .non | exact .bl _ | exact .int _ | exact .str _ | exact .ref _ | (cases h; done)
  | succ n ih =>
    intro x v u r1 r2 h
    cases r1 with
    | @tup a xs vs h1 q1 =>
      cases r2 with
      | @tup b _ us h2 q2 =>
        have h : xs.all (smA n) = true := h
        refine .tup h1 h2 (by rw [← q1.length, ← q2.length]) fun i x y hx hy => ?_
        obtain ⟨z, z1, z2⟩ := q1.getv i x hx
        obtain ⟨z', z3, z4⟩ := q2.getv i y hy
        rw [z1] at z3
        cases z3
        exact ih z x y z2 z4 (List.all_eq_true.mp h z (List.mem_of_getElem? z1))
    | _ => cases r2 <;> first | exact .non | exact .bl _ | exact .int _ | exact .str _ | exact .ref _ | (cases h; done)
theorem top_rel {x : AV} {v u : V} (r1 : Rel W w x v) (r2 : Rel W w x u) (h : smA 20 x = true) (ht : isTup x = true) : Sm.Top W.K w.H v u := by
  cases r1 with
  | @tup a xs vs h1 q1 =>
    cases r2 with
    | @tup b _ us h2 q2 =>
      have h : xs.all (smA 19) = true := h
      refine .tup h1 h2 (by rw [← q1.length, ← q2.length]) fun i x y hx hy => ?_
      obtain ⟨z, z1, z2⟩ := q1.getv i x hx
      obtain ⟨z', z3, z4⟩ := q2.getv i y hy
      rw [z1] at z3
      cases z3
      exact Sm.Sm.up (sm_rel 19 z x y z2 z4 (List.all_eq_true.mp h z (List.mem_of_getElem? z1)))
  | _ => cases ht
end
def eqB (x y : AV) (s : Sto) : Option Bool := if scalA x y = true then some (eqA x y) else match dat 12 s x, dat 12 s y with | some d, some e => if SeqAt.shaped d = true ∧ SeqAt.shaped e = true then some (PyData.eqv d e) else none | _, _ => if x = y ∧ smA 20 x = true ∧ isTup x = true then some true else none
theorem eqB_same {x : AV} {s : Sto} (h : smA 20 x = true) (ht : isTup x = true) (hd : dat 12 s x = none) : eqB x x s = some true := by
  unfold eqB
  cases x with
  | tup xs => simp only [scalA, hd, h, ht]; simp
  | _ => cases ht
def gEq : AV → AV → Sto → Res AV := fun x y s => match eqB x y s with | some b => .ok (.bl b) s | none => .stuck
def gNe : AV → AV → Sto → Res AV := fun x y s => match eqB x y s with | some b => .ok (.bl (!b)) s | none => .stuck
theorem gEq_b {x y : AV} {s : Sto} {b : Bool} (h : eqB x y s = some b) : gEq x y s = .ok (.bl b) s := by unfold gEq; simp only [h]
theorem gNe_b {x y : AV} {s : Sto} {b : Bool} (h : eqB x y s = some b) : gNe x y s = .ok (.bl (!b)) s := by unfold gNe; simp only [h]
theorem eqB_dat {x y : AV} {s : Sto} {d e : PyData} (h0 : scalA x y = false) (h1 : dat 12 s x = some d) (h2 : dat 12 s y = some e) (c1 : SeqAt.shaped d = true) (c2 : SeqAt.shaped e = true) : eqB x y s = some (PyData.eqv d e) := by
  unfold eqB; simp only [h0, h1, h2, c1, c2]; rfl
@[simp] theorem eqB_int {i j : Int} {s : Sto} : eqB (.int i) (.int j) s = some (decide (i = j)) := rfl
@[simp] theorem eqB_str {i j : Str} {s : Sto} : eqB (.str i) (.str j) s = some (decide (i = j)) := rfl
@[simp] theorem eqB_bl {i j : Bool} {s : Sto} : eqB (.bl i) (.bl j) s = some (decide (i = j)) := by
  rw [← beq_dec]; rfl
@[simp] theorem gEq_int {i j : Int} {s : Sto} : gEq (.int i) (.int j) s = .ok (.bl (decide (i = j))) s := gEq_b eqB_int
@[simp] theorem gNe_int {i j : Int} {s : Sto} : gNe (.int i) (.int j) s = .ok (.bl (!decide (i = j))) s := gNe_b eqB_int
@[simp] theorem gEq_str {i j : Str} {s : Sto} : gEq (.str i) (.str j) s = .ok (.bl (decide (i = j))) s := gEq_b eqB_str
@[simp] theorem gNe_str {i j : Str} {s : Sto} : gNe (.str i) (.str j) s = .ok (.bl (!decide (i = j))) s := gNe_b eqB_str
@[simp] theorem gEq_bl {i j : Bool} {s : Sto} : gEq (.bl i) (.bl j) s = .ok (.bl (decide (i = j))) s := gEq_b eqB_bl
@[simp] theorem gNe_bl {i j : Bool} {s : Sto} : gNe (.bl i) (.bl j) s = .ok (.bl (!decide (i = j))) s := gNe_b eqB_bl
theorem NE2.eq : NE2 gEq := fun x y s c ns vs s' h => by 
  unfold gEq at h
  repeat' split at h
  all_goals first | cases h | (unfold newL at h; cases h)
theorem NE2.ne : NE2 gNe := fun x y s c ns vs s' h => by 
  unfold gNe at h
  repeat' split at h
  all_goals first | cases h | (unfold newL at h; cases h)
theorem DR.eq {W : Wl} : DR W (rEqU W.K) gEq := fun w s x y v u Q S rx ry h => by
  unfold gEq at h
  split at h
  · rename_i b e
    unfold eqB at e
    split at e
    · rename_i hs
      obtain ⟨h1, h2⟩ := scalA_rel rx ry hs
      cases e
      refine .inl ⟨h1, ?_⟩
      rw [← h2]
      exact h w _ (.refl w) S (.bl _)
    · split at e
      · rename_i d e' h1 h2
        split at e
        · rename_i hc
          cases e
          exact .inr (.inl ⟨d, e', dat_dp S _ _ _ _ rx h1, dat_dp S _ _ _ _ ry h2, hc.1, hc.2, h w _ (.refl w) S (.bl _)⟩)
        · cases e
      · split at e
        · rename_i hc
          cases e
          obtain ⟨rfl, h1, h2⟩ := hc
          exact .inr (.inr ⟨top_rel rx ry h1 h2, h w _ (.refl w) S (.bl _)⟩)
        · cases e
  · exact h.elim
theorem DR.ne {W : Wl} : DR W (rNeU W.K) gNe := fun w s x y v u Q S rx ry h => by
  unfold gNe at h
  split at h
  · rename_i b e
    unfold eqB at e
    split at e
    · rename_i hs
      obtain ⟨h1, h2⟩ := scalA_rel rx ry hs
      cases e
      refine .inl ⟨h1, ?_⟩
      rw [← h2]
      exact h w _ (.refl w) S (.bl _)
    · split at e
      · rename_i d e' h1 h2
        split at e
        · rename_i hc
          cases e
          exact .inr (.inl ⟨d, e', dat_dp S _ _ _ _ rx h1, dat_dp S _ _ _ _ ry h2, hc.1, hc.2, h w _ (.refl w) S (.bl _)⟩)
        · cases e
      · split at e
        · rename_i hc
          cases e
          obtain ⟨rfl, h1, h2⟩ := hc
          exact .inr (.inr ⟨top_rel rx ry h1 h2, h w _ (.refl w) S (.bl _)⟩)
        · cases e
  · exact h.elim
def seqOf (s : Sto) (x : AV) : Option (List AV) := match x with | .tup xs => some xs | _ => lstOf s x
@[simp] theorem seqOf_tup {s : Sto} {xs : List AV} : seqOf s (.tup xs) = some xs := rfl
@[simp] theorem seqOf_scr {s : Sto} {xs : List AV} : seqOf s (.scr xs) = some xs := rfl
theorem seqOf_obj {s : Sto} {i : Nat} {xs : List AV} (e : s.c i = .lst xs) : seqOf s (.obj i) = some xs := by
  show lstOf s (.obj i) = _
  unfold lstOf; simp only [e]
theorem lstOf_obj {s : Sto} {i : Nat} {xs : List AV} (e : s.c i = .lst xs) : lstOf s (.obj i) = some xs := by
  unfold lstOf; simp only [e]
@[simp] theorem lstOf_scr {s : Sto} {xs : List AV} : lstOf s (.scr xs) = some xs := rfl
theorem seq_at {W : Wl} {w : Wd} {s : Sto} {x : AV} {v : V} {xs : List AV} (S : Sim W w s) (r : Rel W w x v) (h : seqOf s x = some xs) : ∃ a vs, v = .ref a ∧ (SqL W.K w.H a vs ∨ SqT W.K w.H a vs) ∧ RelL W w xs vs := by
  cases r with
  | @tup a xs' vs h1 r1 =>
    cases h
    exact ⟨a, vs, rfl, .inr h1, r1⟩
  | @obj i hi =>
    obtain ⟨a, vs, h1, h2, h3⟩ := lst_at (x := .obj i) S (.obj hi) h
    exact ⟨a, vs, h1, .inl h2, h3⟩
  | @scr a xs' vs h1 r1 =>
    cases h
    exact ⟨a, vs, rfl, .inl h1.sql, r1⟩
  | _ => cases h
def rIxU (K : PySem.W.Frag) : R2 := fun x y H Q => rIxL K x y H Q ∨ rIxT K x y H Q ∨ rIxS x y H Q
theorem ix_U {X : Cx} : IxR X (rIxU X.K) := IxR.or ix_list (IxR.or ix_tup ix_str)
def gIx : AV → AV → Sto → Res AV := fun x y s => match y with
  | .int i => match x with
    | .str z => if z.length ≤ sizeLine then (match atI z.cps.toList i with | some c => .ok (.str ⟨#[c]⟩) s | none => .stuck) else .stuck
    | _ => match seqOf s x with | some xs => (match atI xs i with | some v => .ok v s | none => .stuck) | none => .stuck
  | _ => .stuck
theorem gIx_seq {x : AV} {i : Int} {xs : List AV} {v : AV} {s : Sto} (e : seqOf s x = some xs) (h : atI xs i = some v) : gIx x (.int i) s = .ok v s := by
  unfold gIx
  cases x with
  | str => cases e
  | _ => simp only [e, h]
theorem NE2.ix : NE2 gIx := fun x y s c ns vs s' h => by 
  unfold gIx at h
  repeat' split at h
  all_goals first | cases h | (unfold newL at h; cases h)
theorem atI_rel {W : Wl} {w : Wd} {xs : List AV} {vs : List V} {i : Int} {x : AV} (r : RelL W w xs vs) (e : atI xs i = some x) : ∃ v, atI vs i = some v ∧ Rel W w x v := by
  unfold atI at e ⊢
  rw [← r.length]
  cases h : ixN xs.length i with
  | none => rw [h] at e; cases e
  | some j =>
    rw [h] at e
    exact r.get j x e
theorem DR.ix {W : Wl} : DR W (rIxU W.K) gIx := fun w s x y v u Q S rx ry h => by
  unfold gIx at h
  split at h
  · cases ry
    split at h
    · split at h
      · rename_i hl
        split at h
        · rename_i c e
          cases rx
          exact .inr (.inr ⟨_, _, c, rfl, rfl, hl, e, h w _ (.refl w) S (.str _)⟩)
        · exact h.elim
      · exact h.elim
    · split at h
      · rename_i xs e
        split at h
        · rename_i z e2
          obtain ⟨a, vs, h1, h2, h3⟩ := seq_at S rx e
          obtain ⟨zc, e3, rz⟩ := atI_rel h3 e2
          rcases h2 with h2 | h2
          · exact .inl ⟨a, vs, _, zc, h1, rfl, h2, e3, h w _ (.refl w) S rz⟩
          · exact .inr (.inl ⟨a, vs, _, zc, h1, rfl, h2, e3, h w _ (.refl w) S rz⟩)
        · exact h.elim
      · exact h.elim
  · exact h.elim
/-- a part of a slice -/
abbrev AO := ASt → Sto → Res (Option Int)
def aPart (fa : AE) : AO := fun σ s => (fa σ s).bind fun x s1 => match x with | .int i => .ok (some i) s1 | _ => .stuck
def aNoPart : AO := fun _ s => .ok none s
section
variable {W : Wl} {E : L2.St → XK} {ta tb tc : TE} {fa fb fc : AE} {tl th : TO} {fl fh : AO}
def cutA (xs : List AV) (lo hi : Option Int) : List AV := (xs.drop (HT.sIx xs.length 0 lo)).take (HT.sIx xs.length xs.length hi - HT.sIx xs.length 0 lo)
def gSl (x : AV) (lo hi : Option Int) (s : Sto) : Res AV := match x with
  | .tup xs => .ok (.tup (cutA xs lo hi)) s
  | _ => match lstOf s x with | some xs => newL (cutA xs lo hi) s | none => .stuck
@[simp] theorem gSl_tup {xs : List AV} {lo hi : Option Int} {s : Sto} : gSl (.tup xs) lo hi s = .ok (.tup (cutA xs lo hi)) s := rfl
@[simp] theorem gSl_scr {xs : List AV} {lo hi : Option Int} {s : Sto} : gSl (.scr xs) lo hi s = newL (cutA xs lo hi) s := rfl
def aSl (fa : AE) (fl fh : AO) : AE := fun σ s => (fa σ s).bind fun x s1 => (fl σ s1).bind fun l s2 => (fh σ s2).bind fun u s3 => gSl x l u s3
def aRev (fa : AE) : AE := fun σ s => (fa σ s).bind fun x s1 => match lstOf s1 x with | some xs => newL xs.reverse s1 | none => .stuck
theorem DE.rev (ha : DE W E ta fa) : DE W E (tRevL W.K ta) (aRev fa) := fun w s σ σc Q S R h => by
  refine ha w s σ σc _ S R ((post_bind_ok h).mono (fun x s1 h1 w1 v e1 S1 r1 => ?_) fun _ _ _ _ z => z)
  cases e : lstOf s1 x with
  | none => simp only [e] at h1; exact (show False from h1).elim
  | some xs =>
    simp only [e] at h1
    obtain ⟨a, vs, k1, k2, k3⟩ := lst_at S1 r1 e
    exact ⟨a, vs, k1, k2, newL_ok S1 k3.rev (OkP.mono e1 h1)⟩
end
def rLenU (K : PySem.W.Frag) : List V → Hp → VK → Prop := fun xs H Q => Rd.rLenQ K xs H Q ∨ Gx.rLenS xs H Q ∨ ∃ a kvs, xs = [V.ref a] ∧ H a = some (.dK kvs) ∧ Q (.int kvs.length) H
theorem call_lenU {X : Cx} : CallR X (.builtin "len") (rLenU X.K) := CallR.or Rd.call_lenQ (CallR.or Gx.call_lenS call_lenD)
def gLen : List AV → Sto → Res AV := fun xs s => match xs with
  | [.str z] => if z.length ≤ sizeLine then .ok (.int (z.length : Nat)) s else .stuck
  | [x] => match seqOf s x with | some ys => .ok (.int (ys.length : Nat)) s | none => (match x with | .obj i => (match s.c i with | .dic kvs => .ok (.int (kvs.length : Nat)) s | _ => .stuck) | _ => .stuck)
  | _ => .stuck
theorem gLen_seq {x : AV} {ys : List AV} {s : Sto} (e : seqOf s x = some ys) : gLen [x] s = .ok (.int (ys.length : Nat)) s := by
  unfold gLen
  cases x with
  | str => cases e
  | _ => simp only [e]
@[simp] theorem gLen_tup {ys : List AV} {s : Sto} : gLen [.tup ys] s = .ok (.int (ys.length : Nat)) s := rfl
@[simp] theorem gLen_scr {ys : List AV} {s : Sto} : gLen [.scr ys] s = .ok (.int (ys.length : Nat)) s := rfl
theorem NEL.len : NEL gLen := fun x s c ns vs s' h => by 
  unfold gLen at h
  repeat' split at h
  all_goals first | cases h | (unfold newL at h; cases h)
theorem DB.len {W : Wl} : DB W (rLenU W.K) gLen := fun w s x v Q S r h => by
  unfold gLen at h
  split at h
  · split at h
    · rename_i hl
      cases r with
      | cons r1 r2 =>
        cases r1; cases r2
        exact .inr (.inl ⟨_, rfl, hl, h w _ (.refl w) S (.int _)⟩)
    · exact h.elim
  · cases r with
    | cons r1 r2 =>
      cases r2
      split at h
      · rename_i ys e
        obtain ⟨a, vs, h1, h2, h3⟩ := seq_at S r1 e
        subst h1
        exact .inl ⟨a, vs, rfl, h2, by rw [← h3.length]; exact h w _ (.refl w) S (.int _)⟩
      · split at h
        · split at h
          · rename_i kvs e
            obtain ⟨o, h1, h2, h3, h4⟩ := cell_at S r1 e
            subst h2
            cases h4 with
            | dic r => exact .inr (.inr ⟨_, _, rfl, h3, by rw [← Paired.length r]; exact h w _ (.refl w) S (.int _)⟩)
          · exact h.elim
        · exact h.elim
  · exact h.elim
def gMax2 : List AV → Sto → Res AV := fun xs s => match xs with | [.int i, .int j] => .ok (.int (if j > i then j else i)) s | _ => .stuck
def gMin2 : List AV → Sto → Res AV := fun xs s => match xs with | [.int i, .int j] => .ok (.int (if j < i then j else i)) s | _ => .stuck
@[simp] theorem gMax2_int {i j : Int} {s : Sto} : gMax2 [.int i, .int j] s = .ok (.int (if j > i then j else i)) s := rfl
@[simp] theorem gMin2_int {i j : Int} {s : Sto} : gMin2 [.int i, .int j] s = .ok (.int (if j < i then j else i)) s := rfl
theorem NEL.max2 : NEL gMax2 := fun x s c ns vs s' h => by 
  unfold gMax2 at h
  repeat' split at h
  all_goals first | cases h | (unfold newL at h; cases h)
theorem NEL.min2 : NEL gMin2 := fun x s c ns vs s' h => by 
  unfold gMin2 at h
  repeat' split at h
  all_goals first | cases h | (unfold newL at h; cases h)
theorem DB.max2 {W : Wl} : DB W Rd.rMax2 gMax2 := fun w s x v Q S r h => by
  unfold gMax2 at h
  split at h
  · cases r with
    | cons r1 r2 => cases r2 with
      | cons r2 r3 =>
        cases r1; cases r2; cases r3
        exact ⟨_, _, rfl, h w _ (.refl w) S (.int _)⟩
  · exact h.elim
theorem DB.min2 {W : Wl} : DB W Rd.rMin2 gMin2 := fun w s x v Q S r h => by
  unfold gMin2 at h
  split at h
  · cases r with
    | cons r1 r2 => cases r2 with
      | cons r2 r3 =>
        cases r1; cases r2; cases r3
        exact ⟨_, _, rfl, h w _ (.refl w) S (.int _)⟩
  · exact h.elim
def intsOf : List AV → Option (List Int)
  | [] => some []
  | .int i :: r => (intsOf r).map (i :: ·)
  | _ :: _ => none
theorem ints_rel {W : Wl} {w : Wd} : ∀ {xs : List AV} {vs : List V} {ns : List Int}, RelL W w xs vs → intsOf xs = some ns → vs = ns.map V.int
  | _, _, _, .nil, e => by cases e; rfl
  | .int i :: _, _, _, .cons h r, e => by
    cases h
    unfold intsOf at e
    obtain ⟨ms, e1, rfl⟩ := Option.map_eq_some_iff.mp e
    rw [List.map_cons, ints_rel r e1]
def boolsOf : List AV → Option (List Bool)
  | [] => some []
  | .bl i :: r => (boolsOf r).map (i :: ·)
  | _ :: _ => none
theorem bools_rel {W : Wl} {w : Wd} : ∀ {xs : List AV} {vs : List V} {ns : List Bool}, RelL W w xs vs → boolsOf xs = some ns → vs = ns.map V.bl
  | _, _, _, .nil, e => by cases e; rfl
  | .bl i :: _, _, _, .cons h r, e => by
    cases h
    unfold boolsOf at e
    obtain ⟨ms, e1, rfl⟩ := Option.map_eq_some_iff.mp e
    rw [List.map_cons, bools_rel r e1]
def gSum : List AV → Sto → Res AV := fun xs s => match xs with | [x] => (match lstOf s x with | some ys => (match intsOf ys with | some ns => .ok (.int ns.sum) s | none => .stuck) | none => .stuck) | _ => .stuck
def gAll : List AV → Sto → Res AV := fun xs s => match xs with | [x] => (match lstOf s x with | some ys => (match boolsOf ys with | some ns => .ok (.bl (ns.all id)) s | none => .stuck) | none => .stuck) | _ => .stuck
theorem NEL.sum : NEL gSum := fun x s c ns vs s' h => by 
  unfold gSum at h
  repeat' split at h
  all_goals first | cases h | (unfold newL at h; cases h)
theorem NEL.all : NEL gAll := fun x s c ns vs s' h => by 
  unfold gAll at h
  repeat' split at h
  all_goals first | cases h | (unfold newL at h; cases h)
theorem DB.sum {W : Wl} : DB W (rSum W.K) gSum := fun w s x v Q S r h => by
  unfold gSum at h
  split at h
  · cases r with
    | cons r1 r2 =>
      cases r2
      split at h
      · rename_i ys e
        split at h
        · rename_i ns e2
          obtain ⟨a, vs, h1, h2, h3⟩ := lst_at S r1 e
          subst h1
          refine ⟨a, ns, rfl, ?_, h w _ (.refl w) S (.int _)⟩
          rw [← ints_rel h3 e2]; exact h2
        · exact h.elim
      · exact h.elim
  · exact h.elim
theorem DB.all {W : Wl} : DB W (rAll W.K) gAll := fun w s x v Q S r h => by
  unfold gAll at h
  split at h
  · cases r with
    | cons r1 r2 =>
      cases r2
      split at h
      · rename_i ys e
        split at h
        · rename_i ns e2
          obtain ⟨a, vs, h1, h2, h3⟩ := lst_at S r1 e
          subst h1
          refine ⟨a, ns, rfl, ?_, h w _ (.refl w) S (.bl _)⟩
          rw [← bools_rel h3 e2]; exact h2
        · exact h.elim
      · exact h.elim
  · exact h.elim
def gTuple : List AV → Sto → Res AV := fun xs s => match xs with | [x] => (match seqOf s x with | some ys => .ok (.tup ys) s | none => .stuck) | _ => .stuck
def gList : List AV → Sto → Res AV := fun xs s => match xs with | [x] => (match seqOf s x with | some ys => newL ys s | none => .stuck) | _ => .stuck
theorem NEL.tuple : NEL gTuple := fun x s c ns vs s' h => by 
  unfold gTuple at h
  repeat' split at h
  all_goals first | cases h | (unfold newL at h; cases h)
theorem NEL.list : NEL gList := fun x s c ns vs s' h => by 
  unfold gList at h
  repeat' split at h
  all_goals first | cases h | (unfold newL at h; cases h)
theorem DB.tuple {W : Wl} : DB W (Gx.rTupOf W.K) gTuple := fun w s x v Q S r h => by
  unfold gTuple at h
  split at h
  · cases r with
    | cons r1 r2 =>
      cases r2
      split at h
      · rename_i ys e
        obtain ⟨a, vs, h1, h2, h3⟩ := seq_at S r1 e
        subst h1
        rcases h2 with h2 | h2
        · exact ⟨a, vs, rfl, .inl ⟨h2, newT S h3 h⟩⟩
        · exact ⟨a, vs, rfl, .inr ⟨h2, h w _ (.refl w) S (.tup h2 h3)⟩⟩
      · exact h.elim
  · exact h.elim
theorem DB.list {W : Wl} : DB W (Gx.rLstOf W.K) gList := fun w s x v Q S r h => by
  unfold gList at h
  split at h
  · cases r with
    | cons r1 r2 =>
      cases r2
      split at h
      · rename_i ys e
        obtain ⟨a, vs, h1, h2, h3⟩ := seq_at S r1 e
        subst h1
        exact ⟨a, vs, rfl, h2, newL_ok S h3 h⟩
      · exact h.elim
  · exact h.elim
end
end Ab
set_option Elab.async false
set_option linter.all false
set_option maxRecDepth 100000
set_option maxHeartbeats 1000000
namespace Gx
open PySem PySem.Spec PyProof.Rows L2
abbrev HdK := (Value → Option Bool) × Option Nat × TS
def wK (Wout : WX) (D : Ends) : List HdK → WX
  | [] => Wout
  | (m, none, ts) :: r => fun cls d σ H => ∃ b, m cls = some b ∧ (b = true → ∀ a, H a = none → ts D σ (upd H a (xob a cls d))) ∧ (b = false → wK Wout D r cls d σ H)
  | (m, some i, ts) :: r => fun cls d σ H => ∃ b, m cls = some b ∧ (b = true → ∀ a, H a = none → ts { nx := fun σ' H' => D.nx (σ'.set i none) H', rt := D.rt, bk := fun σ' H' => D.bk (σ'.set i none) H', ct := fun σ' H' => D.ct (σ'.set i none) H' } (σ.set i (some (.ref a))) (upd H a (xob a cls d))) ∧ (b = false → wK Wout D r cls d σ H)
inductive HdsK (X : Cx) : List ExceptHandler → List HdK → Prop
  | nil : HdsK X [] []
  | one {t : Expr} {m : Value → Option Bool} {ts : TS} {b₀ : Stmt} {suite : List Stmt} {pos' : Pos} {hds : List ExceptHandler} {l : List HdK} (ht : HTest X t m)
      (hsu : ∀ (a : Addr) (pn : List (Addr × Obj)), PSs (X.suite a pn) (b₀ :: suite) ts) (r : HdsK X hds l) :
      HdsK X (.ExceptHandler (some t) none (b₀ :: suite) pos' :: hds) ((m, none, ts) :: l)
  | as {t : Expr} {n : Str} {i : Nat} {m : Value → Option Bool} {ts : TS} {b₀ : Stmt} {suite : List Stmt} {pos' : Pos} {hds : List ExceptHandler} {l : List HdK} (ht : HTest X t m) (hN : X.N.Nodup) (hi : X.N[i]? = some n) (hln : X.env.kindOf n = some .local)
      (hsu : ∀ (a : Addr) (pn : List (Addr × Obj)), PSs (X.suite a pn) (b₀ :: suite) ts) (r : HdsK X hds l) :
      HdsK X (.ExceptHandler (some t) (some n) (b₀ :: suite) pos' :: hds) ((m, some i, ts) :: l)
theorem suiteK {X : Cx} {pins : List (Addr × Obj)} {σ : L2.St} {H : Hp} {s : Shared} (I : Inv X pins σ H s) (a : Addr) : Inv (X.suite a (X.pn ++ pins)) [] σ H s :=
  ⟨I.ok.suite _ _, I.os, I.bare, I.base, I.loc, I.cell, I.free, I.freeC, fun p hp => I.pin p (by rw [List.append_nil] at hp; exact hp), I.hok, I.len⟩
theorem unsuiteK {X : Cx} {pins : List (Addr × Obj)} {σ : L2.St} {H : Hp} {s : Shared} {a : Addr} (I : Inv (X.suite a (X.pn ++ pins)) [] σ H s) (ok : X.Ok) : Inv X pins σ H s :=
  ⟨ok, I.os, I.bare, I.base, I.loc, I.cell, I.free, I.freeC, fun p hp => I.pin p (List.mem_append_left _ hp), I.hok, I.len⟩
section
variable {X : Cx} {body : List Stmt} {h₀ : ExceptHandler} {hds : List ExceptHandler} {l : List HdK} {pos : Pos} {tb : WX → TS} {Wout : WX}
theorem ps_tryK (hs : X.stack = X.env :: X.outer) (hf : X.env.frame = some X.env.locals) (hex : X.ex = []) (tk : Takes X Wout)
    (hb : ∀ (W : WX) (pn : List (Addr × Obj)) (xe : Value → Shared → Prop), Takes (X.tr pn xe) W → PassesOwn (model X.prog X.w) X.A X.env xe → PSs (X.tr pn xe) body (tb W))
    (hh : HdsK X (h₀ :: hds) l) : PS X (.Try body (h₀ :: hds) [] [] pos) (fun D σ H => tb (wK Wout D l) D σ H) := by
  refine ⟨fun pins s σ H D I h => ?_⟩
  have ok := I.ok
  have hfr : X.A.frames = some (X.env :: X.outer) := by rw [ok.frames, hs]
  refine wpAny_Try_except ?_
  refine wpAny_mono ((hb (wK Wout D l) (X.pn ++ pins) (fun e s₁ => wpAny (model X.prog X.w) X.A (noteFrame e X.env) (fun _ s₂ => wpAny (model X.prog X.w) X.A (setFlight e none) (fun _ s₃ =>
    wpAny (model X.prog X.w) X.A (handleBy e X.env (h₀ :: hds)) (SP X pins D) X.xe s₃) X.xe s₂) X.xe s₁) (fun u s' xx => ?_) PassesOwn.looking).run [] s σ H D (I.toTry _) h) (fun f s1 hsp => ?_) (fun e s1 he => he)
  · obtain ⟨a, B, sI, pins', σ', H', cls, d, rfl, J', nb, up, sky, na, os, ag, w⟩ := xx
    have J : Inv X pins σ' H' sI := J'.ofTry ok
    have sky' : Sky B (X.env :: X.outer) a (Zc cls d) X.env.locals s'.heap := by rw [← hs]; exact sky
    show wpAny (model X.prog X.w) X.A (noteFrame (.ref a) X.env) _ _ _
    refine Sky.land Zc.steady hfr hf sky' fun h3 fl3 up3 => ?_
    have notFr : ∀ {h : Heap} {o : Obj} {vs : Array Value}, h.FunFrames B (X.env :: X.outer) → h.get? a = some o → o.data = .fields vs → a ∉ frs (X.env :: X.outer) := fun {h o vs} ff e dd hm => by
      obtain ⟨_, o', e', hnf⟩ := ff.mem hm
      rw [e] at e'; cases e'
      exact hnf _ dd
    obtain ⟨oe3, vs3, he3, hz3, hd3⟩ := fl3.there
    have nfr := notFr fl3.2.2.1 he3 hd3
    have nL : a ≠ X.env.locals := fun z => nfr (List.mem_filterMap.mpr ⟨X.env, List.mem_cons_self, by rw [hf, z]⟩)
    have nF : a ∉ X.fs := fun hm => by
      obtain ⟨e, he, q⟩ := List.mem_filterMap.mp hm
      exact nfr (List.mem_filterMap.mpr ⟨e, List.mem_cons_of_mem _ he, q⟩)
    have hB : B.get? a = none := fl3.2.1
    have hsI : sI.heap.get? a = none := by
      cases e : sI.heap.get? a with
      | none => rfl
      | some o =>
        have z := nb a o e (by rw [hs]; exact nfr)
        rw [hB] at z; cases z
    have h0 : X.s_0.heap.get? a = none := by
      cases e : X.s_0.heap.get? a with
      | none => rfl
      | some o =>
        obtain ⟨o', z⟩ := J.base.there a o e (by rw [hex]; simp)
        rw [hsI] at z; cases z
    have np : ∀ p ∈ X.pn ++ pins, p.1 ≠ a := fun p hp z => by
      have q := (J.pin p hp).1
      rw [z, hsI] at q; cases q
    have hup := up.trans up3
    clear up3 he3 hz3 hd3
    have go : ∀ {hds' : List ExceptHandler} {l' : List HdK}, HdsK X hds' l' → ∀ h3 : Heap, HandSPX.FlyingZ B (X.env :: X.outer) a (Zc cls d) h3 → sI.heap.UpToSlots h3 → wK Wout D l' cls d σ' H' →
        wpAny (model X.prog X.w) X.A (handleBy (.ref a) X.env hds') (SP X pins D) X.xe { s' with heap := h3 } := by
      intro hds' l' hk
      induction hk with
      | nil =>
        intro h3 fl3 hup w
        refine wpAny_handleBy_nil ?_
        obtain ⟨k1, k2, k3, oe, vs, T, oT, ts', he, hz, hd, h1, hr⟩ := id fl3
        unfold PySem.passOn
        refine wpAny_bind (wpAny_field he hd h1 ?_)
        rw [if_neg (show ¬ ((Value.ref T == Value.none) = true) from by simp)]
        have fin : wpAny (model X.prog X.w) X.A (setFlight (.ref a) X.env.frame) (fun _ s4 => wpAny (model X.prog X.w) X.A (throw (.ref a) : Sem Flow) (SP X pins D) X.xe s4) X.xe { s' with heap := h3 } := by
          rw [hf]
          refine HandSPX.setFlight_upZ fl3 fun h4 hh4 up4 => wpAny_throw (tk _ _ ?_)
          exact ⟨a, B, sI, pins, σ', H', cls, d, rfl, J, nb, hup.trans up4, .inr (.inr (by rw [hs]; exact hh4)), na, os, ag, w⟩
        first
          | exact wpAny_bind (wpAny_pure (wpAny_bind fin))
          | exact wpAny_bind fin
      | @one t m ts b₀ suite pos' hds2 l2 ht hsu r ih =>
        intro h3 fl3 hup w
        obtain ⟨b, hb1, hyes, hno⟩ := w
        refine wpAny_handleBy_cons (codeAny_handlers_test ?_) (by intro q; cases q)
        have J3 : Inv X pins σ' H' { s' with heap := h3 } := J.landed nb fl3.1 hup os ag
        obtain ⟨oe3, vs3, he3, hz3, hd3⟩ := fl3.there
        have S3 := J3.suite he3 hd3 na nL nF
        refine ht a oe3 _ _ _ _ _ cls b _ _ S3 hz3.1 hb1 fun h5 k5 => ?_
        have fl5 := fly_on fl3 k5
        have up5 : sI.heap.UpToSlots h5 := hup.trans (Heap.UpToSlots.of_keeps k5)
        cases b with
        | true =>
          refine codeAny_handlers_suite ?_
          refine HandSPX.lands_againZ fl5 fun h4 fl4 up4 => ?_
          have J4 : Inv X pins σ' H' { s' with heap := h4 } := J.landed nb fl4.1 (up5.trans up4) os ag
          obtain ⟨oe4, vs4, he4, hz4, hd4⟩ := fl4.there
          have S4 := suiteK (inv_track J4 he4 hz4 hd4 na h0 nL np) a
          refine wpAny_mono ((hsu a (X.pn ++ pins)).run [] _ _ _ _ S4 (hyes rfl a na)) (fun f s6 hsp => ?_) (fun _ _ z => False.elim z)
          cases f with
          | next =>
            obtain ⟨σ6, H6, S6, q6⟩ := hsp
            exact ⟨_, _, unsuiteK S6 ok, q6⟩
          | brk =>
            obtain ⟨σ6, H6, S6, q6⟩ := hsp
            exact ⟨_, _, unsuiteK S6 ok, q6⟩
          | cont =>
            obtain ⟨σ6, H6, S6, q6⟩ := hsp
            exact ⟨_, _, unsuiteK S6 ok, q6⟩
          | ret u =>
            obtain ⟨v6, σ6, H6, S6, r6, q6⟩ := hsp
            exact ⟨_, _, _, unsuiteK S6 ok, r6, q6⟩
        | false =>
          show wpAny _ X.A (handleBy (.ref a) X.env hds2) _ _ _
          exact ih h5 fl5 up5 (hno rfl)
      | @as t n i m ts b₀ suite pos' hds2 l2 ht hN hi hln hsu r ih =>
        intro h3 fl3 hup w
        obtain ⟨b, hb1, hyes, hno⟩ := w
        refine wpAny_handleBy_cons (codeAny_handlers_test ?_) (by intro q; cases q)
        have J3 : Inv X pins σ' H' { s' with heap := h3 } := J.landed nb fl3.1 hup os ag
        obtain ⟨oe3, vs3, he3, hz3, hd3⟩ := fl3.there
        have S3 := J3.suite he3 hd3 na nL nF
        refine ht a oe3 _ _ _ _ _ cls b _ _ S3 hz3.1 hb1 fun h5 k5 => ?_
        have fl5 := fly_on fl3 k5
        have up5 : sI.heap.UpToSlots h5 := hup.trans (Heap.UpToSlots.of_keeps k5)
        cases b with
        | true =>
          refine codeAny_handlers_suite_as ?_
          refine HandSPX.lands_againZ fl5 fun h4 fl4 up4 => ?_
          have J4 : Inv X pins σ' H' { s' with heap := h4 } := J.landed nb fl4.1 (up5.trans up4) os ag
          obtain ⟨oe4, vs4, he4, hz4, hd4⟩ := fl4.there
          have S4 := suiteK (inv_track J4 he4 hz4 hd4 na h0 nL np) a
          refine store_ok (X := X.suite a (X.pn ++ pins)) (v := .ref a) S4 hN hi (.inl hln) rfl (fun s5 S5 => ?_) (.inr hln)
          refine wpAny_mono ((hsu a (X.pn ++ pins)).run [] s5 _ _ _ S5 (hyes rfl a na)) (fun f s6 hsp => ?_) (fun _ _ z => False.elim z)
          have end_ : ∀ {σ6 : L2.St} {H6 : Hp} {Q : Shared → Prop}, Inv (X.suite a (X.pn ++ pins)) [] σ6 H6 s6 → (∀ s7, Inv X pins (σ6.set i none) H6 s7 → Q s7) →
              wpAny (model X.prog X.w) X.A (do bindName X.env n .none; unbindBehindTheSuite X.env n pos') (fun _ s7 => Q s7) X.xe s6 := fun {σ6 H6 Q} S6 hq => gone_ok (unsuiteK S6 ok) hN hi hln hq
          cases f with
          | next =>
            obtain ⟨σ6, H6, S6, q6⟩ := hsp
            exact end_ S6 fun s7 J7 => ⟨_, _, J7, q6⟩
          | brk =>
            obtain ⟨σ6, H6, S6, q6⟩ := hsp
            exact end_ S6 fun s7 J7 => ⟨_, _, J7, q6⟩
          | cont =>
            obtain ⟨σ6, H6, S6, q6⟩ := hsp
            exact end_ S6 fun s7 J7 => ⟨_, _, J7, q6⟩
          | ret u =>
            obtain ⟨v6, σ6, H6, S6, r6, q6⟩ := hsp
            exact end_ S6 fun s7 J7 => ⟨_, _, _, J7, r6, q6⟩
        | false =>
          show wpAny _ X.A (handleBy (.ref a) X.env hds2) _ _ _
          exact ih h5 fl5 up5 (hno rfl)
    exact go hh _ fl3 hup w
  · cases f with
    | next =>
      obtain ⟨σ', H', J', q⟩ := hsp
      exact wpAny_execs_nil ⟨σ', H', J'.ofTry ok, q⟩
    | brk =>
      obtain ⟨σ', H', J', q⟩ := hsp
      exact ⟨σ', H', J'.ofTry ok, q⟩
    | cont =>
      obtain ⟨σ', H', J', q⟩ := hsp
      exact ⟨σ', H', J'.ofTry ok, q⟩
    | ret u =>
      obtain ⟨v, σ', H', J', r, q⟩ := hsp
      exact ⟨v, σ', H', J'.ofTry ok, r, q⟩
end
end Gx
set_option Elab.async false
set_option linter.all false
set_option maxRecDepth 100000
set_option maxHeartbeats 1000000
namespace Ab
open PySem PySem.Spec PyProof.Rows L2
open Classical
noncomputable section
/-- a fact of each of a list -/
inductive All {α : Type} (P : α → Prop) : List α → Prop
  | nil : All P []
  | cons {a : α} {l : List α} (h : P a) (r : All P l) : All P (a :: l)
theorem All.at {α : Type} {P : α → Prop} : ∀ {l : List α}, All P l → ∀ a ∈ l, P a
  | _, .nil, a, h => by cases h
  | _, .cons h r, a, m => by
    rcases List.mem_cons.mp m with rfl | m
    · exact h
    · exact All.at r a m
def lookA (f : Str) : List (Str × AV) → Option AV
  | [] => none
  | (g, v) :: r => if g = f then some v else lookA f r
def putA (f : Str) (v : AV) : List (Str × AV) → List (Str × AV)
  | [] => [(f, v)]
  | (g, x) :: r => if g = f then (g, v) :: r else (g, x) :: putA f v r
section
variable {W : Wl} {w : Wd} {s : Sto}
theorem look_rel {f : Str} : ∀ {fs : List (Str × AV)} {gs : List (Str × V)}, RelF W w fs gs → (∀ v, lookA f fs = some v → ∃ vc, gs.lookup f = some vc ∧ Rel W w v vc) ∧ (lookA f fs = none → gs.lookup f = none)
  | _, _, .nil => ⟨fun v h => (by cases h), fun _ => rfl⟩
  | (g, x) :: r, (g', y) :: r', .cons h t => by
    obtain ⟨e, hr⟩ := h
    cases (show g = g' from e)
    obtain ⟨t1, t2⟩ := look_rel (f := f) t
    by_cases hg : g = f
    · subst hg
      refine ⟨fun v h => ?_, fun h => ?_⟩
      · have h : (if g = g then some x else _) = some v := h
        rw [if_pos rfl] at h
        cases h
        exact ⟨y, by simp, hr⟩
      · have h : (if g = g then some x else _) = none := h
        rw [if_pos rfl] at h
        cases h
    · have hb : (f == g) = false := beq_eq_false_iff_ne.mpr (Ne.symm hg)
      refine ⟨fun v h => ?_, fun h => ?_⟩
      · have h : (if g = f then some x else lookA f r) = some v := h
        rw [if_neg hg] at h
        obtain ⟨vc, h1, h2⟩ := t1 v h
        exact ⟨vc, by rw [List.lookup_cons, hb]; exact h1, h2⟩
      · have h : (if g = f then some x else lookA f r) = none := h
        rw [if_neg hg] at h
        rw [List.lookup_cons, hb]; exact t2 h
end
def insAt (s : Sto) : AV → Option (String × List (Str × AV))
  | .obj i => match s.c i with | .ins c fs => some (c, fs) | _ => none
  | _ => none
theorem ins_at {W : Wl} {w : Wd} {s : Sto} {x : AV} {v : V} {c : String} {fs : List (Str × AV)} (S : Sim W w s) (r : Rel W w x v) (h : insAt s x = some (c, fs)) :
    ∃ i dx gs, x = .obj i ∧ i < s.n ∧ v = .ref (w.m i) ∧ w.H (w.m i) = some (.ins (W.κ c) dx gs) ∧ c ∈ W.live ∧ RelF W w fs gs := by
  cases r with
  | @obj i hi =>
    unfold insAt at h
    simp only at h
    split at h
    · rename_i c' fs' e
      cases h
      obtain ⟨o, h1, h2, h3, h4⟩ := cell_at S (.obj hi) e
      cases h4 with
      | ins hc r => exact ⟨i, _, _, rfl, h1, h2, h3, hc, r⟩
    · cases h
  | _ => cases h
def gFld (cs : List String) (f : Str) (x : AV) (s : Sto) : Res AV := match insAt s x with | some (c, fs) => if c ∈ cs then (match lookA f fs with | some v => .ok v s | none => .stuck) else .stuck | none => .stuck
def aFld (cs : List String) (f : Str) (fa : AE) : AE := aUn (gFld cs f) fa
section
variable {W : Wl} {E : L2.St → XK} {ta tb : TE} {fa fb : AE} {tr : TA} {fr : AA}
/-- o.f = e -/
def setF (cs : List String) (f : Str) (x y : AV) (s : Sto) : Option Sto := match x with | .obj i => (match s.c i with | .ins c fs => if c ∈ cs ∧ fs.length < 1000 then some (s.set i (.ins c (putA f y fs))) else none | _ => none) | _ => none
def oNx (σ : ASt) : Option Sto → SRes
  | some s => .nx σ s
  | none => .stuck
@[simp] theorem oNx_some {σ : ASt} {s : Sto} : oNx σ (some s) = .nx σ s := rfl
def aSFld (cs : List String) (f : Str) (fo fe : AE) : AS := fun σ s => (fe σ s).st σ fun y s1 => (fo σ s1).st σ fun x s2 => oNx σ (setF cs f x y s2)
def noErr {α : Type} : Res α → Res α
  | .ok a s => .ok a s
  | _ => .stuck
@[simp] theorem noErr_ok {α : Type} {a : α} {s : Sto} : noErr (Res.ok a s) = .ok a s := rfl
theorem noErr_post {α : Type} {r : Res α} {P : α → Sto → Prop} {R R' : String → List Str → List AV → Sto → Prop} (h : (noErr r).Post P R) : r.Post P R' := by
  cases r with
  | ok => exact h
  | err => exact (show False from h).elim
  | stuck => exact h
def clsIs (s : Sto) (x : AV) (c : String) (m : Str) : Bool := match insAt s x with | some (d, fs) => (decide (d = c)) && (lookA m fs).isNone | none => false
def aMeth (c : String) (m : Str) (n : Nat) (F : List AV → Sto → Res AV) (dvs : List AV) (fa : AE) (fr : AA) : AE := fun σ s => (fa σ s).bind fun x s1 => if clsIs s1 x c m = true then (fr σ s1).bind fun xs s2 => if (x :: (xs ++ dvs)).length = n then F (x :: (xs ++ dvs)) s2 else .stuck else .stuck
def isI (s : Sto) (x : AV) (c : String) : Bool := match insAt s x with | some (d, _) => decide (d = c) | none => false
def aProp (c : String) (F : List AV → Sto → Res AV) (fa : AE) : AE := fun σ s => (fa σ s).bind fun x s1 => if isI s1 x c = true then noErr (F [x] s1) else .stuck
/-- C(..) -/
def aMake (c : String) (n : Nat) (F : List AV → Sto → Res AV) (dvs : List AV) (fr : AA) : AE := fun σ s => (fr σ s).bind fun xs s1 => if (AV.obj s1.n :: (xs ++ dvs)).length = n then (F (.obj s1.n :: (xs ++ dvs)) (s1.new (.ins c []))).bind fun v s2 => if isNon v = true then .ok (.obj s1.n) s2 else .stuck else .stuck
theorem DE.make {c : String} {n : Nat} {F : List AV → Sto → Res AV} {Ek : XK} {dvs : List AV} {dcs : List V} (hd : ∀ w, RelL W w dvs dcs) (hl : c ∈ W.live) (hr : DA W (fun _ => Ek) tr fr) :
    DE W (fun _ => Ek) (tMake (W.κ c) (spF W n F) dcs Ek tr) (aMake c n F dvs fr) := fun w s σ σc Q S R h => by
  refine hr w s σ σc _ S R ((post_bind_ok h).mono (fun xs s1 h1 w1 vs e1 S1 r1 => ?_) fun _ _ _ _ z => z)
  split at h1
  · rename_i hn
    intro x dx hx hdx ne
    have g : ∀ a u, w1.H a = some u → upd (upd w1.H dx (.own x)) x (.ins (W.κ c) dx []) a = some u := fun a u z => by
      rw [upd_ne (ne_of_none z hx), upd_ne (ne_of_none z hdx)]; exact z
    have e2 : Ext w1 (w1.new x (upd (upd w1.H dx (.own x)) x (.ins (W.κ c) dx []))) := .new g
    have S2 : Sim W (w1.new x (upd (upd w1.H dx (.own x)) x (.ins (W.κ c) dx []))) (s1.new (.ins c [])) := S1.new hx g upd_same (.ins hl .nil)
    refine ⟨w1.new x (upd (upd w1.H dx (.own x)) x (.ins (W.κ c) dx [])), _, _, rfl, S2, .cons (Rel.new x _ S1.n) ((r1.mono e2).append (hd _)), hn, (post_bind_ok h1).mono (fun v s3 h3 w3 vc e3 S3 r3 => ?_) fun _ _ _ _ z => (z.mono e1).mono e2⟩
    split at h3
    · rename_i hv
      rw [isNon_rel r3, decide_eq_true_eq] at hv
      refine ⟨hv, h3 w3 _ (e1.trans (e2.trans e3)) S3 ?_⟩
      exact (Rel.new x _ S1.n).mono e3
    · exact (show False from h3).elim
  · exact (show False from h1).elim
/-- cls(..), the class in a slot -/
def aMakeV (i : Nat) (c : String) (n : Nat) (F : List AV → Sto → Res AV) (fr : AA) : AE := fun σ s => match σ[i]? with | some (some (.cls d)) => if d = c then aMake c n F [] fr σ s else .stuck | _ => .stuck
def isCls (c : String) : AV → Bool
  | .cls d => decide (d = c)
  | _ => false
/-- C.m(..), m static -/
def aSMeth (c : String) (n : Nat) (F : List AV → Sto → Res AV) (fa : AE) (fr : AA) : AE := fun σ s => (fa σ s).bind fun x s1 => if isCls c x = true then (fr σ s1).bind fun xs s2 => if (xs ++ []).length = n then F (xs ++ []) s2 else .stuck else .stuck
/-- C.m(..), m a class method -/
def aCMeth (c : String) (n : Nat) (F : List AV → Sto → Res AV) (fa : AE) (fr : AA) : AE := fun σ s => (fa σ s).bind fun x s1 => if isCls c x = true then (fr σ s1).bind fun xs s2 => if (AV.cls c :: (xs ++ [])).length = n then F (.cls c :: (xs ++ [])) s2 else .stuck else .stuck
def gAppend (x : AV) (ys : List AV) (s : Sto) : Res AV := match x, ys with
  | .obj i, [y] => (match s.c i with | .lst xs => if xs.length < sizeLine then .ok .non (s.set i (.lst (xs ++ [y]))) else .stuck | _ => .stuck)
  | _, _ => .stuck
theorem gAppend_obj {i : Nat} {y : AV} {xs : List AV} {s : Sto} (e : s.c i = .lst xs) (h : xs.length < sizeLine) : gAppend (.obj i) [y] s = .ok .non (s.set i (.lst (xs ++ [y]))) := by
  unfold gAppend; simp only [e]; exact if_pos h
def isSeqL (s : Sto) (x : AV) : Bool := (lstOf s x).isSome
theorem isSeqL_obj {i : Nat} {xs : List AV} {s : Sto} (e : s.c i = .lst xs) : isSeqL s (.obj i) = true := by unfold isSeqL; simp only [lstOf_obj e]; rfl
def aBM (g : AV → List AV → Sto → Res AV) (fa : AE) (fr : AA) : AE := fun σ s => (fa σ s).bind fun x s1 => if isSeqL s1 x = true then (fr σ s1).bind fun ys s2 => g x ys s2 else .stuck
def NEM (g : AV → List AV → Sto → Res AV) : Prop := ∀ x ys s c ns vs s', g x ys s ≠ .err c ns vs s'
def DM (W : Wl) (r : V → List V → Hp → VK → Prop) (g : AV → List AV → Sto → Res AV) : Prop := ∀ (w : Wd) (s : Sto) (x : AV) (ys : List AV) (v : V) (us : List V) (Q : VK), Sim W w s → Rel W w x v → RelL W w ys us → (g x ys s).Post (OkP W w Q) (fun _ _ _ _ => False) → r v us w.H Q
/-- a method of a list -/
theorem DE.bm {r : V → List V → Hp → VK → Prop} {g : AV → List AV → Sto → Res AV} (hr : DM W r g) (hn : NEM g) (ha : DE W E ta fa) (hb : DA W E tr fr) : DE W E (tBM W.K "list" r ta tr) (aBM g fa fr) := fun w s σ σc Q S R h => by
  refine ha w s σ σc _ S R ((post_bind_ok h).mono (fun x s1 h1 w1 v e1 S1 r1 => ?_) fun _ _ _ _ z => z)
  split at h1
  · rename_i hl
    refine ⟨?_, hb w1 s1 σ σc _ S1 (R.mono e1) ((post_bind_ok h1).mono (fun ys s2 h2 w2 us e2 S2 r2 => ?_) fun _ _ _ _ z => z.mono e1)⟩
    · unfold isSeqL at hl
      obtain ⟨xs, e⟩ := Option.isSome_iff_exists.mp hl
      obtain ⟨a, vs, rfl, k2, k3⟩ := lst_at S1 r1 e
      exact .inl ⟨rfl, vs, k2⟩
    · refine hr w2 s2 x ys v us Q S2 (r1.mono e2) r2 ?_
      cases hh : g x ys s2 with
      | ok a s3 => rw [hh] at h2; exact OkP.mono (e1.trans e2) h2
      | err c ns vs s3 => exact absurd hh (hn _ _ _ _ _ _ _)
      | stuck => rw [hh] at h2; exact h2
  · exact (show False from h1).elim
theorem NEM.append : NEM gAppend := fun x y s c ns vs s' h => by 
  unfold gAppend at h
  repeat' split at h
  all_goals first | cases h | (unfold newL at h; cases h)
theorem DM.append : DM W rAppend gAppend := fun w s x ys v us Q S rx ry h => by
  unfold gAppend at h
  split at h
  · split at h
    · rename_i i y _ xs e
      split at h
      · rename_i hl
        obtain ⟨vs, i1, i2, i3, i4⟩ := lstO_at S rx e
        cases ry with
        | @cons _ u _ _ r1 r2 =>
          cases r2
          refine ⟨_, vs, u, i2, rfl, i3, by rw [← i4.length]; exact hl, ?_⟩
          exact wr_ok S i1 (.lst (i4.append (.cons r1 .nil))) fun w' e' S' => h w' .non e' S' .non
      · exact h.elim
    · exact h.elim
  · exact h.elim
/-- x[i] = v, a list -/
def setL (x i y : AV) (s : Sto) : Option Sto := match x, i with | .obj k, .int j => (match s.c k with | .lst xs => (match ixN xs.length j with | some n => some (s.set k (.lst (xs.set n y))) | none => none) | _ => none) | _, _ => none
theorem setL_obj {k : Nat} {j : Int} {n : Nat} {y : AV} {xs : List AV} {s : Sto} (e : s.c k = .lst xs) (h : ixN xs.length j = some n) : setL (.obj k) (.int j) y s = some (s.set k (.lst (xs.set n y))) := by
  unfold setL; simp only [e, h]
def toKey : AV → Option Key
  | .int i => some (.inl i)
  | .str z => some (.inr z)
  | _ => none
theorem key_rel {w : Wd} {x : AV} {v : V} {k : Key} (r : Rel W w x v) (h : toKey x = some k) : v = kV k := by
  cases r <;> cases h <;> rfl
def valA (kvs : List (Key × AV)) (k : Key) : Option AV := match kvs with
  | [] => none
  | (j, v) :: r => if j = k then some v else valA r k
def putKA (kvs : List (Key × AV)) (k : Key) (v : AV) : List (Key × AV) :=
  if (kvs.any fun kv => decide (kv.1 = k)) = true then kvs.map (fun kv => if kv.1 = k then (kv.1, v) else kv) else kvs ++ [(k, v)]
theorem val_rel {w : Wd} {k : Key} : ∀ {fs : List (Key × AV)} {gs : List (Key × V)}, RelK W w fs gs → ∀ v, valA fs k = some v → ∃ vc, valV gs k = some vc ∧ Rel W w v vc
  | _, _, .nil, v, h => by cases h
  | (j, x) :: r, (j', y) :: r', .cons h t, v, e => by
    obtain ⟨ej, hr⟩ := h
    cases (show j = j' from ej)
    have e : (if j = k then some x else valA r k) = some v := e
    by_cases hj : j = k
    · rw [if_pos hj] at e
      cases e
      exact ⟨y, valV_pos hj, hr⟩
    · rw [if_neg hj] at e
      obtain ⟨vc, h1, h2⟩ := val_rel t v e
      exact ⟨vc, by rw [valV_neg hj]; exact h1, h2⟩
theorem any_rel {w : Wd} {k : Key} : ∀ {fs : List (Key × AV)} {gs : List (Key × V)}, RelK W w fs gs → (fs.any fun kv => decide (kv.1 = k)) = (gs.any fun kv => decide (kv.1 = k))
  | _, _, .nil => rfl
  | (j, x) :: r, (j', y) :: r', .cons h t => by
    cases (show j = j' from h.1)
    rw [List.any_cons, List.any_cons, any_rel t]
theorem mapK_rel {w : Wd} {k : Key} {x : AV} {v : V} (hx : Rel W w x v) : ∀ {fs : List (Key × AV)} {gs : List (Key × V)}, RelK W w fs gs → RelK W w (fs.map fun kv => if kv.1 = k then (kv.1, x) else kv) (gs.map fun kv => if kv.1 = k then (kv.1, v) else kv)
  | _, _, .nil => .nil
  | (j, y) :: r, (j', u) :: r', .cons h t => by
    cases (show j = j' from h.1)
    rw [List.map_cons, List.map_cons]
    refine .cons ?_ (mapK_rel hx t)
    by_cases hj : j = k
    · simp only [if_pos hj]
      exact ⟨trivial, hx⟩
    · simp only [if_neg hj]
      exact ⟨trivial, h.2⟩
theorem RelK.append {w : Wd} : ∀ {fs hs : List (Key × AV)} {gs ks : List (Key × V)}, RelK W w fs gs → RelK W w hs ks → RelK W w (fs ++ hs) (gs ++ ks)
  | _, _, _, _, .nil, h => h
  | _, _, _, _, .cons h r, k => .cons h (RelK.append r k)
theorem putK_rel {w : Wd} {k : Key} {x : AV} {v : V} (hx : Rel W w x v) {fs : List (Key × AV)} {gs : List (Key × V)} (r : RelK W w fs gs) : RelK W w (putKA fs k x) (putK gs k v) := by
  unfold putKA putK
  rw [any_rel r]
  split
  · exact mapK_rel hx r
  · exact r.append (.cons ⟨rfl, hx⟩ .nil)
def gDGet (x y : AV) (s : Sto) : Res AV := match x, toKey y with | .obj i, some k => (match s.c i with | .dic kvs => (match valA kvs k with | some v => .ok v s | none => .stuck) | _ => .stuck) | _, _ => .stuck
theorem gDGet_obj {i : Nat} {y v : AV} {k : Key} {kvs : List (Key × AV)} {s : Sto} (e : s.c i = .dic kvs) (hk : toKey y = some k) (h : valA kvs k = some v) : gDGet (.obj i) y s = .ok v s := by
  unfold gDGet; simp only [hk, e, h]
theorem DE.dget (ha : DE W E ta fa) (hb : DE W E tb fb) : DE W E (tDGet ta tb) (aOp gDGet fa fb) := fun w s σ σc Q S R h => by
  refine ha w s σ σc _ S R ((post_bind_ok h).mono (fun x s1 h1 w1 v e1 S1 r1 => ?_) fun _ _ _ _ z => z)
  refine hb w1 s1 σ σc _ S1 (R.mono e1) ((post_bind_ok h1).mono (fun y s2 h2 w2 u e2 S2 r2 => ?_) fun _ _ _ _ z => z.mono e1)
  unfold gDGet at h2
  split at h2
  · rename_i i k hk
    split at h2
    · rename_i kvs e
      split at h2
      · rename_i z ez
        obtain ⟨o, k1, k2, k3, k4⟩ := cell_at S2 (r1.mono e2) e
        cases k4 with
        | dic r =>
          obtain ⟨vc, l, rz⟩ := val_rel r z ez
          exact ⟨_, vc, k2, .inl ⟨_, k, .inl k3, key_rel r2 hk, l.symm⟩, h2 w2 _ (e1.trans e2) S2 rz⟩
      · exact (show False from h2).elim
    · exact (show False from h2).elim
  · exact (show False from h2).elim
/-- d[y] = v -/
def setD (x y z : AV) (s : Sto) : Option Sto := match x, toKey y with | .obj i, some k => (match s.c i with | .dic kvs => if kvs.length < sizeLine then some (s.set i (.dic (putKA kvs k z))) else none | _ => none) | _, _ => none
theorem setD_obj {i : Nat} {y z : AV} {k : Key} {kvs : List (Key × AV)} {s : Sto} (e : s.c i = .dic kvs) (hk : toKey y = some k) (h : kvs.length < sizeLine) : setD (.obj i) y z s = some (s.set i (.dic (putKA kvs k z))) := by
  unfold setD; simp only [hk, e, if_pos h]
theorem setD_ok {w : Wd} {s s' : Sto} {x y z : AV} {v u t : V} (S : Sim W w s) (rx : Rel W w x v) (ry : Rel W w y u) (rz : Rel W w z t) (h : setD x y z s = some s') : ∃ a w', v = .ref a ∧ DPut w.H a u t w'.H ∧ Ext w w' ∧ Sim W w' s' := by
  unfold setD at h
  split at h
  · rename_i i k hk
    split at h
    · rename_i kvs e
      split at h
      · rename_i hl
        cases h
        obtain ⟨o, k1, k2, k3, k4⟩ := cell_at S rx e
        cases k4 with
        | @dic _ gs r =>
          refine ⟨_, { w with H := upd w.H (w.m i) (.dK (putK gs k t)) }, k2, .inl ⟨gs, k, k3, key_rel ry hk, ?_, rfl⟩, .wr S k1, S.wr k1 (.dic (putK_rel rz r))⟩
          rw [← Paired.length r]; exact hl
      · cases h
    · cases h
  · cases h
theorem setL_ok {w : Wd} {s s' : Sto} {x y z : AV} {v u t : V} (S : Sim W w s) (rx : Rel W w x v) (ry : Rel W w y u) (rz : Rel W w z t) (h : setL x y z s = some s') : ∃ p xs k j w', v = .ref p ∧ u = .int k ∧ w.H p = some (.lst xs) ∧ ixN xs.length k = some j ∧ w'.H = upd w.H p (.lst (xs.set j t)) ∧ Ext w w' ∧ Sim W w' s' := by
  unfold setL at h
  split at h
  · rename_i i k
    cases ry
    split at h
    · rename_i xs e
      split at h
      · rename_i n hn
        cases h
        obtain ⟨vs, i1, i2, i3, i4⟩ := lstO_at S rx e
        exact ⟨_, vs, k, n, { w with H := upd w.H (w.m i) (.lst (vs.set n t)) }, i2, rfl, i3, by rw [← i4.length]; exact hn, rfl, .wr S i1, S.wr i1 (.lst (i4.set rz n))⟩
      · cases h
    · cases h
  · cases h
def aDPut (fd fy fv : AE) : AS := fun σ s => (fv σ s).st σ fun z s1 => (fd σ s1).st σ fun x s2 => (fy σ s2).st σ fun y s3 => oNx σ (setD x y z s3)
theorem DS.dput {td ty tv : TE} {fd fy fv : AE} (hd : DE W E td fd) (hy : DE W E ty fy) (hv : DE W E tv fv) : DS W E (sDPut td ty tv) (aDPut fd fy fv) := fun w s σ σc D S R h => by
  refine hv w s σ σc _ S R ((exp_post R h).mono (fun z s1 h1 w1 t e1 S1 r1 => ?_) fun _ _ _ _ z => z)
  refine hd w1 s1 σ σc _ S1 (R.mono e1) ((exp_post (R.mono e1) (P.mono e1 h1)).mono (fun x s2 h2 w2 v e2 S2 r2 => ?_) fun _ _ _ _ z => z)
  refine hy w2 s2 σ σc _ S2 ((R.mono e1).mono e2) ((exp_post ((R.mono e1).mono e2) (P.mono e2 h2)).mono (fun y s3 h3 w3 u e3 S3 r3 => ?_) fun _ _ _ _ z => z)
  cases e : setD x y z s3 with
  | none => rw [e] at h3; exact (show False from h3).elim
  | some s4 =>
    rw [e] at h3
    obtain ⟨a, w4, k1, k2, k3, k4⟩ := setD_ok S3 (r2.mono e3) r3 ((r1.mono e2).mono e3) e
    exact ⟨a, w4.H, k1, k2, h3 w4 σc (e3.trans k3) k4 ((((R.mono e1).mono e2).mono e3).mono k3)⟩
/-- a subscript among targets -/
def agSub (st : AV → AV → AV → Sto → Option Sto) (fo fi : AE) : AV → AS := fun z σ s => match (fo σ s).bind fun x s1 => (fi σ s1).bind fun y s2 => (match st x y z s2 with | some s3 => .ok .non s3 | none => .stuck : Res AV) with | .ok _ s3 => .nx σ s3 | _ => .stuck
theorem agSub_eq {st : AV → AV → AV → Sto → Option Sto} {fo fi : AE} {x y z : AV} {σ : ASt} {s s1 s2 s3 : Sto} (h1 : fo σ s = .ok x s1) (h2 : fi σ s1 = .ok y s2) (h3 : st x y z s2 = some s3) : agSub st fo fi z σ s = .nx σ s3 := by
  unfold agSub; simp only [h1, Res.bind_ok, h2, h3]
theorem Goes.sub {st : AV → AV → AV → Sto → Option Sto} {fo fi : AE} : Goes (agSub st fo fi) := fun z σ s => by
  unfold agSub
  split
  · exact .inl ⟨_, _, rfl⟩
  · exact .inr rfl
theorem DG.sub {tset : TSet} {st : AV → AV → AV → Sto → Option Sto} {to ti : TE} {fo fi : AE} (hs : ∀ (w : Wd) (s s' : Sto) (x y z : AV) (v u t : V) (G : Hp → Prop), Sim W w s → Rel W w x v → Rel W w y u → Rel W w z t → st x y z s = some s' → (∀ w', Ext w w' → Sim W w' s' → G w'.H) → tset v u t w.H G)
    (ho : DE W (fun _ _ _ _ => False) to fo) (hi : DE W (fun _ _ _ _ => False) ti fi) : DG W (gSub to ti tset) (agSub st fo fi) := fun w s σ σc z t Q S R r h => by
  have h : (match (fo σ s).bind fun x s1 => (fi σ s1).bind fun y s2 => (match st x y z s2 with | some s3 => .ok .non s3 | none => .stuck : Res AV) with | .ok _ s3 => .nx σ s3 | _ => .stuck : SRes).P W w _ _ := h
  cases e0 : fo σ s with
  | err => rw [e0] at h; exact (show False from h).elim
  | stuck => rw [e0] at h; exact (show False from h).elim
  | ok x s1 =>
    rw [e0] at h
    refine ho w s σ σc _ S R ?_
    rw [e0]
    intro w1 v e1 S1 r1
    simp only [Res.bind_ok] at h
    cases e2 : fi σ s1 with
    | err => rw [e2] at h; exact (show False from h).elim
    | stuck => rw [e2] at h; exact (show False from h).elim
    | ok y s2 =>
      rw [e2] at h
      refine hi w1 s1 σ σc _ S1 (R.mono e1) ?_
      rw [e2]
      intro w2 u e3 S2 r2
      simp only [Res.bind_ok] at h
      cases e4 : st x y z s2 with
      | none => rw [e4] at h; exact (show False from h).elim
      | some s3 =>
        rw [e4] at h
        exact hs w2 s2 s3 x y z v u t _ S2 (r1.mono e3) r2 ((r.mono e1).mono e3) e4 fun w' e' S' => h w' σc ((e1.trans e3).trans e') S' (((R.mono e1).mono e3).mono e')
theorem DG.subD {to ti : TE} {fo fi : AE} (ho : DE W (fun _ _ _ _ => False) to fo) (hi : DE W (fun _ _ _ _ => False) ti fi) : DG W (gSub to ti rSetD) (agSub setD fo fi) := DG.sub (fun w s s' x y z v u t G S rx ry rz e h => by
  obtain ⟨a, w', k1, k2, k3, k4⟩ := setD_ok S rx ry rz e
  exact ⟨a, w'.H, k1, k2, h w' k3 k4⟩) ho hi
theorem DG.subL {to ti : TE} {fo fi : AE} (ho : DE W (fun _ _ _ _ => False) to fo) (hi : DE W (fun _ _ _ _ => False) ti fi) : DG W (gSub to ti rSetL) (agSub setL fo fi) := DG.sub (fun w s s' x y z v u t G S rx ry rz e h => by
  obtain ⟨p, xs, k, j, w', k1, k2, k3, k4, k5, k6, k7⟩ := setL_ok S rx ry rz e
  refine ⟨p, xs, k, j, k1, k2, k3, k4, ?_⟩
  rw [← k5]; exact h w' k6 k7) ho hi
/-- {} and {k: v, ..} -/
def newD (kvs : List (Key × AV)) (s : Sto) : Res AV := .ok (.obj s.n) (s.new (.dic kvs))
def aDNew : AE := fun _ s => newD [] s
theorem DE.dnew : DE W E tDNewK aDNew := fun w s σ σc Q S R h p hp => by
  have g := grow_upd (o := .dK []) hp
  exact h (w.new p _) _ (.new g) (S.new hp g upd_same (.dic .nil)) (Rel.new p _ S.n)
def aPairs : List (AE × AE) → ASt → Sto → Res (List (AV × AV))
  | [], _, s => .ok [] s
  | (fk, fv) :: r, σ, s => (fk σ s).bind fun x s1 => (fv σ s1).bind fun y s2 => (aPairs r σ s2).bind fun ps s3 => .ok ((x, y) :: ps) s3
def keysA : List (AV × AV) → Option (List (Key × AV))
  | [] => some []
  | (x, y) :: r => match toKey x, keysA r with | some k, some ks => some ((k, y) :: ks) | _, _ => none
def mergeA (kvs more : List (Key × AV)) : List (Key × AV) := more.foldl (fun acc kv => putKA acc kv.1 kv.2) kvs
def aDisp (fs : List (AE × AE)) : AE := fun σ s => (aPairs fs σ (s.new (.dic []))).bind fun ps s1 => match s1.c s.n, keysA ps with | .dic [], some kvs => if kvs.length ≤ 15 then .ok (.obj s.n) (s1.set s.n (.dic (mergeA [] kvs))) else .stuck | _, _ => .stuck
inductive DPs (W : Wl) (E : L2.St → XK) : List (TE × TE) → List (AE × AE) → Prop
  | nil : DPs W E [] []
  | cons {tk tv : TE} {fk fv : AE} {ts : List (TE × TE)} {fs : List (AE × AE)} (hk : DE W E tk fk) (hv : DE W E tv fv) (r : DPs W E ts fs) : DPs W E ((tk, tv) :: ts) ((fk, fv) :: fs)
theorem DPs.run {ts : List (TE × TE)} {fs : List (AE × AE)} (d : DPs W E ts fs) : ∀ (w : Wd) (s : Sto) (σ : ASt) (σc : L2.St) (Q : List (V × V) → Hp → Prop), Sim W w s → RSt W w σ σc →
    (aPairs fs σ s).Post (fun ps s' => ∀ w' qs, Ext w w' → Sim W w' s' → Paired (fun (p : AV × AV) (q : V × V) => Rel W w' p.1 q.1 ∧ Rel W w' p.2 q.2) ps qs → Q qs w'.H) (ErrP W w (E σc)) → tPairs ts σc w.H Q := by
  induction d with
  | nil => exact fun w s σ σc Q S R h => h w [] (.refl w) S .nil
  | @cons tk tv fk fv ts fs hk hv r ih =>
    intro w s σ σc Q S R h
    refine hk w s σ σc _ S R ((post_bind_ok h).mono (fun x s1 h1 w1 v e1 S1 r1 => ?_) fun _ _ _ _ z => z)
    refine hv w1 s1 σ σc _ S1 (R.mono e1) ((post_bind_ok h1).mono (fun y s2 h2 w2 u e2 S2 r2 => ?_) fun _ _ _ _ z => z.mono e1)
    refine ih w2 s2 σ σc _ S2 ((R.mono e1).mono e2) ((post_bind_ok h2).mono (fun ps s3 h3 w3 qs e3 S3 r3 => ?_) fun _ _ _ _ z => (z.mono e1).mono e2)
    exact h3 w3 _ ((e1.trans e2).trans e3) S3 (.cons ⟨(r1.mono e2).mono e3, r2.mono e3⟩ r3)
theorem keys_rel {w : Wd} : ∀ {ps : List (AV × AV)} {qs : List (V × V)} {kvs : List (Key × AV)}, Paired (fun (p : AV × AV) (q : V × V) => Rel W w p.1 q.1 ∧ Rel W w p.2 q.2) ps qs → keysA ps = some kvs → ∃ gs : List (Key × V), qs = gs.map (fun kv => (kV kv.1, kv.2)) ∧ RelK W w kvs gs
  | _, _, _, .nil, e => by cases e; exact ⟨[], rfl, .nil⟩
  | (x, y) :: r, (v, u) :: r', _, .cons h t, e => by
    unfold keysA at e
    split at e
    · rename_i k ks e1 e2
      cases e
      obtain ⟨gs, h1, h2⟩ := keys_rel t e2
      refine ⟨(k, u) :: gs, ?_, .cons ⟨rfl, h.2⟩ h2⟩
      rw [List.map_cons, ← h1]
      rw [show v = kV k from key_rel h.1 e1]
    · cases e
theorem merge_rel {w : Wd} : ∀ {more : List (Key × AV)} {moreC : List (Key × V)} {kvs : List (Key × AV)} {gs : List (Key × V)}, RelK W w more moreC → RelK W w kvs gs → RelK W w (mergeA kvs more) (mergeK gs moreC)
  | _, _, _, _, .nil, h => h
  | (k, x) :: r, (k', v) :: r', kvs, gs, .cons h t, h2 => by
    cases (show k = k' from h.1)
    show RelK W w (mergeA (putKA kvs k x) r) (mergeK (putK gs k v) r')
    exact merge_rel t (putK_rel h.2 h2)
theorem DE.disp {ts : List (TE × TE)} {fs : List (AE × AE)} (d : DPs W E ts fs) : DE W E (tDisp ts) (aDisp fs) := fun w s σ σc Q S R h p hp => by
  have g := grow_upd (o := .dK []) hp
  have e0 : Ext w (w.new p (upd w.H p (.dK []))) := .new g
  have S0 : Sim W (w.new p (upd w.H p (.dK []))) (s.new (.dic [])) := S.new hp g upd_same (.dic .nil)
  have r0 : Rel W (w.new p (upd w.H p (.dK []))) (.obj s.n) (.ref p) := Rel.new p _ S.n
  refine d.run (w.new p (upd w.H p (.dK []))) _ σ σc _ S0 (R.mono e0) ((post_bind_ok h).mono (fun ps s1 h1 w1 qs e1 S1 r1 => ?_) fun _ _ _ _ z => z.mono e0)
  split at h1
  · rename_i kvs ec ek
    split at h1
    · rename_i hl
      obtain ⟨gs, q1, q2⟩ := keys_rel r1 ek
      obtain ⟨o, k1, k2, k3, k4⟩ := cell_at S1 (r0.mono e1) ec
      have ep : p = w1.m s.n := by cases k2; rfl
      cases k4 with
      | dic r =>
        cases r
        refine ⟨by rw [ep]; exact k3, gs, q1, by rw [← Paired.length q2]; exact hl, ?_⟩
        have S2 := S1.wr (o := .dK (mergeK [] gs)) k1 (.dic (merge_rel q2 .nil))
        have e2 := Ext.wr (o := .dK (mergeK [] gs)) S1 k1
        have r2 := (r0.mono e1).mono e2
        rw [← ep] at S2 e2
        exact h1 _ _ ((e0.trans e1).trans e2) S2 (by rw [ep] at *; exact r2)
    · exact (show False from h1).elim
  · exact (show False from h1).elim
end
end
end Ab
set_option Elab.async false
set_option linter.all false
set_option maxRecDepth 100000
set_option maxHeartbeats 1000000
namespace Ab
open PySem PySem.Spec PyProof.Rows L2
open Classical
noncomputable section
def ItW (W : Wl) (w0 : Wd) (J : It) (items : List AV) (G : Sto → Prop) : Prop :=
  ∃ (n : Nat) (GC : Hp → Prop) (Y : Nat → Hp → V → Hp → Prop), Walk J n GC Y ∧ n = items.length ∧ (∀ w s, Ext w0 w → Sim W w s → G s → GC w.H) ∧
    ∀ w s i x H', Ext w0 w → Sim W w s → G s → i < n → Y i w.H x H' → ∃ y w', items[i]? = some y ∧ w'.H = H' ∧ Ext w w' ∧ Sim W w' s ∧ Rel W w' y x
abbrev AI := ASt → Sto → Res (List AV × (Sto → Prop))
def DI (W : Wl) (E : L2.St → XK) (wi : TI) (fi : AI) : Prop := ∀ (w : Wd) (s : Sto) (σ : ASt) (σc : L2.St) (R : It → Hp → Prop), Sim W w s → RSt W w σ σc →
  (fi σ s).Post (fun p s' => ∀ w' J, Ext w w' → Sim W w' s' → ItW W w' J p.1 p.2 → R J w'.H) (ErrP W w (E σc)) → wi σc w.H R
/-- x for x in a list, a tuple, a text -/
def signs (z : Str) : List AV := z.cps.toList.map fun c => .str ⟨#[c]⟩
def iterOf (x : AV) (s1 : Sto) : Res (List AV × (Sto → Prop)) := match x with
  | .tup xs => .ok (xs, fun _ => True) s1
  | .scr xs => .ok (xs, fun _ => True) s1
  | .str z => .ok (signs z, fun _ => True) s1
  | _ => match lstOf s1 x with | some xs => .ok (xs, fun s2 => lstOf s2 x = some xs) s1 | none => .stuck
@[simp] theorem iterOf_tup {xs : List AV} {s : Sto} : iterOf (.tup xs) s = .ok (xs, fun _ => True) s := rfl
@[simp] theorem iterOf_scr {xs : List AV} {s : Sto} : iterOf (.scr xs) s = .ok (xs, fun _ => True) s := rfl
@[simp] theorem iterOf_str {z : Str} {s : Sto} : iterOf (.str z) s = .ok (signs z, fun _ => True) s := rfl
def aIter (fa : AE) : AI := fun σ s => (fa σ s).bind iterOf
def iterU (K : PySem.W.Frag) (te : TE) : TI := fun σ H R => iList K te σ H R ∨ iTup K te σ H R ∨ iStr te σ H R
theorem PI.or {X : Cx} {tg e : Expr} {w1 w2 : TI} (h1 : PI X tg e w1) (h2 : PI X tg e w2) : PI X tg e (fun σ H R => w1 σ H R ∨ w2 σ H R) := ⟨fun pins s σ H R I h => h.elim (h1.run pins s σ H R I) (h2.run pins s σ H R I)⟩
theorem itw_list {W : Wl} {w0 : Wd} {s0 : Sto} {x : AV} {a : Addr} {xs : List AV} {vs : List V} (S : Sim W w0 s0) (r : Rel W w0 x (.ref a)) (G : Sto → Prop) (hG : ∀ s, G s → lstOf s x = some xs) : ItW W w0 (Itl W.K a) xs G := by
  refine ⟨xs.length, fun H => ∃ vs, SqL W.K H a vs ∧ vs.length = xs.length, fun i H x H' => H' = H ∧ ∀ ys, SqL W.K H a ys → ys[i]? = some x, ⟨fun i H hi ⟨vs, h1, h2⟩ => ⟨vs, vs[i], h1, by simp⟩, fun H ⟨vs, h1, h2⟩ => ⟨vs, h1, Nat.le_of_eq h2⟩, fun i H x H' hi h y => y⟩, rfl, fun w s e S' g => ?_, fun w s i y H' e S' g hi hy => ?_⟩
  · obtain ⟨a', vs', k1, k2, k3⟩ := lst_at S' (r.mono e) (hG s g)
    cases k1
    exact ⟨vs', k2, k3.length.symm⟩
  · obtain ⟨a', vs', k1, k2, k3⟩ := lst_at S' (r.mono e) (hG s g)
    cases k1
    obtain ⟨rfl, h2⟩ := hy
    obtain ⟨z, z1, z2⟩ := k3.getv i y (h2 vs' k2)
    exact ⟨z, w, z1, rfl, .refl w, S', z2⟩
theorem itw_tup {W : Wl} {w0 : Wd} {a : Addr} {xs : List AV} {vs : List V} (h : SqT W.K w0.H a vs) (r : RelL W w0 xs vs) (G : Sto → Prop) : ItW W w0 (Itt W.K a) xs G := by
  refine ⟨xs.length, fun H => SqT W.K H a vs, fun i H x H' => H' = H ∧ ∀ ys, SqT W.K H a ys → ys[i]? = some x, ⟨fun i H hi h1 => ⟨vs, vs[i]'(by rw [← r.length]; exact hi), h1, by simp⟩, fun H h1 => ⟨vs, h1, Nat.le_of_eq r.length.symm⟩, fun i H x H' hi h y => y⟩, rfl, fun w s e S' g => sqt_ext e h, fun w s i y H' e S' g hi hy => ?_⟩
  obtain ⟨rfl, h2⟩ := hy
  obtain ⟨z, z1, z2⟩ := (r.mono e).getv i y (h2 vs (sqt_ext e h))
  exact ⟨z, w, z1, rfl, .refl w, S', z2⟩
theorem itw_str {W : Wl} {w0 : Wd} {z : Str} (G : Sto → Prop) : ItW W w0 (Its z) (signs z) G := by
  refine ⟨z.cps.size, fun _ => True, _, walk_str, by simp [signs], fun _ _ _ _ _ => trivial, fun w s i y H' e S' g hi hy => ?_⟩
  obtain ⟨rfl, c, h2, rfl⟩ := hy
  refine ⟨.str ⟨#[c]⟩, w, ?_, rfl, .refl w, S', .str _⟩
  unfold signs
  rw [List.getElem?_map, Array.getElem?_toList, h2]
  rfl
section
variable {W : Wl} {E : L2.St → XK} {ta tb : TE} {fa fb : AE} {tr : TA} {fr : AA} {t : TT} {ft : AT} {ts : TS} {fs : AS} {tg : TG} {g : AV → AS} {wi : TI} {fi : AI}
theorem DI.iter (ha : DE W E ta fa) : DI W E (iterU W.K ta) (aIter fa) := fun w s σ σc R S Rs h => by
  cases e : fa σ s with
  | stuck =>
    have : aIter fa σ s = .stuck := by unfold aIter; rw [e]; rfl
    rw [this] at h; exact h.elim
  | err c ns vs s1 =>
    have : aIter fa σ s = .err c ns vs s1 := by unfold aIter; rw [e]; rfl
    rw [this] at h
    exact .inl (ha w s σ σc _ S Rs (by rw [e]; exact h))
  | ok x s1 =>
    have e1 : aIter fa σ s = iterOf x s1 := by unfold aIter; rw [e]; rfl
    rw [e1] at h
    unfold iterOf at h
    split at h
    · refine .inr (.inl (ha w s σ σc _ S Rs ?_))
      rw [e]
      intro w1 v x1 S1 r1
      cases r1 with
      | @tup a _ vs k1 k2 => exact ⟨a, rfl, ⟨vs, k1⟩, h w1 _ x1 S1 (itw_tup k1 k2 _)⟩
    · refine .inl (ha w s σ σc _ S Rs ?_)
      rw [e]
      intro w1 v x1 S1 r1
      cases r1 with
      | @scr a _ vs k1 k2 => exact ⟨a, rfl, ⟨vs, k1.sql⟩, h w1 _ x1 S1 (itw_list (vs := vs) S1 (.scr k1 k2) _ fun _ _ => rfl)⟩
    · refine .inr (.inr (ha w s σ σc _ S Rs ?_))
      rw [e]
      intro w1 v x1 S1 r1
      cases r1 with
      | str => exact ⟨_, rfl, h w1 _ x1 S1 (itw_str _)⟩
    · split at h
      · rename_i xs el
        refine .inl (ha w s σ σc _ S Rs ?_)
        rw [e]
        intro w1 v x1 S1 r1
        obtain ⟨a, vs, rfl, k2, k3⟩ := lst_at S1 r1 el
        exact ⟨a, rfl, ⟨vs, k2⟩, h w1 _ x1 S1 (itw_list (vs := vs) S1 r1 _ fun _ z => z)⟩
      · exact h.elim
/-- ranges -/
def rngA (lo : Int) (n : Nat) : List AV := (List.range n).map fun i => .int (lo + (i : Nat))
def aRng1 (fr : AA) : AI := fun σ s => (fr σ s).bind fun xs s1 => match xs with | [.int j] => if -(2 ^ 62) ≤ j ∧ j < 2 ^ 62 then .ok (rngA 0 j.toNat, fun _ => True) s1 else .stuck | _ => .stuck
def aRng2 (fr : AA) : AI := fun σ s => (fr σ s).bind fun xs s1 => match xs with | [.int i, .int j] => if -(2 ^ 62) ≤ i ∧ i < 2 ^ 62 ∧ -(2 ^ 62) ≤ j ∧ j < 2 ^ 62 then .ok (rngA i (j - i).toNat, fun _ => True) s1 else .stuck | _ => .stuck
def rngC (lo c : Int) (n : Nat) : List AV := (List.range n).map fun i => .int (lo + (i : Nat) * c)
def aRng3 (fr : AA) : AI := fun σ s => (fr σ s).bind fun xs s1 => match xs with | [.int i, .int j, .int c] => if RgC i j c (Builtin.Range.rangeSize i j c).toNat then .ok (rngC i c (Builtin.Range.rangeSize i j c).toNat, fun _ => True) s1 else .stuck | _ => .stuck
theorem itw_rng {w0 : Wd} {lo : Int} {n : Nat} (G : Sto → Prop) : ItW W w0 (Itr lo n) (rngA lo n) G := by
  refine ⟨n, fun _ => True, _, walk_range, by simp [rngA], fun _ _ _ _ _ => trivial, fun w s i y H' e S' g hi hy => ?_⟩
  obtain ⟨rfl, rfl⟩ := hy
  refine ⟨.int (lo + i), w, ?_, rfl, .refl w, S', .int _⟩
  unfold rngA
  rw [List.getElem?_map, List.getElem?_range hi]
  rfl
theorem itw_rngC {w0 : Wd} {lo c : Int} {n : Nat} (G : Sto → Prop) : ItW W w0 (Itc lo c n) (rngC lo c n) G := by
  refine ⟨n, fun _ => True, _, walk_rangeC, by simp [rngC], fun _ _ _ _ _ => trivial, fun w s i y H' e S' g hi hy => ?_⟩
  obtain ⟨rfl, rfl⟩ := hy
  refine ⟨.int (lo + (i : Nat) * c), w, ?_, rfl, .refl w, S', .int _⟩
  unfold rngC
  rw [List.getElem?_map, List.getElem?_range hi]
  rfl
theorem DI.rng1 (ha : DA W E tr fr) : DI W E (iRng1 tr) (aRng1 fr) := fun w s σ σc R S Rs h => by
  refine ha w s σ σc _ S Rs ((post_bind_ok h).mono (fun xs s1 h1 w1 vs e1 S1 r1 => ?_) fun _ _ _ _ z => z)
  split at h1
  · split at h1
    · rename_i hl
      cases r1 with
      | cons r1 r2 =>
        cases r1; cases r2
        exact ⟨_, rfl, hl.1, hl.2, h1 w1 _ e1 S1 (itw_rng _)⟩
    · exact (show False from h1).elim
  · exact (show False from h1).elim
theorem DI.rng3 (ha : DA W E tr fr) : DI W E (iRng3 tr) (aRng3 fr) := fun w s σ σc R S Rs h => by
  refine ha w s σ σc _ S Rs ((post_bind_ok h).mono (fun xs s1 h1 w1 vs e1 S1 r1 => ?_) fun _ _ _ _ z => z)
  split at h1
  · split at h1
    · rename_i hl
      cases r1 with
      | cons r1 r2 =>
        cases r2 with
        | cons r2 r3 =>
          cases r3 with
          | cons r3 r4 =>
            cases r1; cases r2; cases r3; cases r4
            exact ⟨_, _, _, _, rfl, hl, h1 w1 _ e1 S1 (itw_rngC _)⟩
    · exact (show False from h1).elim
  · exact (show False from h1).elim
/-- enumerate -/
def enumA (xs : List AV) : List AV := xs.mapIdx fun i x => .tup [.int (i : Nat), x]
def aEnum (fr : AA) : AI := fun σ s => (fr σ s).bind fun xs s1 => match xs with | [x] => (match lstOf s1 x with | some ys => .ok (enumA ys, fun s2 => lstOf s2 x = some ys) s1 | none => .stuck) | _ => .stuck
theorem DI.enum (ha : DA W E tr fr) : DI W E (iEnum W.K tr) (aEnum fr) := fun w s σ σc R S Rs h => by
  refine ha w s σ σc _ S Rs ((post_bind_ok h).mono (fun xs s1 h1 w1 vs e1 S1 r1 => ?_) fun _ _ _ _ z => z)
  split at h1
  · rename_i x
    split at h1
    · rename_i ys el
      cases r1 with
      | cons r1 r2 =>
        cases r2
        obtain ⟨a, us, rfl, k2, k3⟩ := lst_at S1 r1 el
        refine ⟨a, us, rfl, k2, h1 w1 _ e1 S1 ?_⟩
        refine ⟨ys.length, fun H => ∃ vs, SqL W.K H a vs ∧ vs.length = ys.length, fun i H v H' => ∃ T x, v = .ref T ∧ H T = none ∧ H' = upd H T (.tup [.int (i : Nat), x]) ∧ ∀ xs, SqL W.K H a xs → xs[i]? = some x, ⟨fun i H hi ⟨vs, h1, h2⟩ => ⟨vs, vs[i], h1, by simp⟩, fun H ⟨vs, h1, h2⟩ => ⟨vs, h1, Nat.le_of_eq h2⟩, fun i H x H' hi h y => y⟩, by simp [enumA], fun w s e S' g => ?_, fun w s i y H' e S' g hi hy => ?_⟩
        · obtain ⟨a', vs', z1, z2, z3⟩ := lst_at S' (r1.mono e) g
          cases z1
          exact ⟨vs', z2, z3.length.symm⟩
        · obtain ⟨a', vs', z1, z2, z3⟩ := lst_at S' (r1.mono e) g
          cases z1
          obtain ⟨T, u, rfl, hT, rfl, h2⟩ := hy
          obtain ⟨z, y1, y2⟩ := z3.getv i u (h2 vs' z2)
          have gr := grow_upd (o := .tup [.int (i : Nat), u]) hT
          refine ⟨.tup [.int (i : Nat), z], _, ?_, rfl, .grow gr, S'.grow gr, .tup (.inl (.inl upd_same)) (.cons (.int _) (.cons (y2.mono (.grow gr)) .nil))⟩
          unfold enumA
          rw [List.getElem?_mapIdx, y1]
          rfl
    · exact (show False from h1).elim
  · exact (show False from h1).elim
/-- zip of two lists, or of two tuples -/
def zipA (xs ys : List AV) : List AV := (xs.zip ys).map fun p => .tup [p.1, p.2]
def aZip (fr : AA) : AI := fun σ s => (fr σ s).bind fun xs s1 => match xs with
  | [.tup a, .tup b] => .ok (zipA a b, fun _ => True) s1
  | [x, y] => (match lstOf s1 x, lstOf s1 y with | some a, some b => .ok (zipA a b, fun s2 => lstOf s2 x = some a ∧ lstOf s2 y = some b) s1 | _, _ => .stuck)
  | _ => .stuck
theorem zip_get {xs ys : List AV} {i : Nat} {x y : AV} (h1 : xs[i]? = some x) (h2 : ys[i]? = some y) : (zipA xs ys)[i]? = some (.tup [x, y]) := by
  unfold zipA
  rw [List.getElem?_map, show (xs.zip ys)[i]? = some (x, y) from List.getElem?_zip_eq_some.mpr ⟨h1, h2⟩]
  rfl
theorem DI.zip (ha : DA W E tr fr) : DI W E (RZ.iZipA W.K tr) (aZip fr) := fun w s σ σc R S Rs h => by
  refine ha w s σ σc _ S Rs ((post_bind_ok h).mono (fun xs s1 h1 w1 vs e1 S1 r1 => ?_) fun _ _ _ _ z => z)
  split at h1
  · rename_i xa xb
    cases r1 with
    | cons r1 r2 =>
      cases r2 with
      | cons r2 r3 =>
        cases r3
        cases r1 with
        | @tup a _ vs a1 a2 =>
          cases r2 with
          | @tup b _ us b1 b2 =>
            refine ⟨a, b, vs, us, rfl, .inr ⟨a1, b1, h1 w1 _ e1 S1 ?_⟩⟩
            refine ⟨min vs.length us.length, fun H => SqT W.K H a vs ∧ SqT W.K H b us, YPair (fun i => vs[i]?) (fun i => us[i]?), ?_, ?_, fun w s e S' g => ⟨sqt_ext e a1, sqt_ext e b1⟩, fun w s i y H' e S' g hi hy => ?_⟩
            · refine ⟨fun i _ hi q => ?_, fun _ q => ⟨vs, us, q.1, q.2, by omega⟩, fun i H v H' _ q y => ?_⟩
              · have h1 : i < vs.length := by omega
                have h2 : i < us.length := by omega
                exact ⟨vs, us, vs[i], us[i], q.1, q.2, by simp [h1], by simp [h2]⟩
              · obtain ⟨T, x, z, h1, h2, h3, h4, h5⟩ := y
                exact ⟨T, x, z, h1, h2, h3, h4 vs q.1, h5 us q.2⟩
            · simp [zipA, a2.length, b2.length]
            · obtain ⟨T, x, z, rfl, hT, rfl, h4, h5⟩ := hy
              obtain ⟨x', x1, x2⟩ := (a2.mono e).getv i x h4
              obtain ⟨y', y1, y2⟩ := (b2.mono e).getv i z h5
              have gr := grow_upd (o := .tup [x, z]) hT
              exact ⟨.tup [x', y'], _, zip_get x1 y1, rfl, .grow gr, S'.grow gr, .tup (.inl (.inl upd_same)) (.cons (x2.mono (.grow gr)) (.cons (y2.mono (.grow gr)) .nil))⟩
  · rename_i x y _
    split at h1
    · rename_i xa xb ea eb
      cases r1 with
      | cons r1 r2 =>
        cases r2 with
        | cons r2 r3 =>
          cases r3
          obtain ⟨a, vs, rfl, a2, a3⟩ := lst_at S1 r1 ea
          obtain ⟨b, us, rfl, b2, b3⟩ := lst_at S1 r2 eb
          refine ⟨a, b, vs, us, rfl, .inl ⟨a2, b2, h1 w1 _ e1 S1 ?_⟩⟩
          refine ⟨min xa.length xb.length, fun H => (∃ vs, SqL W.K H a vs ∧ vs.length = xa.length) ∧ ∃ us, SqL W.K H b us ∧ us.length = xb.length, fun i H v H' => ∃ T x y, v = .ref T ∧ H T = none ∧ H' = upd H T (.tup [x, y]) ∧ (∀ xs, SqL W.K H a xs → xs[i]? = some x) ∧ ∀ ys, SqL W.K H b ys → ys[i]? = some y, ?_, ?_, fun w s e S' g => ?_, fun w s i y H' e S' g hi hy => ?_⟩
          · refine ⟨fun i _ hi ⟨⟨vs, q1, q2⟩, us, q3, q4⟩ => ?_, fun _ ⟨⟨vs, q1, q2⟩, us, q3, q4⟩ => ⟨vs, us, q1, q3, by omega⟩, fun i H v H' _ q y => y⟩
            have h1 : i < vs.length := by omega
            have h2 : i < us.length := by omega
            exact ⟨vs, us, vs[i], us[i], q1, q3, by simp [h1], by simp [h2]⟩
          · simp [zipA]
          · obtain ⟨a', vs', z1, z2, z3⟩ := lst_at S' (r1.mono e) g.1
            obtain ⟨b', us', y1, y2, y3⟩ := lst_at S' (r2.mono e) g.2
            cases z1; cases y1
            exact ⟨⟨vs', z2, z3.length.symm⟩, us', y2, y3.length.symm⟩
          · obtain ⟨a', vs', z1, z2, z3⟩ := lst_at S' (r1.mono e) g.1
            obtain ⟨b', us', y1, y2, y3⟩ := lst_at S' (r2.mono e) g.2
            cases z1; cases y1
            obtain ⟨T, x, z, rfl, hT, rfl, h4, h5⟩ := hy
            obtain ⟨x', x1, x2⟩ := z3.getv i x (h4 vs' z2)
            obtain ⟨y', q1, q2⟩ := y3.getv i z (h5 us' y2)
            have gr := grow_upd (o := .tup [x, z]) hT
            exact ⟨.tup [x', y'], _, zip_get x1 q1, rfl, .grow gr, S'.grow gr, .tup (.inl (.inl upd_same)) (.cons (x2.mono (.grow gr)) (.cons (q2.mono (.grow gr)) .nil))⟩
    · exact (show False from h1).elim
  · exact (show False from h1).elim
def SRes.loop : SRes → AS → SRes
  | .nx σ s, k => k σ s
  | .ct σ s, k => k σ s
  | .bk σ s, _ => .nx σ s
  | .rt v s, _ => .rt v s
  | .err c ns vs σ s, _ => .err c ns vs σ s
  | .stuck, _ => .stuck
@[simp] theorem SRes.loop_nx {σ : ASt} {s : Sto} {f : AS} : (SRes.nx σ s).loop f = f σ s := rfl
@[simp] theorem SRes.loop_ct {σ : ASt} {s : Sto} {f : AS} : (SRes.ct σ s).loop f = f σ s := rfl
@[simp] theorem SRes.loop_bk {σ : ASt} {s : Sto} {f : AS} : (SRes.bk σ s).loop f = .nx σ s := rfl
@[simp] theorem SRes.loop_rt {v : AV} {s : Sto} {f : AS} : (SRes.rt v s).loop f = .rt v s := rfl
@[simp] theorem SRes.loop_err {c : String} {ns : List Str} {vs : List AV} {σ : ASt} {s : Sto} {f : AS} : (SRes.err c ns vs σ s).loop f = .err c ns vs σ s := rfl
@[simp] theorem SRes.loop_stuck {f : AS} : SRes.stuck.loop f = .stuck := rfl
theorem P_loop {r : SRes} {k : AS} {w : Wd} {D : Ends} (h : (r.loop k).P W w D E) (N : L2.St → Hp → Prop) (hN : ∀ w' σ σc s, Ext w w' → Sim W w' s → RSt W w' σ σc → (k σ s).P W w D E → N σc w'.H) : r.P W w { D with nx := N, ct := N, bk := D.nx } E := by
  cases r with
  | nx σ s => exact fun w' σc e S R => hN w' σ σc s e S R h
  | ct σ s => exact fun w' σc e S R => hN w' σ σc s e S R h
  | bk σ s => exact h
  | rt v s => exact h
  | err c ns vs σ s => exact h
  | stuck => exact h
def forI (G : Sto → Prop) (g : AV → AS) (b : AS) : List AV → AS
  | [] => fun σ s => if G s then .nx σ s else .stuck
  | x :: r => fun σ s => if G s then (aSeq (g x) b σ s).loop (forI G g b r) else .stuck
theorem forI_nil {G : Sto → Prop} {g : AV → AS} {b : AS} {σ : ASt} {s : Sto} (h : G s) : forI G g b [] σ s = .nx σ s := if_pos h
theorem forI_cons {G : Sto → Prop} {g : AV → AS} {b : AS} {x : AV} {r : List AV} {σ : ASt} {s : Sto} (h : G s) : forI G g b (x :: r) σ s = (aSeq (g x) b σ s).loop (forI G g b r) := if_pos h
def aFor (fi : AI) (g : AV → AS) (b : AS) : AS := fun σ s => (fi σ s).st σ fun p s1 => forI p.2 g b p.1 σ s1
theorem goes_nx {r : SRes} {w : Wd} {D : Ends} {k : AS} (h : (r.thn k).P W w D E) (g : (∃ σ' s', r = .nx σ' s') ∨ r = .stuck) (Q : L2.St → Hp → Prop) (hQ : ∀ w' σ σc s, Ext w w' → Sim W w' s → RSt W w' σ σc → (k σ s).P W w' D E → Q σc w'.H) : r.P W w ⟨Q, fun _ _ => False, fun _ _ => False, fun _ _ => False⟩ (fun _ _ _ _ => False) := by
  rcases g with ⟨σ', s', rfl⟩ | rfl
  · exact fun w' σc e S R => hQ w' σ' σc s' e S R (P.mono e h)
  · exact h
theorem DS.forS (hi : DI W E wi fi) (hg : DG W tg g) (hn : Goes g) (hb : DS W E ts fs) : DS W E (tFor wi tg ts) (aFor fi g fs) := fun w s σ σc D S R h => by
  refine hi w s σ σc _ S R ((exp_post R h).mono (fun p s1 h1 w1 J e1 S1 it => ?_) fun _ _ _ _ z => z)
  obtain ⟨items, G⟩ := p
  obtain ⟨n, GC, Y, wk, hn', hG, hY⟩ := it
  simp only at hn' hG hY h1
  refine for_it wk (fun i σc H => ∃ w' s' σ', H = w'.H ∧ Ext w1 w' ∧ Sim W w' s' ∧ RSt W w' σ' σc ∧ (forI G g fs (items.drop i) σ' s').P W w' D E) ⟨w1, s1, σ, rfl, .refl w1, S1, R.mono e1, by rw [List.drop_zero]; exact P.mono e1 h1⟩ ?_ ?_ ?_
  · rintro i σc' H hi ⟨w', s', σ', rfl, e', S', R', h'⟩
    refine hG w' s' e' S' ?_
    refine Classical.byContradiction fun ng => ?_
    cases hd : items.drop i with
    | nil => rw [hd] at h'; exact (show False from by unfold forI at h'; rw [if_neg ng] at h'; exact h')
    | cons x r => rw [hd] at h'; exact (show False from by unfold forI at h'; rw [if_neg ng] at h'; exact h')
  · rintro i x σc' H H' hi ⟨w', s', σ', rfl, e', S', R', h'⟩ hy
    have hg' : G s' := Classical.byContradiction fun ng => by
      cases hd : items.drop i with
      | nil => rw [hd] at h'; exact (show False from by unfold forI at h'; rw [if_neg ng] at h'; exact h')
      | cons x r => rw [hd] at h'; exact (show False from by unfold forI at h'; rw [if_neg ng] at h'; exact h')
    obtain ⟨y, w2, q1, rfl, e2, S2, r2⟩ := hY w' s' i x H' e' S' hg' hi hy
    have hd : items.drop i = y :: items.drop (i + 1) := by
      obtain ⟨hlt, q⟩ := List.getElem?_eq_some_iff.mp q1
      rw [List.drop_eq_getElem_cons hlt, q]
    rw [hd, forI_cons hg'] at h'
    have R2 := R'.mono e2
    refine hg w2 s' σ' σc' y x _ S2 R2 r2 ?_
    have h2 := P.mono e2 h'
    have h3 := P_loop h2 (fun σc H => ∃ w3 s3 σ3, H = w3.H ∧ Ext w1 w3 ∧ Sim W w3 s3 ∧ RSt W w3 σ3 σc ∧ (forI G g fs (items.drop (i + 1)) σ3 s3).P W w3 D E) (fun w3 σ3 σc3 s3 e3 S3 R3 k3 => ⟨w3, s3, σ3, rfl, (e'.trans e2).trans e3, S3, R3, P.mono e3 k3⟩)
    exact goes_nx h3 (hn y σ' s') _ fun w3 σ3 σc3 s3 e3 S3 R3 k3 => hb w3 s3 σ3 σc3 _ S3 R3 k3
  · rintro σc' H ⟨w', s', σ', rfl, e', S', R', h'⟩
    rw [hn', List.drop_length] at h'
    unfold forI at h'
    split at h'
    · exact h' w' σc' (.refl w') S' R'
    · exact (show False from h').elim
def whileN (c : AT) (b : AS) : Nat → AS
  | 0 => fun _ _ => .stuck
  | k + 1 => fun σ s => (c σ s).st σ fun r s1 => if r = true then (b σ s1).loop (whileN c b k) else .nx σ s1
def aWhile (c : AT) (b : AS) : AS := fun σ s => if h : ∃ k, whileN c b k σ s ≠ .stuck then whileN c b (Classical.choose h) σ s else .stuck
theorem loop_mono {r : SRes} {k1 k2 : AS} (h : ∀ σ s, k1 σ s ≠ .stuck → k2 σ s = k1 σ s) (n : r.loop k1 ≠ .stuck) : r.loop k2 = r.loop k1 := by
  cases r with
  | nx σ s => exact h σ s n
  | ct σ s => exact h σ s n
  | _ => rfl
theorem whileN_succ {c : AT} {b : AS} : ∀ (k : Nat) (σ : ASt) (s : Sto), whileN c b k σ s ≠ .stuck → whileN c b (k + 1) σ s = whileN c b k σ s
  | 0, σ, s, h => absurd rfl h
  | k + 1, σ, s, h => by
    have h' : (c σ s).st σ (fun r s1 => if r = true then (b σ s1).loop (whileN c b k) else .nx σ s1) ≠ .stuck := h
    show (c σ s).st σ (fun r s1 => if r = true then (b σ s1).loop (whileN c b (k + 1)) else .nx σ s1) = (c σ s).st σ (fun r s1 => if r = true then (b σ s1).loop (whileN c b k) else .nx σ s1)
    cases e : c σ s with
    | ok r s1 =>
      rw [e] at h'
      simp only [Res.st_ok] at h' ⊢
      cases r with
      | true =>
        simp only [if_pos] at h' ⊢
        exact loop_mono (whileN_succ k) h'
      | false => rfl
    | err => rfl
    | stuck => rfl
theorem DS.whileS (hc : DT W E t ft) (hb : DS W E ts fs) : DS W E (tWhile t ts) (aWhile ft fs) := fun w s σ σc D S R h => by
  unfold aWhile at h
  split at h
  · rename_i hex
    refine ⟨fun m σc H => ∃ w' s' σ', H = w'.H ∧ Ext w w' ∧ Sim W w' s' ∧ RSt W w' σ' σc ∧ (whileN ft fs m σ' s').P W w' D E, ⟨_, w, s, σ, rfl, .refl w, S, R, h⟩, ?_⟩
    rintro m σc' H ⟨w', s', σ', rfl, e', S', R', h'⟩
    cases m with
    | zero => exact (show False from h').elim
    | succ m =>
      have h' : ((ft σ' s').st σ' fun r s1 => if r = true then (fs σ' s1).loop (whileN ft fs m) else .nx σ' s1).P W w' D E := h'
      refine hc w' s' σ' σc' _ S' R' ((exp_post R' h').mono (fun b s1 hb1 w1 e1 S1 => ?_) fun _ _ _ _ z => z)
      cases b with
      | false => exact iteF ((show (SRes.nx σ' s1).P W w' D E from by simpa using hb1) w1 σc' e1 S1 (R'.mono e1))
      | true =>
        refine iteT ⟨fun σc H => ∃ w3 s3 σ3, H = w3.H ∧ Ext w w3 ∧ Sim W w3 s3 ∧ RSt W w3 σ3 σc ∧ (whileN ft fs m σ3 s3).P W w3 D E, fun σ2 H2 z => ⟨m, Nat.lt_succ_self m, z⟩, ?_⟩
        have h2 : ((fs σ' s1).loop (whileN ft fs m)).P W w1 D E := P.mono e1 (by simpa using hb1)
        exact hb w1 s1 σ' σc' _ S1 (R'.mono e1) (P_loop h2 _ fun w3 σ3 σc3 s3 e3 S3 R3 k3 => ⟨w3, s3, σ3, rfl, (e'.trans e1).trans e3, S3, R3, P.mono e3 k3⟩)
  · exact h.elim
end
end
end Ab
set_option Elab.async false
set_option linter.all false
set_option maxRecDepth 100000
set_option maxHeartbeats 1000000
namespace Ab
open PySem PySem.Spec PyProof.Rows L2
open Classical
noncomputable section
theorem wipe_get (σ : L2.St) (j : Nat) : ∀ vs : List Nat, (wipe σ vs)[j]? = if j ∈ vs ∧ j < σ.length then some none else σ[j]?
  | [] => by simp [wipe]
  | v :: vs => by
    have ih := wipe_get σ j vs
    have hl := wipe_length σ vs
    show ((wipe σ vs).set v none)[j]? = _
    rw [List.getElem?_set, hl, ih]
    by_cases hv : v = j
    · subst hv
      by_cases hj : v < σ.length
      · simp [hj]
      · simp [hj]
    · have : (j ∈ v :: vs) = (j ∈ vs) := by
        simp only [List.mem_cons, eq_iff_iff]
        exact ⟨fun z => z.elim (fun z => absurd z.symm hv) id, .inr⟩
      simp only [if_neg hv, this]
theorem wipe_set {σ : L2.St} {i : Nat} {x : Option V} {vs : List Nat} (h : i ∈ vs) : wipe (σ.set i x) vs = wipe σ vs := by
  refine List.ext_getElem? fun j => ?_
  rw [wipe_get, wipe_get, List.length_set, List.getElem?_set]
  by_cases hij : i = j
  · subst hij
    by_cases hl : i < σ.length
    · simp [h, hl]
    · simp [hl]
  · simp [hij]
theorem wipe_wipe {σ : L2.St} {vs : List Nat} : wipe (wipe σ vs) vs = wipe σ vs := by
  refine List.ext_getElem? fun j => ?_
  rw [wipe_get, wipe_length]
  by_cases h : j ∈ vs ∧ j < σ.length
  · rw [if_pos h, wipe_get, if_pos h]
  · rw [if_neg h]
/-- a target that stores in these slots alone -/
def WT (tg : TG) (vs : List Nat) : Prop := ∀ v σ H (Q Q' : L2.St → Hp → Prop), (∀ σ2 H2, wipe σ2 vs = wipe σ vs → Q σ2 H2 → Q' σ2 H2) → tg v σ H Q → tg v σ H Q'
def WTs (tg : TGs) (vs : List Nat) : Prop := ∀ v σ H (Q Q' : L2.St → Hp → Prop), (∀ σ2 H2, wipe σ2 vs = wipe σ vs → Q σ2 H2 → Q' σ2 H2) → tg v σ H Q → tg v σ H Q'
theorem WT.name {i : Nat} {vs : List Nat} (h : i ∈ vs) : WT (gName i) vs := fun v σ H Q Q' f q => f _ _ (wipe_set h) q
theorem WTs.nil {vs : List Nat} : WTs gNil vs := fun v σ H Q Q' f q => ⟨q.1, f _ _ rfl q.2⟩
theorem WTs.cons {t : TG} {u : TGs} {vs : List Nat} (h1 : WT t vs) (h2 : WTs u vs) : WTs (gCons t u) vs := fun v σ H Q Q' f q => by
  obtain ⟨x, r, e, q⟩ := q
  exact ⟨x, r, e, h1 x σ H _ _ (fun σ2 H2 e2 q2 => h2 r σ2 H2 Q Q' (fun σ3 H3 e3 q3 => f σ3 H3 (e3.trans e2) q3) q2) q⟩
theorem WT.tup {K : PySem.W.Frag} {n : Nat} {u : TGs} {vs : List Nat} (h : WTs u vs) : WT (gTup K n u) vs := fun v σ H Q Q' f q => by
  obtain ⟨a, xs, e, h1, h2, q⟩ := q
  exact ⟨a, xs, e, h1, h2, h xs σ H Q Q' f q⟩
def aYes : AT := fun _ s => .ok true s
theorem DT.yes {W : Wl} {E : L2.St → XK} : DT W E tYes aYes := fun w s σ σc Q S R h => h w (.refl w) S
def lcI (k : Nat) (G : Sto → Prop) (g : AV → AS) (ft : AT) (fe : AE) (σ0 : ASt) : List AV → Sto → Option Sto
  | [] => fun s => if G s then some s else none
  | x :: r => fun s => if G s then (match g x σ0 s with
    | .nx σ2 s2 => (match ft σ2 s2 with
      | .ok true s3 => (match fe σ2 s3 with
        | .ok y s4 => (match s4.c k with | .lst acc => if acc.length < sizeLine then lcI k G g ft fe σ0 r (s4.set k (.lst (acc ++ [y]))) else none | _ => none)
        | _ => none)
      | .ok false s3 => lcI k G g ft fe σ0 r s3
      | _ => none)
    | _ => none) else none
def oObj (k : Nat) : Option Sto → Res AV
  | some s => .ok (.obj k) s
  | none => .stuck
@[simp] theorem oObj_some {k : Nat} {s : Sto} : oObj k (some s) = .ok (.obj k) s := rfl
def aLc (fi : AI) (g : AV → AS) (ft : AT) (fe : AE) (vs : List Nat) : AE := fun σ s => (fi σ s).bind fun p s1 => oObj s1.n (lcI s1.n p.2 g ft fe (wipeA σ vs) p.1 (s1.new (.lst [])))
section
variable {W : Wl} {E : L2.St → XK} {ta tb te : TE} {fa fb fe : AE} {tr : TA} {fr : AA} {t : TT} {ft : AT} {ts : TS} {fs : AS} {tg : TG} {g : AV → AS} {wi : TI} {fi : AI}
theorem lcI_G {k : Nat} {G : Sto → Prop} {σ0 : ASt} {l : List AV} {s s' : Sto} (h : lcI k G g ft fe σ0 l s = some s') : G s := Classical.byContradiction fun ng => by
  cases l with
  | nil => rw [show lcI k G g ft fe σ0 [] s = none from if_neg ng] at h; cases h
  | cons x r =>
    unfold lcI at h
    rw [if_neg ng] at h
    cases h
theorem DE.lc {vs : List Nat} (hi : DI W E wi fi) (hg : DG W tg g) (hn : Goes g) (hw : WT tg vs) (ht : DT W (fun _ _ _ _ => False) t ft) (he : DE W (fun _ _ _ _ => False) te fe) : DE W E (tLc wi tg t te vs) (aLc fi g ft fe vs) := fun w s σ σc Q S R h => by
  refine hi w s σ σc _ S R ((post_bind_ok h).mono (fun p s1 h1 w1 J e1 S1 it => ?_) fun _ _ _ _ z => z)
  obtain ⟨items, G⟩ := p
  obtain ⟨n, GC, Y, wk, hn', hG, hY⟩ := it
  simp only at hn' hG hY h1
  cases el : lcI s1.n G g ft fe (wipeA σ vs) items (s1.new (.lst [])) with
  | none => rw [el] at h1; exact (show False from h1).elim
  | some sf =>
    rw [el] at h1
    have h1 : OkP W w Q (.obj s1.n) sf := h1
    intro D hD
    have gr := grow_upd (o := .lst []) hD
    have e2 : Ext w1 (w1.new D (upd w1.H D (.lst []))) := .new gr
    have S2 : Sim W (w1.new D (upd w1.H D (.lst []))) (s1.new (.lst [])) := S1.new hD gr upd_same (.lst .nil)
    have rD : Rel W (w1.new D (upd w1.H D (.lst []))) (.obj s1.n) (.ref D) := Rel.new D _ S1.n
    refine lc_it wk (fun i H => ∃ w' s', H = w'.H ∧ Ext (w1.new D (upd w1.H D (.lst []))) w' ∧ Sim W w' s' ∧ lcI s1.n G g ft fe (wipeA σ vs) (items.drop i) s' = some sf) ⟨_, _, rfl, .refl _, S2, by rw [List.drop_zero]; exact el⟩ ?_ ?_ ?_
    · rintro i H hi ⟨w', s', rfl, e', S', h'⟩
      exact hG w' s' (e2.trans e') S' (lcI_G h')
    · rintro i x H H' hi ⟨w', s', rfl, e', S', h'⟩ hy
      have hg' := lcI_G h'
      obtain ⟨y, w2, q1, rfl, e3, S3, r3⟩ := hY w' s' i x H' (e2.trans e') S' hg' hi hy
      have hd : items.drop i = y :: items.drop (i + 1) := by
        obtain ⟨hlt, q⟩ := List.getElem?_eq_some_iff.mp q1
        rw [List.drop_eq_getElem_cons hlt, q]
      rw [hd] at h'
      unfold lcI at h'
      rw [if_pos hg'] at h'
      have R3 : RSt W w2 (wipeA σ vs) (wipe σc vs) := ((((R.mono e1).mono e2).mono e').mono e3).wipe vs
      refine hw x (wipe σc vs) w2.H _ _ (fun σ2 H2 ew q => ⟨by rw [ew, wipe_wipe], q⟩) (hg w2 s' (wipeA σ vs) (wipe σc vs) y x _ S3 R3 r3 ?_)
      split at h'
      · rename_i σ2 s2 eg
        rw [eg]
        intro w3 σ3c x3 S4 R4
        refine ht w3 s2 σ2 σ3c _ S4 R4 ?_
        split at h'
        · rename_i s3 et
          rw [et]
          intro w4 x4 S5
          refine iteT (he w4 s3 σ2 σ3c _ S5 (R4.mono x4) ?_)
          split at h'
          · rename_i z s4 ee
            rw [ee]
            intro w5 zc x5 S6 r6
            split at h'
            · rename_i acc ec
              split at h'
              · rename_i hl
                have xx := (((e'.trans e3).trans x3).trans x4).trans x5
                obtain ⟨accc, k1, k2, k3, k4⟩ := lstO_at S6 (rD.mono xx) ec
                have ed : D = w5.m s1.n := by cases k2; rfl
                refine ⟨accc, by rw [ed]; exact k3, by rw [← k4.length]; exact hl, ?_⟩
                exact ⟨{ w5 with H := upd w5.H (w5.m s1.n) (.lst (accc ++ [zc])) }, _, by rw [← ed], xx.trans (.wr S6 k1), S6.wr k1 (.lst (k4.append (.cons r6 .nil))), h'⟩
              · cases h'
            · cases h'
          · cases h'
        · rename_i s3 et
          rw [et]
          intro w4 x4 S5
          exact iteF ⟨w4, s3, rfl, ((e'.trans e3).trans x3).trans x4, S5, h'⟩
        · cases h'
      · cases h'
    · rintro H ⟨w', s', rfl, e', S', h'⟩
      rw [hn', List.drop_length] at h'
      have hg' := lcI_G h'
      have : lcI s1.n G g ft fe (wipeA σ vs) [] s' = some s' := if_pos hg'
      rw [this] at h'
      cases h'
      exact h1 w' _ ((e1.trans e2).trans e') S' (rD.mono e')
def bnames : List String := ["NoneType", "bool", "int", "str", "tuple", "list", "dict"]
def cvl (W : Wl) (n : String) : Value := if n ∈ bnames then .type n else .ref (W.κ n)
structure KitOk (W : Wl) (kit : String → String → Option Bool) : Prop where
  kit : ∀ a b r, (a ∈ bnames ∨ a ∈ W.live ∨ a ∈ W.xlive) → kit a b = some r → PySem.W.kitOne W.K (cvl W a) (cvl W b) = some r
  ins : ∀ c ∈ W.live, c ∉ bnames ∧ C8.InsC W.K (W.κ c)
  exc : ∀ c ∈ W.xlive, c ∉ bnames ∧ ExcC W.K (W.κ c)
def tyN (s : Sto) : AV → Option String
  | .non => some "NoneType"
  | .bl _ => some "bool"
  | .int _ => some "int"
  | .str _ => some "str"
  | .tup _ => some "tuple"
  | .obj i => (match s.c i with | .lst _ => some "list" | .dic _ => some "dict" | .ins c _ => some c)
  | .exn c _ _ => some c
  | _ => none
def clsN : AV → Option String
  | .ty n => some n
  | .cls c => some c
  | _ => none
def clsOk : AV → Bool
  | .ty n => decide (n ∈ bnames)
  | .cls n => decide (n ∉ bnames)
  | _ => false
def gIsi (kit : String → String → Option Bool) : List AV → Sto → Res AV := fun xs s => match xs with
  | [x, c] => (match tyN s x, clsN c with | some a, some b => (match kit a b with | some r => if clsOk c = true then .ok (.bl r) s else .stuck | none => .stuck) | _, _ => .stuck)
  | _ => .stuck
theorem NEL.isi {kit : String → String → Option Bool} : NEL (gIsi kit) := fun x s c ns vs s' h => by 
  unfold gIsi at h
  repeat' split at h
  all_goals first | cases h | (unfold newL at h; cases h)
theorem gIsi_ty {kit : String → String → Option Bool} {x : AV} {a n : String} {r : Bool} {s : Sto} (h1 : tyN s x = some a) (h2 : kit a n = some r) (h3 : n ∈ bnames) : gIsi kit [x, .ty n] s = .ok (.bl r) s := by
  unfold gIsi
  simp only [h1, clsN, h2]
  exact if_pos (decide_eq_true h3)
theorem gIsi_cls {kit : String → String → Option Bool} {x : AV} {a n : String} {r : Bool} {s : Sto} (h1 : tyN s x = some a) (h2 : kit a n = some r) (h3 : n ∉ bnames) : gIsi kit [x, .cls n] s = .ok (.bl r) s := by
  unfold gIsi
  simp only [h1, clsN, h2]
  exact if_pos (decide_eq_true h3)
def rIsiU (K : PySem.W.Frag) : List V → Hp → VK → Prop := fun xs H Q => rIsi K xs H Q ∨ Gx.rIsK K xs H Q
theorem call_isiU {X : Cx} : CallR X (.builtin "isinstance") (rIsiU X.K) := CallR.or call_isi Gx.call_isK
theorem sqt_ty {K : PySem.W.Frag} {H : Hp} {a : Addr} {vs : List V} (h : SqT K H a vs) : TyX K H (.ref a) (.type "tuple") := by
  rcases h with (h | ⟨o, h⟩) | ⟨o, its, n, h1, h2, h3, h4⟩
  · exact .base (.tup h)
  · exact .fTuple h
  · exact .kTuple h1 h2
theorem DB.isi {kit : String → String → Option Bool} (ko : KitOk W kit) : DB W (rIsiU W.K) (gIsi kit) := fun w s xs v Q S r h => by
  unfold gIsi at h
  split at h
  · rename_i x c
    cases r with
    | @cons _ vx _ _ r1 r2 => cases r2 with
      | @cons _ vcl _ _ r2 r3 =>
        cases r3
        split at h
        · rename_i a b ea eb
          split at h
          · rename_i rr ek
            split at h
            · rename_i hc
              have hq := h w (.bl rr) (.refl w) S (.bl _)
              have hcl : ∃ u, ClsV vcl u ∧ u = cvl W b := by
                cases r2 with
                | ty =>
                  cases eb
                  exact ⟨_, .ty _, (if_pos (of_decide_eq_true hc)).symm⟩
                | cls =>
                  cases eb
                  exact ⟨_, .own _, (if_neg (of_decide_eq_true hc)).symm⟩
                | _ => cases hc
              obtain ⟨u, u1, rfl⟩ := hcl
              have base : ∀ {T : Value}, TyX W.K w.H vx T → T = cvl W a → (a ∈ bnames ∨ a ∈ W.live ∨ a ∈ W.xlive) → rIsiU W.K [vx, vcl] w.H Q := fun {T} hT e hm => by
                subst e
                exact .inl ⟨vx, vcl, _, _, rr, rfl, u1, hT, ko.kit a b rr hm ek, hq⟩
              cases r1 with
              | non => cases ea; exact base (.base .non) (if_pos (by decide)).symm (.inl (by decide))
              | bl => cases ea; exact base (.base (.bl _)) (if_pos (by decide)).symm (.inl (by decide))
              | int => cases ea; exact base (.base (.int _)) (if_pos (by decide)).symm (.inl (by decide))
              | str => cases ea; exact base (.base (.str _)) (if_pos (by decide)).symm (.inl (by decide))
              | ty => cases ea
              | cls => cases ea
              | raw => cases ea
              | scr => cases ea
              | tup h1 h2 => cases ea; exact base (sqt_ty h1) (if_pos (by decide)).symm (.inl (by decide))
              | @obj i hi =>
                have ea : (match s.c i with | .lst _ => some "list" | .dic _ => some "dict" | .ins c _ => some c : Option String) = some a := ea
                cases ec : s.c i with
                | lst xs =>
                  rw [ec] at ea
                  cases ea
                  obtain ⟨vs, k1, k2, k3, k4⟩ := lstO_at S (.obj hi) ec
                  exact base (.base (.lst k3)) (if_pos (by decide)).symm (.inl (by decide))
                | dic kvs =>
                  rw [ec] at ea
                  cases ea
                  obtain ⟨o, k1, k2, k3, k4⟩ := cell_at S (.obj hi) ec
                  cases k4
                  exact base (.base (.dK k3)) (if_pos (by decide)).symm (.inl (by decide))
                | ins c fs =>
                  rw [ec] at ea
                  cases ea
                  obtain ⟨o, k1, k2, k3, k4⟩ := cell_at S (.obj hi) ec
                  cases k4 with
                  | ins hl rf =>
                    obtain ⟨n1, ic⟩ := ko.ins _ hl
                    exact base (.base (.ins k3 ic.cl ic.ha ic.hn ic.htk ic.hm)) (if_neg n1).symm (.inr (.inl hl))
              | @exn _ ax d ns xs vs hl hx hd hln rv =>
                cases ea
                obtain ⟨n1, ec⟩ := ko.exc _ hl
                refine .inr ⟨ax, _, d, _, vcl, _, rr, rfl, ec, hx, hd, fun u hu => u1.eq hu, ?_, hq⟩
                have := ko.kit _ b rr (.inr (.inr hl)) ek
                rw [show cvl W _ = .ref (W.κ _) from if_neg n1] at this
                exact this
            · exact h.elim
          · exact h.elim
        · exact h.elim
  · exact h.elim
def gBits (x : AV) (s : Sto) : Res AV := match x with | .int i => .ok (.int (Builtin.Int.intBits i : Nat)) s | _ => .stuck
@[simp] theorem gBits_int {i : Int} {s : Sto} : gBits (.int i) s = .ok (.int (Builtin.Int.intBits i : Nat)) s := rfl
theorem DE.bits (ha : DE W E ta fa) : DE W E (tBits ta) (aUn gBits fa) := fun w s σ σc Q S R h => by
  refine ha w s σ σc _ S R ((post_bind_ok h).mono (fun x s1 h1 w1 v e1 S1 r1 => ?_) fun _ _ _ _ z => z)
  cases r1 with
  | int i => exact ⟨i, rfl, h1 w1 _ e1 S1 (.int _)⟩
  | _ => exact (show False from h1).elim
/-- raise C(v) -/
def raiseK (c : String) (fl : Str) (σ : ASt) : List AV → Sto → SRes
  | [v], s => .err c [fl] [v] σ s
  | _, _ => .stuck
def aRaise (c : String) (fl : Str) (fr : AA) : AS := fun σ s => (fr σ s).st σ (raiseK c fl σ)
theorem DS.raise {c : String} {fl : Str} {Wx : WX} (hc : c ∈ W.xlive) (ha : DA W (fun σ cls d H => Wx cls d σ H) tr fr) : DS W (fun σ cls d H => Wx cls d σ H) (fun _ σ H => tMkO (W.κ c) (Gx.spExc (W.κ c) fl) [] tr σ H fun cls d H' => Wx cls d σ H') (aRaise c fl fr) := fun w s σ σc D S R h => by
  refine ha w s σ σc _ S R ((exp_post R h).mono (fun xs s1 h1 w1 vs e1 S1 r1 => ?_) fun _ _ _ _ z => z)
  match xs, vs, r1, h1 with
  | [x], [v], .cons rx .nil, h1 =>
    refine Gx.mkO (C := W.κ c) (fl := fl) (v := v) (H := w1.H) (Q := fun cls d H' => Wx cls d σc H') fun d H' hd ex k => ?_
    exact h1 { w1 with H := H' } σc d (e1.trans (.grow ex)) (S1.grow ex) ((R.mono e1).mono (.grow ex)) ⟨hc, [v], k, rfl, .cons (rx.mono (.grow ex)) .nil⟩
/-- what is caught -/
abbrev HdA := (String → Option Bool) × Option Nat × AS
def SRes.clr (i : Nat) : SRes → SRes
  | .nx σ s => .nx (σ.set i none) s
  | .bk σ s => .bk (σ.set i none) s
  | .ct σ s => .ct (σ.set i none) s
  | .rt v s => .rt v s
  | _ => .stuck
@[simp] theorem SRes.clr_nx {i : Nat} {σ : ASt} {s : Sto} : (SRes.nx σ s).clr i = .nx (σ.set i none) s := rfl
@[simp] theorem SRes.clr_rt {i : Nat} {v : AV} {s : Sto} : (SRes.rt v s).clr i = .rt v s := rfl
def SRes.noX : SRes → SRes
  | .err _ _ _ _ _ => .stuck
  | r => r
@[simp] theorem SRes.noX_nx {σ : ASt} {s : Sto} : (SRes.nx σ s).noX = .nx σ s := rfl
@[simp] theorem SRes.noX_rt {v : AV} {s : Sto} : (SRes.rt v s).noX = .rt v s := rfl
def aHand (c : String) (ns : List Str) (vs : List AV) (σ : ASt) (s : Sto) : List HdA → SRes
  | [] => .err c ns vs σ s
  | (m, none, f) :: r => (match m c with | some true => (f σ s).noX | some false => aHand c ns vs σ s r | none => .stuck)
  | (m, some i, f) :: r => (match m c with | some true => (f (σ.set i (some (.exn c ns vs))) s).clr i | some false => aHand c ns vs σ s r | none => .stuck)
def aTry (f : AS) (hs : List HdA) : AS := fun σ s => match f σ s with | .err c ns vs σ' s' => aHand c ns vs σ' s' hs | r => r
inductive DHs (W : Wl) : List Gx.HdK → List HdA → Prop
  | nil : DHs W [] []
  | cons {m : Value → Option Bool} {ma : String → Option Bool} {i : Option Nat} {ts : TS} {f : AS} {l : List Gx.HdK} {la : List HdA} (hm : ∀ c ∈ W.xlive, ∀ b, ma c = some b → m (.ref (W.κ c)) = some b) (hf : DS W (fun _ _ _ _ => False) ts f) (r : DHs W l la) : DHs W ((m, i, ts) :: l) ((ma, i, f) :: la)
theorem hand_ok {l : List Gx.HdK} {la : List HdA} {Wout : WX} {D : Ends} (d : DHs W l la) : ∀ {w : Wd} {s : Sto} {σ : ASt} {σc : L2.St} {c : String} {ns : List Str} {vs : List AV} {dd : Addr}, Sim W w s → RSt W w σ σc → ExcD W w c dd ns vs →
    (aHand c ns vs σ s la).P W w D (fun σ cls d H => Wout cls d σ H) → Gx.wK Wout D l (.ref (W.κ c)) (some dd) σc w.H := by
  induction d with
  | nil => exact fun {w s σ σc c ns vs dd} S R x h => h w σc dd (.refl w) S R x
  | @cons m ma i ts f l la hm hf r ih =>
    intro w s σ σc c ns vs dd S R x h
    obtain ⟨xl, us, xd, xn, xr⟩ := id x
    cases i with
    | none =>
      have h : (match ma c with | some true => (f σ s).noX | some false => aHand c ns vs σ s la | none => .stuck : SRes).P W w D _ := h
      cases em : ma c with
      | none => rw [em] at h; exact h.elim
      | some b =>
        rw [em] at h
        refine ⟨b, hm c xl b em, fun hb a ha => ?_, fun hb => ?_⟩
        · subst hb
          have g := grow_upd (o := Gx.xob a (.ref (W.κ c)) (some dd)) ha
          refine hf _ s σ σc D (S.grow g) (R.mono (.grow g)) ?_
          have h : ((f σ s).noX).P W w D _ := h
          cases ef : f σ s with
          | nx σ' s' => rw [ef] at h; exact P.mono (.grow g) h
          | rt v s' => rw [ef] at h; exact P.mono (.grow g) h
          | bk σ' s' => rw [ef] at h; exact P.mono (.grow g) h
          | ct σ' s' => rw [ef] at h; exact P.mono (.grow g) h
          | err => rw [ef] at h; exact (show False from h).elim
          | stuck => rw [ef] at h; exact (show False from h).elim
        · subst hb
          exact ih S R x h
    | some i =>
      have h : (match ma c with | some true => (f (σ.set i (some (.exn c ns vs))) s).clr i | some false => aHand c ns vs σ s la | none => .stuck : SRes).P W w D _ := h
      cases em : ma c with
      | none => rw [em] at h; exact h.elim
      | some b =>
        rw [em] at h
        refine ⟨b, hm c xl b em, fun hb a ha => ?_, fun hb => ?_⟩
        · subst hb
          have g := grow_upd (o := Gx.xob a (.ref (W.κ c)) (some dd)) ha
          have rx : Rel W { w with H := upd w.H a (Gx.xob a (.ref (W.κ c)) (some dd)) } (.exn c ns vs) (.ref a) := .exn xl upd_same (g _ _ xd) xn (xr.mono (.grow g))
          refine hf _ s _ _ _ (S.grow g) ((R.mono (.grow g)).set (x := some (.exn c ns vs)) (v := some (.ref a)) rx i) ?_
          have h : ((f (σ.set i (some (.exn c ns vs))) s).clr i).P W w D _ := h
          cases ef : f (σ.set i (some (.exn c ns vs))) s with
          | nx σ' s' => rw [ef] at h; exact fun w' σc' e' S' R' => h w' _ ((Ext.grow g).trans e') S' (R'.set (x := none) (v := none) trivial i)
          | rt v s' => rw [ef] at h; exact P.mono (.grow g) h
          | bk σ' s' => rw [ef] at h; exact fun w' σc' e' S' R' => h w' _ ((Ext.grow g).trans e') S' (R'.set (x := none) (v := none) trivial i)
          | ct σ' s' => rw [ef] at h; exact fun w' σc' e' S' R' => h w' _ ((Ext.grow g).trans e') S' (R'.set (x := none) (v := none) trivial i)
          | err => rw [ef] at h; exact (show False from h).elim
          | stuck => rw [ef] at h; exact (show False from h).elim
        · subst hb
          exact ih S R x h
theorem DS.tryS {Wout : WX} {tb : WX → TS} {l : List Gx.HdK} {la : List HdA} {fb : AS} (hb : ∀ Wx : WX, DS W (fun σ cls d H => Wx cls d σ H) (tb Wx) fb) (hh : DHs W l la) : DS W (fun σ cls d H => Wout cls d σ H) (fun D σ H => tb (Gx.wK Wout D l) D σ H) (aTry fb la) := fun w s σ σc D S R h => by
  refine hb _ w s σ σc D S R ?_
  have h : (match fb σ s with | .err c ns vs σ' s' => aHand c ns vs σ' s' la | r => r : SRes).P W w D _ := h
  cases e : fb σ s with
  | err c ns vs σ' s' =>
    rw [e] at h
    exact fun w' σc' d e' S' R' x => hand_ok hh S' R' x (P.mono e' h)
  | nx σ' s' => rw [e] at h; exact h
  | rt v s' => rw [e] at h; exact h
  | bk σ' s' => rw [e] at h; exact h
  | ct σ' s' => rw [e] at h; exact h
  | stuck => rw [e] at h; exact h
/-- an error forgets the slots -/
def SRes.forget (n : Nat) : SRes → SRes
  | .err c ns vs _ s => .err c ns vs (List.replicate n none) s
  | r => r
@[simp] theorem SRes.forget_nx {n : Nat} {σ : ASt} {s : Sto} : (SRes.nx σ s).forget n = .nx σ s := rfl
@[simp] theorem SRes.forget_rt {n : Nat} {v : AV} {s : Sto} : (SRes.rt v s).forget n = .rt v s := rfl
@[simp] theorem SRes.forget_err {n : Nat} {c : String} {ns : List Str} {vs : List AV} {σ : ASt} {s : Sto} : (SRes.err c ns vs σ s).forget n = .err c ns vs (List.replicate n none) s := rfl
def aForget (n : Nat) (f : AS) : AS := fun σ s => (f σ s).forget n
theorem rst_none {w : Wd} : ∀ (σc : L2.St), RSt W w (List.replicate σc.length none) σc
  | [] => .nil
  | _ :: σc => .cons trivial (rst_none σc)
theorem DS.forget {n : Nat} {Wx : WX} (h : DS W (fun _ cls d H => ∀ σ : L2.St, σ.length = n → Wx cls d σ H) ts fs) : DS W (fun σ cls d H => Wx cls d σ H) ts (aForget n fs) := fun w s σ σc D S R z => by
  refine h w s σ σc D S R ?_
  have z : ((fs σ s).forget n).P W w D _ := z
  cases e : fs σ s with
  | err c ns vs σ' s' =>
    rw [e] at z
    exact fun w' σc' d e' S' R' x σ2 hl => z w' σ2 d e' S' (by rw [← hl]; exact rst_none σ2) x
  | nx σ' s' => rw [e] at z; exact z
  | rt v s' => rw [e] at z; exact z
  | bk σ' s' => rw [e] at z; exact z
  | ct σ' s' => rw [e] at z; exact z
  | stuck => rw [e] at z; exact z
/-- a field of a kept exception -/
def gXk (cs : List String) (f : Str) (x : AV) (s : Sto) : Res AV := match x with | .exn c ns vs => if c ∈ cs then (match lookA f (ns.zip vs) with | some v => .ok v s | none => .stuck) else .stuck | _ => .stuck
theorem zip_relF {w : Wd} : ∀ {ns : List Str} {xs : List AV} {vs : List V}, RelL W w xs vs → RelF W w (ns.zip xs) (ns.zip vs)
  | [], _, _, _ => .nil
  | n :: ns, _, _, .nil => by
    rw [List.zip_nil_right, List.zip_nil_right]; exact .nil
  | n :: ns, _, _, .cons h r => .cons ⟨rfl, h⟩ (zip_relF r)
theorem DE.xk {cs : List String} {f : Str} (hc : All (fun c => XfC W.K (W.κ c) ∧ PySem.W.findIn W.K (.ref (W.κ c)) f = some none) cs) (ha : DE W E ta fa) : DE W E (Gx.tXk W.K f ta) (aUn (gXk cs f) fa) := fun w s σ σc Q S R h => by
  refine ha w s σ σc _ S R ((post_bind_ok h).mono (fun x s1 h1 w1 v e1 S1 r1 => ?_) fun _ _ _ _ z => z)
  cases r1 with
  | @exn c a d ns xs vs hl hx hd hln rv =>
    have h1 : (if c ∈ cs then (match lookA f (ns.zip xs) with | some v => .ok v s1 | none => .stuck) else .stuck : Res AV).Post _ _ := h1
    split at h1
    · rename_i hcs
      split at h1
      · rename_i u e
        obtain ⟨k1, k2⟩ := hc.at c hcs
        obtain ⟨uc, l, ru⟩ := (look_rel (zip_relF (ns := ns) rv)).1 u e
        exact ⟨a, _, d, _, uc, rfl, k1, k2, hx, hd, l, h1 w1 _ e1 S1 ru⟩
      · exact (show False from h1).elim
    · exact (show False from h1).elim
  | _ => exact (show False from h1).elim
/-- what a told def makes of what it gets, as a reading -/
def TTF (W : Wl) (F : Addr → (Sto → Res AV) → Sto → Res AV) : (XK → Hp → VK → Prop) → Hp → VK → Prop := fun tl H Q => ∃ (w : Wd) (s : Sto) (ask : Sto → Res AV), H = w.H ∧ Sim W w s ∧
  (∀ (E : XK) (w' : Wd) (s' : Sto) (Q' : VK), Ext w w' → Sim W w' s' → (ask s').Post (OkP W w' Q') (ErrP W w' E) → tl E w'.H Q') ∧ ∀ f, (F f ask s).Post (OkP W w Q) (fun _ _ _ _ => False)
def aTold (F : Addr → (Sto → Res AV) → Sto → Res AV) (fb : AE) : AE := fun σ s => if ∀ f, F f (fb σ) s = F 0 (fb σ) s then noErr (F 0 (fb σ) s) else .stuck
theorem aTold_eq {F : Addr → (Sto → Res AV) → Sto → Res AV} {fb : AE} {σ : ASt} {s s' : Sto} {v : AV} (h : ∀ f, F f (fb σ) s = .ok v s') : aTold F fb σ s = .ok v s' := by
  unfold aTold
  rw [if_pos (fun f => by rw [h f, h 0]), h 0]
  rfl
theorem DE.told {F : Addr → (Sto → Res AV) → Sto → Res AV} {t : XK → TE} (hb : ∀ Ek : XK, DE W (fun _ => Ek) (t Ek) fb) : DE W E (LamX.tLam W.T (TTF W F) t) (aTold F fb) := fun w s σ σc Q S R h => by
  refine ⟨S.tab, fun H1 eN T1 => ?_⟩
  have e1 : Ext w { w with H := H1 } := .growN eN
  unfold aTold at h
  split at h
  · rename_i hF
    refine ⟨{ w with H := H1 }, s, fb σ, rfl, S.growN eN T1, fun Ek w' s' Q' e' S' hp => hb Ek w' s' σ σc Q' S' ((R.mono e1).mono e') hp, fun f => ?_⟩
    rw [hF f]
    exact (noErr_post h).mono (fun _ _ z => z.mono e1) fun _ _ _ _ z => z
  · exact h.elim
/-- the call within -/
def aAsk (f : Addr) (ask : Sto → Res AV) : AE := fun σ s => match σ[0]? with | some (some (AV.raw a)) => if a = f then ask s else .stuck | _ => .stuck
theorem aAsk_raw {f : Addr} {ask : Sto → Res AV} {σ : ASt} {s : Sto} (h : σ[0]? = some (some (.raw f))) : aAsk f ask σ s = ask s := by
  unfold aAsk
  simp only [h, if_true]
end
/-- a world that has grown out of one -/
abbrev Wl.at (W : Wl) (w0 : Wd) : Wl := { toWc := W.toWc, inv := fun w => Ext w0 w, cl := fun _ _ e h => h.trans e }
theorem Sim.at {W : Wl} {w : Wd} {s : Sto} (S : Sim W w s) : Sim (W.at w) w s := ⟨S.n, S.inj, S.cell, S.tab, .refl w⟩
theorem DE.ask {W : Wl} {w0 : Wd} {s0 : Sto} {f c' : Addr} {q : Str} {tl : XK → Hp → VK → Prop} {ask : Sto → Res AV} {Ek : XK} (S0 : Sim W w0 s0) (hc : w0.H c' = some (LamX.CodeO c' q))
    (ha : ∀ (E : XK) (w' : Wd) (s' : Sto) (Q' : VK), Ext w0 w' → Sim W w' s' → (ask s').Post (OkP W w' Q') (ErrP W w' E) → tl E w'.H Q') :
    DE (W.at w0) (fun _ => Ek) (fun σZ HZ Q => σZ[0]? = some (some (.ref f)) ∧ HZ c' = some (LamX.CodeO c' q) ∧ tl Ek HZ Q) (aAsk f ask) := fun w s σ σc Q S R h => by
  have e0 : Ext w0 w := S.inv
  have sw : ∀ {w' : Wd} {s' : Sto}, Sim (W.at w0) w' s' → Sim W w' s' := fun {w' s'} S' => ⟨S'.n, S'.inj, S'.cell, S'.tab, W.cl _ _ S'.inv S0.inv⟩
  have ws : ∀ {w' : Wd} {s' : Sto}, Ext w0 w' → Sim W w' s' → Sim (W.at w0) w' s' := fun {w' s'} e S' => ⟨S'.n, S'.inj, S'.cell, S'.tab, e⟩
  unfold aAsk at h
  split at h
  · rename_i a ea
    split at h
    · rename_i haf
      subst haf
      obtain ⟨v, h1, h2⟩ := R.get 0 _ ea
      cases h2
      refine ⟨h1, e0.im _ _ hc trivial, ha Ek w s Q e0 (sw S) (h.mono (fun v s' z w2 vc e2 S2 r2 => z w2 vc e2 (ws (e0.trans e2) S2) r2) fun c ns vs s' z w2 d e2 S2 x => z w2 d e2 (ws (e0.trans e2) S2) x)⟩
    · exact h.elim
  · exact h.elim
theorem KitOk.at {W : Wl} {w0 : Wd} {kit : String → String → Option Bool} (k : KitOk W kit) : KitOk (W.at w0) kit := ⟨k.kit, k.ins, k.exc⟩
def aToldF (k : Nat) (fb : Addr → (Sto → Res AV) → AS) : Addr → (Sto → Res AV) → Sto → Res AV := fun f ask s => (fb f ask (some (.raw f) :: List.replicate k none) s).fn
theorem told_run {W : Wl} {N : List Str} {k : Nat} {fb : Addr → (Sto → Res AV) → AS} {tl : XK → Hp → VK → Prop} {H : Hp} {Q : VK} {f c' : Addr} {q : Str} {ts : TS} (h : TTF W (aToldF k fb) tl H Q) (hc : H c' = some (LamX.CodeO c' q)) (hk : 1 + k = N.length)
    (hs : ∀ (w0 : Wd) (ask : Sto → Res AV), (∀ Ek : XK, DE (W.at w0) (fun _ => Ek) (fun σZ HZ Q => σZ[0]? = some (some (.ref f)) ∧ HZ c' = some (LamX.CodeO c' q) ∧ tl Ek HZ Q) (aAsk f ask)) → DS (W.at w0) (fun _ _ _ _ => False) ts (fb f ask)) :
    ts { nx := fun _ H' => Q .non H', rt := Q } (L2.start N [.ref f]) H := by
  obtain ⟨w, s, ask, rfl, S, ha, hp⟩ := h
  have p : ((fb f ask (some (.raw f) :: List.replicate k none) s).fn).Post (OkP W w Q) (fun _ _ _ _ => False) := hp f
  have e : L2.start N [.ref f] = some (.ref f) :: List.replicate k none := by
    unfold L2.start
    rw [show N.length - [V.ref f].length = k from by show N.length - 1 = k; omega]
    rfl
  rw [e]
  have ws : ∀ {w' : Wd} {s' : Sto}, Ext w w' → Sim (W.at w) w' s' → Sim W w' s' := fun {w' s'} e S' => ⟨S'.n, S'.inj, S'.cell, S'.tab, W.cl _ _ e S.inv⟩
  refine hs w ask (fun Ek => DE.ask S hc ha) w s (some (.raw f) :: List.replicate k none) _ _ S.at (.cons (.raw f) (by have := rst_none (W := W.at w) (w := w) (List.replicate k (none : Option V)); rwa [List.length_replicate] at this)) ?_
  cases e2 : fb f ask (some (.raw f) :: List.replicate k none) s with
  | nx σ' s' =>
    rw [e2] at p
    exact fun w' σc' e' S' R' => p w' _ e' (ws e' S') .non
  | rt v s' =>
    rw [e2] at p
    exact fun w' vc e' S' r' => p w' vc e' (ws e' S') r'
  | bk σ' s' => rw [e2] at p; exact p.elim
  | ct σ' s' => rw [e2] at p; exact p.elim
  | err c ns vs σ' s' => rw [e2] at p; exact p.elim
  | stuck => rw [e2] at p; exact p
theorem relL_ints {W : Wc} {w : Wd} : ∀ ns : List Int, RelL W w (ns.map .int) (ns.map V.int)
  | [] => .nil
  | n :: ns => .cons (.int n) (relL_ints ns)
/-- the law is run -/
def s0 : Sto := ⟨0, fun _ => .lst []⟩
theorem law_run {W : Wl} {N : List Str} {k : Nat} {f : AS} {ts : TS} {H : Hp} {a : Addr} {ns : List Int} {Q : VK} (hinv : ∀ w, W.inv w) (hS : SqF W.K H a (ns.map V.int)) (hT : LamX.Tabs W.T H) (hlaw : ∃ s', aDef k f [.scr (ns.map .int)] s0 = .ok (.bl true) s') (hk : 1 + k = N.length)
    (hs : DS W (fun _ _ _ _ => False) ts f) (hQ : ∀ H', Q (.bl true) H') : ts { nx := fun _ H' => Q .non H', rt := Q } (L2.start N [.ref a]) H := by
  obtain ⟨s', e⟩ := hlaw
  refine DS.dfn (k := k) (n := 1) (Ek := fun _ _ _ => False) ⟨⟨fun _ => 0, 0, H⟩, s0, [.scr (ns.map .int)], rfl, ⟨rfl, fun i j hi => absurd hi (Nat.not_lt_zero i), fun i hi => absurd hi (Nat.not_lt_zero i), hT, hinv _⟩, .cons (.scr hS ?_) .nil, rfl, ?_⟩ hk hs
  · exact relL_ints ns
  · rw [e]
    intro w' vc e' S' r
    cases r
    exact hQ _
end
end Ab
set_option Elab.async false
set_option linter.all false
set_option maxRecDepth 100000
set_option maxHeartbeats 1000000
namespace Ab
open PySem PySem.Spec PyProof.Rows L2
open Classical
noncomputable section
/-- a class's bases, itself first -/
def anc : String → List String
  | "Counter" => ["Counter", "Source"]
  | "Draws" => ["Draws"]
  | "PooledDraws" => ["PooledDraws", "Draws"]
  | "DrawError" => ["DrawError", "ValueError", "Exception"]
  | "BadWord" => ["BadWord", "DrawError", "ValueError", "Exception"]
  | "BadState" => ["BadState", "DrawError", "ValueError", "Exception"]
  | "BadSteps" => ["BadSteps", "DrawError", "ValueError", "Exception"]
  | "BadSeed" => ["BadSeed", "DrawError", "ValueError", "Exception"]
  | "BadNumber" => ["BadNumber", "DrawError", "ValueError", "Exception"]
  | "BadThings" => ["BadThings", "DrawError", "ValueError", "Exception"]
  | "BadSource" => ["BadSource", "DrawError", "ValueError", "Exception"]
  | "BadPolynomial" => ["BadPolynomial", "DrawError", "ValueError", "Exception"]
  | "BadDegree" => ["BadDegree", "DrawError", "ValueError", "Exception"]
  | "BadBits" => ["BadBits", "DrawError", "ValueError", "Exception"]
  | "BadRank" => ["BadRank", "DrawError", "ValueError", "Exception"]
  | "BadStep" => ["BadStep", "DrawError", "ValueError", "Exception"]
  | "BadSplit" => ["BadSplit", "DrawError", "ValueError", "Exception"]
  | "BadTape" => ["BadTape", "DrawError", "ValueError", "Exception"]
  | "BadRange" => ["BadRange", "DrawError", "ValueError", "Exception"]
  | "BadRow" => ["BadRow", "DrawError", "ValueError", "Exception"]
  | "BadWeights" => ["BadWeights", "DrawError", "ValueError", "Exception"]
  | "BadOrder" => ["BadOrder", "DrawError", "ValueError", "Exception"]
  | "BadText" => ["BadText", "DrawError", "ValueError", "Exception"]
  | "Shortage" => ["Shortage", "LookupError"]
  | "Exhausted" => ["Exhausted", "Shortage", "LookupError"]
  | "NoRow" => ["NoRow", "Shortage", "LookupError"]
  | "NoStream" => ["NoStream", "Shortage", "LookupError"]
  | "NothingToUndo" => ["NothingToUndo", "Shortage", "LookupError"]
  | "RunError" => ["RunError", "RuntimeError"]
  | "TooLong" => ["TooLong", "RunError", "RuntimeError"]
  | "Unsteady" => ["Unsteady", "RunError", "RuntimeError"]
  | "Aside" => ["Aside"]
  | "Leaping" => ["Leaping", "Source"]
  | "Linear" => ["Linear", "Source"]
  | "Order" => ["Order"]
  | "Reservoir" => ["Reservoir"]
  | "Session" => ["Session"]
  | "Source" => ["Source"]
  | "Scripted" => ["Scripted", "Source"]
  | "Streams" => ["Streams"]
  | "Recording" => ["Recording", "Source"]
  | "Twisted" => ["Twisted", "Source"]
  | "Table" => ["Table"]
  | "Urn" => ["Urn"]
  | "bool" => ["bool", "int"]
  | c => [c]
def xnames : List String := ["ValueError", "LookupError", "RuntimeError", "Exception", "BaseException", "KeyError", "IndexError", "TypeError"]
def kitP (a b : String) : Option Bool := if a ∈ bnames ∧ b ∈ xnames then none else some (decide (b ∈ anc a))
def kitB (b : String) : String → String → Option Bool := fun a b' => if b' = b then kitP a b' else none
theorem kitB_self {a b : String} : kitB b a b = kitP a b := if_pos rfl
theorem kitE {a b : String} {t : Bool} {va vb : Value} {W : Wl} (h : kitP a b = some t) (ha : cvl W a = va) (hb : cvl W b = vb) (f : PySem.W.kitOne W.K va vb = some t) : ∀ r, kitP a b = some r → PySem.W.kitOne W.K (cvl W a) (cvl W b) = some r := fun r e => by
  rw [h] at e
  cases e
  rw [ha, hb]
  exact f
theorem kitOk_of {W : Wl} {b : String} (h1 : All (fun a => ∀ r, kitP a b = some r → PySem.W.kitOne W.K (cvl W a) (cvl W b) = some r) bnames) (h2 : All (fun a => ∀ r, kitP a b = some r → PySem.W.kitOne W.K (cvl W a) (cvl W b) = some r) W.live) (h3 : All (fun a => ∀ r, kitP a b = some r → PySem.W.kitOne W.K (cvl W a) (cvl W b) = some r) W.xlive)
    (hi : All (fun c => c ∉ bnames ∧ C8.InsC W.K (W.κ c)) W.live) (hx : All (fun c => c ∉ bnames ∧ ExcC W.K (W.κ c)) W.xlive) : KitOk W (kitB b) where
  kit := fun a b' r hm e => by
    unfold kitB at e
    split at e
    · rename_i hb
      subst hb
      rcases hm with hm | hm | hm
      · exact h1.at a hm r e
      · exact h2.at a hm r e
      · exact h3.at a hm r e
    · cases e
  ins := fun c hc => hi.at c hc
  exc := fun c hc => hx.at c hc
/-- what an except clause catches -/
def exP (C : String) : String → Option Bool := fun c => some (decide (C ∈ anc c))
def exAny (cs : List String) (c : String) : Bool := cs.any fun C => decide (C ∈ anc c)
def exT (cs : List String) : String → Option Bool := fun c => some (exAny cs c)
def ExOk (W : Wl) (C : String) : Prop := ∀ c ∈ W.xlive, ∀ b, exP C c = some b → PySem.W.exmOne W.K (.ref (W.κ c)) (.ref (W.κ C)) = some b
theorem exOk_of {W : Wl} {C : String} (h : All (fun c => PySem.W.exmOne W.K (.ref (W.κ c)) (.ref (W.κ C)) = some (decide (C ∈ anc c))) W.xlive) : ExOk W C := fun c hc b e => by
  cases e
  exact h.at c hc
theorem exE {W : Wl} {c C : String} {t : Bool} (h : decide (C ∈ anc c) = t) (f : PySem.W.exmOne W.K (.ref (W.κ c)) (.ref (W.κ C)) = some t) : PySem.W.exmOne W.K (.ref (W.κ c)) (.ref (W.κ C)) = some (decide (C ∈ anc c)) := by rw [h]; exact f
def tyB (s : Sto) : AV → Option String
  | .non => some "NoneType"
  | .bl _ => some "bool"
  | .int _ => some "int"
  | .str _ => some "str"
  | .tup _ => some "tuple"
  | .obj i => (match s.c i with | .lst _ => some "list" | .dic _ => some "dict" | .ins _ _ => none)
  | _ => none
def isObj : AV → Bool
  | .obj _ => true
  | _ => false
def ownK : AV → Sto → Res AV := fun v s => if isObj v = true then .ok v s else .stuck
@[simp] theorem ownK_obj {i : Nat} {s : Sto} : ownK (.obj i) s = .ok (.obj i) s := rfl
def gOwn (c : String) (ts : List String) (F : List AV → Sto → Res AV) (x y : AV) (s : Sto) : Res AV := if isI s x c = true then (match tyB s y with | some t => if t ∈ ts then (F [x, y] s).bind ownK else .stuck | none => .stuck) else .stuck
def aOwn (c : String) (ts : List String) (n : Nat) (F : List AV → Sto → Res AV) (fa fb : AE) : AE := fun σ s => (fa σ s).bind fun x s1 => (fb σ s1).bind fun y s2 => gOwn c ts F x y s2
theorem tyB_rel {W : Wl} {w : Wd} {s : Sto} {x : AV} {v : V} {t : String} (S : Sim W w s) (r : Rel W w x v) (h : tyB s x = some t) : TyX W.K w.H v (.type t) := by
  cases r with
  | non => cases h; exact .base .non
  | bl => cases h; exact .base (.bl _)
  | int => cases h; exact .base (.int _)
  | str => cases h; exact .base (.str _)
  | ty => cases h
  | cls => cases h
  | raw => cases h
  | scr => cases h
  | exn => cases h
  | tup h1 h2 => cases h; exact sqt_ty h1
  | @obj i hi =>
    have h : (match s.c i with | .lst _ => some "list" | .dic _ => some "dict" | .ins _ _ => none : Option String) = some t := h
    cases ec : s.c i with
    | lst xs =>
      rw [ec] at h
      cases h
      obtain ⟨vs, k1, k2, k3, k4⟩ := lstO_at S (.obj hi) ec
      exact .base (.lst k3)
    | dic kvs =>
      rw [ec] at h
      cases h
      obtain ⟨o, k1, k2, k3, k4⟩ := cell_at S (.obj hi) ec
      cases k4
      exact .base (.dK k3)
    | ins c fs => rw [ec] at h; cases h
theorem DE.own {W : Wl} {Ek : XK} {ta tb : TE} {fa fb : AE} {c : String} {nm : String} {ts : List String} {F : List AV → Sto → Res AV} {k : Nat} (ht : All (fun t => Gx.OwnT W.K (W.κ c) nm t) ts) (ha : DE W (fun _ => Ek) ta fa) (hb : DE W (fun _ => Ek) tb fb) :
    DE W (fun _ => Ek) (tOp (Gx.rOwnX W.K (W.κ c) nm (spF W 2 F) Ek) ta tb) (aOwn c ts k F fa fb) := fun w s σ σc Q S R h => by
  refine ha w s σ σc _ S R ((post_bind_ok h).mono (fun x s1 h1 w1 v e1 S1 r1 => ?_) fun _ _ _ _ z => z)
  refine hb w1 s1 σ σc _ S1 (R.mono e1) ((post_bind_ok h1).mono (fun y s2 h2 w2 u e2 S2 r2 => ?_) fun _ _ _ _ z => z.mono e1)
  unfold gOwn at h2
  split at h2
  · rename_i hi
    split at h2
    · rename_i t et
      split at h2
      · rename_i htm
        have hx : ∃ fs, insAt s2 x = some (c, fs) := by
          unfold isI at hi
          split at hi
          · rename_i d fs e
            cases of_decide_eq_true hi
            exact ⟨fs, e⟩
          · cases hi
        obtain ⟨fs, hx⟩ := hx
        obtain ⟨i, dx, gs, rfl, k2, rfl, k3, k4, k5⟩ := ins_at S2 (r1.mono e2) hx
        refine ⟨_, dx, gs, t, rfl, tyB_rel S2 r2 et, ht.at t htm, k3, w2, s2, [.obj i, y], rfl, S2, (.cons (r1.mono e2) (.cons r2 .nil)), rfl, ?_⟩
        refine (post_bind_ok h2).mono (fun v' s3 h3 w3 vc e3 S3 r3 => ?_) fun _ _ _ _ z => (z.mono e1).mono e2
        unfold ownK at h3
        split at h3
        · rename_i ho
          cases r3 with
          | obj hj => exact ⟨⟨_, rfl⟩, h3 w3 _ ((e1.trans e2).trans e3) S3 (.obj hj)⟩
          | _ => cases ho
        · exact (show False from h3).elim
      · exact (show False from h2).elim
    · exact (show False from h2).elim
  · exact (show False from h2).elim
end
end Ab
set_option Elab.async false
set_option linter.all false
set_option maxRecDepth 100000
set_option maxHeartbeats 1000000
namespace Ab
open PySem PySem.Spec PyProof.Rows L2
open Classical
mutual
def Cl (n : Nat) : AV → Prop
  | .obj i => i < n
  | .tup xs => ClL n xs
  | .scr xs => ClL n xs
  | .exn _ _ xs => ClL n xs
  | _ => True
def ClL (n : Nat) : List AV → Prop
  | [] => True
  | x :: xs => Cl n x ∧ ClL n xs
end
@[simp] theorem Cl_non {n : Nat} : Cl n .non = True := by simp only [Cl]
@[simp] theorem Cl_bl {n : Nat} {b : Bool} : Cl n (.bl b) = True := by simp only [Cl]
@[simp] theorem Cl_int {n : Nat} {b : Int} : Cl n (.int b) = True := by simp only [Cl]
@[simp] theorem Cl_str {n : Nat} {b : Str} : Cl n (.str b) = True := by simp only [Cl]
@[simp] theorem Cl_cls {n : Nat} {b : String} : Cl n (.cls b) = True := by simp only [Cl]
@[simp] theorem Cl_obj {n i : Nat} : Cl n (.obj i) = (i < n) := by simp only [Cl]
@[simp] theorem Cl_tup {n : Nat} {xs : List AV} : Cl n (.tup xs) = ClL n xs := by simp only [Cl]
@[simp] theorem ClL_nil {n : Nat} : ClL n [] = True := by simp only [ClL]
@[simp] theorem ClL_cons {n : Nat} {x : AV} {xs : List AV} : ClL n (x :: xs) = (Cl n x ∧ ClL n xs) := by simp only [ClL]
def ClC (n : Nat) : Cell → Prop
  | .lst xs => ClL n xs
  | .ins _ fs => ∀ p ∈ fs, Cl n p.2
  | .dic kvs => ∀ p ∈ kvs, Cl n p.2
section
variable {W : Wc} {w : Wd}
mutual
theorem Rel.cl {W : Wc} {w : Wd} : ∀ {x : AV} {v : V}, Rel W w x v → Cl w.n x
  | _, _, .non => by simp
  | _, _, .bl b => by simp
  | _, _, .int i => by simp
  | _, _, .str s => by simp
  | _, _, .ty n => by simp only [Cl]
  | _, _, .cls c => by simp
  | _, _, .raw a => by simp only [Cl]
  | _, _, .obj h => by simp only [Cl]; exact h
  | _, _, .tup h r => by simp only [Cl]; exact RelL.cl r
  | _, _, .scr h r => by simp only [Cl]; exact RelL.cl r
  | _, _, .exn hc h hd hl r => by simp only [Cl]; exact RelL.cl r
theorem RelL.cl {W : Wc} {w : Wd} : ∀ {x : List AV} {v : List V}, RelL W w x v → ClL w.n x
  | _, _, .nil => by simp
  | _, _, .cons h r => by simp only [ClL]; exact ⟨Rel.cl h, RelL.cl r⟩
end
mutual
theorem Rel.cut {W : Wc} {w : Wd} {n : Nat} : ∀ {x : AV} {v : V}, Rel W w x v → Cl n x → Rel W { w with n := n } x v
  | _, _, .non, _ => .non
  | _, _, .bl b, _ => .bl b
  | _, _, .int i, _ => .int i
  | _, _, .str s, _ => .str s
  | _, _, .ty n, _ => .ty n
  | _, _, .cls c, _ => .cls c
  | _, _, .raw a, _ => .raw a
  | _, _, .obj h, c => .obj (w := { w with n := n }) (by simp only [Cl] at c; exact c)
  | _, _, .tup h r, c => .tup h (RelL.cut r (by simp only [Cl] at c; exact c))
  | _, _, .scr h r, c => .scr h (RelL.cut r (by simp only [Cl] at c; exact c))
  | _, _, .exn hc h hd hl r, c => .exn hc h hd hl (RelL.cut r (by simp only [Cl] at c; exact c))
theorem RelL.cut {W : Wc} {w : Wd} {n : Nat} : ∀ {x : List AV} {v : List V}, RelL W w x v → ClL n x → RelL W { w with n := n } x v
  | _, _, .nil, _ => .nil
  | _, _, .cons h r, c => .cons (Rel.cut h (by simp only [ClL] at c; exact c.1)) (RelL.cut r (by simp only [ClL] at c; exact c.2))
end
theorem RelF.cl : ∀ {fs : List (Str × AV)} {gs : List (Str × V)}, RelF W w fs gs → ∀ p ∈ fs, Cl w.n p.2
  | _, _, .nil, p, h => by cases h
  | _, _, .cons h r, p, hp => by
    rcases List.mem_cons.mp hp with rfl | hp
    · exact h.2.cl
    · exact RelF.cl r p hp
theorem RelK.cl : ∀ {fs : List (Key × AV)} {gs : List (Key × V)}, RelK W w fs gs → ∀ p ∈ fs, Cl w.n p.2
  | _, _, .nil, p, h => by cases h
  | _, _, .cons h r, p, hp => by
    rcases List.mem_cons.mp hp with rfl | hp
    · exact h.2.cl
    · exact RelK.cl r p hp
theorem RelF.cut {n : Nat} : ∀ {fs : List (Str × AV)} {gs : List (Str × V)}, RelF W w fs gs → (∀ p ∈ fs, Cl n p.2) → RelF W { w with n := n } fs gs
  | _, _, .nil, _ => .nil
  | _, _, .cons h r, c => .cons ⟨h.1, h.2.cut (c _ List.mem_cons_self)⟩ (RelF.cut r fun p hp => c p (List.mem_cons_of_mem _ hp))
theorem RelK.cut {n : Nat} : ∀ {fs : List (Key × AV)} {gs : List (Key × V)}, RelK W w fs gs → (∀ p ∈ fs, Cl n p.2) → RelK W { w with n := n } fs gs
  | _, _, .nil, _ => .nil
  | _, _, .cons h r, c => .cons ⟨h.1, h.2.cut (c _ List.mem_cons_self)⟩ (RelK.cut r fun p hp => c p (List.mem_cons_of_mem _ hp))
theorem CRel.cl {c : Cell} {o : HO} (h : CRel W w c o) : ClC w.n c := by
  cases h with
  | lst r => exact r.cl
  | ins hc r => exact RelF.cl r
  | dic r => exact RelK.cl r
theorem CRel.cut {c : Cell} {o : HO} {n : Nat} (h : CRel W w c o) (k : ClC n c) : CRel W { w with n := n } c o := by
  cases h with
  | lst r => exact .lst (r.cut k)
  | ins hc r => exact .ins hc (RelF.cut r k)
  | dic r => exact .dic (RelK.cut r k)
end
/-- what stood is as it was, or names what stood alone -/
def Clean (s s' : Sto) : Prop := s.n ≤ s'.n ∧ ∀ i, i < s.n → s'.c i = s.c i ∨ ClC s.n (s'.c i)
def Sto.cut (s' s : Sto) : Sto := ⟨s.n, fun i => if i < s.n then s'.c i else s.c i⟩
theorem Clean.refl (s : Sto) : Clean s s := ⟨Nat.le_refl _, fun _ _ => .inl rfl⟩
theorem Clean.new {s t : Sto} {x : Cell} (h : Clean s t) : Clean s (t.new x) := ⟨Nat.le_succ_of_le h.1, fun i hi => by
  show (if i = t.n then x else t.c i) = s.c i ∨ ClC s.n (if i = t.n then x else t.c i)
  rw [if_neg (by have := h.1; omega)]
  exact h.2 i hi⟩
theorem Clean.set {s t : Sto} {i : Nat} {x : Cell} (h : Clean s t) (c : s.n ≤ i ∨ ClC s.n x) : Clean s (t.set i x) := ⟨h.1, fun j hj => by
  show (if j = i then x else t.c j) = s.c j ∨ ClC s.n (if j = i then x else t.c j)
  by_cases e : j = i
  · rw [if_pos e]
    rcases c with c | c
    · omega
    · exact .inr c
  · rw [if_neg e]
    exact h.2 j hj⟩
theorem cut_self (s : Sto) : s.cut s = s := by
  unfold Sto.cut
  simp
theorem cut_eq {s t : Sto} (h : ∀ i, i < s.n → t.c i = s.c i) : t.cut s = s := by
  unfold Sto.cut
  cases s with
  | mk n c =>
    simp only [Sto.mk.injEq, true_and]
    funext i
    by_cases hi : i < n
    · simp only [if_pos hi]; exact h i hi
    · simp only [if_neg hi]
noncomputable section
def gcR {α : Type} (cl : Nat → α → Prop) (s : Sto) : Res α → Res α
  | .ok v s' => if cl s.n v ∧ Clean s s' then .ok v (s'.cut s) else .ok v s'
  | .err c ns vs s' => if ClL s.n vs ∧ Clean s s' then .err c ns vs (s'.cut s) else .err c ns vs s'
  | .stuck => .stuck
def gcF (F : List AV → Sto → Res AV) : List AV → Sto → Res AV := fun args s => gcR Cl s (F args s)
def gcE (f : AE) : AE := fun σ s => gcR Cl s (f σ s)
def gcB (s : Sto) : Res Bool → Res Bool
  | .ok v s' => if Clean s s' then .ok v (s'.cut s) else .ok v s'
  | .err c ns vs s' => .err c ns vs s'
  | .stuck => .stuck
def gcT (f : AT) : AT := fun σ s => gcB s (f σ s)
theorem gcF_eq {F : List AV → Sto → Res AV} {args : List AV} {s s' : Sto} {v : AV} (h : F args s = .ok v s') (hv : Cl s.n v) (hc : Clean s s') : gcF F args s = .ok v (s'.cut s) := by
  unfold gcF gcR
  rw [h]
  exact if_pos ⟨hv, hc⟩
theorem gcF_raw {F : List AV → Sto → Res AV} {args : List AV} {s s' : Sto} {v : AV} (h : F args s = .ok v s') (hv : ¬ Cl s.n v) : gcF F args s = .ok v s' := by
  unfold gcF gcR
  rw [h]
  exact if_neg fun z => hv z.1
theorem gcF_err {F : List AV → Sto → Res AV} {args : List AV} {s s' : Sto} {c : String} {ns : List Str} {vs : List AV} (h : F args s = .err c ns vs s') (hv : ClL s.n vs) (hc : Clean s s') : gcF F args s = .err c ns vs (s'.cut s) := by
  unfold gcF gcR
  rw [h]
  exact if_pos ⟨hv, hc⟩
theorem gcT_eq {f : AT} {σ : ASt} {s s' : Sto} {b : Bool} (h : f σ s = .ok b s') (hc : Clean s s') : gcT f σ s = .ok b (s'.cut s) := by
  unfold gcT gcB
  rw [h]
  exact if_pos hc
section
variable {W : Wl}
theorem sim_cut {w w' : Wd} {s s' : Sto} (S : Sim W w s) (e : Ext w w') (S' : Sim W w' s') (hc : Clean s s') : Ext w { w' with n := s.n } ∧ Sim W { w' with n := s.n } (s'.cut s) := by
  have en : Ext w { w' with n := s.n } := ⟨Nat.le_of_eq S.n, e.m, e.im⟩
  refine ⟨en, rfl, fun i j hi hj q => S'.inj i j (Nat.lt_of_lt_of_le hi hc.1) (Nat.lt_of_lt_of_le hj hc.1) q, fun i hi => ?_, S'.tab, W.cl _ _ en S.inv⟩
  have hi : i < s.n := hi
  obtain ⟨o, h1, h2⟩ := S'.cell i (Nat.lt_of_lt_of_le hi hc.1)
  have ec : (s'.cut s).c i = s'.c i := if_pos hi
  refine ⟨o, h1, ?_⟩
  rw [ec]
  refine h2.cut ?_
  rcases hc.2 i hi with h | h
  · rw [h]
    obtain ⟨o', k1, k2⟩ := S.cell i hi
    rw [← S.n]
    exact k2.cl
  · exact h
theorem gc_post {w : Wd} {s : Sto} {r : Res AV} {Q : VK} {E : XK} (S : Sim W w s) (h : (gcR Cl s r).Post (OkP W w Q) (ErrP W w E)) : r.Post (OkP W w Q) (ErrP W w E) := by
  cases r with
  | ok v s' =>
    have h : (if Cl s.n v ∧ Clean s s' then .ok v (s'.cut s) else .ok v s' : Res AV).Post (OkP W w Q) (ErrP W w E) := h
    split at h
    · rename_i hc
      intro w' vc e' S' r'
      obtain ⟨k1, k2⟩ := sim_cut S e' S' hc.2
      exact (show OkP W w Q v (s'.cut s) from h) { w' with n := s.n } vc k1 k2 (r'.cut hc.1)
    · exact h
  | err c ns vs s' =>
    have h : (if ClL s.n vs ∧ Clean s s' then .err c ns vs (s'.cut s) else .err c ns vs s' : Res AV).Post (OkP W w Q) (ErrP W w E) := h
    split at h
    · rename_i hc
      intro w' d e' S' x
      obtain ⟨k1, k2⟩ := sim_cut S e' S' hc.2
      obtain ⟨x1, us, x2, x3, x4⟩ := x
      exact (show ErrP W w E c ns vs (s'.cut s) from h) { w' with n := s.n } d k1 k2 ⟨x1, us, x2, x3, x4.cut hc.1⟩
    · exact h
  | stuck => exact h
theorem spF_gc {n : Nat} {F : List AV → Sto → Res AV} {vs : List V} {H : Hp} {Q : VK} {E : XK} (h : spF W n (gcF F) vs H Q E) : spF W n F vs H Q E := by
  obtain ⟨w, s, args, e, S, R, hn, p⟩ := h
  exact ⟨w, s, args, e, S, R, hn, gc_post S p⟩
theorem DE.gc {E : L2.St → XK} {te : TE} {f : AE} (h : DE W E te f) : DE W E te (gcE f) := fun w s σ σc Q S R p => h w s σ σc Q S R (gc_post S p)
theorem DT.gc {E : L2.St → XK} {tt : TT} {f : AT} (h : DT W E tt f) : DT W E tt (gcT f) := fun w s σ σc Q S R p => by
  refine h w s σ σc Q S R ?_
  have p : (gcB s (f σ s)).Post (OkB W w Q) (ErrP W w (E σc)) := p
  cases e : f σ s with
  | ok v s' =>
    rw [e] at p
    have p : (if Clean s s' then .ok v (s'.cut s) else .ok v s' : Res Bool).Post (OkB W w Q) (ErrP W w (E σc)) := p
    split at p
    · rename_i hc
      intro w' e' S'
      obtain ⟨k1, k2⟩ := sim_cut S e' S' hc
      exact (show OkB W w Q v (s'.cut s) from p) { w' with n := s.n } k1 k2
    · exact p
  | err c ns vs s' => rw [e] at p; exact p
  | stuck => rw [e] at p; exact p
end
end
end Ab
set_option Elab.async false
set_option linter.all false
set_option maxRecDepth 100000
set_option maxHeartbeats 1000000
namespace Gx
open PySem PySem.Spec PyProof.Rows L2
end Gx
namespace Ab
open PySem PySem.Spec PyProof.Rows L2
open Classical
noncomputable section
inductive CL : List AV → List String → Prop
  | nil : CL [] []
  | ty {n : String} {xs : List AV} {bs : List String} (h : n ∈ bnames) (r : CL xs bs) : CL (.ty n :: xs) (n :: bs)
  | cls {n : String} {xs : List AV} {bs : List String} (h : n ∉ bnames) (r : CL xs bs) : CL (.cls n :: xs) (n :: bs)
end
end Ab
set_option Elab.async false
set_option linter.all false
set_option maxRecDepth 100000
set_option maxHeartbeats 4000000
namespace Gx
open PySem PySem.Spec PyProof.Rows L2
section
variable {P : Program} {w : World} {K : PySem.W.Frag} {mg mb : Str → Option Value} {k : Nat} {fa a : Addr} {cs : List (Addr × Addr)} {fd : FuncData} {x : Str} {sp : Sp} {t : Shared} {vs : List Value} {ns : List Int}
/-- the abstract heap at the law's call: the script and the tables -/
structure Hp0F (P : Program) (w : World) (K : PySem.W.Frag) (cs : List (Addr × Addr)) (a : Addr) (ns : List Int) (h : Heap) (H : Hp) : Prop where
  tab : ∀ p ∈ cs, H p.2 = some (.tbl #[])
  only : ∀ b, H b = none ∨ b ∈ cs.map (·.2) ∨ ∃ o xs, H b = some (.frz o (.lst xs))
  seq : Ab.SqF K H a (ns.map V.int)
  ok : HOk P w H h
  dom : ∀ b, H b ≠ none → b = a ∨ b ∈ cs.map (·.2)
  scr : H a ≠ none → K.lookup a = none
theorem hp0F (KX : K.In t.heap) (hT : ∀ p ∈ cs, t.heap.get? p.2 = some { cls := .none, data := .fields #[] }) (ha : t.heap.get? a = some { cls := .type "list", data := .seq vs.toArray }) (hi : IntsAre vs ns) (hl : ns.length ≤ sizeLine) :
    ∃ H, Hp0F P w K cs a ns t.heap H := by
  have rv := vals_ints hi
  have isT : ∀ b ∈ cs.map (·.2), t.heap.get? b = some { cls := .none, data := .fields #[] } := fun b hb => by
    obtain ⟨p, hp, rfl⟩ := List.mem_map.mp hb
    exact hT p hp
  have aT : a ∉ cs.map (·.2) := fun z => by
    have q := isT a z
    rw [ha] at q
    cases congrArg Obj.data (Option.some.inj q)
  have mem : ∀ p ∈ cs, p.2 ∈ cs.map (·.2) := fun p hp => List.mem_map.mpr ⟨p, hp, rfl⟩
  cases hk : K.lookup a with
  | some o =>
    have e := KX a o hk
    rw [ha] at e
    cases e
    refine ⟨fun b => if b ∈ cs.map (·.2) then some (.tbl #[]) else none, fun p hp => if_pos (mem p hp), fun b => ?_,
      .inr ⟨_, vs.toArray, _, hk, rfl, rfl, rfl, by rw [List.size_toArray, hi.length]; exact hl, by simpa using rv⟩, fun b u z => ?_, fun b z => ?_, fun z => absurd (if_neg aT) z⟩
    · by_cases hb : b ∈ cs.map (·.2)
      · exact .inr (.inl hb)
      · exact .inl (if_neg hb)
    · by_cases hb : b ∈ cs.map (·.2)
      · cases (if_pos hb).symm.trans z
        exact isT b hb
      · cases (if_neg hb).symm.trans z
    · by_cases hb : b ∈ cs.map (·.2)
      · exact .inr hb
      · exact absurd (if_neg hb) z
  | none =>
    refine ⟨fun b => if b = a then some (.frz { cls := .type "list", data := .seq vs.toArray } (.lst (ns.map V.int))) else if b ∈ cs.map (·.2) then some (.tbl #[]) else none,
      fun p hp => ?_, fun b => ?_, .inl ⟨{ cls := .type "list", data := .seq vs.toArray }, if_pos rfl⟩, fun b u z => ?_, fun b z => ?_, fun _ => hk⟩
    · have np : ¬ p.2 = a := fun z => aT (z ▸ mem p hp)
      exact (if_neg np).trans (if_pos (mem p hp))
    · by_cases hb : b = a
      · exact .inr (.inr ⟨_, _, if_pos hb⟩)
      · by_cases hc : b ∈ cs.map (·.2)
        · exact .inr (.inl hc)
        · exact .inl ((if_neg hb).trans (if_neg hc))
    · by_cases hb : b = a
      · cases (if_pos hb).symm.trans z
        subst hb
        exact ⟨ha, by rw [List.length_map]; exact hl, vs, _, rv, ha⟩
      · have z1 := (if_neg hb).symm.trans z
        by_cases hc : b ∈ cs.map (·.2)
        · cases (if_pos hc).symm.trans z1
          exact isT b hc
        · cases (if_neg hc).symm.trans z1
    · by_cases hb : b = a
      · exact .inl hb
      · by_cases hc : b ∈ cs.map (·.2)
        · exact .inr hc
        · exact absurd ((if_neg hb).trans (if_neg hc)) z
theorem callF (KX : K.In t.heap) (hns : t.heap.Ns mainGlobals mg) (hb : t.heap.Ns builtinsNs mb) (hbb : ∀ x : Str, x ≠ "__name__" → mb x = bootBuiltins x) (hlim : t.heap.NoLimit) (hg : t.gens = #[])
    (hT : ∀ p ∈ cs, t.heap.get? p.2 = some { cls := .none, data := .fields #[] }) (nT : ∀ p ∈ cs, K.lookup p.2 = none) (C : ∀ p ∈ cs, PySem.W.CodeHd t.heap p.1 p.2)
    (hbm : ∃ (bm : Addr) (ob : Obj), mg "__builtins__" = some (.ref bm) ∧ bm ≠ builtinsNs ∧ t.heap.get? bm = some ob ∧ ob.cls = .type "module" ∧ ob.dict = some builtinsNs ∧ ob.data = .plain)
    (ha : t.heap.get? a = some { cls := .type "list", data := .seq vs.toArray }) (hi : IntsAre vs ns) (hl : ns.length ≤ sizeLine) (hr : Room k callerA)
    (F : ∀ base : Heap, K.In base → base.Ns mainGlobals mg → (∀ p ∈ cs, LamX.TabB base mg p.1 p.2) → FnG P w K mg base k fa fd [x] sp) (hbind : ∀ (s : Shared) (u : Value), BindsTo s fd ⟨[u], []⟩ [(x, u)])
    (hsp : ∀ H : Hp, (∀ p ∈ cs, H p.2 = some (.tbl #[])) → Ab.SqF K H a (ns.map V.int) → sp [.ref a] H (fun v _ => v = .bl true) C8.E0) :
    codeAny (model P w) callerA (.call (.ref fa) ⟨[.ref a], []⟩) (fun r s' => r = .ok (.ret (.bool true)) ∧ OldK t.heap s'.heap ∧ s'.os = t.os ∧ AllBare s'.gens) t := by
  obtain ⟨H, Z⟩ := hp0F (P := P) (w := w) KX hT ha hi hl
  have see : ∀ {b : Addr} {o : Obj}, t.heap.get? b = some o → H b = none → (hidT t.heap H).get? b = some o := fun e n => hidT_get e n
  -- what is neither a list nor a table is not tracked
  have off : ∀ {b : Addr} {o : Obj}, t.heap.get? b = some o → (∀ ws n, o.data ≠ .seq ws n) → o.data ≠ .fields #[] → H b = none := fun {b o} e h1 h2 => by
    cases q : H b with
    | none => rfl
    | some u =>
      rcases Z.dom b (by rw [q]; simp) with e1 | e1
      · rw [e1, ha] at e
        cases e
        exact (h1 _ _ rfl).elim
      · obtain ⟨p, hp, rfl⟩ := List.mem_map.mp e1
        rw [hT p hp] at e
        cases e
        exact (h2 rfl).elim
  have offD : ∀ {b : Addr} {o : Obj} {es : Array DictEntry} {ep : Nat}, t.heap.get? b = some o → o.data = .dict es ep → H b = none := fun {b o es ep} e d =>
    off e (fun ws n z => by rw [d] at z; cases z) (fun z => by rw [d] at z; cases z)
  have nsOk : ∀ {b : Addr} {m : Str → Option Value}, t.heap.Ns b m → (hidT t.heap H).Ns b m := fun {b m} hh => by
    obtain ⟨o, es, ep, e, d, r⟩ := hh
    exact ⟨o, es, ep, see e (offD e d), d, r⟩
  have kOk : K.In (hidT t.heap H) := fun b o e => by
    refine see (KX b o e) ?_
    cases q : H b with
    | none => rfl
    | some u =>
      rcases Z.dom b (by rw [q]; simp) with e1 | e1
      · subst e1
        rw [Z.scr (by rw [q]; simp)] at e
        cases e
      · obtain ⟨p, hp, rfl⟩ := List.mem_map.mp e1
        rw [nT p hp] at e
        cases e
  have lim : (hidT t.heap H).NoLimit := by
    obtain ⟨mc, h1, h2⟩ := hlim
    exact ⟨mc, nsOk h1, h2⟩
  have hM : L2.Mod K mg (hidT t.heap H) := ⟨kOk, nsOk hns, ⟨mb, nsOk hb, hbb⟩, lim⟩
  have TB : ∀ p ∈ cs, LamX.TabB (hidT t.heap H) mg p.1 p.2 := fun p hp => by
    have hp2 := hT p hp
    refine ⟨?_, ?_, fun z => ?_⟩
    · obtain ⟨o, us, file, tf, flags, tg, inF, text, tt, e1, r1, r2, r3, r4, r5, r6, r7, r8, hne⟩ := C p hp
      refine ⟨o, us, file, tf, flags, tg, inF, text, tt, see e1 (off e1 (fun ws n z => ?_) fun z => ?_), r1, r2, r3, r4, r5, r6, r7, r8, hne⟩
      · rw [r2] at z; cases z
      · rw [r2] at z; cases z; simp at r3
    · obtain ⟨bm, ob, b1, b2, b3, b4, b5, b6⟩ := hbm
      refine ⟨bm, ob, b1, b2, fun q => ?_, fun q => ?_, see b3 (off b3 (fun ws n z => ?_) fun z => ?_), b4, b5, b6⟩
      · obtain ⟨o, es, ep, e, hd, _⟩ := hns
        rw [q, e] at b3; cases b3; rw [hd] at b6; cases b6
      · rw [q, hp2] at b3; cases b3; cases b6
      · rw [b6] at z; cases z
      · rw [b6] at z; cases z
    · obtain ⟨o, es, ep, e, hd, _⟩ := hns
      rw [z, hp2] at e; cases e; cases hd
  have nil : ∀ b : Addr, b ∉ ([] : List Addr) := fun b z => by simp at z
  have e0 : Env0 P w K mg (hidT t.heap H) callerA [] t H := ⟨rfl, hM, fun b o e => of_hidT e, Nat.le_of_eq (hidT_size _ _), trivial, fun b z => absurd z (nil b), Z.ok, .of_eq hg⟩
  have go := (F _ kOk (nsOk hns) TB).run callerA [] t H ⟨[.ref a], []⟩ [.ref a] [.ref a] _ rfl hr e0 (hbind t (.ref a)) (.cons rfl .nil) (hsp H Z.tab Z.seq)
  refine codeAny_mono go fun res s2 hres => ?_
  match res, hres with
  | .ok .next, h => exact h.elim
  | .ok .brk, h => exact h.elim
  | .ok .cont, h => exact h.elim
  | .error e, h => exact (show False from h).elim
  | .ok (.ret u), h =>
    obtain ⟨v, H', os, bare, un, ok2, r', q⟩ := h
    obtain rfl : v = .bl true := q
    obtain rfl : u = Value.bool true := r'
    have same : ∀ b o, b ∉ cs.map (·.2) → t.heap.get? b = some o → s2.heap.get? b = some o := fun b o nb e => by
      rcases Z.only b with z | z | ⟨ob, xs, z⟩
      · exact un.keep b o e z (nil b) (nil b)
      · exact absurd z nb
      · obtain ⟨e1, _⟩ := Z.ok b _ z
        obtain ⟨e2, _⟩ := ok2 b _ (un.frzs b ob _ z)
        rw [e] at e1
        cases e1
        exact e2
    have grown : ∀ p ∈ cs, ∃ more : Array Value, s2.heap.get? p.2 = some { cls := .none, data := .fields more } := fun p hp => by
      obtain ⟨more, z⟩ := un.tbls p.2 #[] (Z.tab p hp)
      exact ⟨_, ok2 p.2 _ z⟩
    refine ⟨rfl, ⟨fun b o e => ?_, fun b o e => ?_⟩, os, bare⟩
    · by_cases hb : b ∈ cs.map (·.2)
      · obtain ⟨p, hp, rfl⟩ := List.mem_map.mp hb
        obtain ⟨more, hm⟩ := grown p hp
        rw [hT p hp] at e
        cases e
        exact .inr (.inl ⟨((C p hp).tab (hT p hp)).isCodeTable, rfl, #[], more, rfl, by rw [Array.empty_append]; exact hm⟩)
      · exact .inl (same b o hb e)
    · by_cases hb : b ∈ cs.map (·.2)
      · obtain ⟨p, hp, rfl⟩ := List.mem_map.mp hb
        obtain ⟨more, hm⟩ := grown p hp
        exact ⟨_, hm⟩
      · exact ⟨o, same b o hb e⟩
end
/-- what is known of the law's promise -/
def LawF (l : PySem.W.OpenLaw) (w : World) (K : PySem.W.Frag) (k : Nat) (x : Str) (mg : Str → Option Value) (fa : Addr) (h : Heap) : Prop :=
  ∃ (fd : FuncData) (cs : List (Addr × Addr)) (sp : Sp), (∀ p ∈ cs, h.get? p.2 = some { cls := .none, data := .fields #[] }) ∧ (∀ p ∈ cs, K.lookup p.2 = none) ∧ (∀ p ∈ cs, PySem.W.CodeHd h p.1 p.2) ∧
    (∀ (s : Shared) (u : Value), BindsTo s fd ⟨[u], []⟩ [(x, u)]) ∧
    (∀ (H : Hp) (a : Addr) (ns : List Int), ns.length ≤ 63 → (∀ z ∈ ns, Builtin.Int.intBits z ≤ 1048576) → (∀ p ∈ cs, H p.2 = some (.tbl #[])) → Ab.SqF K H a (ns.map V.int) → sp [.ref a] H (fun v _ => v = .bl true) C8.E0) ∧
    ∀ base : Heap, K.In base → base.Ns mainGlobals mg → (∀ p ∈ cs, LamX.TabB base mg p.1 p.2) → FnG l.prog w K mg base k fa fd [x] sp
theorem walkF {l : PySem.W.OpenLaw} {k : Nat} {q : Program} {loose : List Str} {XP : (Str → Option Value) → Heap → Prop} {YP : World → Heap → Prop} {d : DefRec} {K : Params → PySem.W.Frag} {x : Str}
    (hn : l.most = some 63) (hdf : d.params.defaults = []) (hr : Room k callerA) (hY : ∀ (w : World) (h : Heap), YP w h → (K w.params).In h)
    (F : ∀ (w : World) (mg : Str → Option Value) (fa : Addr) (h : Heap), YP w h → (K w.params).In h → h.Ns mainGlobals mg → mg d.name = some (.ref fa) → LawF l w (K w.params) k x mg fa h) :
    PySem.W.WalkO q loose XP YP l.row.toRowW d [] (fun f vs => PySem.call f vs) := by
  refine Att.attach_callB hn hdf ?_
  intro w s0 t mg mb fa o pm cd doc a vs ns G Y ho hd hcd hmg hobj hints hlen hbits hg
  have KX := hY w _ Y
  obtain ⟨fd, cs, sp, hT, nT, C, hb, hsp, hF⟩ := F w mg fa _ Y KX G.T.g hmg
  exact callF KX G.T.g G.T.b G.T.builtins G.T.nolimit hg hT nT C G.T.bmain hobj hints (Nat.le_trans hlen (by decide)) hr hF hb fun H hH hS => hsp H a ns hlen hbits hH hS
end Gx
set_option Elab.async false
set_option linter.all false
set_option maxRecDepth 100000
set_option maxHeartbeats 1000000
namespace Ab
open PySem PySem.Spec PyProof.Rows L2
theorem gc0 {F : List AV → Sto → Res AV} {args : List AV} {s : Sto} {v : AV} (h : F args s = .ok v s) (hv : Cl s.n v) : gcF F args s = .ok v s := by
  rw [gcF_eq h hv (.refl s), cut_self]
theorem gcx0 {F : List AV → Sto → Res AV} {args : List AV} {s : Sto} {c : String} {ns : List Str} {vs : List AV} (h : F args s = .err c ns vs s) (hv : ClL s.n vs) : gcF F args s = .err c ns vs s := by
  rw [gcF_err h hv (.refl s), cut_self]
theorem gcT0 {f : AT} {σ : ASt} {s s' : Sto} {b : Bool} (h : f σ s = .ok b s') (hc : Clean s s') (e : s'.cut s = s) : gcT f σ s = .ok b s := by
  rw [gcT_eq h hc, e]
@[simp] theorem Sto.new_n {s : Sto} {x : Cell} : (s.new x).n = s.n + 1 := rfl
@[simp] theorem Sto.set_n {s : Sto} {i : Nat} {x : Cell} : (s.set i x).n = s.n := rfl
@[simp] theorem Sto.new_at {s : Sto} {x : Cell} : (s.new x).c s.n = x := if_pos rfl
@[simp] theorem Sto.set_at {s : Sto} {x : Cell} {i : Nat} : (s.set i x).c i = x := if_pos rfl
theorem Sto.set_ne {s : Sto} {x : Cell} {i j : Nat} (h : j ≠ i) : (s.set i x).c j = s.c j := if_neg h
end Ab
namespace Ab
open PySem PySem.Spec PyProof.Rows L2
/-- a small number of things -/
theorem sizeLine_ge {n : Nat} : ((n ≤ sizeLine) = (n ≤ sizeLine)) := rfl
theorem kz : True = True := rfl
@[simp] theorem lookA_hd {f : Str} {v : AV} {r : List (Str × AV)} : lookA f ((f, v) :: r) = some v := if_pos rfl
end Ab
set_option Elab.async false
set_option linter.all false
set_option maxRecDepth 100000
set_option maxHeartbeats 1000000
namespace Ab
open PySem PySem.Spec PyProof.Rows L2
open Classical
structure Dn where
  nx : ASt → Sto → Prop
  rt : AV → Sto → Prop
  bk : ASt → Sto → Prop
  ct : ASt → Sto → Prop
  er : String → List Str → List AV → ASt → Sto → Prop
def SRes.A : SRes → Dn → Prop
  | .nx σ s, D => D.nx σ s
  | .rt v s, D => D.rt v s
  | .bk σ s, D => D.bk σ s
  | .ct σ s, D => D.ct σ s
  | .err c ns vs σ s, D => D.er c ns vs σ s
  | .stuck, _ => False
section
variable {α β : Type} {r r' : Res α} {P : α → Sto → Prop} {R : String → List Str → List AV → Sto → Prop} {q q' : SRes} {D : Dn}
theorem post_ok {a : α} {s : Sto} : (Res.ok a s).Post P R ↔ P a s := Iff.rfl
theorem post_err {c : String} {ns : List Str} {vs : List AV} {s : Sto} : (Res.err c ns vs s : Res α).Post P R ↔ R c ns vs s := Iff.rfl
theorem A_nx {σ : ASt} {s : Sto} : (SRes.nx σ s).A D ↔ D.nx σ s := Iff.rfl
theorem A_rt {v : AV} {s : Sto} : (SRes.rt v s).A D ↔ D.rt v s := Iff.rfl
theorem A_bk {σ : ASt} {s : Sto} : (SRes.bk σ s).A D ↔ D.bk σ s := Iff.rfl
theorem A_ct {σ : ASt} {s : Sto} : (SRes.ct σ s).A D ↔ D.ct σ s := Iff.rfl
theorem A_err {c : String} {ns : List Str} {vs : List AV} {σ : ASt} {s : Sto} : (SRes.err c ns vs σ s).A D ↔ D.er c ns vs σ s := Iff.rfl
theorem A_thn {f : AS} : (q.thn f).A D ↔ q.A ⟨fun σ s => (f σ s).A D, D.rt, D.bk, D.ct, D.er⟩ := by cases q <;> exact Iff.rfl
theorem A_st {σ : ASt} {k : α → Sto → SRes} : (r.st σ k).A D ↔ r.Post (fun a s => (k a s).A D) (fun c ns vs s => D.er c ns vs σ s) := by cases r <;> exact Iff.rfl
theorem A_loop {f : AS} : (q.loop f).A D ↔ q.A ⟨fun σ s => (f σ s).A D, D.rt, D.nx, fun σ s => (f σ s).A D, D.er⟩ := by cases q <;> exact Iff.rfl
theorem post_fn {q : SRes} {P : AV → Sto → Prop} : q.fn.Post P R ↔ q.A ⟨fun _ s => P .non s, P, fun _ _ => False, fun _ _ => False, fun c ns vs _ s => R c ns vs s⟩ := by cases q <;> exact Iff.rfl
theorem A_forget {n : Nat} : (q.forget n).A D ↔ q.A ⟨D.nx, D.rt, D.bk, D.ct, fun c ns vs _ s => D.er c ns vs (List.replicate n none) s⟩ := by cases q <;> exact Iff.rfl
theorem A_clr {i : Nat} : (q.clr i).A D ↔ q.A ⟨fun σ s => D.nx (σ.set i none) s, D.rt, fun σ s => D.bk (σ.set i none) s, fun σ s => D.ct (σ.set i none) s, fun _ _ _ _ _ => False⟩ := by cases q <;> exact Iff.rfl
theorem A_noX : q.noX.A D ↔ q.A ⟨D.nx, D.rt, D.bk, D.ct, fun _ _ _ _ _ => False⟩ := by cases q <;> exact Iff.rfl
theorem A_try {f : AS} {hs : List HdA} {σ : ASt} {s : Sto} : (aTry f hs σ s).A D ↔ (f σ s).A ⟨D.nx, D.rt, D.bk, D.ct, fun c ns vs σ' s' => (aHand c ns vs σ' s' hs).A D⟩ := by
  unfold aTry
  cases f σ s <;> exact Iff.rfl
theorem post_noErr : (noErr r).Post P R ↔ r.Post P (fun _ _ _ _ => False) := by cases r <;> exact Iff.rfl
theorem post_ite {c : Prop} [Decidable c] {a b : Res α} : (if c then a else b).Post P R ↔ (c → a.Post P R) ∧ (¬ c → b.Post P R) := by
  by_cases h : c
  · simp [h]
  · simp [h]
theorem A_ite {c : Prop} [Decidable c] {a b : SRes} : (if c then a else b).A D ↔ (c → a.A D) ∧ (¬ c → b.A D) := by
  by_cases h : c
  · simp [h]
  · simp [h]
end
@[simp] theorem Clean_refl (s : Sto) : Clean s s = True := eq_true (.refl s)
/-- a cell of a store that grew -/
theorem at_new {s : Sto} {x : Cell} {i : Nat} (h : i < s.n) : (s.new x).c i = s.c i := if_neg (Nat.ne_of_lt h)
section
variable {P : AV → Sto → Prop} {R : String → List Str → List AV → Sto → Prop}
theorem post_gcF {F : List AV → Sto → Res AV} {args : List AV} {s : Sto} : (gcF F args s).Post P R ↔ (F args s).Post (fun v s' => if Cl s.n v ∧ Clean s s' then P v (s'.cut s) else P v s') (fun c ns vs s' => if ClL s.n vs ∧ Clean s s' then R c ns vs (s'.cut s) else R c ns vs s') := by
  unfold gcF gcR
  cases F args s with
  | ok v s' =>
    show (if Cl s.n v ∧ Clean s s' then (Res.ok v (s'.cut s) : Res AV) else .ok v s').Post P R ↔ if Cl s.n v ∧ Clean s s' then P v (s'.cut s) else P v s'
    split <;> exact Iff.rfl
  | err c ns vs s' =>
    show (if ClL s.n vs ∧ Clean s s' then (Res.err c ns vs (s'.cut s) : Res AV) else .err c ns vs s').Post P R ↔ if ClL s.n vs ∧ Clean s s' then R c ns vs (s'.cut s) else R c ns vs s'
    split <;> exact Iff.rfl
  | stuck => exact Iff.rfl
theorem post_gcE {f : AE} {σ : ASt} {s : Sto} : (gcE f σ s).Post P R ↔ (f σ s).Post (fun v s' => if Cl s.n v ∧ Clean s s' then P v (s'.cut s) else P v s') (fun c ns vs s' => if ClL s.n vs ∧ Clean s s' then R c ns vs (s'.cut s) else R c ns vs s') := by
  unfold gcE gcR
  cases f σ s with
  | ok v s' =>
    show (if Cl s.n v ∧ Clean s s' then (Res.ok v (s'.cut s) : Res AV) else .ok v s').Post P R ↔ if Cl s.n v ∧ Clean s s' then P v (s'.cut s) else P v s'
    split <;> exact Iff.rfl
  | err c ns vs s' =>
    show (if ClL s.n vs ∧ Clean s s' then (Res.err c ns vs (s'.cut s) : Res AV) else .err c ns vs s').Post P R ↔ if ClL s.n vs ∧ Clean s s' then R c ns vs (s'.cut s) else R c ns vs s'
    split <;> exact Iff.rfl
  | stuck => exact Iff.rfl
theorem post_gcT {f : AT} {P : Bool → Sto → Prop} {σ : ASt} {s : Sto} : (gcT f σ s).Post P R ↔ (f σ s).Post (fun v s' => if Clean s s' then P v (s'.cut s) else P v s') R := by
  unfold gcT gcB
  cases f σ s with
  | ok v s' =>
    show (if Clean s s' then (Res.ok v (s'.cut s) : Res Bool) else .ok v s').Post P R ↔ if Clean s s' then P v (s'.cut s) else P v s'
    split <;> exact Iff.rfl
  | err c ns vs s' => exact Iff.rfl
  | stuck => exact Iff.rfl
/-- what a def returns, as an equation -/
theorem res_ok {r : Res AV} {v : AV} {s : Sto} (h : r.Post (fun v' s' => v' = v ∧ s' = s) (fun _ _ _ _ => False)) : r = .ok v s := by
  cases r with
  | ok v' s' => obtain ⟨rfl, rfl⟩ := h; rfl
  | err => exact h.elim
  | stuck => exact h.elim
end
theorem forI_A {G : Sto → Prop} {g : AV → AS} {b : AS} {D : Dn} (I : Nat → ASt → Sto → Prop) : ∀ (xs : List AV) (k : Nat) {σ : ASt} {s : Sto}, I k σ s →
    (∀ i x σ s, xs[i]? = some x → I (k + i) σ s → G s ∧ (aSeq (g x) b σ s).A ⟨I (k + i + 1), D.rt, D.nx, I (k + i + 1), D.er⟩) → (∀ σ s, I (k + xs.length) σ s → G s ∧ D.nx σ s) → (forI G g b xs σ s).A D
  | [], k, σ, s, h, st, fin => by
    obtain ⟨g, h⟩ := fin σ s h
    rw [forI_nil g]
    exact h
  | x :: xs, k, σ, s, h, st, fin => by
    obtain ⟨g0, h0⟩ := st 0 x σ s rfl h
    rw [forI_cons g0, A_loop]
    have nxt : ∀ σ s, I (k + 1) σ s → (forI G g b xs σ s).A D := fun σ s h => forI_A I xs (k + 1) h (fun i y σ s e hI => by
      have := st (i + 1) y σ s (by simpa using e) (by rw [show k + (i + 1) = k + 1 + i by omega]; exact hI)
      rw [show k + (i + 1) = k + 1 + i by omega] at this
      exact this) (fun σ s hI => fin σ s (by rw [List.length_cons, show k + (xs.length + 1) = k + 1 + xs.length by omega]; exact hI))
    cases e : aSeq (g x) b σ s with
    | nx σ' s' => rw [e] at h0; exact nxt _ _ h0
    | ct σ' s' => rw [e] at h0; exact nxt _ _ h0
    | bk σ' s' => rw [e] at h0; exact h0
    | rt v s' => rw [e] at h0; exact h0
    | err c ns vs σ' s' => rw [e] at h0; exact h0
    | stuck => rw [e] at h0; exact h0
/-- a loop, its turns counted -/
theorem for_A {G : Sto → Prop} {g : AV → AS} {b : AS} {D : Dn} {xs : List AV} {σ : ASt} {s : Sto} (I : Nat → ASt → Sto → Prop) (h : I 0 σ s)
    (st : ∀ i x σ s, xs[i]? = some x → I i σ s → G s ∧ (aSeq (g x) b σ s).A ⟨I (i + 1), D.rt, D.nx, I (i + 1), D.er⟩) (fin : ∀ σ s, I xs.length σ s → G s ∧ D.nx σ s) : (forI G g b xs σ s).A D :=
  forI_A I xs 0 h (fun i x σ s e hI => by rw [Nat.zero_add] at hI ⊢; exact st i x σ s e hI) (fun σ s hI => fin σ s (by rw [Nat.zero_add] at hI; exact hI))
theorem rngA_get {lo : Int} {n i : Nat} {x : AV} (h : (rngA lo n)[i]? = some x) : i < n ∧ x = .int (lo + i) := by
  unfold rngA at h
  rw [List.getElem?_map] at h
  by_cases hi : i < n
  · rw [List.getElem?_range hi] at h
    exact ⟨hi, (Option.some.inj h).symm⟩
  · rw [List.getElem?_eq_none (by rw [List.length_range]; omega)] at h
    cases h
theorem rngA_len {lo : Int} {n : Nat} : (rngA lo n).length = n := by
  unfold rngA
  rw [List.length_map, List.length_range]
theorem enumA_get {xs : List AV} {i : Nat} {x : AV} (h : (enumA xs)[i]? = some x) : ∃ y, xs[i]? = some y ∧ x = .tup [.int i, y] := by
  unfold enumA at h
  rw [List.getElem?_mapIdx] at h
  cases e : xs[i]? with
  | none => rw [e] at h; cases h
  | some y => rw [e] at h; exact ⟨y, rfl, (Option.some.inj h).symm⟩
/-- for x in range(n) -/
theorem for_rng {G : Sto → Prop} {g : AV → AS} {b : AS} {D : Dn} {n : Nat} {lo : Int} {σ : ASt} {s : Sto} (I : Nat → ASt → Sto → Prop) (h : I 0 σ s)
    (st : ∀ (i : Nat) σ s, i < n → I i σ s → G s ∧ (aSeq (g (.int (lo + i))) b σ s).A ⟨I (i + 1), D.rt, D.nx, I (i + 1), D.er⟩) (fin : ∀ σ s, I n σ s → G s ∧ D.nx σ s) : (forI G g b (rngA lo n) σ s).A D :=
  for_A I h (fun i x σ s e hI => by
    obtain ⟨hi, rfl⟩ := rngA_get e
    exact st i σ s hi hI) (fun σ s hI => fin σ s (by rw [rngA_len] at hI; exact hI))
/-- [.. for x in ..]: the rows are told one by one -/
theorem lcI_P {k : Nat} {G : Sto → Prop} {g : AV → AS} {ft : AT} {fe : AE} {σ0 : ASt} {P : AV → Sto → Prop} {R : String → List Str → List AV → Sto → Prop} (I : Nat → List AV → Sto → Prop) : ∀ (xs : List AV) (j : Nat) (acc : List AV) {s : Sto}, I j acc s → s.c k = .lst acc → acc.length + xs.length ≤ sizeLine →
    (∀ i x acc s, xs[i]? = some x → I (j + i) acc s → s.c k = .lst acc → G s ∧ (g x σ0 s).A ⟨fun σ2 s2 => (ft σ2 s2).Post (fun b s3 => (b = true → (fe σ2 s3).Post (fun y s4 => s4.c k = .lst acc ∧ I (j + i + 1) (acc ++ [y]) (s4.set k (.lst (acc ++ [y])))) (fun _ _ _ _ => False)) ∧ (b = false → s3.c k = .lst acc ∧ I (j + i + 1) acc s3)) (fun _ _ _ _ => False), fun _ _ => False, fun _ _ => False, fun _ _ => False, fun _ _ _ _ _ => False⟩) →
    (∀ acc s, I (j + xs.length) acc s → s.c k = .lst acc → G s ∧ P (.obj k) s) → (oObj k (lcI k G g ft fe σ0 xs s)).Post P R
  | [], j, acc, s, h, hk, hl, st, fin => by
    obtain ⟨g0, h0⟩ := fin acc s h hk
    rw [show lcI k G g ft fe σ0 [] s = some s from if_pos g0]
    exact h0
  | x :: xs, j, acc, s, h, hk, hl, st, fin => by
    obtain ⟨g0, h0⟩ := st 0 x acc s rfl h hk
    have hl' : acc.length + xs.length + 1 ≤ sizeLine := by simpa [Nat.add_assoc] using hl
    have nxt : ∀ acc' s', acc'.length ≤ acc.length + 1 → I (j + 1) acc' s' → s'.c k = .lst acc' → (oObj k (lcI k G g ft fe σ0 xs s')).Post P R := fun acc' s' hl2 h hk =>
      lcI_P I xs (j + 1) acc' h hk (by omega) (fun i y acc s e hI hk => by
        have := st (i + 1) y acc s (by simpa using e) (by rw [show j + (i + 1) = j + 1 + i by omega]; exact hI) hk
        rw [show j + (i + 1) = j + 1 + i by omega] at this
        exact this) (fun acc s hI hk => fin acc s (by rw [List.length_cons, show j + (xs.length + 1) = j + 1 + xs.length by omega]; exact hI) hk)
    rw [show lcI k G g ft fe σ0 (x :: xs) s = (match g x σ0 s with
      | .nx σ2 s2 => (match ft σ2 s2 with
        | .ok true s3 => (match fe σ2 s3 with
          | .ok y s4 => (match s4.c k with | .lst acc => if acc.length < sizeLine then lcI k G g ft fe σ0 xs (s4.set k (.lst (acc ++ [y]))) else none | _ => none)
          | _ => none)
        | .ok false s3 => lcI k G g ft fe σ0 xs s3
        | _ => none)
      | _ => none) from if_pos g0]
    cases e : g x σ0 s with
    | nx σ2 s2 =>
      rw [e] at h0
      have h0 : (ft σ2 s2).Post _ _ := h0
      cases e2 : ft σ2 s2 with
      | ok b s3 =>
        rw [e2] at h0
        cases b with
        | true =>
          have h1 := h0.1 rfl
          cases e3 : fe σ2 s3 with
          | ok y s4 =>
            rw [e3] at h1
            obtain ⟨k1, k2⟩ := h1
            simp only [e2, e3, k1]
            rw [if_pos (by omega)]
            exact nxt _ _ (by simp) k2 Sto.set_at
          | err => rw [e3] at h1; exact h1.elim
          | stuck => rw [e3] at h1; exact h1.elim
        | false =>
          obtain ⟨k1, k2⟩ := h0.2 rfl
          simp only [e2]
          exact nxt _ _ (Nat.le_succ _) k2 k1
      | err => rw [e2] at h0; exact h0.elim
      | stuck => rw [e2] at h0; exact h0.elim
    | rt => rw [e] at h0; exact h0.elim
    | bk => rw [e] at h0; exact h0.elim
    | ct => rw [e] at h0; exact h0.elim
    | err => rw [e] at h0; exact h0.elim
    | stuck => rw [e] at h0; exact h0.elim
/-- while: the turns that are left -/
theorem whileN_A {c : AT} {b : AS} {D : Dn} (I : Nat → ASt → Sto → Prop) (st : ∀ n σ s, I n σ s → (c σ s).Post (fun r s1 => (r = true → (b σ s1).A ⟨fun σ s => ∃ m, m < n ∧ I m σ s, D.rt, D.nx, fun σ s => ∃ m, m < n ∧ I m σ s, D.er⟩) ∧ (r = false → D.nx σ s1)) (fun c ns vs s => D.er c ns vs σ s)) :
    ∀ (n : Nat) (σ : ASt) (s : Sto), I n σ s → ∃ k, (whileN c b k σ s).A D := fun n => by
  induction n using Nat.strongRecOn with
  | _ n ih =>
    intro σ s h
    have h0 := st n σ s h
    cases e : c σ s with
    | ok r s1 =>
      rw [e] at h0
      cases r with
      | false =>
        refine ⟨1, ?_⟩
        show ((c σ s).st σ fun r s1 => if r = true then (b σ s1).loop (whileN c b 0) else .nx σ s1).A D
        rw [e]
        exact h0.2 rfl
      | true =>
        have h1 := h0.1 rfl
        have big : ∀ (k : Nat), ((b σ s1).loop (whileN c b k)).A D → ∃ k, (whileN c b k σ s).A D := fun k hk => ⟨k + 1, by
          show ((c σ s).st σ fun r s1 => if r = true then (b σ s1).loop (whileN c b k) else .nx σ s1).A D
          rw [e]
          exact hk⟩
        cases e1 : b σ s1 with
        | nx σ' s' =>
          rw [e1] at h1
          obtain ⟨m, hm, hI⟩ := h1
          obtain ⟨k, hk⟩ := ih m hm σ' s' hI
          exact big k (by rw [e1]; exact hk)
        | ct σ' s' =>
          rw [e1] at h1
          obtain ⟨m, hm, hI⟩ := h1
          obtain ⟨k, hk⟩ := ih m hm σ' s' hI
          exact big k (by rw [e1]; exact hk)
        | bk σ' s' => rw [e1] at h1; exact big 0 (by rw [e1]; exact h1)
        | rt v s' => rw [e1] at h1; exact big 0 (by rw [e1]; exact h1)
        | err c ns vs σ' s' => rw [e1] at h1; exact big 0 (by rw [e1]; exact h1)
        | stuck => rw [e1] at h1; exact h1.elim
    | err c' ns vs s1 =>
      rw [e] at h0
      refine ⟨1, ?_⟩
      show ((c σ s).st σ fun r s1 => if r = true then (b σ s1).loop (whileN c b 0) else .nx σ s1).A D
      rw [e]
      exact h0
    | stuck => rw [e] at h0; exact h0.elim
theorem A_ne {q : SRes} {D : Dn} (h : q.A D) : q ≠ .stuck := fun e => by rw [e] at h; exact h
theorem whileN_le {c : AT} {b : AS} {k : Nat} {σ : ASt} {s : Sto} (h : whileN c b k σ s ≠ .stuck) : ∀ m, whileN c b (k + m) σ s = whileN c b k σ s
  | 0 => rfl
  | m + 1 => by
    have ih := whileN_le h m
    rw [← ih, show k + (m + 1) = k + m + 1 from rfl]
    exact whileN_succ _ _ _ (by rw [ih]; exact h)
theorem while_A {c : AT} {b : AS} {D : Dn} {σ : ASt} {s : Sto} (I : Nat → ASt → Sto → Prop) (n : Nat) (h : I n σ s) (st : ∀ n σ s, I n σ s → (c σ s).Post (fun r s1 => (r = true → (b σ s1).A ⟨fun σ s => ∃ m, m < n ∧ I m σ s, D.rt, D.nx, fun σ s => ∃ m, m < n ∧ I m σ s, D.er⟩) ∧ (r = false → D.nx σ s1)) (fun c ns vs s => D.er c ns vs σ s)) :
    (aWhile c b σ s).A D := by
  obtain ⟨k, hk⟩ := whileN_A I st n σ s h
  have hx : ∃ k, whileN c b k σ s ≠ .stuck := ⟨k, A_ne hk⟩
  unfold aWhile
  rw [dif_pos hx]
  have hc := Classical.choose_spec hx
  rcases Nat.le_total (Classical.choose hx) k with hle | hle
  · have := whileN_le hc (k - Classical.choose hx)
    rw [Nat.add_sub_cancel' hle] at this
    rw [← this]
    exact hk
  · have := whileN_le (A_ne hk) (Classical.choose hx - k)
    rw [Nat.add_sub_cancel' hle] at this
    rw [this]
    exact hk
theorem post_told {F : Addr → (Sto → Res AV) → Sto → Res AV} {fb : AE} {σ : ASt} {s : Sto} {v : AV} {s' : Sto} {P : AV → Sto → Prop} {R : String → List Str → List AV → Sto → Prop} (h : ∀ f, F f (fb σ) s = .ok v s') (k : P v s') : (aTold F fb σ s).Post P R := by
  rw [aTold_eq h]
  exact k
/-- an index in bounds, of a row whose values are alike -/
theorem atI_all {xs : List AV} {i : Int} (h0 : 0 ≤ i) (h1 : i < xs.length) : ∃ x, x ∈ xs ∧ atI xs i = some x := by
  obtain ⟨j, rfl⟩ := Int.eq_ofNat_of_zero_le h0
  have hi : j < xs.length := by omega
  exact ⟨xs[j], List.getElem_mem hi, atI_nat (List.getElem?_eq_getElem hi)⟩
/-- nothing that stood has changed -/
structure Gb (s s' : Sto) : Prop where
  n : s.n ≤ s'.n
  c : ∀ i, i < s.n → s'.c i = s.c i
theorem Gb.refl (s : Sto) : Gb s s := ⟨Nat.le_refl _, fun _ _ => rfl⟩
theorem Gb.trans {s t u : Sto} (a : Gb s t) (b : Gb t u) : Gb s u := ⟨Nat.le_trans a.n b.n, fun i h => (b.c i (Nat.lt_of_lt_of_le h a.n)).trans (a.c i h)⟩
theorem Gb.new {s t : Sto} {x : Cell} (a : Gb s t) : Gb s (t.new x) := a.trans ⟨Nat.le_succ _, fun i h => at_new h⟩
theorem Gb.set {s t : Sto} {i : Nat} {x : Cell} (a : Gb s t) (h : s.n ≤ i) : Gb s (t.set i x) := ⟨a.n, fun j hj => (Sto.set_ne (by omega)).trans (a.c j hj)⟩
theorem Gb.clean {s t : Sto} (a : Gb s t) : Clean s t := ⟨a.n, fun i h => .inl (a.c i h)⟩
theorem Gb.cut {s t : Sto} (a : Gb s t) : t.cut s = s := cut_eq a.c
section
variable {P : AV → Sto → Prop} {R : String → List Str → List AV → Sto → Prop}
theorem gcF_g {F : List AV → Sto → Res AV} {args : List AV} {s : Sto} (h : (F args s).Post (fun v s' => Cl s.n v ∧ Gb s s' ∧ P v s) (fun c ns vs s' => ClL s.n vs ∧ Gb s s' ∧ R c ns vs s)) : (gcF F args s).Post P R :=
  post_gcF.mpr (h.mono (fun v s' z => by rw [if_pos ⟨z.1, z.2.1.clean⟩, z.2.1.cut]; exact z.2.2) fun c ns vs s' z => by rw [if_pos ⟨z.1, z.2.1.clean⟩, z.2.1.cut]; exact z.2.2)
theorem gcE_g {f : AE} {σ : ASt} {s : Sto} (h : (f σ s).Post (fun v s' => Cl s.n v ∧ Gb s s' ∧ P v s) (fun c ns vs s' => ClL s.n vs ∧ Gb s s' ∧ R c ns vs s)) : (gcE f σ s).Post P R :=
  post_gcE.mpr (h.mono (fun v s' z => by rw [if_pos ⟨z.1, z.2.1.clean⟩, z.2.1.cut]; exact z.2.2) fun c ns vs s' z => by rw [if_pos ⟨z.1, z.2.1.clean⟩, z.2.1.cut]; exact z.2.2)
theorem gcT_g {f : AT} {P : Bool → Sto → Prop} {σ : ASt} {s : Sto} (h : (f σ s).Post (fun v s' => Gb s s' ∧ P v s) R) : (gcT f σ s).Post P R :=
  post_gcT.mpr (h.mono (fun v s' z => by rw [if_pos z.1.clean, z.1.cut]; exact z.2) fun _ _ _ _ z => z)
end
/-- nothing that stood has changed, but what is at d -/
structure Gd (d : Nat) (s s' : Sto) : Prop where
  n : s.n ≤ s'.n
  c : ∀ i, i < s.n → i ≠ d → s'.c i = s.c i
theorem Gd.refl (d : Nat) (s : Sto) : Gd d s s := ⟨Nat.le_refl _, fun _ _ _ => rfl⟩
theorem Gd.trans {d : Nat} {s t u : Sto} (a : Gd d s t) (b : Gd d t u) : Gd d s u := ⟨Nat.le_trans a.n b.n, fun i h e => (b.c i (Nat.lt_of_lt_of_le h a.n) e).trans (a.c i h e)⟩
theorem Gd.set {d : Nat} {s t : Sto} {x : Cell} (a : Gd d s t) : Gd d s (t.set d x) := ⟨a.n, fun i h e => (Sto.set_ne e).trans (a.c i h e)⟩
theorem Gd.new {d : Nat} {s t : Sto} {x : Cell} (a : Gd d s t) : Gd d s (t.new x) := ⟨Nat.le_succ_of_le a.n, fun i h e => (at_new (Nat.lt_of_lt_of_le h a.n)).trans (a.c i h e)⟩
theorem Gd.cut {d : Nat} {s t : Sto} (a : Gd d s t) (h : d < s.n) : t.cut s = s.set d (t.c d) := by
  unfold Sto.cut Sto.set
  simp only [Sto.mk.injEq, true_and]
  funext i
  by_cases e : i = d
  · subst e; simp [h]
  · by_cases hi : i < s.n
    · simp [hi, e, a.c i hi e]
    · simp [hi, e]
theorem Gd.clean {d : Nat} {s t : Sto} (a : Gd d s t) (h : ClC s.n (t.c d)) : Clean s t := ⟨a.n, fun i hi => by
  by_cases e : i = d
  · subst e; exact .inr h
  · exact .inl (a.c i hi e)⟩
theorem ok_of_post {r : Res AV} {v : AV} (h : r.Post (fun v' _ => v' = v) (fun _ _ _ _ => False)) : ∃ s', r = .ok v s' := by
  cases r with
  | ok v' s' => cases (show v' = v from h); exact ⟨s', rfl⟩
  | err => exact h.elim
  | stuck => exact h.elim
theorem ex_of_post {α : Type} {r : Res α} {P : α → Sto → Prop} (h : r.Post P (fun _ _ _ _ => False)) : ∃ v s', P v s' ∧ r = .ok v s' := by
  cases r with
  | ok v s' => exact ⟨v, s', h, rfl⟩
  | err => exact h.elim
  | stuck => exact h.elim
section
variable {P : AV → Sto → Prop} {R : String → List Str → List AV → Sto → Prop}
theorem post_ix {x : AV} {xs : List AV} {i : Int} {s : Sto} (h : seqOf s x = some xs) (h0 : 0 ≤ i) (h1 : i < xs.length) (q : ∀ v, v ∈ xs → P v s) : (gIx x (.int i) s).Post P R := by
  obtain ⟨v, h2, h3⟩ := atI_all h0 h1
  rw [gIx_seq h h3]
  exact q v h2
end
theorem at_old {s : Sto} {x : Cell} {i : Nat} {c : Cell} (h : i < s.n) (e : s.c i = c) : (s.new x).c i = c := (at_new h).trans e
/-- a comprehension, its rows counted -/
theorem lc_P {k : Nat} {G : Sto → Prop} {g : AV → AS} {ft : AT} {fe : AE} {σ0 : ASt} {P : AV → Sto → Prop} {R : String → List Str → List AV → Sto → Prop} {xs : List AV} {s : Sto} (I : Nat → List AV → Sto → Prop) (h : I 0 [] s) (hk : s.c k = .lst []) (hl : xs.length ≤ 1000)
    (st : ∀ i x acc s, xs[i]? = some x → I i acc s → s.c k = .lst acc → G s ∧ (g x σ0 s).A ⟨fun σ2 s2 => (ft σ2 s2).Post (fun b s3 => (b = true → (fe σ2 s3).Post (fun y s4 => s4.c k = .lst acc ∧ I (i + 1) (acc ++ [y]) (s4.set k (.lst (acc ++ [y])))) (fun _ _ _ _ => False)) ∧ (b = false → s3.c k = .lst acc ∧ I (i + 1) acc s3)) (fun _ _ _ _ => False), fun _ _ => False, fun _ _ => False, fun _ _ => False, fun _ _ _ _ _ => False⟩)
    (fin : ∀ acc s, I xs.length acc s → s.c k = .lst acc → G s ∧ P (.obj k) s) : (oObj k (lcI k G g ft fe σ0 xs s)).Post P R :=
  lcI_P I xs 0 [] h hk (Nat.le_trans (show _ ≤ 1000 by simpa using hl) (by decide)) (fun i x acc s e hI hc => by
    rw [Nat.zero_add] at hI ⊢
    exact st i x acc s e hI hc) (fun acc s hI hc => by
    rw [Nat.zero_add] at hI
    exact fin acc s hI hc)
end Ab
set_option Elab.async false
set_option linter.all false
set_option maxRecDepth 100000
set_option maxHeartbeats 1000000
namespace Ab
open PySem PySem.Spec PyProof.Rows L2
open Classical
noncomputable section
def Kb {α β : Type} (k : α → Sto → Res β) (P : β → Sto → Prop) (R : String → List Str → List AV → Sto → Prop) : α → Sto → Prop := fun a s => (k a s).Post P R
def Kst {α : Type} (k : α → Sto → SRes) (D : Dn) : α → Sto → Prop := fun a s => (k a s).A D
def Rst (σ : ASt) (D : Dn) : String → List Str → List AV → Sto → Prop := fun c ns vs s => D.er c ns vs σ s
def Dn.thn (f : AS) (D : Dn) : Dn := ⟨fun σ s => (f σ s).A D, D.rt, D.bk, D.ct, D.er⟩
def Dn.lp (f : AS) (D : Dn) : Dn := ⟨fun σ s => (f σ s).A D, D.rt, D.nx, fun σ s => (f σ s).A D, D.er⟩
def Dn.fn (P : AV → Sto → Prop) (R : String → List Str → List AV → Sto → Prop) : Dn := ⟨fun _ s => P .non s, P, fun _ _ => False, fun _ _ => False, fun c ns vs _ s => R c ns vs s⟩
def Dn.fg (n : Nat) (D : Dn) : Dn := ⟨D.nx, D.rt, D.bk, D.ct, fun c ns vs _ s => D.er c ns vs (List.replicate n none) s⟩
def Dn.cl (i : Nat) (D : Dn) : Dn := ⟨fun σ s => D.nx (σ.set i none) s, D.rt, fun σ s => D.bk (σ.set i none) s, fun σ s => D.ct (σ.set i none) s, fun _ _ _ _ _ => False⟩
def Dn.nX (D : Dn) : Dn := ⟨D.nx, D.rt, D.bk, D.ct, fun _ _ _ _ _ => False⟩
def Dn.tr (hs : List HdA) (D : Dn) : Dn := ⟨D.nx, D.rt, D.bk, D.ct, fun c ns vs σ' s' => (aHand c ns vs σ' s' hs).A D⟩
section
variable {α β : Type} {r r' : Res α} {q q' : SRes} {D : Dn}
theorem k_bind {k : α → Sto → Res β} {P : β → Sto → Prop} {R : String → List Str → List AV → Sto → Prop} : (r.bind k).Post P R ↔ r.Post (Kb k P R) R := Res.post_bind
theorem k_Kb {k : α → Sto → Res β} {P : β → Sto → Prop} {R : String → List Str → List AV → Sto → Prop} {a : α} {s : Sto} : Kb k P R a s ↔ (k a s).Post P R := Iff.rfl
theorem k_st {σ : ASt} {k : α → Sto → SRes} : (r.st σ k).A D ↔ r.Post (Kst k D) (Rst σ D) := A_st
theorem k_Kst {k : α → Sto → SRes} {a : α} {s : Sto} : Kst k D a s ↔ (k a s).A D := Iff.rfl
theorem k_Rst {σ : ASt} {c : String} {ns : List Str} {vs : List AV} {s : Sto} : Rst σ D c ns vs s ↔ D.er c ns vs σ s := Iff.rfl
theorem k_thn {f : AS} : (q.thn f).A D ↔ q.A (D.thn f) := A_thn
theorem k_loop {f : AS} : (q.loop f).A D ↔ q.A (D.lp f) := A_loop
theorem k_fn {P : AV → Sto → Prop} {R : String → List Str → List AV → Sto → Prop} : q.fn.Post P R ↔ q.A (Dn.fn P R) := post_fn
theorem k_forget {n : Nat} : (q.forget n).A D ↔ q.A (D.fg n) := A_forget
theorem k_clr {i : Nat} : (q.clr i).A D ↔ q.A (D.cl i) := A_clr
theorem k_noX : q.noX.A D ↔ q.A D.nX := A_noX
theorem k_try {f : AS} {hs : List HdA} {σ : ASt} {s : Sto} : (aTry f hs σ s).A D ↔ (f σ s).A (D.tr hs) := A_try
theorem k_stuck {P : α → Sto → Prop} {R : String → List Str → List AV → Sto → Prop} : (Res.stuck : Res α).Post P R ↔ False := Iff.rfl
theorem k_Astuck : SRes.stuck.A D ↔ False := Iff.rfl
theorem k_iteS {c : Prop} [Decidable c] {a : Res α} {P : α → Sto → Prop} {R : String → List Str → List AV → Sto → Prop} : (if c then a else Res.stuck).Post P R ↔ c ∧ a.Post P R := by
  by_cases h : c
  · simp [h]
  · simp [h, k_stuck]
theorem k_AiteS {c : Prop} [Decidable c] {a : SRes} : (if c then a else SRes.stuck).A D ↔ c ∧ a.A D := by
  by_cases h : c
  · simp [h]
  · simp [h, k_Astuck]
end
def grd {α : Type} (c : Prop) [Decidable c] (r : Res α) : Res α := if c then r else .stuck
def grdS (c : Prop) [Decidable c] (r : SRes) : SRes := if c then r else .stuck
theorem grd_pos {α : Type} {c : Prop} [Decidable c] {a : Res α} (h : c) : grd c a = a := if_pos h
theorem grdS_pos {c : Prop} [Decidable c] {a : SRes} (h : c) : grdS c a = a := if_pos h
theorem k_grd {α : Type} {c : Prop} [Decidable c] {a : Res α} {P : α → Sto → Prop} {R : String → List Str → List AV → Sto → Prop} : (grd c a).Post P R ↔ c ∧ a.Post P R := k_iteS
theorem k_grdS {c : Prop} [Decidable c] {a : SRes} {D : Dn} : (grdS c a).A D ↔ c ∧ a.A D := k_AiteS
theorem k_ite {α : Type} {c : Prop} [Decidable c] {x y : Res α} {P : α → Sto → Prop} {R : String → List Str → List AV → Sto → Prop} : (if c then x else y).Post P R ↔ (c → x.Post P R) ∧ (¬ c → y.Post P R) := post_ite
theorem k_Aite {c : Prop} [Decidable c] {x y : SRes} {D : Dn} : (if c then x else y).A D ↔ (c → x.A D) ∧ (¬ c → y.A D) := A_ite
theorem d_thn_nx {D : Dn} {f : AS} {σ : ASt} {s : Sto} : (D.thn f).nx σ s ↔ (f σ s).A D := Iff.rfl
theorem d_thn_bk {D : Dn} {f : AS} {σ : ASt} {s : Sto} : (D.thn f).bk σ s ↔ D.bk σ s := Iff.rfl
theorem d_thn_ct {D : Dn} {f : AS} {σ : ASt} {s : Sto} : (D.thn f).ct σ s ↔ D.ct σ s := Iff.rfl
theorem d_thn_rt {D : Dn} {f : AS} {v : AV} {s : Sto} : (D.thn f).rt v s ↔ D.rt v s := Iff.rfl
theorem d_thn_er {D : Dn} {f : AS} {σ : ASt} {s : Sto} {c : String} {ns : List Str} {vs : List AV} : (D.thn f).er c ns vs σ s ↔ D.er c ns vs σ s := Iff.rfl
theorem d_lp_nx {D : Dn} {f : AS} {σ : ASt} {s : Sto} : (D.lp f).nx σ s ↔ (f σ s).A D := Iff.rfl
theorem d_lp_bk {D : Dn} {f : AS} {σ : ASt} {s : Sto} : (D.lp f).bk σ s ↔ D.nx σ s := Iff.rfl
theorem d_lp_ct {D : Dn} {f : AS} {σ : ASt} {s : Sto} : (D.lp f).ct σ s ↔ (f σ s).A D := Iff.rfl
theorem d_lp_rt {D : Dn} {f : AS} {v : AV} {s : Sto} : (D.lp f).rt v s ↔ D.rt v s := Iff.rfl
theorem d_lp_er {D : Dn} {f : AS} {σ : ASt} {s : Sto} {c : String} {ns : List Str} {vs : List AV} : (D.lp f).er c ns vs σ s ↔ D.er c ns vs σ s := Iff.rfl
theorem d_fg_nx {D : Dn} {f : Nat} {σ : ASt} {s : Sto} : (D.fg f).nx σ s ↔ D.nx σ s := Iff.rfl
theorem d_fg_bk {D : Dn} {f : Nat} {σ : ASt} {s : Sto} : (D.fg f).bk σ s ↔ D.bk σ s := Iff.rfl
theorem d_fg_ct {D : Dn} {f : Nat} {σ : ASt} {s : Sto} : (D.fg f).ct σ s ↔ D.ct σ s := Iff.rfl
theorem d_fg_rt {D : Dn} {f : Nat} {v : AV} {s : Sto} : (D.fg f).rt v s ↔ D.rt v s := Iff.rfl
theorem d_fg_er {D : Dn} {f : Nat} {σ : ASt} {s : Sto} {c : String} {ns : List Str} {vs : List AV} : (D.fg f).er c ns vs σ s ↔ D.er c ns vs (List.replicate f none) s := Iff.rfl
theorem d_cl_nx {D : Dn} {f : Nat} {σ : ASt} {s : Sto} : (D.cl f).nx σ s ↔ D.nx (σ.set f none) s := Iff.rfl
theorem d_cl_bk {D : Dn} {f : Nat} {σ : ASt} {s : Sto} : (D.cl f).bk σ s ↔ D.bk (σ.set f none) s := Iff.rfl
theorem d_cl_ct {D : Dn} {f : Nat} {σ : ASt} {s : Sto} : (D.cl f).ct σ s ↔ D.ct (σ.set f none) s := Iff.rfl
theorem d_cl_rt {D : Dn} {f : Nat} {v : AV} {s : Sto} : (D.cl f).rt v s ↔ D.rt v s := Iff.rfl
theorem d_cl_er {D : Dn} {f : Nat} {σ : ASt} {s : Sto} {c : String} {ns : List Str} {vs : List AV} : (D.cl f).er c ns vs σ s ↔ False := Iff.rfl
theorem d_tr_nx {D : Dn} {f : List HdA} {σ : ASt} {s : Sto} : (D.tr f).nx σ s ↔ D.nx σ s := Iff.rfl
theorem d_tr_bk {D : Dn} {f : List HdA} {σ : ASt} {s : Sto} : (D.tr f).bk σ s ↔ D.bk σ s := Iff.rfl
theorem d_tr_ct {D : Dn} {f : List HdA} {σ : ASt} {s : Sto} : (D.tr f).ct σ s ↔ D.ct σ s := Iff.rfl
theorem d_tr_rt {D : Dn} {f : List HdA} {v : AV} {s : Sto} : (D.tr f).rt v s ↔ D.rt v s := Iff.rfl
theorem d_tr_er {D : Dn} {f : List HdA} {σ : ASt} {s : Sto} {c : String} {ns : List Str} {vs : List AV} : (D.tr f).er c ns vs σ s ↔ (aHand c ns vs σ s f).A D := Iff.rfl
theorem d_nX_nx {D : Dn} {σ : ASt} {s : Sto} : D.nX.nx σ s ↔ D.nx σ s := Iff.rfl
theorem d_nX_bk {D : Dn} {σ : ASt} {s : Sto} : D.nX.bk σ s ↔ D.bk σ s := Iff.rfl
theorem d_nX_ct {D : Dn} {σ : ASt} {s : Sto} : D.nX.ct σ s ↔ D.ct σ s := Iff.rfl
theorem d_nX_rt {D : Dn} {v : AV} {s : Sto} : D.nX.rt v s ↔ D.rt v s := Iff.rfl
theorem d_nX_er {D : Dn} {σ : ASt} {s : Sto} {c : String} {ns : List Str} {vs : List AV} : D.nX.er c ns vs σ s ↔ False := Iff.rfl
theorem d_fn_nx {P : AV → Sto → Prop} {R : String → List Str → List AV → Sto → Prop} {σ : ASt} {s : Sto} : (Dn.fn P R).nx σ s ↔ P .non s := Iff.rfl
theorem d_fn_bk {P : AV → Sto → Prop} {R : String → List Str → List AV → Sto → Prop} {σ : ASt} {s : Sto} : (Dn.fn P R).bk σ s ↔ False := Iff.rfl
theorem d_fn_ct {P : AV → Sto → Prop} {R : String → List Str → List AV → Sto → Prop} {σ : ASt} {s : Sto} : (Dn.fn P R).ct σ s ↔ False := Iff.rfl
theorem d_fn_rt {P : AV → Sto → Prop} {R : String → List Str → List AV → Sto → Prop} {v : AV} {s : Sto} : (Dn.fn P R).rt v s ↔ P v s := Iff.rfl
theorem d_fn_er {P : AV → Sto → Prop} {R : String → List Str → List AV → Sto → Prop} {σ : ASt} {s : Sto} {c : String} {ns : List Str} {vs : List AV} : (Dn.fn P R).er c ns vs σ s ↔ R c ns vs s := Iff.rfl
def opK1 (g : AV → AV → Sto → Res AV) (fb : AE) (σ : ASt) : AV → Sto → Res AV := fun x s1 => (fb σ s1).bind (g x)
theorem e_op {fa fb : AE} {σ : ASt} {s : Sto} {g : AV → AV → Sto → Res AV} : aOp g fa fb σ s = (fa σ s).bind (opK1 g fb σ) := rfl
theorem e_opK {fb : AE} {σ : ASt} {s : Sto} {g : AV → AV → Sto → Res AV} {x : AV} : opK1 g fb σ x s = (fb σ s).bind (g x) := rfl
theorem e_un {fa : AE} {σ : ASt} {s : Sto} {g : AV → Sto → Res AV} : aUn g fa σ s = (fa σ s).bind g := rfl
theorem e_cb {fr : AA} {σ : ASt} {s : Sto} {g : List AV → Sto → Res AV} : aCB g fr σ s = (fr σ s).bind g := rfl
theorem e_nil {σ : ASt} {s : Sto} : aNil σ s = .ok [] s := rfl
theorem e_c {v : AV} {σ : ASt} {s : Sto} : aC v σ s = .ok v s := rfl
def consK2 (x : AV) : List AV → Sto → Res (List AV) := fun xs s => .ok (x :: xs) s
def consK1 (fr : AA) (σ : ASt) : AV → Sto → Res (List AV) := fun x s1 => (fr σ s1).bind (consK2 x)
theorem e_cons {fa : AE} {fr : AA} {σ : ASt} {s : Sto} : aCons fa fr σ s = (fa σ s).bind (consK1 fr σ) := rfl
theorem e_consK {fr : AA} {σ : ASt} {s : Sto} {x : AV} : consK1 fr σ x s = (fr σ s).bind (consK2 x) := rfl
theorem e_consK2 {x : AV} {xs : List AV} {s : Sto} : consK2 x xs s = .ok (x :: xs) s := rfl
def andK (fb : AE) (σ : ASt) : AV → Sto → Res AV := fun x s1 => match x with | .bl true => fb σ s1 | .bl false => .ok (.bl false) s1 | _ => .stuck
def orK (fb : AE) (σ : ASt) : AV → Sto → Res AV := fun x s1 => match x with | .bl false => fb σ s1 | .bl true => .ok (.bl true) s1 | _ => .stuck
theorem e_and {fa fb : AE} {σ : ASt} {s : Sto} : aAndV fa fb σ s = (fa σ s).bind (andK fb σ) := rfl
theorem e_or {fa fb : AE} {σ : ASt} {s : Sto} : aOrV fa fb σ s = (fa σ s).bind (orK fb σ) := rfl
theorem e_andK {fb : AE} {σ : ASt} {s : Sto} {b : Bool} : andK fb σ (.bl b) s = if b = true then fb σ s else .ok (.bl false) s := by cases b <;> rfl
theorem e_orK {fb : AE} {σ : ASt} {s : Sto} {b : Bool} : orK fb σ (.bl b) s = if b = true then .ok (.bl true) s else fb σ s := by cases b <;> rfl
def notK  : AV → Sto → Res AV := fun x s1 => match x with | .bl b => .ok (.bl (!b)) s1 | _ => .stuck
theorem e_not {fa : AE} {σ : ASt} {s : Sto} : aNotV fa σ s = (fa σ s).bind notK := rfl
theorem e_notK {b : Bool} {s : Sto} : notK (.bl b) s = .ok (.bl (!b)) s := rfl
def testK  : AV → Sto → Res Bool := fun x s1 => match x with | .bl b => .ok b s1 | _ => .stuck
theorem e_test {fa : AE} {σ : ASt} {s : Sto} : aTest fa σ s = (fa σ s).bind testK := rfl
theorem e_testK {b : Bool} {s : Sto} : testK (.bl b) s = .ok b s := rfl
def tandK (u : AT) (σ : ASt) : Bool → Sto → Res Bool := fun b s1 => if b = true then u σ s1 else .ok false s1
def torK (u : AT) (σ : ASt) : Bool → Sto → Res Bool := fun b s1 => if b = true then .ok true s1 else u σ s1
def tnotK  : Bool → Sto → Res Bool := fun b s1 => .ok (!b) s1
theorem e_tand {t u : AT} {σ : ASt} {s : Sto} : aAnd t u σ s = (t σ s).bind (tandK u σ) := rfl
theorem e_tandK {u : AT} {σ : ASt} {s : Sto} {b : Bool} : tandK u σ b s = if b = true then u σ s else .ok false s := rfl
theorem e_tor {t u : AT} {σ : ASt} {s : Sto} : aOr t u σ s = (t σ s).bind (torK u σ) := rfl
theorem e_torK {u : AT} {σ : ASt} {s : Sto} {b : Bool} : torK u σ b s = if b = true then .ok true s else u σ s := rfl
theorem e_tnot {t : AT} {σ : ASt} {s : Sto} : aNot t σ s = (t σ s).bind tnotK := rfl
theorem e_tnotK {b : Bool} {s : Sto} : tnotK b s = .ok (!b) s := rfl
theorem e_yes {σ : ASt} {s : Sto} : aYes σ s = .ok true s := rfl
def ifK (fa fb : AE) (σ : ASt) : Bool → Sto → Res AV := fun b s1 => if b = true then fa σ s1 else fb σ s1
theorem e_if {fa fb : AE} {t : AT} {σ : ASt} {s : Sto} : aIf t fa fb σ s = (t σ s).bind (ifK fa fb σ) := rfl
theorem e_ifK {fa fb : AE} {σ : ASt} {s : Sto} {b : Bool} : ifK fa fb σ b s = if b = true then fa σ s else fb σ s := rfl
def chK3 (r' : AV → AV → Sto → Res AV) (fc : AE) (σ : ASt) (y : AV) : AV → Sto → Res AV := fun z s3 => match z with | .bl true => (fc σ s3).bind (r' y) | .bl false => .ok (.bl false) s3 | _ => .stuck
def chK2 (r r' : AV → AV → Sto → Res AV) (fc : AE) (σ : ASt) (x : AV) : AV → Sto → Res AV := fun y s2 => (r x y s2).bind (chK3 r' fc σ y)
def chK1 (r r' : AV → AV → Sto → Res AV) (fb fc : AE) (σ : ASt) : AV → Sto → Res AV := fun x s1 => (fb σ s1).bind (chK2 r r' fc σ x)
theorem e_ch {fa fb fc : AE} {σ : ASt} {s : Sto} {r r' : AV → AV → Sto → Res AV} : aChain r r' fa fb fc σ s = (fa σ s).bind (chK1 r r' fb fc σ) := rfl
theorem e_chK1 {fb fc : AE} {σ : ASt} {s : Sto} {r r' : AV → AV → Sto → Res AV} {x : AV} : chK1 r r' fb fc σ x s = (fb σ s).bind (chK2 r r' fc σ x) := rfl
theorem e_chK2 {fc : AE} {σ : ASt} {s : Sto} {r r' : AV → AV → Sto → Res AV} {x y : AV} : chK2 r r' fc σ x y s = (r x y s).bind (chK3 r' fc σ y) := rfl
theorem e_chK3 {fc : AE} {σ : ASt} {s : Sto} {r' : AV → AV → Sto → Res AV} {y : AV} {b : Bool} : chK3 r' fc σ y (.bl b) s = if b = true then (fc σ s).bind (r' y) else .ok (.bl false) s := by cases b <;> rfl
def tupK  : List AV → Sto → Res AV := fun xs s1 => if xs.length ≤ sizeLine then .ok (.tup xs) s1 else .stuck
def lstK  : List AV → Sto → Res AV := fun xs s1 => if xs.length ≤ sizeLine then newL xs s1 else .stuck
theorem e_tup {fr : AA} {σ : ASt} {s : Sto} : aTup fr σ s = (fr σ s).bind tupK := rfl
theorem e_tupK {xs : List AV} {s : Sto} : tupK xs s = grd (xs.length ≤ sizeLine) (.ok (.tup xs) s) := rfl
theorem e_lst {fr : AA} {σ : ASt} {s : Sto} : aLst fr σ s = (fr σ s).bind lstK := rfl
theorem e_lstK {xs : List AV} {s : Sto} : lstK xs s = grd (xs.length ≤ sizeLine) (newL xs s) := rfl
theorem e_newL {xs : List AV} {s : Sto} : newL xs s = .ok (.obj s.n) (s.new (.lst xs)) := rfl
def callK (n : Nat) (F : List AV → Sto → Res AV) (dvs : List AV) : List AV → Sto → Res AV := fun xs s1 => if (xs ++ dvs).length = n then F (xs ++ dvs) s1 else .stuck
theorem e_call {fr : AA} {σ : ASt} {s : Sto} {n : Nat} {F : List AV → Sto → Res AV} {dvs : List AV} : aCall n F dvs fr σ s = (fr σ s).bind (callK n F dvs) := rfl
theorem e_callK {n : Nat} {F : List AV → Sto → Res AV} {dvs : List AV} {xs : List AV} {s : Sto} : callK n F dvs xs s = grd ((xs ++ dvs).length = n) (F (xs ++ dvs) s) := rfl
def methK2 (n : Nat) (F : List AV → Sto → Res AV) (dvs : List AV) (x : AV) : List AV → Sto → Res AV := fun xs s2 => if (x :: (xs ++ dvs)).length = n then F (x :: (xs ++ dvs)) s2 else .stuck
def methK (c : String) (m : Str) (n : Nat) (F : List AV → Sto → Res AV) (dvs : List AV) (fr : AA) (σ : ASt) : AV → Sto → Res AV := fun x s1 => if clsIs s1 x c m = true then (fr σ s1).bind (methK2 n F dvs x) else .stuck
theorem e_meth {fa : AE} {fr : AA} {σ : ASt} {s : Sto} {n : Nat} {F : List AV → Sto → Res AV} {dvs : List AV} {c : String} {m : Str} : aMeth c m n F dvs fa fr σ s = (fa σ s).bind (methK c m n F dvs fr σ) := rfl
theorem e_methK {fr : AA} {σ : ASt} {s : Sto} {n : Nat} {F : List AV → Sto → Res AV} {dvs : List AV} {c : String} {m : Str} {x : AV} : methK c m n F dvs fr σ x s = grd (clsIs s x c m = true) ((fr σ s).bind (methK2 n F dvs x)) := rfl
theorem e_methK2 {n : Nat} {F : List AV → Sto → Res AV} {dvs : List AV} {x : AV} {xs : List AV} {s : Sto} : methK2 n F dvs x xs s = grd ((x :: (xs ++ dvs)).length = n) (F (x :: (xs ++ dvs)) s) := rfl
def propK (c : String) (F : List AV → Sto → Res AV) : AV → Sto → Res AV := fun x s1 => if isI s1 x c = true then noErr (F [x] s1) else .stuck
theorem e_prop {fa : AE} {σ : ASt} {s : Sto} {F : List AV → Sto → Res AV} {c : String} : aProp c F fa σ s = (fa σ s).bind (propK c F) := rfl
theorem e_propK {F : List AV → Sto → Res AV} {c : String} {x : AV} {s : Sto} : propK c F x s = grd (isI s x c = true) (noErr (F [x] s)) := rfl
def makeK2 (o : Nat) : AV → Sto → Res AV := fun v s2 => if isNon v = true then .ok (.obj o) s2 else .stuck
def makeK (c : String) (n : Nat) (F : List AV → Sto → Res AV) (dvs : List AV) : List AV → Sto → Res AV := fun xs s1 => if (AV.obj s1.n :: (xs ++ dvs)).length = n then (F (.obj s1.n :: (xs ++ dvs)) (s1.new (.ins c []))).bind (makeK2 s1.n) else .stuck
theorem e_make {fr : AA} {σ : ASt} {s : Sto} {n : Nat} {F : List AV → Sto → Res AV} {dvs : List AV} {c : String} : aMake c n F dvs fr σ s = (fr σ s).bind (makeK c n F dvs) := rfl
theorem e_makeK {n : Nat} {F : List AV → Sto → Res AV} {dvs : List AV} {c : String} {xs : List AV} {s : Sto} : makeK c n F dvs xs s = grd ((AV.obj s.n :: (xs ++ dvs)).length = n) ((F (.obj s.n :: (xs ++ dvs)) (s.new (.ins c []))).bind (makeK2 s.n)) := rfl
theorem e_makeK2 {o : Nat} {s : Sto} : makeK2 o .non s = .ok (.obj o) s := rfl
theorem e_makeV {fr : AA} {σ : ASt} {s : Sto} {n : Nat} {F : List AV → Sto → Res AV} {c : String} {i : Nat} {d : String} : aMakeV i c n F fr σ s = match σ[i]? with | some (some (.cls d)) => if d = c then aMake c n F [] fr σ s else .stuck | _ => .stuck := rfl
def smK2 (n : Nat) (F : List AV → Sto → Res AV) : List AV → Sto → Res AV := fun xs s2 => if (xs ++ []).length = n then F (xs ++ []) s2 else .stuck
def smK (c : String) (n : Nat) (F : List AV → Sto → Res AV) (fr : AA) (σ : ASt) : AV → Sto → Res AV := fun x s1 => if isCls c x = true then (fr σ s1).bind (smK2 n F) else .stuck
theorem e_sm {fa : AE} {fr : AA} {σ : ASt} {s : Sto} {n : Nat} {F : List AV → Sto → Res AV} {c : String} : aSMeth c n F fa fr σ s = (fa σ s).bind (smK c n F fr σ) := rfl
theorem e_smK {fr : AA} {σ : ASt} {s : Sto} {n : Nat} {F : List AV → Sto → Res AV} {c : String} {x : AV} : smK c n F fr σ x s = grd (isCls c x = true) ((fr σ s).bind (smK2 n F)) := rfl
theorem e_smK2 {n : Nat} {F : List AV → Sto → Res AV} {xs : List AV} {s : Sto} : smK2 n F xs s = grd ((xs ++ []).length = n) (F (xs ++ []) s) := rfl
def cmK2 (c : String) (n : Nat) (F : List AV → Sto → Res AV) : List AV → Sto → Res AV := fun xs s2 => if (AV.cls c :: (xs ++ [])).length = n then F (.cls c :: (xs ++ [])) s2 else .stuck
def cmK (c : String) (n : Nat) (F : List AV → Sto → Res AV) (fr : AA) (σ : ASt) : AV → Sto → Res AV := fun x s1 => if isCls c x = true then (fr σ s1).bind (cmK2 c n F) else .stuck
theorem e_cm {fa : AE} {fr : AA} {σ : ASt} {s : Sto} {n : Nat} {F : List AV → Sto → Res AV} {c : String} : aCMeth c n F fa fr σ s = (fa σ s).bind (cmK c n F fr σ) := rfl
theorem e_cmK {fr : AA} {σ : ASt} {s : Sto} {n : Nat} {F : List AV → Sto → Res AV} {c : String} {x : AV} : cmK c n F fr σ x s = grd (isCls c x = true) ((fr σ s).bind (cmK2 c n F)) := rfl
theorem e_cmK2 {n : Nat} {F : List AV → Sto → Res AV} {c : String} {xs : List AV} {s : Sto} : cmK2 c n F xs s = grd ((AV.cls c :: (xs ++ [])).length = n) (F (.cls c :: (xs ++ [])) s) := rfl
def slK3 (x : AV) (l : Option Int) : Option Int → Sto → Res AV := fun u s3 => gSl x l u s3
def slK2 (fh : AO) (σ : ASt) (x : AV) : Option Int → Sto → Res AV := fun l s2 => (fh σ s2).bind (slK3 x l)
def slK1 (fl fh : AO) (σ : ASt) : AV → Sto → Res AV := fun x s1 => (fl σ s1).bind (slK2 fh σ x)
theorem e_sl {fa : AE} {σ : ASt} {s : Sto} {fl fh : AO} : aSl fa fl fh σ s = (fa σ s).bind (slK1 fl fh σ) := rfl
theorem e_slK1 {σ : ASt} {s : Sto} {fl fh : AO} {x : AV} : slK1 fl fh σ x s = (fl σ s).bind (slK2 fh σ x) := rfl
theorem e_slK2 {σ : ASt} {s : Sto} {fh : AO} {x : AV} {l : Option Int} : slK2 fh σ x l s = (fh σ s).bind (slK3 x l) := rfl
theorem e_slK3 {s : Sto} {x : AV} {l h : Option Int} : slK3 x l h s = gSl x l h s := rfl
def partK  : AV → Sto → Res (Option Int) := fun x s1 => match x with | .int i => .ok (some i) s1 | _ => .stuck
theorem e_part {fa : AE} {σ : ASt} {s : Sto} : aPart fa σ s = (fa σ s).bind partK := rfl
theorem e_partK {i : Int} {s : Sto} : partK (.int i) s = .ok (some i) s := rfl
theorem e_nopart {σ : ASt} {s : Sto} : aNoPart σ s = .ok none s := rfl
def revK  : AV → Sto → Res AV := fun x s1 => match lstOf s1 x with | some xs => newL xs.reverse s1 | none => .stuck
theorem e_rev {fa : AE} {σ : ASt} {s : Sto} : aRev fa σ s = (fa σ s).bind revK := rfl
def bmK (g : AV → List AV → Sto → Res AV) (fr : AA) (σ : ASt) : AV → Sto → Res AV := fun x s1 => if isSeqL s1 x = true then (fr σ s1).bind (g x) else .stuck
theorem e_bm {fa : AE} {fr : AA} {σ : ASt} {s : Sto} {g : AV → List AV → Sto → Res AV} : aBM g fa fr σ s = (fa σ s).bind (bmK g fr σ) := rfl
theorem e_bmK {fr : AA} {σ : ASt} {s : Sto} {g : AV → List AV → Sto → Res AV} {x : AV} : bmK g fr σ x s = grd (isSeqL s x = true) ((fr σ s).bind (g x)) := rfl
def prK3 (x y : AV) : List (AV × AV) → Sto → Res (List (AV × AV)) := fun ps s3 => .ok ((x, y) :: ps) s3
def prK2 (r : List (AE × AE)) (σ : ASt) (x : AV) : AV → Sto → Res (List (AV × AV)) := fun y s2 => (aPairs r σ s2).bind (prK3 x y)
def prK1 (fv : AE) (r : List (AE × AE)) (σ : ASt) : AV → Sto → Res (List (AV × AV)) := fun x s1 => (fv σ s1).bind (prK2 r σ x)
def dispK (n : Nat) : List (AV × AV) → Sto → Res AV := fun ps s1 => match s1.c n, keysA ps with | .dic [], some kvs => if kvs.length ≤ 15 then .ok (.obj n) (s1.set n (.dic (mergeA [] kvs))) else .stuck | _, _ => .stuck
theorem e_pr {fa fb : AE} {σ : ASt} {s : Sto} {r : List (AE × AE)} : aPairs ((fa, fb) :: r) σ s = (fa σ s).bind (prK1 fb r σ) := rfl
theorem e_pr0 {σ : ASt} {s : Sto} : aPairs [] σ s = .ok [] s := rfl
theorem e_prK1 {fb : AE} {σ : ASt} {s : Sto} {r : List (AE × AE)} {x : AV} : prK1 fb r σ x s = (fb σ s).bind (prK2 r σ x) := rfl
theorem e_prK2 {σ : ASt} {s : Sto} {r : List (AE × AE)} {x y : AV} : prK2 r σ x y s = (aPairs r σ s).bind (prK3 x y) := rfl
theorem e_prK3 {s : Sto} {x y : AV} {ps : List (AV × AV)} : prK3 x y ps s = .ok ((x, y) :: ps) s := rfl
theorem e_disp {σ : ASt} {s : Sto} {fs : List (AE × AE)} : aDisp fs σ s = (aPairs fs σ (s.new (.dic []))).bind (dispK s.n) := rfl
theorem e_dispK {s1 : Sto} {n : Nat} {ps : List (AV × AV)} {kvs : List (Key × AV)} (h : s1.c n = .dic []) (k : keysA ps = some kvs) (l : kvs.length ≤ 15) : dispK n ps s1 = .ok (.obj n) (s1.set n (.dic (mergeA [] kvs))) := by unfold dispK; simp only [h, k, if_pos l]
theorem e_dnew {σ : ASt} {s : Sto} : aDNew σ s = .ok (.obj s.n) (s.new (.dic [])) := rfl
def ownK1 (c : String) (ts : List String) (F : List AV → Sto → Res AV) (fb : AE) (σ : ASt) : AV → Sto → Res AV := fun x s1 => (fb σ s1).bind (gOwn c ts F x)
theorem e_own {fa fb : AE} {σ : ASt} {s : Sto} {n : Nat} {F : List AV → Sto → Res AV} {c : String} {ts : List String} : aOwn c ts n F fa fb σ s = (fa σ s).bind (ownK1 c ts F fb σ) := rfl
theorem e_ownK {fb : AE} {σ : ASt} {s : Sto} {F : List AV → Sto → Res AV} {c : String} {ts : List String} {x : AV} : ownK1 c ts F fb σ x s = (fb σ s).bind (gOwn c ts F x) := rfl
def lcK (g : AV → AS) (ft : AT) (fe : AE) (vs : List Nat) (σ : ASt) : List AV × (Sto → Prop) → Sto → Res AV := fun p s1 => oObj s1.n (lcI s1.n p.2 g ft fe (wipeA σ vs) p.1 (s1.new (.lst [])))
theorem e_lc {fa : AE} {t : AT} {σ : ASt} {s : Sto} {fi : AI} {g : AV → AS} {vs : List Nat} : aLc fi g t fa vs σ s = (fi σ s).bind (lcK g t fa vs σ) := rfl
theorem e_lcK {fa : AE} {t : AT} {σ : ASt} {s : Sto} {g : AV → AS} {vs : List Nat} {xs : List AV} {G : Sto → Prop} : lcK g t fa vs σ (xs, G) s = oObj s.n (lcI s.n G g t fa (wipeA σ vs) xs (s.new (.lst []))) := rfl
theorem e_iter {fa : AE} {σ : ASt} {s : Sto} : aIter fa σ s = (fa σ s).bind iterOf := rfl
def rng1K  : List AV → Sto → Res (List AV × (Sto → Prop)) := fun xs s1 => match xs with | [.int j] => if -(2 ^ 62) ≤ j ∧ j < 2 ^ 62 then .ok (rngA 0 j.toNat, fun _ => True) s1 else .stuck | _ => .stuck
def rng2K  : List AV → Sto → Res (List AV × (Sto → Prop)) := fun xs s1 => match xs with | [.int i, .int j] => if -(2 ^ 62) ≤ i ∧ i < 2 ^ 62 ∧ -(2 ^ 62) ≤ j ∧ j < 2 ^ 62 then .ok (rngA i (j - i).toNat, fun _ => True) s1 else .stuck | _ => .stuck
theorem e_rng1 {fr : AA} {σ : ASt} {s : Sto} : aRng1 fr σ s = (fr σ s).bind rng1K := rfl
theorem e_rng1K {j : Int} {s : Sto} : rng1K [.int j] s = grd (-(2 ^ 62) ≤ j ∧ j < 2 ^ 62) (.ok (rngA 0 j.toNat, fun _ => True) s) := rfl
theorem e_rng2 {fr : AA} {σ : ASt} {s : Sto} : aRng2 fr σ s = (fr σ s).bind rng2K := rfl
theorem e_rng2K {i j : Int} {s : Sto} : rng2K [.int i, .int j] s = grd (-(2 ^ 62) ≤ i ∧ i < 2 ^ 62 ∧ -(2 ^ 62) ≤ j ∧ j < 2 ^ 62) (.ok (rngA i (j - i).toNat, fun _ => True) s) := rfl
def enumK  : List AV → Sto → Res (List AV × (Sto → Prop)) := fun xs s1 => match xs with | [x] => (match lstOf s1 x with | some ys => .ok (enumA ys, fun s2 => lstOf s2 x = some ys) s1 | none => .stuck) | _ => .stuck
theorem e_enum {fr : AA} {σ : ASt} {s : Sto} : aEnum fr σ s = (fr σ s).bind enumK := rfl
theorem e_enumK {x : AV} {ys : List AV} {s : Sto} (h : lstOf s x = some ys) : enumK [x] s = .ok (enumA ys, fun s2 => lstOf s2 x = some ys) s := by unfold enumK; simp only [h]
theorem post_enum {x : AV} {ys : List AV} {s : Sto} {P : List AV × (Sto → Prop) → Sto → Prop} {R : String → List Str → List AV → Sto → Prop} (h : lstOf s x = some ys) (q : P (enumA ys, fun s2 => lstOf s2 x = some ys) s) : (enumK [x] s).Post P R := by rw [e_enumK h]; exact q
theorem iterOf_l {i : Nat} {ys : List AV} {s : Sto} (h : lstOf s (.obj i) = some ys) : iterOf (.obj i) s = .ok (ys, fun s2 => lstOf s2 (.obj i) = some ys) s := by
  show (match lstOf s (.obj i) with | some xs => (.ok (xs, fun s2 => lstOf s2 (.obj i) = some xs) s : Res (List AV × (Sto → Prop))) | none => .stuck) = _
  rw [h]
def dropK (σ : ASt) : AV → Sto → SRes := fun _ s1 => .nx σ s1
theorem s_drop {fa : AE} {σ : ASt} {s : Sto} : aDrop fa σ s = (fa σ s).st σ (dropK σ) := rfl
theorem s_dropK {σ : ASt} {s : Sto} {v : AV} : dropK σ v s = .nx σ s := rfl
def retK  : AV → Sto → SRes := fun v s1 => .rt v s1
theorem s_ret {fa : AE} {σ : ASt} {s : Sto} : aRet fa σ s = (fa σ s).st σ retK := rfl
theorem s_retK {v : AV} {s : Sto} : retK v s = .rt v s := rfl
theorem s_retN {σ : ASt} {s : Sto} : aRetN σ s = .rt .non s := rfl
theorem s_next {σ : ASt} {s : Sto} : aNext σ s = .nx σ s := rfl
theorem s_break {σ : ASt} {s : Sto} : aBreak σ s = .bk σ s := rfl
theorem s_cont {σ : ASt} {s : Sto} : aCont σ s = .ct σ s := rfl
theorem s_seq {f1 f2 : AS} {σ : ASt} {s : Sto} : aSeq f1 f2 σ s = (f1 σ s).thn f2 := rfl
def ifSK (f g : AS) (σ : ASt) : Bool → Sto → SRes := fun b s1 => if b = true then f σ s1 else g σ s1
theorem s_if {t : AT} {f1 f2 : AS} {σ : ASt} {s : Sto} : aIfS t f1 f2 σ s = (t σ s).st σ (ifSK f1 f2 σ) := rfl
theorem s_ifK {f1 f2 : AS} {σ : ASt} {s : Sto} {b : Bool} : ifSK f1 f2 σ b s = if b = true then f1 σ s else f2 σ s := rfl
def asgK (g : AV → AS) (σ : ASt) : AV → Sto → SRes := fun v s1 => g v σ s1
theorem s_asg {fa : AE} {σ : ASt} {s : Sto} {g : AV → AS} : aAsg fa g σ s = (fa σ s).st σ (asgK g σ) := rfl
theorem s_asgK {σ : ASt} {s : Sto} {g : AV → AS} {v : AV} : asgK g σ v s = g v σ s := rfl
theorem s_name {σ : ASt} {s : Sto} {i : Nat} {v : AV} : agName i v σ s = .nx (σ.set i (some v)) s := rfl
theorem s_par {fr : AA} {σ : ASt} {s : Sto} {i j : Nat} : aPar i j fr σ s = (fr σ s).st σ (parK i j σ) := rfl
theorem s_parK {σ : ASt} {s : Sto} {i j : Nat} {v u : AV} : parK i j σ [v, u] s = .nx ((σ.set i (some v)).set j (some u)) s := rfl
theorem s_par3 {fr : AA} {σ : ASt} {s : Sto} {i j l : Nat} : aPar3 i j l fr σ s = (fr σ s).st σ (parK3 i j l σ) := rfl
theorem s_parK3 {σ : ASt} {s : Sto} {i j l : Nat} {v u w : AV} : parK3 i j l σ [v, u, w] s = .nx (((σ.set i (some v)).set j (some u)).set l (some w)) s := rfl
theorem s_gnil {σ : ASt} {s : Sto} : agNil [] σ s = .nx σ s := rfl
theorem s_gcons {σ : ASt} {s : Sto} {g : AV → AS} {h : List AV → AS} {x : AV} {r : List AV} : agCons g h (x :: r) σ s = (g x σ s).thn (h r) := rfl
theorem s_gtup {σ : ASt} {s : Sto} {n : Nat} {g : List AV → AS} {xs : List AV} : agTup n g (.tup xs) σ s = grdS (xs.length = n) (g xs σ s) := rfl
def forK (g : AV → AS) (b : AS) (σ : ASt) : List AV × (Sto → Prop) → Sto → SRes := fun p s1 => forI p.2 g b p.1 σ s1
theorem s_for {f1 : AS} {σ : ASt} {s : Sto} {fi : AI} {g : AV → AS} : aFor fi g f1 σ s = (fi σ s).st σ (forK g f1 σ) := rfl
theorem s_forK {f1 : AS} {σ : ASt} {s : Sto} {g : AV → AS} {xs : List AV} {G : Sto → Prop} : forK g f1 σ (xs, G) s = forI G g f1 xs σ s := rfl
theorem s_raise {fr : AA} {σ : ASt} {s : Sto} {c : String} {fl : Str} : aRaise c fl fr σ s = (fr σ s).st σ (raiseK c fl σ) := rfl
theorem s_raiseK {σ : ASt} {s : Sto} {c : String} {fl : Str} {v : AV} : raiseK c fl σ [v] s = .err c [fl] [v] σ s := rfl
def sfK2 (cs : List String) (f : Str) (σ : ASt) (y : AV) : AV → Sto → SRes := fun x s2 => oNx σ (setF cs f x y s2)
def sfK1 (cs : List String) (f : Str) (fo : AE) (σ : ASt) : AV → Sto → SRes := fun y s1 => (fo σ s1).st σ (sfK2 cs f σ y)
theorem s_sf {fa fb : AE} {σ : ASt} {s : Sto} {cs : List String} {f : Str} : aSFld cs f fa fb σ s = (fb σ s).st σ (sfK1 cs f fa σ) := rfl
theorem s_sfK1 {fa : AE} {σ : ASt} {s : Sto} {cs : List String} {f : Str} {y : AV} : sfK1 cs f fa σ y s = (fa σ s).st σ (sfK2 cs f σ y) := rfl
theorem s_sfK2 {σ : ASt} {s : Sto} {cs : List String} {f : Str} {x y : AV} : sfK2 cs f σ y x s = oNx σ (setF cs f x y s) := rfl
def dpK3 (σ : ASt) (z x : AV) : AV → Sto → SRes := fun y s3 => oNx σ (setD x y z s3)
def dpK2 (fy : AE) (σ : ASt) (z : AV) : AV → Sto → SRes := fun x s2 => (fy σ s2).st σ (dpK3 σ z x)
def dpK1 (fd fy : AE) (σ : ASt) : AV → Sto → SRes := fun z s1 => (fd σ s1).st σ (dpK2 fy σ z)
theorem s_dp {fa fb fc : AE} {σ : ASt} {s : Sto} : aDPut fa fb fc σ s = (fc σ s).st σ (dpK1 fa fb σ) := rfl
theorem s_dpK1 {fa fb : AE} {σ : ASt} {s : Sto} {z : AV} : dpK1 fa fb σ z s = (fa σ s).st σ (dpK2 fb σ z) := rfl
theorem s_dpK2 {fb : AE} {σ : ASt} {s : Sto} {x z : AV} : dpK2 fb σ z x s = (fb σ s).st σ (dpK3 σ z x) := rfl
theorem s_dpK3 {σ : ASt} {s : Sto} {x y z : AV} : dpK3 σ z x y s = oNx σ (setD x y z s) := rfl
theorem s_forget {f1 : AS} {σ : ASt} {s : Sto} {n : Nat} : aForget n f1 σ s = (f1 σ s).forget n := rfl
theorem s_def {k : Nat} {f : AS} {args : List AV} {s : Sto} : aDef k f args s = (f (args.map some ++ List.replicate k none) s).fn := rfl
theorem s_fld {fa : AE} {σ : ASt} {s : Sto} {cs : List String} {f : Str} : aFld cs f fa σ s = (fa σ s).bind (gFld cs f) := rfl
end
end Ab
set_option Elab.async false
set_option linter.all false
set_option maxRecDepth 100000
set_option maxHeartbeats 1000000
namespace Ab
open PySem PySem.Spec PyProof.Rows L2
open Classical
theorem u65 {k : Nat} {A : Around} (r : Room k A) : A.units + 65 < cLine := by have := r.un; omega
noncomputable section
def gMulT : AV → AV → Sto → Res AV := fun x y s => match x, y with
  | .tup a, .int k => if a ≠ [] ∧ 2 ≤ k ∧ k ≤ 1000 ∧ a.length ≤ 1000 then .ok (.tup (List.replicate k.toNat a).flatten) s else .stuck
  | x, y => gMul x y s
@[simp] theorem gMulT_int {i j : Int} {s : Sto} : gMulT (.int i) (.int j) s = gMul (.int i) (.int j) s := rfl
@[simp] theorem gMulT_str {i : Str} {j : Int} {s : Sto} : gMulT (.str i) (.int j) s = gMul (.str i) (.int j) s := rfl
@[simp] theorem gMulT_obj {i : Nat} {j : Int} {s : Sto} : gMulT (.obj i) (.int j) s = gMul (.obj i) (.int j) s := rfl
def idxD (d : PyData) : List PyData → Option Nat
  | [] => none
  | z :: r => if PyData.eqv z d = true then some 0 else (idxD d r).map (· + 1)
theorem idxD_at {d : PyData} : ∀ {ds : List PyData} {j : Nat}, idxD d ds = some j → ∃ z, ds[j]? = some z ∧ PyData.eqv z d = true ∧ ∀ (m : Nat) (z' : PyData), m < j → ds[m]? = some z' → PyData.eqv z' d = false
  | z :: r, j, h => by
    unfold idxD at h
    split at h
    · rename_i hz
      cases h
      exact ⟨z, rfl, hz, fun m z' hm => absurd hm (Nat.not_lt_zero m)⟩
    · rename_i hz
      obtain ⟨i, e, rfl⟩ := Option.map_eq_some_iff.mp h
      obtain ⟨y, y1, y2, y3⟩ := idxD_at e
      refine ⟨y, by simpa using y1, y2, fun m z' hm hz' => ?_⟩
      cases m with
      | zero => cases hz'; exact Bool.eq_false_iff.mpr hz
      | succ m => exact y3 m z' (by omega) (by simpa using hz')
def gIndex (x : AV) (xs : List AV) (s : Sto) : Res AV := match xs with | [y] => (match dat 12 s x, dat 12 s y with | some (.list ds), some d => if SeqAt.shaped (.list ds) = true ∧ SeqAt.shaped d = true then (match idxD d ds with | some j => .ok (.int (j : Nat)) s | none => .stuck) else .stuck | _, _ => .stuck) | _ => .stuck
theorem gIndex_dat {x y : AV} {s : Sto} {d : PyData} {ds : List PyData} {j : Nat} (h1 : dat 12 s x = some (.list ds)) (h2 : dat 12 s y = some d) (h : SeqAt.shaped (.list ds) = true ∧ SeqAt.shaped d = true) (e : idxD d ds = some j) : gIndex x [y] s = .ok (.int (j : Nat)) s := by
  unfold gIndex; simp only [h1, h2, e]; exact if_pos h
theorem NEM.index : NEM gIndex := fun x y s c ns vs s' h => by 
  unfold gIndex at h
  repeat' split at h
  all_goals first | cases h | (unfold newL at h; cases h)
theorem DM.index {W : Wl} : DM W (rIndexD W.K) gIndex := fun w s x ys v us Q S rx ry h => by
  unfold gIndex at h
  split at h
  · rename_i y
    cases ry with
    | cons r1 r2 =>
      cases r2
      split at h
      · rename_i ds d h1 h2
        split at h
        · rename_i hc
          split at h
          · rename_i j e
            obtain ⟨z, z1, z2, z3⟩ := idxD_at e
            have dp := dat_dp S _ _ _ _ rx h1
            have hv : ∃ a, v = .ref a := by
              cases dp with
              | lst => exact ⟨_, rfl⟩
            obtain ⟨a, rfl⟩ := hv
            exact ⟨a, _, d, ds, j, z, rfl, rfl, dp, dat_dp S _ _ _ _ r1 h2, hc.1, hc.2, z1, z2, z3, h w _ (.refl w) S (.int _)⟩
          · exact h.elim
        · exact h.elim
      · exact h.elim
  · exact h.elim
end
end Ab
namespace Ab
open PySem PySem.Spec PyProof.Rows L2
open Classical
end Ab
namespace Gx
open PySem PySem.Spec PyProof.Rows L2
def StarB (fd : FuncData) (pv : Str) : Prop := ∀ rest : List Value, bindArgs fd ⟨rest, []⟩ = (newTuple rest >>= fun t => pure [(pv, t)])
theorem starB_of {fd : FuncData} {pv : Str} (h0 : bindArgs fd ⟨[], []⟩ = (newTuple [] >>= fun t => pure [(pv, t)])) (h1 : ∀ r rs, bindArgs fd ⟨r :: rs, []⟩ = (newTuple (r :: rs) >>= fun t => pure [(pv, t)])) : StarB fd pv
  | [] => h0
  | r :: rs => h1 r rs
structure CalXS (P : Program) (w : World) (K : PySem.W.Frag) (mg : Str → Option Value) (base : Heap) (k : Nat) (x : Str) (sp : Sp) : Prop where
  ex : ∃ f, FnR P w K mg base (CX P w) k f sp ∧ mg x = some (.ref f) ∧ PySem.W.keepIn K (.ref f) = true
theorem calXS {P : Program} {w : World} {K : PySem.W.Frag} {mg : Str → Option Value} {base : Heap} {x pv : Str} {st : Stmt} {f : Addr} {fd : FuncData} {N : List Str} {k : Nat} {sp : Sp} (F : C8.Def K mg x st f fd) (b : StarB fd pv) (S : FnScope N [pv] (C8.fnScope st))
    (hbody : ∀ (cdv : Value) (A : Around) (outer : List Env) (s : Shared) (H : Hp) (vs : List V) (Q : VK) (E : XK), Room k (A.deeper (envOfC x (C8.fnScope st) s.heap.objs.size f cdv)) → sp vs H Q E →
      ∃ t, PSs (cxOf (CX P w) P w K mg base N x (C8.fnScope st) f cdv A outer s H E) (C8.fnBody st) t ∧ t { nx := fun _ H' => Q .non H', rt := Q } (start N vs) H) :
    CalXS P w K mg base (k + 1) x (fun vs H Q E => vs.length ≤ sizeLine ∧ ∀ p, H p = Option.none → sp [V.ref p] (upd H p (.tup vs)) Q E) := by
  obtain ⟨oc, od, dV, kV, doc, pm, an, cdv, ct, osl, rfl, lk, hcd⟩ := F.fn.ex
  refine ⟨f, ?_, F.mgf, F.kp⟩
  have h := StX.fn_star (ps := []) lk hcd S StX.cxUp (fun us rest hl => by
    cases us with
    | nil => exact b rest
    | cons => cases hl) (hbody cdv)
  exact fun A outer s H us vs Q E hr e0 r hs => h A outer s H us vs Q E hr e0 r ⟨[], vs, rfl, rfl, hs.1, hs.2⟩
def tCallR (sp : Sp) (E : XK) (t : TA) : TE := fun σ H Q => t σ H fun vs H1 => sp vs H1 Q E
theorem pe_cxS {X : Cx} {k j : Nat} {x : Str} {sp : Sp} {p pos : Pos} {e : Expr} {es : List Expr} {t : TA} {W : WX} {E : XK} (c : CalXS X.prog X.w X.K X.mg X.base k x sp) (tk : Takes X W) (hW : ∀ cls d σ H, E cls d H → W cls d σ H) (hr : Room j X.A) (hk : k ≤ j) (hg : Gl X x) (ha : PA X (e :: es) t)
    (hdb : (x == ("__debug__" : Str)) = false := by decide) (he : starEach (e :: es) X.env = (false, eval e X.env) :: starEach es X.env := by rfl) (hpl : (backTo pos (starEach es X.env)).any (·.1) = false := by rfl) :
    PE X (.Call (.Name x p) (e :: es) [] pos) (tCallR sp E t) := by
  obtain ⟨f, F, hm, kp⟩ := c.ex
  refine ⟨fun pins s σ H Q I h => ?_⟩
  exact wpAny_Call_Name_kw (ld_glob I hg hm (PySem.W.callWith_K (h₀ := X.base) I.ok.mod.kin kp (thn (ha.run pos pins s σ H _ I h) fun us s1 ⟨vs, H1, I1, r, q⟩ => ⟨I1.kIn, wpAny_call (run_fnR F (hr.mono hk) (passes_call tk hW) I1 r q)⟩) he hpl) hdb)
end Gx
namespace Ab
open PySem PySem.Spec PyProof.Rows L2
open Classical
noncomputable section
def spS (W : Wl) (F : List AV → Sto → Res AV) : Sp := fun vs H Q E => vs.length ≤ sizeLine ∧ ∀ p, H p = none → spF W 1 F [V.ref p] (upd H p (.tup vs)) Q E
def callSK (F : List AV → Sto → Res AV) : List AV → Sto → Res AV := fun xs s1 => if xs.length ≤ sizeLine then F [.tup xs] s1 else .stuck
def aCallS (F : List AV → Sto → Res AV) (fr : AA) : AE := fun σ s => (fr σ s).bind (callSK F)
theorem e_callS {F : List AV → Sto → Res AV} {fr : AA} {σ : ASt} {s : Sto} : aCallS F fr σ s = (fr σ s).bind (callSK F) := rfl
theorem e_callSK {F : List AV → Sto → Res AV} {xs : List AV} {s : Sto} : callSK F xs s = grd (xs.length ≤ sizeLine) (F [.tup xs] s) := rfl
theorem DE.callStar {W : Wl} {F : List AV → Sto → Res AV} {Ek : XK} {tr : TA} {fr : AA} (ha : DA W (fun _ => Ek) tr fr) : DE W (fun _ => Ek) (Gx.tCallR (spS W F) Ek tr) (aCallS F fr) := fun w s σ σc Q S R h => by
  refine ha w s σ σc _ S R ((post_bind_ok h).mono (fun xs s1 h1 w1 vs e1 S1 r1 => ?_) fun _ _ _ _ z => z)
  unfold callSK at h1
  split at h1
  · rename_i hl
    refine ⟨by rw [← r1.length]; exact hl, fun p hp => ?_⟩
    have g := grow_upd (o := .tup vs) hp
    exact ⟨{ w1 with H := upd w1.H p (.tup vs) }, s1, [.tup xs], rfl, S1.grow g, .cons (.tup (.inl (.inl upd_same)) (r1.mono (.grow g))) .nil, rfl, post_mono (e1.trans (.grow g)) h1⟩
  · exact (show False from h1).elim
end
end Ab
namespace Ab
open PySem PySem.Spec PyProof.Rows L2
open Classical
end Ab
set_option Elab.async false
set_option linter.all false
set_option maxRecDepth 100000
set_option maxHeartbeats 1000000
namespace Gx
open PySem PySem.Spec PyProof.Rows L2 GenW
end Gx
namespace Ab
open PySem PySem.Spec PyProof.Rows L2
open Classical
noncomputable section
def SRes.hd (y : Option AV) : SRes → SRes
  | .nx σ s => .nx (y :: σ) s
  | .bk σ s => .bk (y :: σ) s
  | .ct σ s => .ct (y :: σ) s
  | .err c ns vs σ s => .err c ns vs (y :: σ) s
  | .rt _ _ => .stuck
  | .stuck => .stuck
def aPl (f : AS) : AS := fun σ s => match σ with
  | some (.tup ys) :: σ' => (f σ' s).hd (some (.tup ys))
  | _ => .stuck
@[simp] theorem aPl_at {f : AS} {ys : List AV} {σ : ASt} {s : Sto} : aPl f (some (.tup ys) :: σ) s = (f σ s).hd (some (.tup ys)) := rfl
def SRes.PG (W : Wl) (r : SRes) (w : Wd) (D : GEnds) (E : XK) : Prop := match r with
  | .nx σ s => ∃ ys σ0, σ = some (.tup ys) :: σ0 ∧ ∀ w' σc ysc, Ext w w' → Sim W w' s → RSt W.toWc w' σ0 σc → RelL W.toWc w' ys ysc → D.nx ysc σc w'.H
  | .bk σ s => ∃ ys σ0, σ = some (.tup ys) :: σ0 ∧ ∀ w' σc ysc, Ext w w' → Sim W w' s → RSt W.toWc w' σ0 σc → RelL W.toWc w' ys ysc → D.bk ysc σc w'.H
  | .ct σ s => ∃ ys σ0, σ = some (.tup ys) :: σ0 ∧ ∀ w' σc ysc, Ext w w' → Sim W w' s → RSt W.toWc w' σ0 σc → RelL W.toWc w' ys ysc → D.ct ysc σc w'.H
  | .err c ns vs σ s => ErrP W w E c ns vs s
  | .rt _ _ => False
  | .stuck => False
theorem SRes.PG.mono {W : Wl} {r : SRes} {w w2 : Wd} {D : GEnds} {E : XK} (e : Ext w w2) (h : r.PG W w D E) : r.PG W w2 D E := by
  cases r with
  | nx σ s => obtain ⟨ys, σ0, rfl, k⟩ := h; exact ⟨ys, σ0, rfl, fun w' σc ysc e' => k w' σc ysc (e.trans e')⟩
  | bk σ s => obtain ⟨ys, σ0, rfl, k⟩ := h; exact ⟨ys, σ0, rfl, fun w' σc ysc e' => k w' σc ysc (e.trans e')⟩
  | ct σ s => obtain ⟨ys, σ0, rfl, k⟩ := h; exact ⟨ys, σ0, rfl, fun w' σc ysc e' => k w' σc ysc (e.trans e')⟩
  | err c ns vs σ s => exact fun w' d e' => h w' d (e.trans e')
  | rt v s => exact h
  | stuck => exact h
def Frm (f : AS) : Prop := ∀ σ s, f σ s = .stuck ∨ ∃ ys σ0, σ = some (AV.tup ys) :: σ0
theorem frm_match {k : List AV → ASt → SRes} {σ : ASt} : (match σ with | some (.tup ys) :: σ' => k ys σ' | _ => .stuck : SRes) = .stuck ∨ ∃ ys σ0, σ = some (AV.tup ys) :: σ0 := by
  match σ with
  | some (.tup ys) :: σ' => exact .inr ⟨_, _, rfl⟩
  | [] => exact .inl rfl
  | none :: _ => exact .inl rfl
  | some (.non) :: _ => exact .inl rfl
  | some (.bl _) :: _ => exact .inl rfl
  | some (.int _) :: _ => exact .inl rfl
  | some (.str _) :: _ => exact .inl rfl
  | some (.ty _) :: _ => exact .inl rfl
  | some (.cls _) :: _ => exact .inl rfl
  | some (.obj _) :: _ => exact .inl rfl
  | some (.raw _) :: _ => exact .inl rfl
  | some (.scr _) :: _ => exact .inl rfl
  | some (.exn _ _ _) :: _ => exact .inl rfl
theorem Frm.pl {f : AS} : Frm (aPl f) := fun σ s => frm_match
theorem Frm.seq {f g : AS} (h : Frm f) : Frm (aSeq f g) := fun σ s => by
  rcases h σ s with e | e
  · left; unfold aSeq; rw [e]; rfl
  · exact .inr e
structure DGn (W : Wl) (E : XK) (tg : TGn) (f : AS) : Prop where
  frm : Frm f
  run : ∀ (w : Wd) (s : Sto) (σ : ASt) (σc : L2.St) (ys : List AV) (ysc : List V) (D : GEnds), Sim W w s → RSt W.toWc w σ σc → RelL W.toWc w ys ysc → (f (some (.tup ys) :: σ) s).PG W w D E → tg D ysc σc w.H
section
variable {W : Wl} {E : XK} {ts : TS} {f g : AS} {te : TE} {fe : AE} {tg ug : TGn}
theorem DGn.pl (hs : DS W (fun _ => E) ts f) : DGn W E (tPlain ts) (aPl f) := ⟨Frm.pl, fun w s σ σc ys ysc D S R Y h => by
  refine hs w s σ σc (D.at ysc) S R ?_
  have h : ((f σ s).hd (some (.tup ys))).PG W w D E := h
  cases e : f σ s with
  | nx σ' s' =>
    rw [e] at h
    obtain ⟨ys', σ0, e2, k⟩ := h
    cases e2
    exact fun w' σc' e' S' R' => k w' σc' ysc e' S' R' (Y.mono e')
  | bk σ' s' =>
    rw [e] at h
    obtain ⟨ys', σ0, e2, k⟩ := h
    cases e2
    exact fun w' σc' e' S' R' => k w' σc' ysc e' S' R' (Y.mono e')
  | ct σ' s' =>
    rw [e] at h
    obtain ⟨ys', σ0, e2, k⟩ := h
    cases e2
    exact fun w' σc' e' S' R' => k w' σc' ysc e' S' R' (Y.mono e')
  | rt v s' => rw [e] at h; exact (show False from h).elim
  | err c ns vs σ' s' => rw [e] at h; exact fun w' σc' d e' S' R' x => h w' d e' S' x
  | stuck => rw [e] at h; exact (show False from h).elim⟩
theorem DGn.nil : DGn W E (tPlain fun D σ H => D.nx σ H) (aPl aNext) := DGn.pl DS.next
theorem DGn.seq (hf : DGn W E tg f) (hg : DGn W E ug g) : DGn W E (tGThen tg ug) (aSeq f g) := ⟨hf.frm.seq, fun w s σ σc ys ysc D S R Y h => by
  refine hf.run w s σ σc ys ysc _ S R Y ?_
  have h : ((f (some (.tup ys) :: σ) s).thn g).PG W w D E := h
  cases e : f (some (.tup ys) :: σ) s with
  | nx σ' s' =>
    rw [e] at h
    have h : (g σ' s').PG W w D E := h
    rcases hg.frm σ' s' with e2 | ⟨ys', σ0, rfl⟩
    · rw [e2] at h; exact (show False from h).elim
    · exact ⟨ys', σ0, rfl, fun w' σc' ysc' e' S' R' Y' => hg.run w' s' σ0 σc' ys' ysc' D S' R' Y' (h.mono e')⟩
  | bk σ' s' => rw [e] at h; exact h
  | ct σ' s' => rw [e] at h; exact h
  | rt v s' => rw [e] at h; exact h
  | err c ns vs σ' s' => rw [e] at h; exact h
  | stuck => rw [e] at h; exact h⟩
/-- a generator's promise -/
def spGF (W : Wl) (n : Nat) (F : List AV → Sto → Res AV) : SpG := fun vs H cont E => ∃ (w : Wd) (s : Sto) (args : List AV), H = w.H ∧ Sim W w s ∧ RelL W.toWc w args vs ∧ args.length = n ∧
  (F args s).Post (fun v s' => ∃ ys, v = .tup ys ∧ ∀ w' ysc, Ext w w' → Sim W w' s' → RelL W.toWc w' ys ysc → cont ysc w'.H) (ErrP W w E)
theorem spGF.len {n : Nat} {F : List AV → Sto → Res AV} {vs : List V} {H : Hp} {Q : List V → Hp → Prop} {E : XK} (h : spGF W n F vs H Q E) : vs.length = n := by
  obtain ⟨w, s, args, rfl, S, R, hn, p⟩ := h
  rw [← R.length]; exact hn
def toL (r : Res AV) : Res AV := r.bind fun v s => match v with | .tup ys => newL ys s | _ => .stuck
@[simp] theorem toL_ok {ys : List AV} {s : Sto} : toL (.ok (.tup ys) s) = newL ys s := rfl
@[simp] theorem toL_err {c : String} {ns : List Str} {vs : List AV} {s : Sto} : toL (.err c ns vs s) = .err c ns vs s := rfl
variable {ta : TE} {tr : TA} {fa : AE} {fr : AA}
end
end
end Ab
namespace Ab
open PySem PySem.Spec PyProof.Rows L2
open Classical
end Ab
namespace Ab
open PySem PySem.Spec PyProof.Rows L2
open Classical
end Ab
namespace Gx
open PySem PySem.Spec PyProof.Rows L2
end Gx
namespace Ab
open PySem PySem.Spec PyProof.Rows L2
open Classical
noncomputable section
def Rows (xs : List AV) : Prop := ∃ rows : List (List Int), xs = rows.map (fun r => AV.tup (r.map AV.int)) ∧ rows.Nodup ∧ rows.length < 64
end
end Ab
namespace Ab
open PySem PySem.Spec PyProof.Rows L2 GenW
/-- int of a whole number or of True, False -/
def gIntOf : List AV → Sto → Res AV := fun xs s => match xs with | [.int i] => .ok (.int i) s | [.bl b] => .ok (.int (if b then 1 else 0)) s | _ => .stuck
@[simp] theorem gIntOf_int {i : Int} {s : Sto} : gIntOf [.int i] s = .ok (.int i) s := rfl
@[simp] theorem gIntOf_bl {b : Bool} {s : Sto} : gIntOf [.bl b] s = .ok (.int (if b then 1 else 0)) s := rfl
end Ab
set_option Elab.async false
set_option linter.all false
set_option maxRecDepth 100000
set_option maxHeartbeats 1000000
namespace Kw
open PySem PySem.Spec PyProof.Rows L2 Gx
def permL {α : Type} (pm : List Nat) (xs : List α) : List α := pm.filterMap fun i => xs[i]?
theorem vals_at {vs : List V} {us : List Value} (h : Vals vs us) : ∀ i : Nat, (vs[i]? = none ∧ us[i]? = none) ∨ ∃ v u, vs[i]? = some v ∧ us[i]? = some u ∧ RelV v u := by
  induction h with
  | nil => exact fun i => .inl ⟨rfl, rfl⟩
  | cons h t ih =>
    intro i
    cases i with
    | zero => exact .inr ⟨_, _, rfl, rfl, h⟩
    | succ i => exact ih i
theorem Vals.perm {vs : List V} {us : List Value} (h : Vals vs us) : ∀ pm : List Nat, Vals (permL pm vs) (permL pm us)
  | [] => .nil
  | i :: pm => by
    have ih := Vals.perm h pm
    unfold permL at ih ⊢
    rcases vals_at h i with ⟨e1, e2⟩ | ⟨v, u, e1, e2, r⟩
    · rw [List.filterMap_cons, List.filterMap_cons, e1, e2]; exact ih
    · rw [List.filterMap_cons, List.filterMap_cons, e1, e2]; exact .cons r ih
/-- how n arguments and those by the names kn are bound -/
def BindsK (K : PySem.W.Frag) (fd : FuncData) (ps : List Str) (n : Nat) (kn : List Str) (pm : List Nat) : Prop :=
  ∀ (s : Shared) (us ks : List Value), K.In s.heap → us.length = n → ks.length = kn.length → BindsTo s fd ⟨us, kn.zip ks⟩ (ps.zip (permL pm (us ++ ks)))
theorem bindsK {K : PySem.W.Frag} {x qual : Str} {st : Stmt} {f : Addr} {fd : FuncData} (F : C8.Fun K x qual st f fd) (df : fd.defaults = .none) {ps : List Str} {n : Nat} {kn : List Str} {pm : List Nat}
    (h : ∀ (kV doc pm' : Value) (an : Option Addr) (cdv ct : Value) (us ks : List Value), us.length = n → ks.length = kn.length → bindArgs (PySem.W.fnOf x qual (C8.fnArgs st) (C8.fnBody st) (C8.fnScope st) .none kV doc pm' an cdv ct) ⟨us, kn.zip ks⟩ = pure (ps.zip (permL pm (us ++ ks)))) : BindsK K fd ps n kn pm := by
  obtain ⟨oc, od, dV, kV, doc, pm', an, cdv, ct, osl, rfl, lk, hcd⟩ := F.ex
  have e : dV = .none := df
  subst e
  exact fun s us ks _ h1 h2 => .of_eq (h kV doc pm' an cdv ct us ks h1 h2)
structure CalXK (P : Program) (w : World) (K : PySem.W.Frag) (mg : Str → Option Value) (base : Heap) (k : Nat) (x : Str) (n : Nat) (kn : List Str) (pm : List Nat) (sp : Sp) : Prop where
  ex : ∃ (f : Addr) (fd : FuncData) (ps : List Str), FnOk P w K mg base (CX P w) k f fd ps sp ∧ mg x = some (.ref f) ∧ PySem.W.keepIn K (.ref f) = true ∧ BindsK K fd ps n kn pm
theorem calXK {P : Program} {w : World} {K : PySem.W.Frag} {mg : Str → Option Value} {base : Heap} {x : Str} {st : Stmt} {f : Addr} {fd : FuncData} {N ps : List Str} {k : Nat} {sp : Sp} {n : Nat} {kn : List Str} {pm : List Nat} (F : C8.Def K mg x st f fd) (b : BindsK K fd ps n kn pm) (S : FnScope N ps (C8.fnScope st)) (len : ∀ vs H Q E, sp vs H Q E → vs.length = ps.length)
    (hbody : ∀ (cdv : Value) (A : Around) (outer : List Env) (s : Shared) (H : Hp) (vs : List V) (Q : VK) (E : XK), Room k (A.deeper (envOfC x (C8.fnScope st) s.heap.objs.size f cdv)) → sp vs H Q E →
      ∃ t, PSs (cxOf (CX P w) P w K mg base N x (C8.fnScope st) f cdv A outer s H E) (C8.fnBody st) t ∧ t { nx := fun _ H' => Q .non H', rt := Q } (start N vs) H) : CalXK P w K mg base (k + 1) x n kn pm sp := by
  obtain ⟨oc, od, dV, kV, doc, pm', an, cdv, ct, osl, rfl, lk, hcd⟩ := F.fn.ex
  exact ⟨f, _, ps, fn_of lk hcd S len (hbody cdv), F.mgf, F.kp, b⟩
/-- the values of the named arguments, as they are written -/
structure PK (X : Cx) (kws : List Keyword) (t : TA) : Prop where
  run : ∀ (pos : Pos) (pins : List (Addr × Obj)) (s : Shared) (σ : L2.St) (H : Hp) (Q : List V → Hp → Prop), L2.Inv X pins σ H s → t σ H Q → wpAny (model X.prog X.w) X.A (evalAll ((backToKw pos (keywordEach kws X.env)).map (·.2))) (AP X pins σ Q) X.xe s
section
variable {X : Cx} {k j n : Nat} {kn : List Str} {pm : List Nat} {C : Addr} {x m : Str} {sp : Sp} {p pos apos : Pos} {e o : Expr} {es : List Expr} {kws : List Keyword} {ta te : TE} {t t1 t2 : TA} {W : WX} {E : XK} {pl : Sem Bool}
theorem pk_nil : PK X [] tNil := ⟨fun _ _ _ _ H Q I h => kwAll_nil ⟨[], H, I, .nil, h⟩⟩
theorem pk_cons {kp : Pos} (ha : PE X e te) (hr : PK X kws t) : PK X (⟨some x, e, kp⟩ :: kws) (tCons te t) := by
  refine ⟨fun pos pins s σ H Q I h => ?_⟩
  refine kwAll_cons (thn (ha.run pins s σ H _ I h) fun u s1 ⟨y, H1, I1, r1, q1⟩ => ?_)
  exact thn (hr.run pos pins s1 σ H1 _ I1 q1) fun us s2 ⟨xs, H2, I2, r2, q2⟩ => ⟨y :: xs, H2, I2, .cons r1 r2, q2⟩
/-- the arguments in the parameters' order -/
def tKw (n m : Nat) (pm : List Nat) (t1 t2 : TA) : TA := fun σ H Q => t1 σ H fun xs H1 => xs.length = n ∧ t2 σ H1 fun ys H2 => ys.length = m ∧ Q (permL pm (xs ++ ys)) H2
theorem run_fnK {f : Addr} {fd : FuncData} {ps : List Str} {CX : CXT} {pins : List (Addr × Obj)} {σ : L2.St} {H : Hp} {s : Shared} {Q : VK} {us ks : List Value} {vs : List V} (F : FnOk X.prog X.w X.K X.mg X.base CX k f fd ps sp) (hr : Room k X.A) (hb : BindsK X.K fd ps n kn pm) (hx : Passes CX X E)
    (I : L2.Inv X pins σ H s) (r : Vals vs (permL pm (us ++ ks))) (h1 : us.length = n) (h2 : ks.length = kn.length) (h : sp vs H Q E) : wpAny (model X.prog X.w) X.A (call (.ref f) us (kn.zip ks)) (EP X pins σ Q) X.xe s := by
  refine wpAny_call (codeAny_mono (F.run X.A X.stack s H ⟨us, kn.zip ks⟩ (permL pm (us ++ ks)) vs Q E hr I.env0 (hb s us ks I.kIn h1 h2) r h) fun r s' hq => ?_)
  cases r with
  | error e => exact hx pins σ H s e s' I hq
  | ok fl =>
    cases fl with
    | ret u => exact I.after hq
    | next => exact False.elim hq
    | brk => exact False.elim hq
    | cont => exact False.elim hq
theorem pe_ck0 (c : CalXK X.prog X.w X.K X.mg X.base k x n kn pm sp) (tk : Takes X W) (hW : ∀ cls d σ H, E cls d H → W cls d σ H) (hr : Room j X.A) (hk : k ≤ j) (hg : Gl X x) (hkw : PK X kws t2)
    (hdb : (x == ("__debug__" : Str)) = false := by decide)
    (hpl : ((backTo pos (starEach [] X.env)).any (·.1) || (backToKw pos (keywordEach kws X.env)).any (·.1.isNone)) = false := by rfl) (hall : (backToKw pos (keywordEach kws X.env)).all (·.1.isSome) = true := by rfl) (hn : (backToKw pos (keywordEach kws X.env)).filterMap (·.1) = kn := by rfl) :
    PE X (.Call (.Name x p) [] kws pos) (tCall sp [] E (tKw n kn.length pm tNil t2)) := by
  obtain ⟨f, fd, ps, F, hm, kp, b⟩ := c.ex
  refine ⟨fun pins s σ H Q I h => ?_⟩
  obtain ⟨hl, h⟩ : ([] : List V).length = n ∧ t2 σ H fun ys H2 => ys.length = kn.length ∧ sp (permL pm ([] ++ ys) ++ []) H2 Q E := h
  refine wpAny_Call_Name_kw (ld_glob I hg hm ?_ hdb)
  refine PySem.W.callWith_KW0 (h₀ := X.base) I.ok.mod.kin kp hall (thn (hkw.run pos pins s σ H _ I h) fun ks s2 ⟨ys, H2, I2, r2, hl2, q2⟩ => ⟨I2.kIn, ?_⟩) hpl
  rw [hn]
  refine run_fnK (us := []) F (hr.mono hk) b (passes_call tk hW) I2 (Vals.perm (vs := [] ++ ys) (us := [] ++ ks) (by simpa using r2) pm) hl (r2.length ▸ hl2) ?_
  have z : sp (permL pm ([] ++ ys) ++ []) H2 Q E := q2
  rwa [List.append_nil] at z
end
end Kw
set_option Elab.async false
set_option linter.all false
set_option maxRecDepth 100000
set_option maxHeartbeats 1000000
namespace Ab
open PySem PySem.Spec PyProof.Rows L2
open Classical
noncomputable section
section
variable {W : Wl} {E : L2.St → XK} {ta te : TE} {fa fe : AE} {t1 t2 : TA} {f1 f2 : AA}
theorem RelL.at {w : Wd} {xs : List AV} {vs : List V} (h : RelL W w xs vs) : ∀ i : Nat, (xs[i]? = none ∧ vs[i]? = none) ∨ ∃ x v, xs[i]? = some x ∧ vs[i]? = some v ∧ Rel W w x v := by
  induction xs generalizing vs with
  | nil => cases h; exact fun i => .inl ⟨rfl, rfl⟩
  | cons x xs ih =>
    cases h with
    | cons h t =>
      intro i
      cases i with
      | zero => exact .inr ⟨_, _, rfl, rfl, h⟩
      | succ i => exact ih t i
theorem RelL.perm {w : Wd} {xs : List AV} {vs : List V} (h : RelL W w xs vs) : ∀ pm : List Nat, RelL W w (Kw.permL pm xs) (Kw.permL pm vs)
  | [] => .nil
  | i :: pm => by
    have ih := RelL.perm h pm
    unfold Kw.permL at ih ⊢
    rcases RelL.at h i with ⟨e1, e2⟩ | ⟨x, v, e1, e2, r⟩
    · rw [List.filterMap_cons, List.filterMap_cons, e1, e2]; exact ih
    · rw [List.filterMap_cons, List.filterMap_cons, e1, e2]; exact .cons r ih
def kwK2 (m : Nat) (pm : List Nat) (xs : List AV) : List AV → Sto → Res (List AV) := fun ys s2 => if ys.length = m then .ok (Kw.permL pm (xs ++ ys)) s2 else .stuck
def kwK1 (n m : Nat) (pm : List Nat) (f2 : AA) (σ : ASt) : List AV → Sto → Res (List AV) := fun xs s1 => if xs.length = n then (f2 σ s1).bind (kwK2 m pm xs) else .stuck
def aKw (n m : Nat) (pm : List Nat) (f1 f2 : AA) : AA := fun σ s => (f1 σ s).bind (kwK1 n m pm f2 σ)
theorem e_kw {n m : Nat} {pm : List Nat} {σ : ASt} {s : Sto} : aKw n m pm f1 f2 σ s = (f1 σ s).bind (kwK1 n m pm f2 σ) := rfl
theorem e_kwK1 {n m : Nat} {pm : List Nat} {σ : ASt} {s : Sto} {xs : List AV} : kwK1 n m pm f2 σ xs s = grd (xs.length = n) ((f2 σ s).bind (kwK2 m pm xs)) := rfl
theorem e_kwK2 {m : Nat} {pm : List Nat} {s : Sto} {xs ys : List AV} : kwK2 m pm xs ys s = grd (ys.length = m) (.ok (Kw.permL pm (xs ++ ys)) s) := rfl
theorem DA.kw {n m : Nat} {pm : List Nat} (h1 : DA W E t1 f1) (h2 : DA W E t2 f2) : DA W E (Kw.tKw n m pm t1 t2) (aKw n m pm f1 f2) := fun w s σ σc Q S R h => by
  refine h1 w s σ σc _ S R ((post_bind_ok h).mono (fun xs s1 k1 w1 vs e1 S1 r1 => ?_) fun _ _ _ _ z => z)
  unfold kwK1 at k1
  split at k1
  · rename_i hl
    refine ⟨by rw [← r1.length]; exact hl, h2 w1 s1 σ σc _ S1 (R.mono e1) ((post_bind_ok k1).mono (fun ys s2 k2 w2 us e2 S2 r2 => ?_) fun _ _ _ _ z => z.mono e1)⟩
    unfold kwK2 at k2
    split at k2
    · rename_i hm
      exact ⟨by rw [← r2.length]; exact hm, k2 w2 _ (e1.trans e2) S2 (((r1.mono e2).append r2).perm pm)⟩
    · exact k2.elim
  · exact k1.elim
end
end
end Ab
set_option Elab.async false
set_option linter.all false
set_option maxRecDepth 100000
set_option maxHeartbeats 1000000
namespace Gx
open PySem PySem.Spec PyProof.Rows L2 GenW
variable {X : Cx}
/-- l.count(x) of data -/
def rCountD (K : PySem.W.Frag) : V → List V → Hp → VK → Prop := fun x xs H Q => ∃ (a : Addr) (y : V) (d : PyData) (ds : List PyData), x = V.ref a ∧ xs = [y] ∧ Dp K H (V.ref a) (.list ds) ∧ Dp K H y d ∧
  SeqAt.shaped (.list ds) = true ∧ SeqAt.shaped d = true ∧ Q (.int (ds.countP fun z => PyData.eqv z d : Nat)) H
theorem mt_countD (hu : X.A.units + 65 < cLine) : MtR X "list.count" (rCountD X.K) := by
  intro pins s σ H x xs v us Q I rx rxs h
  obtain ⟨a, y, d, ds, rfl, rfl, hl, hy, sl, sd, q⟩ := h
  cases rx
  cases rxs with
  | cons ry rt =>
    rename_i uy ut
    cases rt
    obtain ⟨bs, r1⟩ := Dp.reads I d y uy hy ry
    have hxs : PyData.canLayAll0 ds = true := SeqAt.canLay_of_shaped sl
    have hroom : X.A.units + 1 + min (PyData.depthAll ds) d.depth < cLine := room_in_shaped sd hu
    cases hl with
    | lst hs ha =>
      obtain ⟨its, rv, ⟨⟨cls, dd, data, sls⟩, n, ho, hc, hdn, hdt⟩, hlen⟩ := I.list hs
      simp only at hc hdt
      subst hc hdt
      obtain ⟨as, h4⟩ := Dp.readsAll I ds _ its ha rv
      have hmap : its.map (SeqAt.readOf s.heap) = ds := SeqAt.readsAll_map ds its as hxs h4
      refine call_meets PySem.F.slot_list_count ⟨_, ho, rfl⟩ PySem.F.entry_list_count (PySem.F.args_list_count_2 _ _)
        (SeqAt.list_countAt a its.toArray n dd sls uy (fun u => PyData.eqv (SeqAt.readOf s.heap u) d)) ⟨ho, SeqAt.items_eqAt (vs := its.toArray) (show ReadsAll s.heap its.toArray.toList ds as from h4) r1 hxs (SeqAt.canLay_of_shaped sd) hroom, ?_⟩
      have ec : its.toArray.toList.countP (fun u => PyData.eqv (SeqAt.readOf s.heap u) d) = ds.countP fun z => PyData.eqv z d := by
        rw [← hmap, List.countP_map]
        rfl
      refine ⟨.int (ds.countP fun z => PyData.eqv z d : Nat), H, I.tok _, ⟨s.toks, ?_⟩, q⟩
      rw [ec]
end Gx
namespace Ab
open PySem PySem.Spec PyProof.Rows L2 GenW
open Classical
noncomputable section
def gCount (x : AV) (xs : List AV) (s : Sto) : Res AV := match xs with | [y] => (match dat 12 s x, dat 12 s y with | some (.list ds), some d => if SeqAt.shaped (.list ds) = true ∧ SeqAt.shaped d = true then .ok (.int (ds.countP fun z => PyData.eqv z d : Nat)) s else .stuck | _, _ => .stuck) | _ => .stuck
theorem gCount_dat {x y : AV} {s : Sto} {d : PyData} {ds : List PyData} (h1 : dat 12 s x = some (.list ds)) (h2 : dat 12 s y = some d) (h : SeqAt.shaped (.list ds) = true ∧ SeqAt.shaped d = true) : gCount x [y] s = .ok (.int (ds.countP fun z => PyData.eqv z d : Nat)) s := by
  unfold gCount; simp only [h1, h2]; exact if_pos h
theorem NEM.count : NEM gCount := fun x y s c ns vs s' h => by 
  unfold gCount at h
  repeat' split at h
  all_goals first | cases h | (unfold newL at h; cases h)
theorem DM.count {W : Wl} : DM W (Gx.rCountD W.K) gCount := fun w s x ys v us Q S rx ry h => by
  unfold gCount at h
  split at h
  · rename_i y
    cases ry with
    | cons r1 r2 =>
      cases r2
      split at h
      · rename_i ds d h1 h2
        split at h
        · rename_i hc
          have dp := dat_dp S _ _ _ _ rx h1
          have hv : ∃ a, v = .ref a := by
            cases dp with
            | lst => exact ⟨_, rfl⟩
          obtain ⟨a, rfl⟩ := hv
          exact ⟨a, _, d, ds, rfl, rfl, dp, dat_dp S _ _ _ _ r1 h2, hc.1, hc.2, h w _ (.refl w) S (.int _)⟩
        · exact h.elim
      · exact h.elim
  · exact h.elim
def gIsiB (n : String) : List AV → Sto → Res AV := fun xs s => match xs with
  | [.exn a _ _, .ty b] => if b = n then .ok (.bl (decide (n ∈ anc a))) s else .stuck
  | _ => .stuck
theorem gIsiB_ok {n a : String} {ns : List Str} {vs : List AV} {s : Sto} : gIsiB n [.exn a ns vs, .ty n] s = .ok (.bl (decide (n ∈ anc a))) s := if_pos rfl
theorem NEL.isiB {n : String} : NEL (gIsiB n) := fun x s c ns vs s' h => by 
  unfold gIsiB at h
  repeat' split at h
  all_goals first | cases h | (unfold newL at h; cases h)
def KitXB (W : Wl) (n : String) : Prop := ∀ c ∈ W.xlive, ExcC W.K (W.κ c) ∧ PySem.W.kitOne W.K (.ref (W.κ c)) (.type n) = some (decide (n ∈ anc c))
theorem kitXB_of {W : Wl} {n : String} (h : All (fun c => ExcC W.K (W.κ c) ∧ PySem.W.kitOne W.K (.ref (W.κ c)) (.type n) = some (decide (n ∈ anc c))) W.xlive) : KitXB W n := fun c hc => h.at c hc
theorem DB.isiB {W : Wl} {n : String} (ko : KitXB W n) : DB W (rIsiU W.K) (gIsiB n) := fun w s xs v Q S r h => by
  unfold gIsiB at h
  split at h
  · rename_i a ns vs b
    split at h
    · rename_i hb
      subst hb
      cases r with
      | @cons _ vx _ _ r1 r2 => cases r2 with
        | @cons _ vcl _ _ r2 r3 =>
          cases r3
          cases r2 with
          | ty =>
            cases r1 with
            | @exn _ ax d ns xs vs hl hx hd hln rv =>
              obtain ⟨ec, kk⟩ := ko _ hl
              have u1 : ClsV (.ty b) (.type b) := .ty _
              exact .inr ⟨ax, _, d, _, _, _, _, rfl, ec, hx, hd, fun u hu => u1.eq hu, kk, h w (.bl _) (.refl w) S (.bl _)⟩
    · exact h.elim
  · exact h.elim
end
end Ab
set_option Elab.async false
set_option linter.all false
set_option maxRecDepth 100000
set_option maxHeartbeats 1000000
namespace PySem
theorem newE_any {v : Value} {o : Obj} {HH : Heap → Prop} (B : Begins v o HH) :
    Meets (Builtin.«enumerate.__new__» ⟨[.type "enumerate", v], []⟩) (fun _ R s => HH s.heap ∧
      R (.ok (.ret (.ref (s.heap.push o).objs.size))) { s with heap := (s.heap.push o).push { cls := .type "enumerate", data := .fields #[.none, .bool false, .ref s.heap.objs.size, rawInt 0, .none, .none] } }) :=
  .of_wp fun P w A R st => fun ⟨g1, g2⟩ => by
    obtain ⟨hp, a1, a2, a3, a4⟩ := st
    have hsub := sub_enumerate
    have go : ∀ {A' : Around} {E Q : Value → Shared → Prop}, Q (.ref hp.objs.size) ⟨hp.push o, a1, a2, a3, a4⟩ → wpAny (model P w) A' (pyIter v) Q E ⟨hp, a1, a2, a3, a4⟩ := fun q => B.iter P w _ _ ⟨hp, a1, a2, a3, a4⟩ _ g1 q
    wp_walk using go
    refine wpAny_stack_any fun _ => wpAny_pure ?_
    split
    · rename_i c _ _ _ _ _
      cases (c == Value.type "enumerate")
      all_goals wp_walk using go
      all_goals exact ⟨_, rfl, g2⟩
    · wp_walk using go
      exact ⟨_, rfl, g2⟩
end PySem
namespace Gx
open PySem PySem.Spec PyProof.Rows L2
/-- the tuple at a, its items in new pairs -/
def ItE (K : PySem.W.Frag) (a : Addr) : It :=
  ⟨fun i H => ∃ (xs : List V) (x : V), SqT K H a xs ∧ xs[i]? = some x, fun i H v H' => ∃ T x, v = .ref T ∧ H T = none ∧ H' = upd H T (.tup [.int (i : Nat), x]) ∧ ∀ xs, SqT K H a xs → xs[i]? = some x, fun i H => ∃ xs : List V, SqT K H a xs ∧ xs.length ≤ i⟩
theorem turnE {P : Program} {w : World} {K : PySem.W.Frag} {es : List Expr} {n : Nat} {ps : Pos} (a e it : Addr) :
    Turn P w K (.Tuple es n ps) (ItE K a) [e, it] e (fun i h => (∃ old, IsEnum h e it ((i : Nat) : Int) old) ∧ h.IsTupleIter it a i ∧ e ≠ it ∧ e ≠ a ∧ a ≠ it) where
  mem := List.mem_cons_self
  obj := fun i h st b hb => by
    obtain ⟨⟨old, k1⟩, ⟨o, k2, _, k3⟩, _⟩ := st
    simp only [List.mem_cons, List.not_mem_nil, or_false] at hb
    rcases hb with rfl | rfl
    · exact ⟨_, k1, fun v q => nomatch q⟩
    · exact ⟨o, k2, fun v q => by rw [k3] at q; cases q⟩
  keep := fun i h h' ⟨⟨old, k1⟩, k2, k3⟩ k => ⟨⟨old, k e List.mem_cons_self _ k1⟩, k2.at fun o q => k it (.tail _ List.mem_cons_self) o q, k3⟩
  item := by
    rintro X rfl rfl rfl hc i pins s σ H E I hf ⟨⟨old, k1⟩, k2, n1, n2, n3⟩ ⟨xs, x, hq, hx⟩
    obtain ⟨its, rv, p, hz⟩ := I.tuple hq
    have p : s.heap.IsTuple a its.toArray := p
    obtain ⟨u, hu, ru⟩ := rv.get hx
    have le : e < s.heap.objs.size := Heap.lt_size k1
    have li : it < s.heap.objs.size := by obtain ⟨_, q, _⟩ := k2; exact Heap.lt_size q
    have il : i < its.toArray.size := by
      have := (List.getElem?_eq_some_iff.mp hu).1
      simpa using this
    refine wpAny_pyNext_enum_itemD (Draws.tuple (prog := X.prog) (w := X.w) (A := X.A.in1) (show X.A.in1.handled = none from I.ok.hd hc) it a n3 its.toArray) k1 ⟨k2, p⟩ il n1 (by simp [n1, n2]) fun y h' tk hy ho ⟨hit', _⟩ hT hsz hk => ?_
    have hy : u = y := by
      have hy : its.toArray[i]? = some y := hy
      rw [List.getElem?_toArray, hu] at hy
      exact Option.some.inj hy
    subst hy
    refine ⟨_, rfl, wpAny_letOwnedTupleGo_enum (s := { s with heap := h', toks := tk + 1 }) ho fun h'' he' sb => ?_⟩
    have hT2 : h''.get? s.heap.objs.size = some { cls := .type "tuple", data := .seq #[.int i tk, u] } := (sb.2 _ (Nat.ne_of_gt le)).trans hT
    have new : ObjOk X.prog X.w (upd H s.heap.objs.size (.tup [.int (i : Nat), x])) h'' s.heap.objs.size (.tup [.int (i : Nat), x]) :=
      ⟨show 2 ≤ sizeLine by decide, [.int i tk, u], .cons ⟨_, rfl⟩ (.cons ru .nil), ⟨_, hT2, rfl, _, rfl⟩⟩
    have I1 : Inv X pins σ (upd H s.heap.objs.size (.tup [.int (i : Nat), x])) { s with heap := h'', toks := tk + 1 } :=
      I.turnedNew (t' := tk + 1) (ch := [e, it]) (fun b ob hb q => (sb.2 b fun z => hb (by simp [z])).trans (hk b ob (fun z => hb (by simp [z])) (fun z => hb (by simp [z])) q)) hf (Nat.le_refl _) new
    refine ⟨.ref s.heap.objs.size, _, I1, rfl, ⟨_, x, rfl, I.hok.fresh (Nat.le_refl _), rfl, fun ys hy => by rw [I.tuple_inj hy hq]; exact hx⟩, ⟨⟨u, ?_⟩, hit'.at fun o q => (sb.2 it (Ne.symm n1)).trans q, n1, n2, n3⟩, fun b hb => ?_⟩
    · rw [show ((i + 1 : Nat) : Int) = (i : Int) + 1 by omega]
      exact he'
    · have hb' : b < s.heap.objs.size := by
        simp only [List.mem_cons, List.not_mem_nil, or_false] at hb
        rcases hb with rfl | rfl
        · exact le
        · exact li
      rw [upd_ne (Nat.ne_of_lt hb')]
      exact (hf b hb).1
  done := by
    rintro X rfl rfl rfl hc i pins s σ H E I hf ⟨⟨old, k1⟩, k2, n1, n2, n3⟩ ⟨xs, hq, hx⟩
    obtain ⟨its, rv, p, hz⟩ := I.tuple hq
    have p : s.heap.IsTuple a its.toArray := p
    obtain ⟨f0, f1, f2, f3, f4, f5⟩ := hf it (.tail _ List.mem_cons_self)
    have hl := rv.length
    have hne : its.toArray[i]? = none := by simp; omega
    exact endE (I.ok.hd hc) k1 k2 p hne fun h' eb => ⟨rfl, I.turned (t' := s.toks) (fun b o hb q => eb b o hb q) f0 f1 f3 f4 f5⟩
  self := fun A i s Q E ⟨⟨_, k1⟩, _⟩ h => wpAny_pyIter_enum k1 h
where
  endE {P : Program} {w : World} {A : Around} {E : Value → Shared → Prop} {s : Shared} {e it l : Addr} {i : Nat} {items : Array Value} {old : Value} {Q : Option Value → Shared → Prop} (hh : A.handled = none)
    (he : IsEnum s.heap e it i old) (hit : s.heap.IsTupleIter it l i) (hl : s.heap.IsTuple l items) (hx : items[i]? = none) (hQ : ∀ h', Heap.ExtBut it s.heap h' → Q none { s with heap := h' }) :
    wpAny (model P w) A (pyNext (.ref e)) Q E s := by
    unfold pyNext
    refine wpAny_bind (wpAny_attempt (wpAny_callSpecial?_slot (name := Str.ofString "__next__") ⟨_, he, rfl⟩ F.slot_enumerate_next (wpAny_call_entry F.slot_enumerate_next ⟨_, he, rfl⟩ F.entry_enumerate_next ?_ (F.args_enumerate_next_1 _))))
    show wpAny _ _ (field (.ref e) 2 >>= _) _ _ _
    refine wpAny_bind (wpAny_field he rfl (x := .ref it) rfl ?_)
    refine wpAny_bind (wpAny_nextOf_tuple_end hh hit hl hx fun h' x k1 ⟨o, k2, k3⟩ => ?_)
    exact wpAny_bind (wpAny_isInstance (T := "StopIteration") (b := true) ⟨o, k2, k3⟩ isSubtype_stop (wpAny_pure (hQ _ k1)))
def iEnT (K : PySem.W.Frag) (ta : TA) : TI := fun σ H R => ta σ H fun vs H1 => ∃ a xs, vs = [.ref a] ∧ SqT K H1 a xs ∧ R (ItE K a) H1
theorem pi_enT {X : Cx} {e : Expr} {ta : TA} {p pos tp : Pos} {es : List Expr} {n : Nat} (hg : Gl X "enumerate") (hm : X.mg "enumerate" = none) (ha : PA X [e] ta) (hs : starEach [e] X.env = [(false, eval e X.env)] := by rfl) :
    PI X (.Tuple es n tp) (.Call (.Name "enumerate" p) [e] [] pos) (iEnT X.K ta) := ⟨fun pins s σ H R I h => by
  refine Call_ (ld_blt I hg hm boot_enumerate (PyProof.Rows.callWith_type1 (thn (ha.run pos pins s σ H _ I h) fun us s1 ⟨vs, H1, I1, r1, a, xs, ex, hq, q⟩ => ?_) hs rfl))
  subst ex
  cases r1 with
  | cons r rr =>
    cases rr
    cases r
    obtain ⟨its, rv, p', hz⟩ := I1.tuple hq
    have p' : s1.heap.IsTuple a its.toArray := p'
    have la : a < s1.heap.objs.size := by obtain ⟨o, q, _⟩ := id p'; exact Heap.lt_size q
    refine callType_new F.called_enumerate (by decide) (F.typeCall_enumerate_1 _) (F.newCall_enumerate_1 _) (fun obj => F.args_object_init_2 obj _) F.entry_enumerate_new (newE_any (begins_tuple a its.toArray)) ⟨p', ?_⟩
    obtain ⟨o, ho⟩ : ∃ o : Obj, o = { cls := .type "tuple_iterator", data := .fields #[.ref a, .int 0 0] } := ⟨_, rfl⟩
    rw [← ho]
    have of : o.isFreed = false := by rw [ho]; rfl
    have sz : (s1.heap.push o).objs.size = s1.heap.objs.size + 1 := Heap.size_push ..
    show _ ∧ _
    rw [sz]
    have he : IsEnum ((s1.heap.push o).push { cls := .type "enumerate", data := .fields #[.none, .bool false, .ref s1.heap.objs.size, rawInt 0, .none, .none] }) (s1.heap.objs.size + 1) s1.heap.objs.size 0 .none := by
      have := Heap.get?_push_size (s1.heap.push o) (o := { cls := .type "enumerate", data := .fields #[.none, .bool false, .ref s1.heap.objs.size, rawInt 0, .none, .none] }) rfl
      rw [sz] at this; exact this
    refine ⟨⟨_, he, rfl⟩, wpAny_pyIter_enum he ?_⟩
    have kk : ∀ b ob, s1.heap.get? b = some ob → ((s1.heap.push o).push { cls := .type "enumerate", data := .fields #[.none, .bool false, .ref s1.heap.objs.size, rawInt 0, .none, .none] }).get? b = some ob := fun b ob q => Heap.get?_push_of_some _ (Heap.get?_push_of_some _ q)
    have hti : ((s1.heap.push o).push { cls := .type "enumerate", data := .fields #[.none, .bool false, .ref s1.heap.objs.size, rawInt 0, .none, .none] }).IsTupleIter s1.heap.objs.size a 0 := ⟨o, Heap.get?_push_of_some _ (Heap.get?_push_size _ of), by rw [ho]; first | done | rfl, by rw [ho]; first | done | rfl⟩
    refine ⟨s1.heap.objs.size + 1, [s1.heap.objs.size + 1, s1.heap.objs.size], _, _, H1, rfl, I1.kept (t' := s1.toks) kk, turnE a (s1.heap.objs.size + 1) s1.heap.objs.size, ⟨⟨.none, he⟩, hti, Nat.succ_ne_self _, Nat.ne_of_gt (Nat.lt_succ_of_lt la), Nat.ne_of_lt la⟩, fun b hb => ?_, q⟩
    have hle : s1.heap.objs.size ≤ b := by
      simp only [List.mem_cons, List.not_mem_nil, or_false] at hb
      rcases hb with rfl | rfl
      · exact Nat.le_succ _
      · exact Nat.le_refl _
    exact I1.fpOk hle (I1.hok.fresh hle)⟩
end Gx
set_option Elab.async false
set_option linter.all false
set_option maxRecDepth 100000
set_option maxHeartbeats 4000000
namespace Gx
open PySem PySem.Spec PyProof.Rows L2
end Gx
set_option Elab.async false
set_option linter.all false
set_option maxRecDepth 100000
set_option maxHeartbeats 4000000
set_option exponentiation.threshold 2000
namespace Gx
open PySem PySem.Spec PyProof.Rows L2
mutual
inductive DpE (K : PySem.W.Frag) (H : Hp) : V → PyData → Prop
  | non : DpE K H .non .none
  | bl (b : Bool) : DpE K H (.bl b) (.bool b)
  | int (i : Int) : DpE K H (.int i) (.int i)
  | str (x : Str) : DpE K H (.str x) (.str x)
  | lst {a : Addr} {xs : List V} {ds : List PyData} : SqL K H a xs → DpEA K H xs ds → DpE K H (.ref a) (.list ds)
  | tup {a : Addr} {xs : List V} {ds : List PyData} : SqT K H a xs → DpEA K H xs ds → DpE K H (.ref a) (.tuple ds)
  | dic {a : Addr} : H a = some (.dK []) → DpE K H (.ref a) (.dict [])
inductive DpEA (K : PySem.W.Frag) (H : Hp) : List V → List PyData → Prop
  | nil : DpEA K H [] []
  | cons {v : V} {vs : List V} {d : PyData} {ds : List PyData} : DpE K H v d → DpEA K H vs ds → DpEA K H (v :: vs) (d :: ds)
end
section
variable {X : Cx} {pins : List (Addr × Obj)} {σ : L2.St} {H : Hp} {s : Shared}
/-- what is told of a value: how it is read, and its text -/
def TxE (P : Program) (w : World) (h : Heap) (u : Value) (d : PyData) : Prop := ∃ as bs, Reads h u d as ∧ ReadAtMost h d.depth bs ∧ ReprK P w bs h d.depth u d.shown
def TxA (P : Program) (w : World) (h : Heap) (us : List Value) (ds : List PyData) : Prop := ∃ as bs, ReadsAll h us ds as ∧ ReadAtMost h (PyData.depthAll ds) bs ∧ ReprAllK P w bs h (PyData.depthAll ds) us (PyData.shownAll ds)
theorem dic_obj (I : Inv X pins σ H s) {a : Addr} (h : H a = some (.dK [])) : (a == sysModules) = false ∧ ∃ o n, s.heap.get? a = some o ∧ o.cls = .type "dict" ∧ o.data = .dict #[] n := by
  obtain ⟨_, hs, vs, kv, o, es, ep, h1, h2, h3, _, h5, _⟩ := dk_of I.hok h
  cases kv
  refine ⟨hs, o, ep, h1, h2.1, ?_⟩
  have : es.toList = [] := by
    generalize es.toList = l at h5
    cases h5
    rfl
  rw [h3, Array.toList_eq_nil_iff.mp this]
mutual
theorem txE (I : Inv X pins σ H s) : ∀ (d : PyData) (v : V) (u : Value), DpE X.K H v d → RelV v u → d.showable = true → d.shown.length ≤ sizeLine → TxE X.prog X.w s.heap u d
  | .none, _, _, h, r, _, _ => by
    cases h; cases r
    exact ⟨_, [], .none, (fun _ k => nomatch k), by simp only [PyData.shown]; exact .of_is ReprIs.none _ _ _⟩
  | .bool b, _, _, h, r, _, _ => by
    cases h; cases r
    exact ⟨_, [], .bool b, (fun _ k => nomatch k), by simp only [PyData.shown]; exact .of_is (ReprIs.bool b) _ _ _⟩
  | .int i, _, _, h, r, hs, _ => by
    cases h
    obtain ⟨t, rfl⟩ := r
    exact ⟨_, [], .int i t, (fun _ k => nomatch k), by simp only [PyData.shown]; exact .of_is (ReprIs.int t (by simpa only [PyData.showable, decide_eq_true_eq] using hs)) _ _ _⟩
  | .str x, _, _, h, r, _, hz => by
    cases h
    obtain ⟨t, rfl⟩ := r
    exact ⟨_, [], .str x t, (fun _ k => nomatch k), by simp only [PyData.shown]; exact .of_is (ReprIs.str x t (by simpa only [PyData.shown] using hz)) _ _ _⟩
  | .list ds, _, _, h, r, hs, hz => by
    cases h with
    | lst h1 h2 =>
      cases r
      obtain ⟨its, rv, ⟨o, n, ho, hc, _, hd⟩, _⟩ := I.list h1
      have hz : (listText (PyData.shownAll ds)).length ≤ sizeLine := by simpa only [PyData.shown] using hz
      obtain ⟨as, bs, r, hb, hk⟩ := txA I ds _ its h2 rv (by simpa only [PyData.showable] using hs) fun t ht => Nat.le_trans (listText_mem_le ht) hz
      have rd := Reads.list ho hc hd r
      have na := not_mem_of_deeper rd (by simp only [PyData.depth]; omega) hb
      refine ⟨_, _ :: bs, rd, ReadAtMost.cons rd (Nat.le_refl _) fun b hm => ?_, ?_⟩
      · obtain ⟨d', as', r', hd'⟩ := hb b hm
        exact ⟨d', as', r', by simp only [PyData.depth]; omega⟩
      · simp only [PyData.depth, PyData.shown]
        cases its with
        | nil =>
          cases r
          simp only [PyData.shownAll, listText_nil]
          exact ReprK.listEmpty ho hc hd
        | cons x l => exact ReprK.list ho hc hd na (by simpa using hk.length_eq) fun i y e => hk.item i y (by simpa using e)
  | .tuple ds, _, _, h, r, hs, hz => by
    cases h with
    | tup h1 h2 =>
      cases r
      obtain ⟨its, rv, ⟨o, ho, hc, n, hd⟩, _⟩ := I.tuple h1
      have hz : (tupleText (PyData.shownAll ds)).length ≤ sizeLine := by simpa only [PyData.shown] using hz
      obtain ⟨as, bs, r, hb, hk⟩ := txA I ds _ its h2 rv (by simpa only [PyData.showable] using hs) fun t ht => Nat.le_trans (tupleText_mem_le ht) hz
      have rd := Reads.tuple ho hc hd r
      have na := not_mem_of_deeper rd (by simp only [PyData.depth]; omega) hb
      refine ⟨_, _ :: bs, rd, ReadAtMost.cons rd (Nat.le_refl _) fun b hm => ?_, ?_⟩
      · obtain ⟨d', as', r', hd'⟩ := hb b hm
        exact ⟨d', as', r', by simp only [PyData.depth]; omega⟩
      · simp only [PyData.depth, PyData.shown]
        exact ReprK.tuple ho hc hd na hk
  | .dict kvs, _, _, h, r, hs, hz => by
    cases h with
    | dic h1 =>
      cases r
      obtain ⟨hm, o, n, ho, hc, hd⟩ := dic_obj I h1
      have rd : Reads s.heap (.ref _) (.dict []) _ := Reads.dict (as := []) (bs := []) ho hc hd .nil .nil
      refine ⟨_, [_], rd, ReadAtMost.cons rd (Nat.le_refl _) (fun b k => nomatch k), ?_⟩
      simp only [PyData.depth, PyData.depthKv, PyData.shown, PyData.shownKv]
      exact ReprK.dict (as := []) ho hc hd hm (fun k => nomatch k) .nil
theorem txA (I : Inv X pins σ H s) : ∀ (ds : List PyData) (vs : List V) (us : List Value), DpEA X.K H vs ds → Vals vs us → PyData.showableAll ds = true → (∀ t ∈ PyData.shownAll ds, t.length ≤ sizeLine) → TxA X.prog X.w s.heap us ds
  | [], _, _, h, r, _, _ => by
    cases h; cases r
    exact ⟨_, [], .nil, (fun _ k => nomatch k), by simp only [PyData.shownAll]; exact .nil⟩
  | d :: ds, _, _, h, r, hs, hz => by
    cases h with
    | cons h1 h2 =>
      cases r with
      | cons r1 r2 =>
        simp only [PyData.showableAll, Bool.and_eq_true] at hs
        simp only [PyData.shownAll, List.mem_cons, forall_eq_or_imp] at hz
        obtain ⟨as, bs, q1, q2, q3⟩ := txE I d _ _ h1 r1 hs.1 hz.1
        obtain ⟨at_, bt, p1, p2, p3⟩ := txA I ds _ _ h2 r2 hs.2 hz.2
        refine ⟨_, bs ++ bt, .cons q1 p1, fun b hm => ?_, ?_⟩
        · simp only [PyData.depthAll]
          rcases List.mem_append.mp hm with k | k
          · obtain ⟨e, f, g1, g2⟩ := q2 b k
            exact ⟨e, f, g1, Nat.le_trans g2 (Nat.le_max_left _ _)⟩
          · obtain ⟨e, f, g1, g2⟩ := p2 b k
            exact ⟨e, f, g1, Nat.le_trans g2 (Nat.le_max_right _ _)⟩
        · simp only [PyData.depthAll, PyData.shownAll]
          exact .cons ((q3.more fun b k => List.mem_append_left _ k).level_le (Nat.le_max_left _ _)) (p3.more_le (fun b k => List.mem_append_right _ k) (Nat.le_max_right _ _))
end
/-- a list's or a tuple's text, by the call of repr -/
theorem showsE (I : Inv X pins σ H s) : ∀ (d : PyData) (a : Addr), DpE X.K H (.ref a) d → d.showable = true → d.shown.length ≤ sizeLine → ∃ T idr, ShowsBy X.prog X.w s.heap a d T idr := by
  intro d a h hs hz
  cases h with
  | @lst _ xs ds h1 h2 =>
    obtain ⟨its, rv, ⟨o, n, ho, hc, _, hd⟩, _⟩ := I.list h1
    have hz : (listText (PyData.shownAll ds)).length ≤ sizeLine := by simpa only [PyData.shown] using hz
    obtain ⟨as, bs, r, hb, hk⟩ := txA I ds _ its h2 rv (by simpa only [PyData.showable] using hs) fun t ht => Nat.le_trans (listText_mem_le ht) hz
    have rd := Reads.list ho hc hd r
    have na := not_mem_of_deeper rd (by simp only [PyData.depth]; omega) hb
    refine ⟨"list", "list.__repr__", F.slot_list_repr.toG, F.slot_list_str, F.slot_list_format, fun t k => ⟨o, k _ _ ho, hc⟩, fun A E t Q hg hu k0 q => ?_⟩
    simp only [PyData.depth] at hu
    simp only [PyData.shown] at q
    cases its with
    | nil =>
      cases r
      simp only [PyData.shownAll, listText_nil] at q
      exact call_list_repr_empty ⟨o, k0 _ _ ho, hc⟩ (k0 _ _ ho) hd (q t.heap _ _ fun _ _ e => e)
    | cons x l => exact call_list_reprK ho hc hd na (by simpa using hk.length_eq) (fun i y e => hk.item i y (by simpa using e)) hg (fun b _ => Clear.nil b) hu k0 q hz
  | @tup _ xs ds h1 h2 =>
    obtain ⟨its, rv, ⟨o, ho, hc, n, hd⟩, _⟩ := I.tuple h1
    have hz : (tupleText (PyData.shownAll ds)).length ≤ sizeLine := by simpa only [PyData.shown] using hz
    obtain ⟨as, bs, r, hb, hk⟩ := txA I ds _ its h2 rv (by simpa only [PyData.showable] using hs) fun t ht => Nat.le_trans (tupleText_mem_le ht) hz
    have rd := Reads.tuple ho hc hd r
    have na := not_mem_of_deeper rd (by simp only [PyData.depth]; omega) hb
    refine ⟨"tuple", "tuple.__repr__", F.slot_tuple_repr, F.slot_tuple_str, F.slot_tuple_format, fun t k => ⟨o, k _ _ ho, hc⟩, fun A E t Q hg hu k0 q => ?_⟩
    simp only [PyData.depth] at hu
    simp only [PyData.shown] at q
    exact call_tuple_reprK ho hc hd na hk hg (fun b _ => Clear.nil b) hu k0 q hz
  | dic h1 =>
    obtain ⟨hm, o, n, ho, hc, hd⟩ := dic_obj I h1
    refine ⟨"dict", "dict.__repr__", F.slot_dict_repr, F.slot_dict_str, F.slot_dict_format, fun t k => ⟨o, k _ _ ho, hc⟩, fun A E t Q hg hu k0 q => ?_⟩
    simp only [PyData.depth, PyData.depthKv] at hu
    simp only [PyData.shown, PyData.shownKv] at q
    exact call_dict_reprK (as := []) ho hc hd hm (fun k => nomatch k) .nil hg (fun b _ => Clear.nil b) hu k0 q (by simpa only [PyData.shown, PyData.shownKv] using hz)
end
def rReprE (K : PySem.W.Frag) : List V → Hp → VK → Prop := fun xs H Q => ∃ (x : V) (d : PyData), xs = [x] ∧ DpE K H x d ∧ d.showable = true ∧ d.depth ≤ 60 ∧ d.shown.length ≤ sizeLine ∧ Q (.str d.shown) H
theorem call_reprE {X : Cx} (hg : X.A.guards = some []) (hu : X.A.units + 64 < cLine) : CallR X (.builtin "repr") (rReprE X.K) := by
  intro pins s σ H xs us Q I r h
  obtain ⟨x, d, rfl, hd, hs, hp, hz, q⟩ := h
  obtain ⟨u, rfl, ru⟩ := vals1 r
  have big : ∀ a : Addr, DpE X.K H (.ref a) d → wpAny (model X.prog X.w) X.A (call (.builtin "repr") [.ref a]) (fun v s1 => ∃ x H1, Inv X pins σ H1 s1 ∧ RelV x v ∧ Q x H1) X.xe s := fun a ha => by
    obtain ⟨T, idr, S⟩ := showsE I d a ha hs hz
    exact call_repr_slot (by omega) (S.typeIs s fun _ _ e => e) S.slotRepr (S.call X.A.in1 X.xe s _ hg (by show X.A.units + 1 + d.depth < cLine; omega) (fun _ _ e => e) fun h' u tk hk => ⟨_, _, rfl, .str _, H, I.kept (t' := tk) hk, ⟨_, rfl⟩, q⟩)
  cases hd with
  | non =>
    cases ru
    exact PySem.P.repr_of_none ⟨.str _, H, I.tok _, ⟨_, rfl⟩, q⟩
  | bl b =>
    cases ru
    exact PySem.P.repr_of_bool ⟨.str _, H, I.tok _, ⟨_, rfl⟩, q⟩
  | int i =>
    obtain ⟨t, rfl⟩ := ru
    exact PySem.P.repr_of_int (of_decide_eq_true (by simpa [PyData.showable] using hs)) ⟨.str _, H, I.tok _, ⟨_, rfl⟩, q⟩
  | str z =>
    obtain ⟨t, rfl⟩ := ru
    exact PySem.P.repr_of_str (hsz := hz) ⟨.str _, H, I.tok _, ⟨_, rfl⟩, q⟩
  | lst h1 h2 =>
    cases ru
    exact big _ (.lst h1 h2)
  | tup h1 h2 =>
    cases ru
    exact big _ (.tup h1 h2)
  | dic h1 =>
    cases ru
    exact big _ (.dic h1)
end Gx
set_option Elab.async false
set_option linter.all false
set_option maxRecDepth 100000
set_option maxHeartbeats 4000000
set_option exponentiation.threshold 2000
namespace Gx
open PySem PySem.Spec PyProof.Rows L2
mutual
def SmE : PyData → Prop
  | .none => True
  | .bool _ => True
  | .int i => i.natAbs < 2 ^ 600
  | .str z => (PyData.str z).showable = true ∧ (PyData.str z).shown.length + 2 ≤ 612
  | .list xs => SmEAll xs
  | .tuple xs => SmEAll xs
  | .dict xs => xs = []
def SmEAll : List PyData → Prop
  | [] => True
  | x :: xs => SmE x ∧ SmEAll xs
end
mutual
theorem smE_show : ∀ d : PyData, SmE d → d.showable = true
  | .none, _ => by simp only [PyData.showable]
  | .bool _, _ => by simp only [PyData.showable]
  | .int i, h => by
    simp only [PyData.showable, decide_eq_true_eq]
    exact Nat.lt_trans (log_lt (by decide) (show i.natAbs < 2 ^ 600 from by simpa only [SmE] using h)) (by decide)
  | .str z, h => (show (PyData.str z).showable = true ∧ _ from by simpa only [SmE] using h).1
  | .list xs, h => by
    simp only [PyData.showable]
    exact smE_showAll xs (by simpa only [SmE] using h)
  | .tuple xs, h => by
    simp only [PyData.showable]
    exact smE_showAll xs (by simpa only [SmE] using h)
  | .dict xs, h => by
    have h : xs = [] := by simpa only [SmE] using h
    subst h
    simp only [PyData.showable, PyData.showableKv]
theorem smE_showAll : ∀ xs : List PyData, SmEAll xs → PyData.showableAll xs = true
  | [], _ => by simp only [PyData.showableAll]
  | x :: xs, h => by
    simp only [SmEAll] at h
    simp only [PyData.showableAll, Bool.and_eq_true]
    exact ⟨smE_show x h.1, smE_showAll xs h.2⟩
end
mutual
theorem smE_len : ∀ d : PyData, SmE d → d.shown.length + 2 ≤ 612 * nodes d
  | .none, _ => by simp only [nodes, PyData.shown]; decide
  | .bool b, _ => by cases b <;> simp only [nodes, PyData.shown] <;> decide
  | .int i, h => by
    have z : (toString i).length ≤ 601 := int_text_length_le (by decide) (log_lt (by decide) (show i.natAbs < 2 ^ 600 from by simpa only [SmE] using h))
    have e : (PyData.shown (.int i)).length = (toString i).length := by simp only [PyData.shown]; exact PySem.ofString_length _
    rw [e]
    simp only [nodes]
    omega
  | .str z, h => by
    have h2 : (PyData.str z).shown.length + 2 ≤ 612 := (show _ ∧ _ from by simpa only [SmE] using h).2
    simp only [nodes]
    omega
  | .list xs, h => by
    simp only [PyData.shown, nodes]
    have a := listText_len_le (PyData.shownAll xs)
    have b := smE_lenAll xs (by simpa only [SmE] using h)
    omega
  | .tuple xs, h => by
    simp only [PyData.shown, nodes]
    have a := tupleText_len_le (PyData.shownAll xs)
    have b := smE_lenAll xs (by simpa only [SmE] using h)
    omega
  | .dict xs, h => by
    have h : xs = [] := by simpa only [SmE] using h
    subst h
    simp only [PyData.shown, PyData.shownKv, nodes]
    exact Nat.le_of_ble_eq_true (by decide +kernel)
theorem smE_lenAll : ∀ xs : List PyData, SmEAll xs → ((PyData.shownAll xs).map (·.length)).sum + 2 * (PyData.shownAll xs).length ≤ 612 * nodesAll xs
  | [], _ => by simp [PyData.shownAll, nodesAll]
  | x :: xs, h => by
    simp only [SmEAll] at h
    have a := smE_len x h.1
    have b := smE_lenAll xs h.2
    simp only [PyData.shownAll, nodesAll, List.map_cons, List.sum_cons, List.length_cons]
    omega
end
theorem okdE {d : PyData} (h : SmE d) (hd : d.depth ≤ 60) (hn : nodes d ≤ 20000) : Okd d := ⟨smE_show d h, hd, by
  have := smE_len d h
  have e : sizeLine = 16777216 := sizeLine_eq
  omega⟩
end Gx
set_option Elab.async false
set_option linter.all false
set_option maxRecDepth 100000
set_option maxHeartbeats 1000000
namespace Ab
open PySem PySem.Spec PyProof.Rows L2
open Classical
noncomputable section
section
variable {W : Wl} {E : L2.St → XK} {tr : TA} {fr : AA}
def enumUK : List AV → Sto → Res (List AV × (Sto → Prop)) := fun xs s1 => match xs with
  | [.tup ys] => .ok (enumA ys, fun _ => True) s1
  | xs => enumK xs s1
theorem enumUK_of {xs : List AV} {s1 : Sto} (c : ¬ ∃ ys, xs = [.tup ys]) : enumUK xs s1 = enumK xs s1 := by
  unfold enumUK
  split
  · exact absurd ⟨_, rfl⟩ c
  · rfl
def aEnumU (fr : AA) : AI := fun σ s => (fr σ s).bind enumUK
def enU (K : PySem.W.Frag) (ta : TA) : TI := fun σ H R => iEnum K ta σ H R ∨ Gx.iEnT K ta σ H R
theorem itw_enT {w0 : Wd} {a : Addr} {xs : List AV} {vs : List V} (h : SqT W.K w0.H a vs) (r : RelL W w0 xs vs) (G : Sto → Prop) : ItW W w0 (Gx.ItE W.K a) (enumA xs) G := by
  have hl := r.length
  refine ⟨xs.length, fun H => ∃ e, SqT W.K H a vs ∧ e = vs.length, fun i H v H' => ∃ T x, v = .ref T ∧ H T = none ∧ H' = upd H T (.tup [.int (i : Nat), x]) ∧ vs[i]? = some x, ⟨fun i H hi ⟨_, h1, h2⟩ => ⟨vs, vs[i], h1, by simp⟩, fun H ⟨_, h1, h2⟩ => ⟨vs, h1, Nat.le_of_eq hl.symm⟩, fun i H x H' hi ⟨_, h1, _⟩ ⟨T, x', y1, y2, y3, y4⟩ => ⟨T, x', y1, y2, y3, y4 vs h1⟩⟩, by simp [enumA], fun w s e S' g => ⟨_, sqt_ext e h, rfl⟩, fun w s i y H' e S' g hi hy => ?_⟩
  obtain ⟨T, u, rfl, hT, rfl, h2⟩ := hy
  obtain ⟨z, y1, y2⟩ := (r.mono e).getv i u h2
  have gr := grow_upd (o := .tup [.int (i : Nat), u]) hT
  refine ⟨.tup [.int (i : Nat), z], _, ?_, rfl, .grow gr, S'.grow gr, .tup (.inl (.inl upd_same)) (.cons (.int _) (.cons (y2.mono (.grow gr)) .nil))⟩
  unfold enumA
  rw [List.getElem?_mapIdx, y1]
  rfl
theorem DI.enumU (ha : DA W E tr fr) : DI W E (enU W.K tr) (aEnumU fr) := fun w s σ σc R S Rs h => by
  cases e : fr σ s with
  | stuck =>
    have : aEnumU fr σ s = .stuck := by unfold aEnumU; rw [e]; rfl
    rw [this] at h; exact h.elim
  | err c ns vs s1 =>
    have : aEnumU fr σ s = .err c ns vs s1 := by unfold aEnumU; rw [e]; rfl
    rw [this] at h
    exact .inl (ha w s σ σc _ S Rs (by rw [e]; exact h))
  | ok xs s1 =>
    have e1 : aEnumU fr σ s = enumUK xs s1 := by unfold aEnumU; rw [e]; rfl
    rw [e1] at h
    by_cases c : ∃ ys, xs = [.tup ys]
    · obtain ⟨ys, rfl⟩ := c
      refine .inr (ha w s σ σc _ S Rs ?_)
      rw [e]
      intro w1 v x1 S1 r1
      cases r1 with
      | cons r1 r2 =>
        cases r2
        cases r1 with
        | @tup a _ vs k1 k2 => exact ⟨a, vs, rfl, k1, h w1 _ x1 S1 (itw_enT k1 k2 _)⟩
    · have e2 : aEnum fr σ s = enumUK xs s1 := by
        rw [e_enum, e, Res.bind_ok, enumUK_of c]
      rw [← e2] at h
      exact .inl (DI.enum ha w s σ σc R S Rs h)
theorem e_enumU {σ : ASt} {s : Sto} : aEnumU fr σ s = (fr σ s).bind enumUK := rfl
theorem e_enumUT {ys : List AV} {s : Sto} : enumUK [.tup ys] s = .ok (enumA ys, fun _ => True) s := rfl
def gMulV : AV → AV → Sto → Res AV := fun x y s => match x, y with
  | .tup a, .int k => if a ≠ [] ∧ -1000 ≤ k ∧ k ≤ 1000 ∧ a.length ≤ 1000 then .ok (.tup (List.replicate k.toNat a).flatten) s else .stuck
  | x, y => gMul x y s
@[simp] theorem gMulV_int {i j : Int} {s : Sto} : gMulV (.int i) (.int j) s = gMul (.int i) (.int j) s := rfl
@[simp] theorem gMulV_str {i : Str} {j : Int} {s : Sto} : gMulV (.str i) (.int j) s = gMul (.str i) (.int j) s := rfl
@[simp] theorem gMulV_obj {i : Nat} {j : Int} {s : Sto} : gMulV (.obj i) (.int j) s = gMul (.obj i) (.int j) s := rfl
def datE : Nat → Sto → AV → Option PyData
  | 0, _, _ => none
  | n + 1, s, x => match x with
    | .non => some .none
    | .bl b => some (.bool b)
    | .int i => some (.int i)
    | .str z => some (.str z)
    | .tup xs => (optL (datE n s) xs).map .tuple
    | .scr xs => (optL (datE n s) xs).map .list
    | .obj i => match s.c i with | .lst xs => (optL (datE n s) xs).map .list | .dic [] => some (.dict []) | _ => none
    | _ => none
section
variable {w : Wd} {s : Sto}
theorem optL_dpE {n : Nat} (ih : ∀ (x : AV) (v : V) (d : PyData), Rel W w x v → datE n s x = some d → Gx.DpE W.K w.H v d) : ∀ {xs : List AV} {vs : List V} {ds : List PyData}, RelL W w xs vs → optL (datE n s) xs = some ds → Gx.DpEA W.K w.H vs ds
  | _, _, _, .nil, e => by
    cases e
    exact .nil
  | _, _, _, .cons h r, e => by
    unfold optL at e
    split at e
    · rename_i d ds e1 e2
      cases e
      exact .cons (ih _ _ _ h e1) (optL_dpE ih r e2)
    · cases e
theorem datE_dp (S : Sim W w s) : ∀ (n : Nat) (x : AV) (v : V) (d : PyData), Rel W w x v → datE n s x = some d → Gx.DpE W.K w.H v d
  | 0, _, _, _, _, e => by cases e
  | n + 1, x, v, d, r, e => by
    cases r with
    | non => cases e; exact .non
    | bl b => cases e; exact .bl b
    | int i => cases e; exact .int i
    | str z => cases e; exact .str z
    | ty => cases e
    | cls => cases e
    | raw => cases e
    | exn => cases e
    | @tup a xs vs h1 h2 =>
      have e : (optL (datE n s) xs).map PyData.tuple = some d := e
      cases k : optL (datE n s) xs with
      | none => rw [k] at e; cases e
      | some ds =>
        rw [k] at e
        cases e
        exact .tup h1 (optL_dpE (datE_dp S n) h2 k)
    | @scr a xs vs h1 h2 =>
      have e : (optL (datE n s) xs).map PyData.list = some d := e
      cases k : optL (datE n s) xs with
      | none => rw [k] at e; cases e
      | some ds =>
        rw [k] at e
        cases e
        exact .lst h1.sql (optL_dpE (datE_dp S n) h2 k)
    | @obj i hi =>
      have e : (match s.c i with | .lst xs => (optL (datE n s) xs).map .list | .dic [] => some (.dict []) | _ => none) = some d := e
      obtain ⟨o, k1, k2⟩ := S.cell i (S.n ▸ hi)
      split at e
      · rename_i xs ec
        rw [ec] at k2
        cases k2 with
        | lst k3 =>
          cases k : optL (datE n s) xs with
          | none => rw [k] at e; cases e
          | some ds =>
            rw [k] at e
            cases e
            exact .lst (.inl (.inl k1)) (optL_dpE (datE_dp S n) k3 k)
      · rename_i ec
        rw [ec] at k2
        cases e
        cases k2 with
        | dic k3 =>
          cases k3
          exact .dic k1
      · cases e
end
def gReprE : List AV → Sto → Res AV := fun xs s => match xs with | [x] => (match datE 12 s x with | some d => if d.showable = true ∧ d.depth ≤ 60 ∧ d.shown.length ≤ sizeLine then .ok (.str d.shown) s else .stuck | none => .stuck) | _ => .stuck
theorem gReprE_dat {x : AV} {s : Sto} {d : PyData} (e : datE 12 s x = some d) (h : d.showable = true ∧ d.depth ≤ 60 ∧ d.shown.length ≤ sizeLine) : gReprE [x] s = .ok (.str d.shown) s := by
  unfold gReprE; simp only [e]; exact if_pos h
theorem NEL.reprE : NEL gReprE := fun x s c ns vs s' h => by 
  unfold gReprE at h
  repeat' split at h
  all_goals first | cases h | (unfold newL at h; cases h)
theorem DB.reprE {W : Wl} : DB W (Gx.rReprE W.K) gReprE := fun w s x v Q S r h => by
  unfold gReprE at h
  split at h
  · cases r with
    | cons r1 r2 =>
      cases r2
      split at h
      · rename_i d e
        split at h
        · rename_i hc
          exact ⟨_, d, rfl, datE_dp S _ _ _ _ r1 e, hc.1, hc.2.1, hc.2.2, h w _ (.refl w) S (.str _)⟩
        · exact h.elim
      · exact h.elim
  · exact h.elim
end
end
end Ab
set_option Elab.async false
set_option linter.all false
set_option maxRecDepth 100000
set_option maxHeartbeats 1000000
namespace Gx
open PySem PySem.Spec PyProof.Rows L2
end Gx
set_option Elab.async false
set_option linter.all false
set_option maxRecDepth 100000
set_option maxHeartbeats 1000000
namespace Ab
open PySem PySem.Spec PyProof.Rows L2
open Classical
end Ab
set_option Elab.async false
set_option linter.all false
set_option maxRecDepth 100000
set_option maxHeartbeats 4000000
namespace Gx
open PySem PySem.Spec PyProof.Rows L2
end Gx
set_option Elab.async false
set_option linter.all false
set_option maxRecDepth 100000
set_option maxHeartbeats 2000000
namespace Ab
open PySem PySem.Spec PyProof.Rows L2
section
def aMNil : AV → AS := fun _ => aNext
def aMAny (f : AS) : AV → AS := fun _ => f
def aMCase (k : Str) (fb : AS) (fr : AV → AS) : AV → AS := fun x σ s => match x with | .str y => if y = k then fb σ s else fr (.str y) σ s | _ => .stuck
def aMCase2 (k l : Str) (fb : AS) (fr : AV → AS) : AV → AS := aMCase k fb (aMCase l fb fr)
def aMatch (fa : AE) (fc : AV → AS) : AS := fun σ s => (fa σ s).st σ fun x s1 => fc x σ s1
variable {W : Wl} {E : L2.St → XK}
def DMt (W : Wl) (E : L2.St → XK) (tc : V → TS) (fc : AV → AS) : Prop := ∀ (w : Wd) (s : Sto) (σ : ASt) (σc : L2.St) (D : Ends) (x : AV) (v : V), Sim W w s → RSt W w σ σc → Rel W w x v → (fc x σ s).P W w D E → tc v D σc w.H
theorem DMt.nil : DMt W E Mt.tEnd aMNil := fun w s σ σc D x v S R r h => h w σc (.refl w) S R
theorem DMt.any {tb : TS} {fb : AS} (hb : DS W E tb fb) : DMt W E (Mt.tAny tb) (aMAny fb) := fun w s σ σc D x v S R r h => hb w s σ σc D S R h
theorem DS.match {ta : TE} {fa : AE} {tc : V → TS} {fc : AV → AS} (ha : DE W E ta fa) (hc : DMt W E tc fc) : DS W E (Mt.tMatch ta tc) (aMatch fa fc) := fun w s σ σc D S R h =>
  ha w s σ σc _ S R ((exp_post R h).mono (fun v s1 h1 w1 vc e1 S1 r1 => hc w1 s1 σ σc D v vc S1 (R.mono e1) r1 (P.mono e1 h1)) fun _ _ _ _ z => z)
end
section
noncomputable def gMulB : AV → AV → Sto → Res AV := fun x y s => match x, y with
  | .tup [a], .int k => if 2 ≤ k ∧ k ≤ 100000 then .ok (.tup (List.replicate k.toNat [a]).flatten) s else gMulV (.tup [a]) (.int k) s
  | x, y => gMulV x y s
@[simp] theorem gMulB_int {i j : Int} {s : Sto} : gMulB (.int i) (.int j) s = gMul (.int i) (.int j) s := rfl
@[simp] theorem gMulB_str {i : Str} {j : Int} {s : Sto} : gMulB (.str i) (.int j) s = gMul (.str i) (.int j) s := rfl
@[simp] theorem gMulB_obj {i : Nat} {j : Int} {s : Sto} : gMulB (.obj i) (.int j) s = gMul (.obj i) (.int j) s := rfl
end
section
variable {k l : Str} {fb : AS} {fr : AV → AS} {y : Str} {x : AV} {σ : ASt} {s : Sto} {fa : AE} {fc : AV → AS}
theorem e_match : aMatch fa fc σ s = (fa σ s).st σ fun x s1 => fc x σ s1 := rfl
theorem e_mcase : aMCase k fb fr (.str y) σ s = if y = k then fb σ s else fr (.str y) σ s := rfl
theorem e_mcase2 : aMCase2 k l fb fr (.str y) σ s = if y = k then fb σ s else if y = l then fb σ s else fr (.str y) σ s := rfl
theorem e_many : aMAny fb x σ s = fb σ s := rfl
theorem e_mnil : aMNil x σ s = .nx σ s := rfl
end
end Ab
set_option Elab.async false
set_option linter.all false
set_option maxRecDepth 100000
set_option maxHeartbeats 1000000
set_option Elab.async false
set_option linter.all false
set_option maxRecDepth 100000
set_option maxHeartbeats 1000000
namespace Ab
open PySem PySem.Spec PyProof.Rows L2
open Classical
noncomputable section
/-- a tuple == () -/
def gEq0 : AV → AV → Sto → Res AV := fun x y s => match x, y with
  | .tup (_ :: _), .tup [] => .ok (.bl false) s
  | x, y => gEq x y s
@[simp] theorem gEq0_tup {a : AV} {l : List AV} {s : Sto} : gEq0 (.tup (a :: l)) (.tup []) s = .ok (.bl false) s := rfl
end
end Ab
set_option Elab.async false
set_option linter.all false
set_option maxRecDepth 100000
set_option maxHeartbeats 1000000
set_option Elab.async false
set_option linter.all false
set_option maxRecDepth 100000
set_option maxHeartbeats 1000000
namespace Gx
open PySem PySem.Spec PyProof.Rows L2 PySem.HandSPX
end Gx
set_option Elab.async false
set_option linter.all false
set_option maxRecDepth 100000
set_option maxHeartbeats 1000000
namespace Ab
open PySem PySem.Spec PyProof.Rows L2
open Classical
noncomputable section
section
variable {W : Wl} {E : L2.St → XK} {ta tb td : TE} {fa fb fd : AE}
/-- d.get(y, z) -/
def isDic (s : Sto) (x : AV) : Prop := ∃ i kvs, x = .obj i ∧ s.c i = .dic kvs
def gGet2 (x y z : AV) (s : Sto) : Res AV := match x, toKey y with | .obj i, some k => (match s.c i with | .dic kvs => .ok ((valA kvs k).getD z) s | _ => .stuck) | _, _ => .stuck
def aGet2 (fd fa fb : AE) : AE := fun σ s => (fd σ s).bind fun x s1 => if isDic s1 x then (fa σ s1).bind fun y s2 => (fb σ s2).bind fun z s3 => gGet2 x y z s3 else .stuck
def get2K (fa fb : AE) (σ : ASt) : AV → Sto → Res AV := fun x s1 => if isDic s1 x then (fa σ s1).bind fun y s2 => (fb σ s2).bind fun z s3 => gGet2 x y z s3 else .stuck
theorem e_get2 {σ : ASt} {s : Sto} : aGet2 fd fa fb σ s = (fd σ s).bind (get2K fa fb σ) := rfl
end
def augSK (g : AV → AV → Sto → Res AV) (σ : ASt) (o i x y : AV) (s : Sto) : SRes := (g x y s).st σ fun z s2 => oNx σ (setL o i z s2)
def getLN (o i : AV) (s : Sto) : Option AV := match o, i with | .obj j, .int k => (match s.c j with | .lst xs => if 0 ≤ k ∧ k < 2 ^ 63 then xs[k.toNat]? else none | _ => none) | _, _ => none
def augS2 (g : AV → AV → Sto → Res AV) (fe : AE) (σ : ASt) (o i : AV) (s : Sto) : SRes := match getLN o i s with | some x => (fe σ s).st σ (augSK g σ o i x) | none => .stuck
def augS1 (g : AV → AV → Sto → Res AV) (fi fe : AE) (σ : ASt) (o : AV) (s : Sto) : SRes := (fi σ s).st σ (augS2 g fe σ o)
def aAugS (g : AV → AV → Sto → Res AV) (fo fi fe : AE) : AS := fun σ s => (fo σ s).st σ (augS1 g fi fe σ)
theorem s_augS {g : AV → AV → Sto → Res AV} {fo fi fe : AE} {σ : ASt} {s : Sto} : aAugS g fo fi fe σ s = (fo σ s).st σ (augS1 g fi fe σ) := rfl
theorem s_augS1 {g : AV → AV → Sto → Res AV} {fi fe : AE} {σ : ASt} {s : Sto} {o : AV} : augS1 g fi fe σ o s = (fi σ s).st σ (augS2 g fe σ o) := rfl
/-- lists of the very same things are equal -/
def gEqS : AV → AV → Sto → Res AV := fun x y s => match lstOf s x, lstOf s y with
  | some xs, some ys => if xs = ys ∧ xs.all (smA 19) = true then .ok (.bl true) s else gEq x y s
  | _, _ => gEq x y s
@[simp] theorem gEqS_int {i j : Int} {s : Sto} : gEqS (.int i) (.int j) s = .ok (.bl (decide (i = j))) s := gEq_int
@[simp] theorem gEqS_str {i j : Str} {s : Sto} : gEqS (.str i) (.str j) s = .ok (.bl (decide (i = j))) s := gEq_str
@[simp] theorem gEqS_bl {i j : Bool} {s : Sto} : gEqS (.bl i) (.bl j) s = .ok (.bl (decide (i = j))) s := gEq_bl
@[simp] theorem gEqS_tup {i : List AV} {j : AV} {s : Sto} : gEqS (.tup i) j s = gEq (.tup i) j s := rfl
def gMulW : AV → AV → Sto → Res AV := fun x y s => match x, y with
  | .tup [a], .int k => if 1000 < k ∧ k ≤ 100000 then .ok (.tup (List.replicate k.toNat [a]).flatten) s else gMulV (.tup [a]) (.int k) s
  | x, y => gMulV x y s
@[simp] theorem gMulW_int {i j : Int} {s : Sto} : gMulW (.int i) (.int j) s = gMul (.int i) (.int j) s := rfl
@[simp] theorem gMulW_str {i : Str} {j : Int} {s : Sto} : gMulW (.str i) (.int j) s = gMul (.str i) (.int j) s := rfl
@[simp] theorem gMulW_obj {i : Nat} {j : Int} {s : Sto} : gMulW (.obj i) (.int j) s = gMul (.obj i) (.int j) s := rfl
end
end Ab
namespace Gx
open PySem PySem.Spec PyProof.Rows L2
end Gx
namespace Ab
open PySem PySem.Spec PyProof.Rows L2
open Classical
end Ab
namespace Gx
open PySem PySem.Spec PyProof.Rows L2
end Gx
namespace Ab
open PySem PySem.Spec PyProof.Rows L2
open Classical
end Ab
namespace Gx
open PySem PySem.Spec PyProof.Rows L2
end Gx
namespace Ab
open PySem PySem.Spec PyProof.Rows L2
open Classical
noncomputable section
def aMethS (c : String) (m : Str) (F : List AV → Sto → Res AV) (fa : AE) (fr : AA) : AE := fun σ s => (fa σ s).bind fun x s1 => if clsIs s1 x c m = true then (fr σ s1).bind fun xs s2 => if xs.length ≤ sizeLine then F [x, .tup xs] s2 else .stuck else .stuck
section
variable {c : String} {m : Str} {F : List AV → Sto → Res AV} {fa : AE} {fr : AA} {σ : ASt} {s : Sto} {x : AV} {xs : List AV}
def mSK2 (F : List AV → Sto → Res AV) (x : AV) : List AV → Sto → Res AV := fun xs s2 => if xs.length ≤ sizeLine then F [x, .tup xs] s2 else .stuck
def mSK1 (c : String) (m : Str) (F : List AV → Sto → Res AV) (fr : AA) (σ : ASt) : AV → Sto → Res AV := fun x s1 => if clsIs s1 x c m = true then (fr σ s1).bind (mSK2 F x) else .stuck
theorem e_methS : aMethS c m F fa fr σ s = (fa σ s).bind (mSK1 c m F fr σ) := rfl
theorem e_methS1 : mSK1 c m F fr σ x s = grd (clsIs s x c m = true) ((fr σ s).bind (mSK2 F x)) := rfl
theorem e_methS2 : mSK2 F x xs s = grd (xs.length ≤ sizeLine) (F [x, .tup xs] s) := rfl
end
end
end Ab
namespace Ab
open PySem PySem.Spec PyProof.Rows L2
open Classical
noncomputable section
def lcIX (k : Nat) (G : Sto → Prop) (g : AV → AS) (ft : AT) (fe : AE) (σ0 : ASt) : List AV → Sto → Res AV
  | [] => fun s => if G s then .ok (.obj k) s else .stuck
  | x :: r => fun s => if G s then (match g x σ0 s with
    | .nx σ2 s2 => (match ft σ2 s2 with
      | .ok true s3 => (match fe σ2 s3 with
        | .ok y s4 => (match s4.c k with | .lst acc => if acc.length < sizeLine then lcIX k G g ft fe σ0 r (s4.set k (.lst (acc ++ [y]))) else .stuck | _ => .stuck)
        | .err c ns vs s4 => .err c ns vs s4
        | .stuck => .stuck)
      | .ok false s3 => lcIX k G g ft fe σ0 r s3
      | .err c ns vs s3 => .err c ns vs s3
      | .stuck => .stuck)
    | _ => .stuck) else .stuck
def aLcX (fi : AI) (g : AV → AS) (ft : AT) (fe : AE) (vs : List Nat) : AE := fun σ s => (fi σ s).bind fun p s1 => lcIX s1.n p.2 g ft fe (wipeA σ vs) p.1 (s1.new (.lst []))
section
variable {σ : ASt} {s : Sto} {fi : AI} {g : AV → AS} {ft : AT} {fe : AE} {vs : List Nat}
def lcXK (g : AV → AS) (ft : AT) (fe : AE) (vs : List Nat) (σ : ASt) : List AV × (Sto → Prop) → Sto → Res AV := fun p s1 => lcIX s1.n p.2 g ft fe (wipeA σ vs) p.1 (s1.new (.lst []))
theorem e_lcX : aLcX fi g ft fe vs σ s = (fi σ s).bind (lcXK g ft fe vs σ) := rfl
theorem e_lcXK {xs : List AV} {G : Sto → Prop} : lcXK g ft fe vs σ (xs, G) s = lcIX s.n G g ft fe (wipeA σ vs) xs (s.new (.lst [])) := rfl
end
end
end Ab
set_option Elab.async false
set_option linter.all false
set_option maxRecDepth 100000
set_option maxHeartbeats 2000000
namespace Gx
open PySem PySem.Spec PyProof.Rows L2
end Gx
set_option Elab.async false
set_option linter.all false
set_option maxRecDepth 100000
set_option maxHeartbeats 1000000
namespace Ab
open PySem PySem.Spec PyProof.Rows L2
open Classical
end Ab
set_option Elab.async false
set_option linter.all false
set_option maxRecDepth 100000
set_option maxHeartbeats 2000000
namespace Ve
open PySem
/-- it could not be woken -/
def veil : GenState → GenState
  | .suspended _ l c p fs cl => .suspended (fun _ => .unsupported "") l c p fs cl
  | x => x
def sleeps : GenState → Bool
  | .suspended .. => true
  | _ => false
/-- no generator's frame among them -/
def pureG : GenState → Prop
  | .suspended _ _ _ _ fs _ => splitAtGen fs = none
  | _ => True
/-- the tables: where V holds, the state st stands, veiled in the first one; elsewhere they are alike -/
structure Rg (V : Nat → Prop) (st : Nat → GenState) (a b : Array GenState) : Prop where
  sz : b.size = a.size
  v : ∀ i, V i → sleeps (st i) = true ∧ a[i]? = some (veil (st i)) ∧ b[i]? = some (st i)
  e : ∀ i, ¬ V i → b[i]? = a[i]?
  p : ∀ i x, ¬ V i → a[i]? = some x → pureG x
variable {V : Nat → Prop} {st : Nat → GenState} {a b : Array GenState}
theorem Rg.lt (r : Rg V st a b) {i : Nat} (h : V i) : i < a.size := by
  obtain ⟨_, h1, _⟩ := r.v i h
  exact (Array.getElem?_eq_some_iff.mp h1).1
theorem Rg.push (r : Rg V st a b) {x : GenState} (hx : pureG x) : Rg V st (a.push x) (b.push x) where
  sz := by simp [r.sz]
  v := fun i h => by
    obtain ⟨h0, h1, h2⟩ := r.v i h
    have l := r.lt h
    refine ⟨h0, ?_, ?_⟩
    · rw [Array.getElem?_push_lt l]
      rw [← h1, Array.getElem?_eq_getElem l]
    · have l2 : i < b.size := by rw [r.sz]; exact l
      rw [Array.getElem?_push_lt l2]
      rw [← h2, Array.getElem?_eq_getElem l2]
  e := fun i h => by
    rw [Array.getElem?_push, Array.getElem?_push, r.sz, r.e i h]
  p := fun i y h e => by
    rw [Array.getElem?_push] at e
    split at e
    · cases e; exact hx
    · exact r.p i y h e
theorem Rg.set (r : Rg V st a b) {g : Nat} {x : GenState} (hg : ¬ V g) (hx : pureG x) : Rg V st (a.setIfInBounds g x) (b.setIfInBounds g x) where
  sz := by simp [r.sz]
  v := fun i h => by
    obtain ⟨h0, h1, h2⟩ := r.v i h
    have ne : g ≠ i := fun e => hg (e ▸ h)
    refine ⟨h0, ?_, ?_⟩
    · rw [Array.getElem?_setIfInBounds_ne ne]; exact h1
    · rw [Array.getElem?_setIfInBounds_ne ne]; exact h2
  e := fun i h => by
    by_cases ne : g = i
    · subst ne
      rw [Array.getElem?_setIfInBounds_self, Array.getElem?_setIfInBounds_self, r.sz]
    · rw [Array.getElem?_setIfInBounds_ne ne, Array.getElem?_setIfInBounds_ne ne, r.e i h]
  p := fun i y h e => by
    by_cases ne : g = i
    · subst ne
      rw [Array.getElem?_setIfInBounds_self] at e
      split at e
      · cases e; exact hx
      · cases e
    · rw [Array.getElem?_setIfInBounds_ne ne] at e
      exact r.p i y h e
open Sem (wp)
end Ve
set_option Elab.async false
set_option linter.all false
set_option maxRecDepth 100000
set_option maxHeartbeats 2000000
namespace Lv
open PySem PySem.Spec PyProof.Rows L2 GenW
def cut (L : Addr) (h : Heap) : Heap := { h with objs := h.objs.extract 0 L }
theorem cut_size (L : Addr) (h : Heap) : (cut L h).objs.size = min L h.objs.size := by
  show (h.objs.extract 0 L).size = _
  simp
theorem cut_get {L b : Addr} {h : Heap} (hb : b < L) : (cut L h).get? b = h.get? b := by
  have e : (h.objs.extract 0 L)[b]? = h.objs[b]? := by
    by_cases hs : b < h.objs.size
    · rw [Array.getElem?_eq_getElem hs, Array.getElem?_eq_getElem (by simp only [Array.size_extract]; exact Nat.lt_min.mpr ⟨hb, hs⟩ |> fun z => by simpa using z)]
      simp
    · have hs : h.objs.size ≤ b := Nat.le_of_not_lt hs
      rw [Array.getElem?_eq_none hs, Array.getElem?_eq_none (by simp only [Array.size_extract]; exact Nat.le_trans (by simp) (Nat.le_trans (Nat.min_le_right L h.objs.size) hs))]
  unfold Heap.get? cut
  simp only [e]
theorem of_cut {L b : Addr} {h : Heap} {o : Obj} (e : (cut L h).get? b = some o) : b < L ∧ h.get? b = some o := by
  have hb : b < L := by
    have := Heap.lt_size e
    rw [cut_size] at this
    exact Nat.lt_of_lt_of_le this (Nat.min_le_left _ _)
  exact ⟨hb, (cut_get hb).symm.trans e⟩
structure G where
  P : Program
  w : World
  K : PySem.W.Frag
  mg : Str → Option Value
  base : Heap
  N : List Str
  qual : Str
  scope : Scope
  f : Addr
  cd : Value
  A : Around
  outer : List Env
  L : Addr
abbrev G.env (g : G) : Env := envOfC g.qual g.scope g.L g.f g.cd
/-- the frame's context between two yields: s0, H0 as they stood when it was woken; Y: young things that stay -/
abbrev lX (g : G) (Y : List Addr) (s0 : Shared) (H0 : Hp) : Cx where
  prog := g.P
  w := g.w
  K := g.K
  mg := g.mg
  base := g.base
  A := g.A.deeper g.env
  N := g.N
  s_0 := { s0 with heap := cut g.L s0.heap }
  H_0 := H0
  env := g.env
  outer := g.outer
  stack := g.env :: g.outer
  ex := []
  fn := fun _ => true
  calm := true
  pn := pinsAt Y s0.heap
  xe := fun _ _ => False
/-- what never changes -/
structure G.Ok (g : G) : Prop where
  mod : Mod g.K g.mg g.base
  kind : g.scope.kind = .function
  nocell : g.env.cells = []
  noname : ∀ x, g.env.kindOf x ≠ some .cell ∧ g.env.kindOf x ≠ some .free
  hd : g.A.handled = none
  frames : g.A.frames = some g.outer
  bsz : g.base.objs.size ≤ g.L
  fl : ∀ b ∈ frs g.outer, b < g.L
/-- the world around, whenever it is woken -/
structure Wo (g : G) (Y : List Addr) (s : Shared) (H : Hp) : Prop where
  bare : AllBare s.gens
  hok : HOk g.P g.w H s.heap
  bs : ∀ b o, g.base.get? b = some o → s.heap.get? b = some o ∧ H b = none
  funs : s.heap.FunFrames g.base g.outer
  frf : ∀ b ∈ frs g.outer, H b = none
  y : ∀ b ∈ Y, H b = none ∧ b ≠ g.L ∧ b ∉ frs g.outer ∧ ∀ o, s.heap.get? b = some o → ∀ v, o.data ≠ .cell v
theorem ff_cut {L : Addr} {h base : Heap} : ∀ {l : List Env}, h.FunFrames base l → (∀ b ∈ frs l, b < L) → (cut L h).FunFrames base l
  | [], _, _ => trivial
  | v :: l, f, n => by
    obtain ⟨f1, ⟨x, o, f2, f3, f4, f5⟩, f6⟩ := f
    have hx : x ∈ frs (v :: l) := List.mem_filterMap.mpr ⟨v, List.mem_cons_self, f2⟩
    refine ⟨f1, ⟨x, o, f2, f3, (cut_get (n x hx)).trans f4, f5⟩, ff_cut f6 fun b hb => n b ?_⟩
    obtain ⟨u, hu, hv⟩ := List.mem_filterMap.mp hb
    exact List.mem_filterMap.mpr ⟨u, List.mem_cons_of_mem _ hu, hv⟩
/-- the frame's own names in its dict o -/
structure Core (g : G) (o : Obj) (σ : L2.St) : Prop where
  ns : ∃ es ep, ∃ m : Str → Option Value, o.data = .dict es ep ∧ StrKeys es ∧ (∀ name, nsFind es name = m name) ∧ ∀ (i : Nat) (x : Str) (v : V), g.N[i]? = some x → σ[i]? = some (some v) → Vis g.scope x → ∃ u, RelV v u ∧ g.env.kindOf x = some .local ∧ m x = some u
  len : σ.length = g.N.length
/-- woken: the frame's state in the world as it is -/
theorem Core.inv {g : G} {Y : List Addr} {o : Obj} {σ : L2.St} {H : Hp} {s : Shared} {ip : List (Addr × Obj)} (c : Core g o σ) (ok : g.Ok) (W : Wo g Y s H) (ho : s.heap.get? g.L = some o) (hn : H g.L = none)
    (hip : ∀ p ∈ ip, s.heap.get? p.1 = some p.2 ∧ H p.1 = none ∧ p.1 ≠ g.L ∧ p.1 ∉ frs g.outer ∧ ∀ v, p.2.data ≠ .cell v) : Inv (lX g Y s H) ip σ H s := by
  obtain ⟨es, ep, m, d1, d2, d3, d4⟩ := c.ns
  have lt : g.L < s.heap.objs.size := Heap.lt_size ho
  have nc : ∀ x c, g.env.cells.lookup x = some c → False := fun x c e => by rw [ok.nocell] at e; cases e
  have okx : (lX g Y s H).Ok := by
    refine ⟨ok.mod, ok.kind, rfl, rfl, ?_, fun x y c e => (nc x c e).elim, fun x h => ?_, fun x c _ e => (nc x c e).elim, fun _ => ok.hd, Around.frames_deeper ok.frames, .inr ⟨rfl, rfl⟩, fun b hb => (nomatch hb), fun b u e => ?_, ?_, fun _ _ _ h => (nomatch h), fun b hb => (nomatch hb), ff_cut W.funs ok.fl, W.frf⟩
    · show (cut g.L s.heap).objs.size ≤ g.L
      rw [cut_size]; exact Nat.min_le_left _ _
    · exact absurd h (fun z => z.elim (ok.noname x).1 (ok.noname x).2)
    · obtain ⟨z1, z2⟩ := W.bs b u e
      exact ⟨(cut_get (Nat.lt_of_lt_of_le (Heap.lt_size e) ok.bsz)).trans z1, z2⟩
    · show g.base.objs.size ≤ (cut g.L s.heap).objs.size
      rw [cut_size]
      exact Nat.le_min.mpr ⟨ok.bsz, Nat.le_trans ok.bsz (Nat.le_of_lt lt)⟩
  refine ⟨okx, rfl, W.bare, Un.kept fun b u e => (of_cut e).2, ⟨m, ⟨o, es, ep, ho, d1, d2, d3⟩, fun i x v e1 e2 e3 => ?_⟩, fun x c e => (nc x c e).elim, hn, fun x c e => (nc x c e).elim, fun p hp => ?_, W.hok, c.len⟩
  · obtain ⟨u, r, q1, q2⟩ := d4 i x v e1 e2 e3
    exact ⟨u, r, .inl ⟨q1, q2⟩⟩
  · rcases List.mem_append.mp hp with z | z
    · obtain ⟨hb, e⟩ := of_pinsAt z
      obtain ⟨y1, y2, y3, y4⟩ := W.y p.1 hb
      exact ⟨e, y1, y2, y3, y4 _ e⟩
    · exact hip p z
end Lv
set_option Elab.async false
set_option linter.all false
set_option maxRecDepth 100000
set_option maxHeartbeats 2000000
namespace Lv
open PySem PySem.Spec PyProof.Rows L2 GenW
/-- it sleeps on as it was -/
def Sleep (t u : Shared) : Prop := ∀ (i : Nat) (x : GenState), t.gens[i]? = some x → Ve.sleeps x = true → u.gens[i]? = some x
theorem Sleep.refl (t : Shared) : Sleep t t := fun _ _ h _ => h
theorem Sleep.trans {t u v : Shared} (a : Sleep t u) (b : Sleep u v) : Sleep t v := fun i x h z => b i x (a i x h z) z
/-- young things that a turn may change: all but Y -/
def young (L n : Nat) (Y : List Addr) : List Addr := (List.range n).filter fun b => decide (L ≤ b) && decide (b ∉ Y)
theorem mem_young {L n b : Nat} {Y : List Addr} : b ∈ young L n Y ↔ b < n ∧ L ≤ b ∧ b ∉ Y := by
  unfold young
  rw [List.mem_filter, List.mem_range, Bool.and_eq_true, decide_eq_true_eq, decide_eq_true_eq]
/-- what a turn keeps: old things as a call does, Y as they are -/
structure Turned (g : G) (Y : List Addr) (s0 : Shared) (H0 : Hp) (s : Shared) (H : Hp) : Prop where
  os : s.os = s0.os
  bare : AllBare s.gens
  hok : HOk g.P g.w H s.heap
  un : Un (frs g.outer) [] H0 H (cut g.L s0.heap) s.heap
  y : ∀ b ∈ Y, ∀ o, s0.heap.get? b = some o → s.heap.get? b = some o ∧ H b = none
theorem Turned.whole {g : G} {Y : List Addr} {s0 s : Shared} {H0 H : Hp} (t : Turned g Y s0 H0 s H) (fl : ∀ b ∈ frs g.outer, b < g.L) : Un (frs g.outer) (young g.L s0.heap.objs.size Y) H0 H s0.heap s.heap := by
  have case : ∀ b o, s0.heap.get? b = some o → b ∉ young g.L s0.heap.objs.size Y → ((cut g.L s0.heap).get? b = some o) ∨ (b ∈ Y ∧ g.L ≤ b) := fun b o e hx => by
    by_cases hb : b < g.L
    · exact .inl ((cut_get hb).trans e)
    · by_cases hy : b ∈ Y
      · exact .inr ⟨hy, Nat.le_of_not_lt hb⟩
      · exact absurd (mem_young.mpr ⟨Heap.lt_size e, Nat.le_of_not_lt hb, hy⟩) hx
  refine ⟨fun b o e n hb hx => ?_, fun b o e n hb hx => ?_, fun b o e n hx => ?_, fun b o e hx => ?_, t.un.tups, t.un.frzs, t.un.tbls⟩
  · rcases case b o e hx with z | ⟨z, _⟩
    · exact t.un.keep b o z n hb (fun h => (nomatch h))
    · exact (t.y b z o e).1
  · rcases case b o e hx with z | ⟨z, l⟩
    · exact t.un.slot b o z n hb (fun h => (nomatch h))
    · exact absurd (fl b hb) (Nat.not_lt_of_le l)
  · rcases case b o e hx with z | ⟨z, _⟩
    · exact t.un.free b o z n (fun h => (nomatch h))
    · exact (t.y b z o e).2
  · rcases case b o e hx with z | ⟨z, _⟩
    · exact t.un.there b o z (fun h => (nomatch h))
    · exact ⟨o, (t.y b z o e).1⟩
/-- the consumer's own things are older than the frame, or among Y -/
structure Safe (g : G) (Y : List Addr) (X : Cx) (pins : List (Addr × Obj)) : Prop where
  prog : X.prog = g.P
  w : X.w = g.w
  stack : X.stack = g.outer
  yo : ∀ b, g.L ≤ b → b ∉ Y → b ∈ X.ex ∨ X.s_0.heap.objs.size ≤ b
  loc : X.env.locals < g.L ∨ X.env.locals ∈ Y
  cell : ∀ x c, X.env.cells.lookup x = some c → c < g.L ∨ c ∈ Y
  pin : ∀ p ∈ X.pn ++ pins, p.1 < g.L ∨ p.1 ∈ Y
theorem Safe.inv {g : G} {Y : List Addr} {X : Cx} {pins : List (Addr × Obj)} {σ : L2.St} {s0 s : Shared} {H0 H : Hp} (S : Safe g Y X pins) (fl : ∀ b ∈ frs g.outer, b < g.L) (I : Inv X pins σ H0 s0) (t : Turned g Y s0 H0 s H) : Inv X pins σ H s := by
  have out : ∀ b c, b ∈ young g.L s0.heap.objs.size Y → (c < g.L ∨ c ∈ Y) → c ≠ b := fun b c hb hc e => by
    obtain ⟨_, l, n⟩ := mem_young.mp hb
    rcases hc with hc | hc
    · rw [e] at hc; exact absurd hc (Nat.not_lt_of_le l)
    · exact n (e ▸ hc)
  refine I.call' (ch := young g.L s0.heap.objs.size Y) t.os (by rw [S.stack]; exact t.whole fl) (by rw [S.prog, S.w]; exact t.hok) t.bare fun b hb => ?_
  obtain ⟨_, l, ny⟩ := mem_young.mp hb
  exact ⟨S.yo b l ny, (out b _ hb S.loc).symm, fun x c e => out b c hb (S.cell x c e), fun p hp => out b _ hb (S.pin p hp)⟩
end Lv
set_option Elab.async false
set_option linter.all false
set_option maxRecDepth 100000
set_option maxHeartbeats 2000000
namespace Lv
open PySem PySem.Spec PyProof.Rows L2 GenW
/-- what the consumer does with an item: where it stands, the heap, what is wanted when the next one is asked for -/
abbrev CB (C : Type) := V → C → Hp → (C → Hp → Prop) → Prop
/-- running: woken at s0, H0 -/
def LI (g : G) (Y : List Addr) {C : Type} (CI : C → Shared → Hp → Prop) (ip : List (Addr × Obj)) (σ : L2.St) (σc : C) (H : Hp) (s : Shared) : Prop := ∃ s0 H0, g.L < s0.heap.objs.size ∧ CI σc s0 H0 ∧ Inv (lX g Y s0 H0) ip σ H s
theorem LI.turned {g : G} {Y : List Addr} {ip : List (Addr × Obj)} {σ : L2.St} {s0 s : Shared} {H0 H : Hp} (I : Inv (lX g Y s0 H0) ip σ H s) : Turned g Y s0 H0 s H :=
  ⟨I.os, I.bare, I.hok, I.base, fun b hb o e => by
    have z := I.pin (b, o) (List.mem_append_left _ (mem_pinsAt hb e))
    exact ⟨z.1, z.2.1⟩⟩
/-- what is wanted behind a statement: items so far, the generator's slots, the consumer's -/
structure LEnds (C : Type) where
  nx : Nat → L2.St → C → Hp → Prop
  rt : Nat → V → C → Hp → Prop
  bk : Nat → L2.St → C → Hp → Prop := fun _ _ _ _ => False
  ct : Nat → L2.St → C → Hp → Prop := fun _ _ _ _ => False
def LEnds.at {C : Type} (D : LEnds C) (k : Nat) (σc : C) : Ends := { nx := fun σ H => D.nx k σ σc H, rt := fun v H => D.rt k v σc H, bk := fun σ H => D.bk k σ σc H, ct := fun σ H => D.ct k σ σc H }
abbrev TL (C : Type) := CB C → LEnds C → Nat → L2.St → C → Hp → Prop
section
variable {g : G} {Y : List Addr} {C : Type} {CI : C → Shared → Hp → Prop} {st : Stmt} {rest : List Stmt}
def tLPlain (t : TS) : TL C := fun _ D k σ σc H => t (D.at k σc) σ H
def tLNil : TL C := fun _ D k σ σc H => D.nx k σ σc H
def tLThen (t u : TL C) : TL C := fun cb D k σ σc H => t cb { D with nx := fun k' σ' σc' H' => u cb D k' σ' σc' H' } k σ σc H
end
end Lv
set_option Elab.async false
set_option linter.all false
set_option maxRecDepth 100000
set_option maxHeartbeats 2000000
namespace Lv
open PySem PySem.Spec PyProof.Rows L2 GenW
/-- a generator def's promise to a consumer -/
abbrev SpL := ∀ C : Type, List V → Hp → CB C → (C → Hp → Prop) → C → Prop
end Lv
set_option Elab.async false
set_option linter.all false
set_option maxRecDepth 100000
set_option maxHeartbeats 2000000
namespace Lv
open PySem PySem.Spec PyProof.Rows L2 GenW
open Sem (wp)
end Lv
set_option Elab.async false
set_option linter.all false
set_option maxRecDepth 100000
set_option maxHeartbeats 2000000
namespace Lv
open PySem PySem.Spec PyProof.Rows L2 GenW
section
variable {X : Cx} {pins : List (Addr × Obj)} {σ : L2.St} {H : Hp} {s : Shared}
theorem Inv.more (I : Inv X pins σ H s) {q : List (Addr × Obj)} (h : ∀ p ∈ q, s.heap.get? p.1 = some p.2 ∧ H p.1 = none ∧ p.1 ≠ X.env.locals ∧ p.1 ∉ X.fs ∧ ∀ v, p.2.data ≠ .cell v) : Inv X (pins ++ q) σ H s :=
  I.pins_of fun p hp => by
    rcases List.mem_append.mp hp with z | z
    · exact I.pin p (List.mem_append_right _ z)
    · exact h p z
variable {k : Nat} {f C : Addr} {fd : FuncData} {ps : List Str} {sp : SpL} {dvs : List V} {ds : List Value} {x m : Str} {p pos' apos : Pos} {o : Expr} {ta : TE}
end
end Lv
set_option Elab.async false
set_option linter.all false
set_option maxRecDepth 100000
set_option maxHeartbeats 2000000
namespace Lv
open PySem PySem.Spec PyProof.Rows L2 GenW
end Lv
set_option Elab.async false
set_option linter.all false
set_option maxRecDepth 100000
set_option maxHeartbeats 2000000
namespace Lv
open PySem PySem.Spec PyProof.Rows L2 GenW
end Lv
set_option Elab.async false
set_option linter.all false
set_option maxRecDepth 100000
set_option maxHeartbeats 2000000
namespace Ab
open PySem PySem.Spec PyProof.Rows L2 Lv
open Classical
noncomputable section
abbrev LKx (γ ρ : Type) := Nat → ASt → γ → Sto → ρ
/-- what follows a generator's statement -/
structure LKs (γ ρ : Type) where
  nx : LKx γ ρ
  bk : LKx γ ρ
  ct : LKx γ ρ
  rt : Nat → AV → γ → Sto → ρ
/-- the consumer: what it does with an item -/
structure LHd (γ ρ : Type) where
  cb : AV → γ → Sto → (γ → Sto → ρ) → ρ
  bad : ρ
abbrev AL := ∀ γ ρ : Type, LHd γ ρ → LKs γ ρ → LKx γ ρ
def aLP (f : AS) : AL := fun _ _ h k n σ c s => match f σ s with
  | .nx σ s => k.nx n σ c s
  | .bk σ s => k.bk n σ c s
  | .ct σ s => k.ct n σ c s
  | .rt v s => k.rt n v c s
  | _ => h.bad
def aLNil : AL := fun _ _ h k n σ c s => k.nx n σ c s
def aLSeq (f g : AL) : AL := fun γ ρ h k n σ c s => f γ ρ h { k with nx := g γ ρ h k } n σ c s
section
variable (W : Wl)
abbrev E0c : L2.St → XK := fun _ _ _ _ => False
/-- the consumer's reading follows -/
def CbOk {γ ρ C : Type} (R : Wd → γ → C → Prop) (Good : ρ → Prop) (cb : CB C) (h : LHd γ ρ) (w0 : Wd) : Prop := ∀ (w : Wd) (s : Sto) (x : AV) (v : V) (c : γ) (cc : C) (K : C → Hp → Prop) (kk : γ → Sto → ρ), Ext w0 w → Sim W w s → Rel W w x v → R w c cc →
  (∀ w' s' c' cc', Ext w w' → Sim W w' s' → R w' c' cc' → Good (kk c' s') → K cc' w'.H) → Good (h.cb x c s kk) → cb v cc w.H K
structure KOk {γ ρ C : Type} (R : Wd → γ → C → Prop) (Good : ρ → Prop) (D : LEnds C) (k : LKs γ ρ) (w0 : Wd) : Prop where
  nx : ∀ n w s σ σc c cc, Ext w0 w → Sim W w s → RSt W w σ σc → R w c cc → Good (k.nx n σ c s) → D.nx n σc cc w.H
  bk : ∀ n w s σ σc c cc, Ext w0 w → Sim W w s → RSt W w σ σc → R w c cc → Good (k.bk n σ c s) → D.bk n σc cc w.H
  ct : ∀ n w s σ σc c cc, Ext w0 w → Sim W w s → RSt W w σ σc → R w c cc → Good (k.ct n σ c s) → D.ct n σc cc w.H
  rt : ∀ n w s x v c cc, Ext w0 w → Sim W w s → Rel W w x v → R w c cc → Good (k.rt n x c s) → D.rt n v cc w.H
/-- places that stay related -/
def Mono {γ C : Type} (R : Wd → γ → C → Prop) : Prop := ∀ w w' c cc, Ext w w' → R w c cc → R w' c cc
/-- a reading of a generator's statement -/
def DL (t : ∀ C, TL C) (f : AL) : Prop := ∀ (γ ρ C : Type) (R : Wd → γ → C → Prop) (Good : ρ → Prop) (cb : CB C) (D : LEnds C) (h : LHd γ ρ) (k : LKs γ ρ) (w : Wd) (s : Sto) (σ : ASt) (σc : L2.St) (c : γ) (cc : C) (n : Nat),
  Mono R → ¬ Good h.bad → CbOk W R Good cb h w → KOk W R Good D k w → Sim W w s → RSt W w σ σc → R w c cc → Good (f γ ρ h k n σ c s) → t C cb D n σc cc w.H
end
section
variable {W : Wl}
theorem CbOk.mono {γ ρ C : Type} {R : Wd → γ → C → Prop} {Good : ρ → Prop} {cb : CB C} {h : LHd γ ρ} {w w' : Wd} (e : Ext w w') (o : CbOk W R Good cb h w) : CbOk W R Good cb h w' := fun w2 s x v c cc K kk e2 => o w2 s x v c cc K kk (e.trans e2)
theorem KOk.mono {γ ρ C : Type} {R : Wd → γ → C → Prop} {Good : ρ → Prop} {D : LEnds C} {k : LKs γ ρ} {w w' : Wd} (e : Ext w w') (o : KOk W R Good D k w) : KOk W R Good D k w' :=
  ⟨fun n w2 s σ σc c cc e2 => o.nx n w2 s σ σc c cc (e.trans e2), fun n w2 s σ σc c cc e2 => o.bk n w2 s σ σc c cc (e.trans e2), fun n w2 s σ σc c cc e2 => o.ct n w2 s σ σc c cc (e.trans e2), fun n w2 s x v c cc e2 => o.rt n w2 s x v c cc (e.trans e2)⟩
theorem DL.plain {t : TS} {f : AS} (d : DS W E0c t f) : DL W (fun _ => tLPlain t) (aLP f) := fun γ ρ C R Good cb D h k w s σ σc c cc n hm hb _ ko S Rs Rc g => by
  refine d w s σ σc (D.at n cc) S Rs ?_
  unfold aLP at g
  cases e : f σ s with
  | nx σ' s' => rw [e] at g; exact fun w' σc' e' S' R' => ko.nx n w' s' σ' σc' c cc e' S' R' (hm _ _ _ _ e' Rc) g
  | bk σ' s' => rw [e] at g; exact fun w' σc' e' S' R' => ko.bk n w' s' σ' σc' c cc e' S' R' (hm _ _ _ _ e' Rc) g
  | ct σ' s' => rw [e] at g; exact fun w' σc' e' S' R' => ko.ct n w' s' σ' σc' c cc e' S' R' (hm _ _ _ _ e' Rc) g
  | rt v s' => rw [e] at g; exact fun w' vc e' S' r' => ko.rt n w' s' v vc c cc e' S' r' (hm _ _ _ _ e' Rc) g
  | err => rw [e] at g; exact absurd g hb
  | stuck => rw [e] at g; exact absurd g hb
theorem DL.nil : DL W (fun _ => tLNil) aLNil := fun γ ρ C R Good cb D h k w s σ σc c cc n _ _ _ ko S Rs Rc g => ko.nx n w s σ σc c cc (.refl w) S Rs Rc g
theorem DL.seq {t u : ∀ C, TL C} {f g : AL} (a : DL W t f) (b : DL W u g) : DL W (fun C => tLThen (t C) (u C)) (aLSeq f g) := fun γ ρ C R Good cb D h k w s σ σc c cc n hm hb co ko S Rs Rc gd =>
  a γ ρ C R Good cb _ h { k with nx := g γ ρ h k } w s σ σc c cc n hm hb co ⟨fun n' w' s' σ' σc' c' cc' e' S' R' Rc' g' => b γ ρ C R Good cb D h k w' s' σ' σc' c' cc' n' hm hb (co.mono e') (ko.mono e') S' R' Rc' g', ko.bk, ko.ct, ko.rt⟩ S Rs Rc gd
/-- the loop's body, its end given to what follows -/
def SRes.cps (r : SRes) (kk : ASt → Sto → SRes) : SRes := match r with
  | .nx σ s => kk σ s
  | .ct σ s => kk σ s
  | .bk σ s => .nx σ s
  | .rt v s => .rt v s
  | .err c ns vs σ s => .stuck
  | .stuck => .stuck
end
end
end Ab
set_option Elab.async false
set_option linter.all false
set_option maxRecDepth 100000
set_option maxHeartbeats 1000000
namespace Ab
open PySem PySem.Spec PyProof.Rows L2
open Classical
noncomputable section
abbrev numS (i : Int) : Str := Str.ofString (toString i)
def rStrI : List V → Hp → VK → Prop := fun xs H Q => ∃ i, xs = [.int i] ∧ i.natAbs.log2 < 1920 ∧ Q (.str (numS i)) H
theorem call_strI {X : Cx} : CallR X (.type "str") rStrI := call_str_int
def gStrI : List AV → Sto → Res AV := fun xs s => match xs with
  | [.int i] => if i.natAbs.log2 < 1920 then .ok (.str (numS i)) s else .stuck
  | _ => .stuck
theorem gStrI_int {i : Int} {s : Sto} (h : i.natAbs.log2 < 1920) : gStrI [.int i] s = .ok (.str (numS i)) s := if_pos h
theorem NEL.strI : NEL gStrI := fun x s c ns vs s' h => by 
  unfold gStrI at h
  repeat' split at h
  all_goals first | cases h | (unfold newL at h; cases h)
theorem DB.strI {W : Wl} : DB W rStrI gStrI := fun w s x v Q S r h => by
  unfold gStrI at h
  split at h
  · rename_i i
    split at h
    · rename_i hl
      cases r with
      | cons r1 r2 =>
        cases r1; cases r2
        exact ⟨_, rfl, hl, h w _ (.refl w) S (.str _)⟩
    · exact h.elim
  · exact h.elim
def fmtK : AV → Sto → Res AV := fun x s => match x with
  | .str y => if y.length ≤ sizeLine then .ok (.str y) s else .stuck
  | .int i => if i.natAbs.log2 < 1920 then .ok (.str (numS i)) s else .stuck
  | _ => .stuck
def aFmt (fe : AE) : AE := fun σ s => (fe σ s).bind fmtK
theorem e_fmt {fe : AE} {σ : ASt} {s : Sto} : aFmt fe σ s = (fe σ s).bind fmtK := rfl
theorem fmtK_int {i : Int} {s : Sto} (h : i.natAbs.log2 < 1920) : fmtK (.int i) s = .ok (.str (numS i)) s := if_pos h
section
variable {W : Wl} {E : L2.St → XK}
theorem DE.fmt {te : TE} {fe : AE} (he : DE W E te fe) : DE W E (tFmt te) (aFmt fe) := fun w s σ σc Q S R h => by
  refine he w s σ σc _ S R ((post_bind_ok h).mono (fun x s1 h1 w1 v e1 S1 r1 => ?_) fun _ _ _ _ z => z)
  unfold fmtK at h1
  split at h1
  · rename_i y
    split at h1
    · rename_i hl
      cases r1
      exact .inl ⟨_, rfl, hl, h1 w1 _ e1 S1 (.str _)⟩
    · exact h1.elim
  · rename_i i
    split at h1
    · rename_i hl
      cases r1
      exact .inr ⟨_, rfl, hl, h1 w1 _ e1 S1 (.str _)⟩
    · exact h1.elim
  · exact h1.elim
end
def jsK (k : Str → Sto → Res AV) (acc : Str) : AV → Sto → Res AV := fun x s => match x with
  | .str y => if (acc ++ y).length ≤ sizeLine then k (acc ++ y) s else .stuck
  | _ => .stuck
def jsA : List AE → Str → ASt → Sto → Res AV
  | [], acc, _, s => .ok (.str acc) s
  | f :: fs, acc, σ, s => (f σ s).bind (jsK (fun a s => jsA fs a σ s) acc)
def aJs (fs : List AE) : AE := fun σ s => jsA fs Str.empty σ s
theorem e_js {fs : List AE} {σ : ASt} {s : Sto} : aJs fs σ s = jsA fs Str.empty σ s := rfl
theorem e_jsN {acc : Str} {σ : ASt} {s : Sto} : jsA [] acc σ s = .ok (.str acc) s := rfl
theorem e_jsC {f : AE} {fs : List AE} {acc : Str} {σ : ASt} {s : Sto} : jsA (f :: fs) acc σ s = (f σ s).bind (jsK (fun a s => jsA fs a σ s) acc) := rfl
theorem jsK_str {k : Str → Sto → Res AV} {acc y : Str} {s : Sto} (h : (acc ++ y).length ≤ sizeLine) : jsK k acc (.str y) s = k (acc ++ y) s := if_pos h
inductive DJs (W : Wl) (E : L2.St → XK) : List TE → List AE → Prop
  | nil : DJs W E [] []
  | cons {te : TE} {fe : AE} {ts : List TE} {fs : List AE} : DE W E te fe → DJs W E ts fs → DJs W E (te :: ts) (fe :: fs)
theorem DE.js {W : Wl} {E : L2.St → XK} {ts : List TE} {fs : List AE} (h : DJs W E ts fs) : DE W E (fun σ H Q => tJs ts Str.empty σ H fun out H1 => Q (.str out) H1) (aJs fs) := by
  have key : ∀ (acc : Str) (w : Wd) (s : Sto) (σ : ASt) (σc : L2.St) (Q : VK), Sim W w s → RSt W w σ σc → (jsA fs acc σ s).Post (OkP W w Q) (ErrP W w (E σc)) → tJs ts acc σc w.H fun out H1 => Q (.str out) H1 := by
    induction h with
    | nil => exact fun acc w s σ σc Q S R h => h w _ (.refl w) S (.str _)
    | cons he ht ih =>
      intro acc w s σ σc Q S R h
      refine he w s σ σc _ S R ((post_bind_ok (show ((_ : Res AV).bind _).Post _ _ from h)).mono (fun x s1 h1 w1 v e1 S1 r1 => ?_) fun _ _ _ _ z => z)
      unfold jsK at h1
      split at h1
      · rename_i y
        split at h1
        · rename_i hl
          cases r1
          refine ⟨y, rfl, hl, ih (acc ++ y) w1 s1 σ σc Q S1 (R.mono e1) (h1.mono (fun v s2 g => OkP.mono e1 g) fun _ _ _ _ z => z.mono e1)⟩
        · exact h1.elim
      · exact h1.elim
  exact fun w s σ σc Q S R h => key Str.empty w s σ σc Q S R h
def rJoin (K : PySem.W.Frag) : V → List V → Hp → VK → Prop := fun x xs H Q => ∃ a p, ∃ ys : List Str, x = .str a ∧ xs = [.ref p] ∧ (SqL K H p (ys.map V.str) ∨ SqT K H p (ys.map V.str)) ∧ (ys.map (·.length)).sum + ys.length * a.length ≤ 16777216 ∧ Q (.str (Txt.join a ys)) H
def strsA : List AV → Option (List Str)
  | [] => some []
  | .str y :: r => (strsA r).map fun ys => y :: ys
  | _ :: _ => none
theorem strsA_eq {xs : List AV} {ys : List Str} (h : strsA xs = some ys) : xs = ys.map AV.str := by
  induction xs generalizing ys with
  | nil => cases h; rfl
  | cons x r ih =>
    cases x with
    | str y =>
      have h : (strsA r).map (fun ys => y :: ys) = some ys := h
      cases e : strsA r with
      | none => rw [e] at h; cases h
      | some zs => rw [e] at h; cases h; rw [ih e]; rfl
    | _ => cases h
theorem strsA_map (ys : List Str) : strsA (ys.map AV.str) = some ys := by
  induction ys with
  | nil => rfl
  | cons y r ih => show (strsA (r.map AV.str)).map _ = _; rw [ih]; rfl
theorem relL_strs {W : Wc} {w : Wd} {ys : List Str} {vs : List V} (h : RelL W w (ys.map AV.str) vs) : vs = ys.map V.str := by
  induction ys generalizing vs with
  | nil => cases h; rfl
  | cons y r ih => cases h with | cons h1 h2 => cases h1; rw [ih h2]; rfl
def gJoin (a : Str) : AV → Sto → Res AV := fun y s => match y with
  | .obj i => (match s.c i with
    | .lst xs => (match strsA xs with
      | some ys => if (ys.map (·.length)).sum + ys.length * a.length ≤ 16777216 then .ok (.str (Txt.join a ys)) s else .stuck
      | none => .stuck)
    | _ => .stuck)
  | _ => .stuck
def joinK (fe : AE) (σ : ASt) : AV → Sto → Res AV := fun x s => match x with
  | .str a => (fe σ s).bind (gJoin a)
  | _ => .stuck
def aJoin (fo fe : AE) : AE := fun σ s => (fo σ s).bind (joinK fe σ)
theorem e_join {fo fe : AE} {σ : ASt} {s : Sto} : aJoin fo fe σ s = (fo σ s).bind (joinK fe σ) := rfl
theorem e_joinK {fe : AE} {σ : ASt} {a : Str} {s : Sto} : joinK fe σ (.str a) s = (fe σ s).bind (gJoin a) := rfl
theorem gJoin_ok {a : Str} {i : Nat} {ys : List Str} {s : Sto} (h : s.c i = .lst (ys.map AV.str)) (hl : (ys.map (·.length)).sum + ys.length * a.length ≤ 16777216) : gJoin a (.obj i) s = .ok (.str (Txt.join a ys)) s := by
  unfold gJoin
  simp only [h, strsA_map, if_pos hl]
theorem DE.join {W : Wl} {E : L2.St → XK} {to te : TE} {fo fe : AE} (ho : DE W E to fo) (he : DE W E te fe) : DE W E (tM1 (rJoin W.K) to te) (aJoin fo fe) := fun w s σ σc Q S R h => by
  refine ho w s σ σc _ S R ((post_bind_ok h).mono (fun x s1 h1 w1 v e1 S1 r1 => ?_) fun _ _ _ _ z => z)
  unfold joinK at h1
  split at h1
  · rename_i a
    cases r1
    refine ⟨⟨a, rfl⟩, he w1 s1 σ σc _ S1 (R.mono e1) ((post_bind_ok h1).mono (fun y s2 h2 w2 u e2 S2 r2 => ?_) fun _ _ _ _ z => z.mono e1)⟩
    unfold gJoin at h2
    split at h2
    · rename_i i
      split at h2
      · rename_i xs ec
        split at h2
        · rename_i ys es
          split at h2
          · rename_i hl
            obtain ⟨vs, k1, rfl, k3, k4⟩ := lstO_at S2 r2 ec
            rw [strsA_eq es] at k4
            rw [relL_strs k4] at k3
            exact ⟨a, _, ys, rfl, rfl, .inl (SqL.of k3), hl, h2 w2 _ (e1.trans e2) S2 (.str _)⟩
          · exact h2.elim
        · exact h2.elim
      · exact h2.elim
    · exact h2.elim
  · exact h1.elim
end
end Ab
set_option Elab.async false
set_option linter.all false
set_option maxRecDepth 100000
set_option maxHeartbeats 4000000
set_option exponentiation.threshold 3000
namespace Pf
open PySem PySem.Spec PyProof.Rows L2 Ab
noncomputable section
def B_is_integer : AS := (aRet (aAndV (aCB (gIsi (kitB "int")) (aCons (aVar 0) (aCons (aC (.ty "int")) aNil))) (aNotV (aCB (gIsi (kitB "bool")) (aCons (aVar 0) (aCons (aC (.ty "bool")) aNil))))))
def F_is_integer : List AV → Sto → Res AV := gcF (aDef 0 B_is_integer)
def B_s3_product : AS := (aSeq (aAsg (aC (.int 0)) (agName 2))
  (aSeq (aAsg (aVar 0) (agName 3))
  (aSeq (aAsg (aVar 1) (agName 4))
  (aSeq (aWhile (aTest (aOp gGt (aVar 4) (aC (.int 0)))) (aSeq (aIfS (aTest (aOp gEq (aOp gAnd (aVar 4) (aC (.int 1))) (aC (.int 1)))) (aAsg (aOp gXor (aVar 2) (aVar 3)) (agName 2)) aNext)
  (aSeq (aAsg (aOp gShl (aVar 3) (aC (.int 1))) (agName 3))
  (aAsg (aOp gShr (aVar 4) (aC (.int 1))) (agName 4)))))
  (aRet (aVar 2))))))
def F_s3_product : List AV → Sto → Res AV := gcF (aDef 3 B_s3_product)
def B_s3_term : AS := (aRet (aIf (aTest (aOp gLt (aVar 0) (aC (.int 2)))) (aOp gIx (aLst (aCons (aC (.str "1")) (aCons (aC (.str "t")) aNil))) (aVar 0)) (aJs [(aC (.str "t^")), (aFmt (aVar 0))])))
def F_s3_term : List AV → Sto → Res AV := gcF (aDef 0 B_s3_term)
def B__law_begun : AS := (aSeq (aAsg (aOp gAdd (aC (.int 32452843)) (aOp gMul (aC (.int 41)) (aCB gLen (aCons (aVar 0) aNil)))) (agName 1))
  (aSeq (aFor (aEnumU (aCons (aVar 0) aNil)) (agTup 2 (agCons (agName 2) (agCons (agName 3) agNil))) (aAsg (aOp gMod (aOp gAdd (aOp gAdd (aOp gMul (aVar 1) (aC (.int 998244353))) (aVar 3)) (aOp gMul (aC (.int 104723)) (aVar 2))) (aC (.int 2305843009213693951))) (agName 1)))
  (aRet (aDisp [((aC (.str "mixed")), (aVar 1)), ((aC (.str "great")), (aLc (aIter (aVar 0)) (agName 3) (aTest (aOp gGe (aVar 3) (aOp gPow (aC (.int 10)) (aC (.int 18))))) (aVar 3) [3])), ((aC (.str "turn")), (aC (.int 0)))]))))
def F__law_begun : List AV → Sto → Res AV := gcF (aDef 3 B__law_begun)
def B__law_next : AS := (aSeq (aAsg (aTup (aCons (aOp gAdd (aOp gDGet (aVar 0) (aC (.str "turn"))) (aC (.int 1))) (aCons (aOp gDGet (aVar 0) (aC (.str "great"))) aNil))) (agTup 2 (agCons (agSub setD (aVar 0) (aC (.str "turn"))) (agCons (agName 2) agNil))))
  (aSeq (aAsg (aOp gMod (aOp gDGet (aVar 0) (aC (.str "turn"))) (aCB gMax2 (aCons (aC (.int 1)) (aCons (aCB gLen (aCons (aVar 2) aNil)) aNil)))) (agName 3))
  (aSeq (aIfS (gcT (aAnd (aTest (aOp gNe (aVar 2) (aLst aNil))) (aTest (aOp gGt (aOp gIx (aVar 2) (aVar 3)) (aC (.int 0)))))) (aSeq (aAsg (aOp gMod (aOp gIx (aVar 2) (aVar 3)) (aVar 1)) (agName 4))
  (aSeq (aAsg (aOp gFdiv (aOp gIx (aVar 2) (aVar 3)) (aVar 1)) (agSub setL (aVar 2) (aVar 3)))
  (aRet (aVar 4)))) aNext)
  (aSeq (aAsg (aOp gAdd (aOp gAdd (aOp gMul (aOp gDGet (aVar 0) (aC (.str "mixed"))) (aC (.int 6364136223846793))) (aOp gMul (aC (.int 1442695040888963)) (aOp gDGet (aVar 0) (aC (.str "turn"))))) (aC (.int 11))) (agName 5))
  (aSeq (aDPut (aVar 0) (aC (.str "mixed")) (aOp gMod (aVar 5) (aC (.int 2305843009213693951))))
  (aRet (aOp gMod (aOp gFdiv (aOp gDGet (aVar 0) (aC (.str "mixed"))) (aC (.int 32749))) (aVar 1))))))))
def F__law_next : List AV → Sto → Res AV := gcF (aDef 4 B__law_next)
def B__law_places : AS := (aSeq (aPar 1 2 (aCons (aLst aNil) (aCons (aC (.int 0)) aNil)))
  (aSeq (aWhile (aTest (aOp gGt (aOp gShr (aVar 0) (aVar 2)) (aC (.int 0)))) (aSeq (aIfS (aTest (aOp gEq (aOp gAnd (aOp gShr (aVar 0) (aVar 2)) (aC (.int 1))) (aC (.int 1)))) (aDrop (aBM gAppend (aVar 1) (aCons (aVar 2) aNil))) aNext)
  (aAsg (aOp gAdd (aVar 2) (aC (.int 1))) (agName 2))))
  (aRet (aVar 1))))
def F__law_places : List AV → Sto → Res AV := gcF (aDef 2 B__law_places)
def B__law_number : AS := (aSeq (aAsg (aC (.int 0)) (agName 1))
  (aSeq (aFor (aIter (aVar 0)) (agName 2) (aAsg (aOp gXor (aVar 1) (aOp gShl (aC (.int 1)) (aVar 2))) (agName 1)))
  (aRet (aVar 1))))
def F__law_number : List AV → Sto → Res AV := gcF (aDef 2 B__law_number)
def B_s3_is_whole : AS := (aRet (aAndV (aCall 1 F_is_integer [] (aCons (aVar 0) aNil)) (aChain gLe gLe (aVar 1) (aVar 0) (aVar 2))))
def F_s3_is_whole : List AV → Sto → Res AV := gcF (aDef 0 B_s3_is_whole)
def B__law_times : AS := (aSeq (aAsg (aC (.int 0)) (agName 2))
  (aSeq (aFor (aIter (aCall 1 F__law_places [] (aCons (aVar 0) aNil))) (agName 3) (aAsg (aOp gXor (aVar 2) (aOp gShl (aVar 1) (aVar 3))) (agName 2)))
  (aRet (aVar 2))))
def F__law_times : List AV → Sto → Res AV := gcF (aDef 2 B__law_times)
def B__law_poly : AS := (aSeq (aAsg (aCall 2 F__law_next [] (aCons (aVar 0) (aCons (aC (.int 5)) aNil))) (agName 2))
  (aSeq (aIfS (aTest (aOp gEq (aVar 2) (aC (.int 0)))) (aRet (aOp gIx (aLst (aCons (aC (.int 0)) (aCons (aC (.int 1)) (aCons (aC (.int 2)) (aCons (aC (.int 3)) (aCons (aC (.int 7)) (aCons (aC (.int 11)) aNil))))))) (aCall 2 F__law_next [] (aCons (aVar 0) (aCons (aC (.int 6)) aNil))))) aNext)
  (aSeq (aIfS (aTest (aOp gEq (aVar 2) (aC (.int 1)))) (aRet (aCall 1 F__law_number [] (aCons (aLc (aRng1 (aCons (aC (.int 4)) aNil)) (agName 3) aYes (aCall 2 F__law_next [] (aCons (aVar 0) (aCons (aVar 1) aNil))) [3]) aNil))) aNext)
  (aRet (aCall 2 F__law_next [] (aCons (aVar 0) (aCons (aOp gShl (aC (.int 1)) (aOp gAdd (aC (.int 2)) (aCall 2 F__law_next [] (aCons (aVar 0) (aCons (aOp gMinus (aVar 1) (aC (.int 2))) aNil))))) aNil)))))))
def F__law_poly : List AV → Sto → Res AV := gcF (aDef 2 B__law_poly)
def B__law_odd : AS := (aSeq (aAsg (aLst (aCons (aOp gShl (aC (.int 1)) (aC (.int 512))) (aCons (aUn gNeg (aC (.int 1))) (aCons (aC (.bl true)) (aCons (aC (.bl false)) (aCons (aC (.non)) (aCons (aC (.str "5")) (aCons (aTup (aCons (aC (.int 5)) aNil)) (aCons (aLst (aCons (aC (.int 5)) aNil)) (aCons aDNew (aCons (aOp gAdd (aOp gShl (aC (.int 1)) (aC (.int 512))) (aC (.int 7))) (aCons (aTup aNil) (aCons (aUn gNeg (aOp gShl (aC (.int 1)) (aC (.int 600)))) aNil))))))))))))) (agName 1))
  (aRet (aOp gIx (aVar 1) (aCall 2 F__law_next [] (aCons (aVar 0) (aCons (aC (.int 12)) aNil))))))
def F__law_odd : List AV → Sto → Res AV := gcF (aDef 1 B__law_odd)
def B__law_text : AS := (aSeq (aAsg (aLst aNil) (agName 1))
  (aSeq (aFor (aIter (aRev (aCall 1 F__law_places [] (aCons (aVar 0) aNil)))) (agName 2) (aDrop (aBM gAppend (aVar 1) (aCons (aIf (aTest (aOp gGt (aVar 2) (aC (.int 1)))) (aOp gAdd (aC (.str "t^")) (aCB gStrI (aCons (aVar 2) aNil))) (aOp gIx (aLst (aCons (aC (.str "1")) (aCons (aC (.str "t")) aNil))) (aVar 2))) aNil))))
  (aRet (aIf (aTest (aOp gNe (aVar 1) (aLst aNil))) (aJoin (aC (.str " + ")) (aVar 1)) (aC (.str "0"))))))
def F__law_text : List AV → Sto → Res AV := gcF (aDef 2 B__law_text)
def B_is_polynomial : AS := (aRet (aCall 3 F_s3_is_whole [] (aCons (aVar 0) (aCons (aC (.int 0)) (aCons (aOp gMinus (aOp gShl (aC (.int 1)) (aC (.int 512))) (aC (.int 1))) aNil)))))
def F_is_polynomial : List AV → Sto → Res AV := gcF (aDef 0 B_is_polynomial)
def B__law_fault (f : Addr) (ask : Sto → Res AV) : AS := (aSeq (aAsg (aTup (aCons (aC (.non)) (aCons (aC (.non)) aNil))) (agTup 2 (agCons (agName 1) (agCons (agName 2) agNil))))
  (aSeq (aTry (aForget 6 (aAsg (aAsk f ask) (agName 2))) [((exP "DrawError"), some 3, (aAsg (aVar 3) (agName 1)))])
  (aSeq (aIfS (aTest (aOp gIsN (aVar 1) (aC (.non)))) (aRet (aLst (aCons (aVar 2) aNil))) aNext)
  (aSeq (aPar 4 5 (aCons (aLst (aCons (aC (.str "polynomial")) (aCons (aC (.str "degree")) (aCons (aC (.str "bits")) (aCons (aC (.str "steps")) aNil))))) (aCons (aLst (aCons (aCB (gIsi (kitB "BadPolynomial")) (aCons (aVar 1) (aCons (aC (.cls "BadPolynomial")) aNil))) aNil)) aNil)))
  (aSeq (aAsg (aOp gAdd (aVar 5) (aLst (aCons (aCB (gIsi (kitB "BadDegree")) (aCons (aVar 1) (aCons (aC (.cls "BadDegree")) aNil))) (aCons (aCB (gIsi (kitB "BadBits")) (aCons (aVar 1) (aCons (aC (.cls "BadBits")) aNil))) (aCons (aCB (gIsi (kitB "BadSteps")) (aCons (aVar 1) (aCons (aC (.cls "BadSteps")) aNil))) aNil))))) (agName 5))
  (aSeq (aIfS (gcT (aOr (aTest (aOp gNe (aBM gCount (aVar 5) (aCons (aC (.bl true)) aNil)) (aC (.int 1)))) (aNot (aTest (aCB (gIsiB "ValueError") (aCons (aVar 1) (aCons (aC (.ty "ValueError")) aNil))))))) (aRet (aTup (aCons (aC (.str "other")) (aCons (aC (.non)) aNil)))) aNext)
  (aRet (aTup (aCons (aOp gIx (aVar 4) (aBM gIndex (aVar 5) (aCons (aC (.bl true)) aNil))) (aCons (aUn (gXk ["BadSteps", "BadPolynomial", "BadDegree", "BadBits"] "given") (aVar 1)) aNil))))))))))
def F__law_fault : Addr → (Sto → Res AV) → Sto → Res AV := aToldF 5 B__law_fault
def B_s3_need : AS := (aFor (aIter (aVar 0)) (agName 1) (aIfS (gcT (aNot (aTest (aCall 1 F_is_polynomial [] (aCons (aVar 1) aNil))))) (aRaise "BadPolynomial" "given" (aCons (aVar 1) aNil)) aNext))
def F_s3_need : List AV → Sto → Res AV := gcF (aDef 1 B_s3_need)
def B_degree : AS := (aSeq (aDrop (aCallS F_s3_need (aCons (aVar 0) aNil)))
  (aRet (aOp gMinus (aUn gBits (aVar 0)) (aC (.int 1)))))
def F_degree : List AV → Sto → Res AV := gcF (aDef 0 B_degree)
def B_added : AS := (aSeq (aDrop (aCallS F_s3_need (aCons (aVar 0) (aCons (aVar 1) aNil))))
  (aRet (aOp gXor (aVar 0) (aVar 1))))
def F_added : List AV → Sto → Res AV := gcF (aDef 0 B_added)
def B_multiplied : AS := (aSeq (aDrop (aCallS F_s3_need (aCons (aVar 0) (aCons (aVar 1) aNil))))
  (aRet (aCall 2 F_s3_product [] (aCons (aVar 0) (aCons (aVar 1) aNil)))))
def F_multiplied : List AV → Sto → Res AV := gcF (aDef 0 B_multiplied)
def B_polynomial_text : AS := (aSeq (aDrop (aCallS F_s3_need (aCons (aVar 0) aNil)))
  (aSeq (aAsg (aLc (aRng3 (aCons (aOp gMinus (aUn gBits (aVar 0)) (aC (.int 1))) (aCons (aUn gNeg (aC (.int 1))) (aCons (aUn gNeg (aC (.int 1))) aNil)))) (agName 2) (aTest (aOp gEq (aOp gAnd (aOp gShr (aVar 0) (aVar 2)) (aC (.int 1))) (aC (.int 1)))) (aVar 2) [2]) (agName 1))
  (aRet (aIf (aTest (aOp gNe (aVar 1) (aLst aNil))) (aJoin (aC (.str " + ")) (aLc (aIter (aVar 1)) (agName 2) aYes (aCall 1 F_s3_term [] (aCons (aVar 2) aNil)) [2])) (aC (.str "0"))))))
def F_polynomial_text : List AV → Sto → Res AV := gcF (aDef 2 B_polynomial_text)
def B__law_pair_right : AS := (aSeq (aAsg (aLst (aCons (aCall 1 F__law_number [] (aCons (aOp gAdd (aCall 1 F__law_places [] (aCons (aVar 0) aNil)) (aCall 1 F__law_places [] (aCons (aVar 1) aNil))) aNil)) (aCons (aCall 2 F__law_times [] (aCons (aVar 0) (aCons (aVar 1) aNil))) aNil))) (agName 2))
  (aSeq (aIfS (gcT (aOr (aTest (aOp gNe (aLst (aCons (aCall 2 F_added [] (aCons (aVar 0) (aCons (aVar 1) aNil))) (aCons (aCall 2 F_multiplied [] (aCons (aVar 0) (aCons (aVar 1) aNil))) aNil))) (aVar 2))) (aTest (aOp gNe (aLst (aCons (aCall 2 F_added [] (aKw 0 2 [1, 0] aNil (aCons (aVar 1) (aCons (aVar 0) aNil)))) (aCons (aCall 2 F_multiplied [] (aKw 0 2 [1, 0] aNil (aCons (aVar 1) (aCons (aVar 0) aNil)))) aNil))) (aVar 2))))) (aRet (aC (.bl false))) aNext)
  (aSeq (aIfS (gcT (aTest (aOp gNe (aCB gReprE (aCons (aLst (aCons (aCall 1 F_polynomial_text [] (aCons (aVar 0) aNil)) (aCons (aCall 1 F_polynomial_text [] (aKw 0 1 [0] aNil (aCons (aVar 1) aNil))) aNil))) aNil)) (aCB gReprE (aCons (aLst (aCons (aCall 1 F__law_text [] (aCons (aVar 0) aNil)) (aCons (aCall 1 F__law_text [] (aCons (aVar 1) aNil)) aNil))) aNil))))) (aRet (aC (.bl false))) aNext)
  (aSeq (aAsg (gcE (aOp gIx (aOp gAdd (aLst (aCons (aUn gNeg (aC (.int 1))) aNil)) (aCall 1 F__law_places [] (aCons (aVar 0) aNil))) (aUn gNeg (aC (.int 1))))) (agName 3))
  (aRet (aOp gEq (aCB gReprE (aCons (aLst (aCons (aCall 1 F_degree [] (aCons (aVar 0) aNil)) (aCons (aCall 1 F_degree [] (aKw 0 1 [0] aNil (aCons (aVar 0) aNil))) (aCons (aCall 1 F_is_polynomial [] (aCons (aVar 0) aNil)) (aCons (aCall 1 F_is_polynomial [] (aKw 0 1 [0] aNil (aCons (aVar 0) aNil))) aNil))))) aNil)) (aCB gReprE (aCons (aLst (aCons (aVar 3) (aCons (aVar 3) (aCons (aC (.bl true)) (aCons (aC (.bl true)) aNil))))) aNil))))))))
def F__law_pair_right : List AV → Sto → Res AV := gcF (aDef 2 B__law_pair_right)
def B__law_odds_right : AS := (aSeq (aAsg (aTup (aCons (aCall 1 F__law_odd [] (aCons (aVar 0) aNil)) (aCons (aCall 1 F__law_odd [] (aCons (aVar 0) aNil)) aNil))) (agTup 2 (agCons (agName 2) (agCons (agName 3) agNil))))
  (aSeq (aIfS (gcT (aOr (aTest (aOp gNotB (aCall 1 F_is_polynomial [] (aCons (aVar 2) aNil)) (aC (.bl false)))) (aTest (aOp gNe (gcE (aTold F__law_fault (aCall 1 F_degree [] (aCons (aVar 2) aNil)))) (aTup (aCons (aC (.str "polynomial")) (aCons (aVar 2) aNil))))))) (aRet (aC (.bl false))) aNext)
  (aSeq (aAsg (aLst (aCons (gcE (aTold F__law_fault (aCall 2 F_added [] (aCons (aVar 2) (aCons (aVar 3) aNil))))) (aCons (gcE (aTold F__law_fault (aCall 2 F_multiplied [] (aCons (aVar 2) (aCons (aVar 3) aNil))))) aNil))) (agName 4))
  (aSeq (aIfS (gcT (aTest (aOp gNe (aCB gReprE (aCons (aVar 4) aNil)) (aCB gReprE (aCons (aOp gMul (aLst (aCons (aTup (aCons (aC (.str "polynomial")) (aCons (aVar 2) aNil))) aNil)) (aC (.int 2))) aNil))))) (aRet (aC (.bl false))) aNext)
  (aSeq (aAsg (aLst (aCons (gcE (aTold F__law_fault (aCall 2 F_added [] (aCons (aVar 1) (aCons (aVar 2) aNil))))) (aCons (gcE (aTold F__law_fault (aCall 2 F_multiplied [] (aCons (aVar 1) (aCons (aVar 2) aNil))))) aNil))) (agName 4))
  (aSeq (aDrop (aBM gAppend (aVar 4) (aCons (gcE (aTold F__law_fault (aCall 1 F_polynomial_text [] (aCons (aVar 2) aNil)))) aNil)))
  (aRet (aOp gEq (aCB gReprE (aCons (aVar 4) aNil)) (aCB gReprE (aCons (aOp gMul (aLst (aCons (aTup (aCons (aC (.str "polynomial")) (aCons (aVar 2) aNil))) aNil)) (aC (.int 3))) aNil))))))))))
def F__law_odds_right : List AV → Sto → Res AV := gcF (aDef 3 B__law_odds_right)
def B_law : AS := (aSeq (aAsg (aCall 1 F__law_begun [] (aCons (aVar 0) aNil)) (agName 1))
  (aSeq (aFor (aRng1 (aCons (aOp gAdd (aC (.int 3)) (aCB gMin2 (aCons (aC (.int 8)) (aCons (aCB gLen (aCons (aVar 0) aNil)) aNil)))) aNil)) (agName 2) (aSeq (aPar3 3 4 5 (aCons (aCall 2 F__law_poly [] (aCons (aVar 1) (aCons (aC (.int 40)) aNil))) (aCons (aCall 2 F__law_poly [] (aCons (aVar 1) (aCons (aC (.int 40)) aNil))) (aCons (aCall 2 F__law_poly [] (aCons (aVar 1) (aCons (aC (.int 512)) aNil))) aNil))))
  (aSeq (aAsg (aCall 1 F__law_number [] (aCons (aLc (aRng1 (aCons (aC (.int 5)) aNil)) (agName 7) aYes (aCall 2 F__law_next [] (aCons (aVar 1) (aCons (aC (.int 512)) aNil))) [7]) aNil)) (agName 6))
  (aSeq (aIfS (gcT (aOr (aNot (aTest (aCall 2 F__law_pair_right [] (aCons (aVar 3) (aCons (aVar 4) aNil))))) (aOr (aNot (aTest (aCall 2 F__law_pair_right [] (aCons (aVar 4) (aCons (aVar 3) aNil))))) (aNot (aTest (aCall 2 F__law_pair_right [] (aCons (aVar 6) (aCons (aOp gMod (aVar 3) (aC (.int 64))) aNil)))))))) (aRet (aC (.bl false))) aNext)
  (aIfS (gcT (aOr (aNot (aTest (aCall 2 F__law_pair_right [] (aCons (aOp gMod (aVar 3) (aC (.int 64))) (aCons (aVar 6) aNil))))) (aOr (aTest (aOp gNe (aCall 1 F_degree [] (aCons (aVar 5) aNil)) (aOp gMinus (aUn gBits (aVar 5)) (aC (.int 1))))) (aNot (aTest (aCall 2 F__law_odds_right [] (aCons (aVar 1) (aCons (aVar 3) aNil)))))))) (aRet (aC (.bl false))) aNext)))))
  (aSeq (aAsg (aOp gMinus (aOp gShl (aC (.int 1)) (aC (.int 512))) (aC (.int 1))) (agName 8))
  (aSeq (aIfS (gcT (aTest (aOp gNe (aLst (aCons (aC (.int 512)) (aCons (aCall 1 F_is_polynomial [] (aCons (aVar 8) aNil)) (aCons (aCall 1 F_degree [] (aCons (aVar 8) aNil)) (aCons (aCall 2 F_added [] (aCons (aVar 8) (aCons (aVar 8) aNil))) aNil))))) (aLst (aCons (aC (.int 512)) (aCons (aC (.bl true)) (aCons (aC (.int 511)) (aCons (aC (.int 0)) aNil)))))))) (aRet (aC (.bl false))) aNext)
  (aRet (aOp gEq (aLst (aCons (aCall 2 F_multiplied [] (aCons (aC (.int 3)) (aCons (aC (.int 3)) aNil))) (aCons (aCall 2 F_multiplied [] (aCons (aC (.int 7)) (aCons (aC (.int 6)) aNil))) (aCons (aCall 2 F_multiplied [] (aCons (aOp gShl (aC (.int 1)) (aC (.int 511))) (aCons (aOp gShl (aC (.int 1)) (aC (.int 511))) aNil))) (aCons (aCall 1 F_degree [] (aCons (aC (.int 0)) aNil)) aNil))))) (aLst (aCons (aC (.int 5)) (aCons (aC (.int 18)) (aCons (aOp gShl (aC (.int 1)) (aC (.int 1022))) (aCons (aUn gNeg (aC (.int 1))) aNil)))))))))))
def F_law : List AV → Sto → Res AV := aDef 8 B_law
end
end Pf
set_option Elab.async false
set_option linter.all false
set_option maxRecDepth 100000
set_option maxHeartbeats 4000000
set_option exponentiation.threshold 3000
namespace Pf
open PySem PySem.Spec PyProof.Rows L2 Ab
def top (i : Nat) : Stmt := PySem.Challenge.pw_drawstate_k19_sums_and_products.main.body.getD i (.Pass ⟨0, 0, 0, 0⟩)
abbrev s_BadSteps___init__ : Stmt := inClass (top 2) 0
abbrev s_BadPolynomial___init__ : Stmt := inClass (top 3) 0
theorem sc_BadPolynomial___init__ : FnScope ["self", "given"] ["self", "given"] (C8.fnScope s_BadPolynomial___init__) := C8.fnScope_by (by decide +kernel)
abbrev s_BadDegree___init__ : Stmt := inClass (top 4) 0
abbrev s_BadBits___init__ : Stmt := inClass (top 5) 0
abbrev s_is_integer : Stmt := top 7
theorem sc_is_integer : FnScope ["value"] ["value"] (C8.fnScope s_is_integer) := C8.fnScope_by (by decide +kernel)
abbrev s_s3_is_whole : Stmt := top 10
theorem sc_s3_is_whole : FnScope ["value", "least", "most"] ["value", "least", "most"] (C8.fnScope s_s3_is_whole) := C8.fnScope_by (by decide +kernel)
abbrev s_is_polynomial : Stmt := top 11
theorem sc_is_polynomial : FnScope ["value"] ["value"] (C8.fnScope s_is_polynomial) := C8.fnScope_by (by decide +kernel)
abbrev s_s3_need : Stmt := top 12
theorem sc_s3_need : FnScope ["values", "value"] ["values"] (C8.fnScope s_s3_need) := C8.fnScope_by (by decide +kernel)
abbrev s_s3_product : Stmt := top 13
theorem sc_s3_product : FnScope ["first", "second", "found", "shifted", "rest"] ["first", "second"] (C8.fnScope s_s3_product) := C8.fnScope_by (by decide +kernel)
abbrev s_degree : Stmt := top 14
theorem sc_degree : FnScope ["number"] ["number"] (C8.fnScope s_degree) := C8.fnScope_by (by decide +kernel)
abbrev s_added : Stmt := top 15
theorem sc_added : FnScope ["first", "second"] ["first", "second"] (C8.fnScope s_added) := C8.fnScope_by (by decide +kernel)
abbrev s_multiplied : Stmt := top 16
theorem sc_multiplied : FnScope ["first", "second"] ["first", "second"] (C8.fnScope s_multiplied) := C8.fnScope_by (by decide +kernel)
abbrev s_s3_term : Stmt := top 17
theorem sc_s3_term : FnScope ["place"] ["place"] (C8.fnScope s_s3_term) := C8.fnScope_by (by decide +kernel)
abbrev s_polynomial_text : Stmt := top 18
theorem sc_polynomial_text : FnScope ["number", "places", "place"] ["number"] (C8.fnScope s_polynomial_text) := C8.fnScope_by (by decide +kernel)
abbrev s__law_begun : Stmt := top 20
theorem sc__law_begun : FnScope ["_law_script", "_law_blend", "_law_k", "_law_cell"] ["_law_script"] (C8.fnScope s__law_begun) := C8.fnScope_by (by decide +kernel)
abbrev s__law_next : Stmt := top 21
theorem sc__law_next : FnScope ["_law_draw", "_law_below", "_law_great", "_law_at", "_law_found", "_law_blend"] ["_law_draw", "_law_below"] (C8.fnScope s__law_next) := C8.fnScope_by (by decide +kernel)
abbrev s__law_fault : Stmt := top 23
theorem sc__law_fault : FnScope ["_law_call", "_law_caught", "_law_found", "e", "_law_words", "_law_some"] ["_law_call"] (C8.fnScope s__law_fault) := C8.fnScope_by (by decide +kernel)
abbrev s__law_places : Stmt := top 24
theorem sc__law_places : FnScope ["_law_n", "_law_found", "_law_at"] ["_law_n"] (C8.fnScope s__law_places) := C8.fnScope_by (by decide +kernel)
abbrev s__law_number : Stmt := top 25
theorem sc__law_number : FnScope ["_law_spots", "_law_found", "_law_at"] ["_law_spots"] (C8.fnScope s__law_number) := C8.fnScope_by (by decide +kernel)
abbrev s__law_times : Stmt := top 26
theorem sc__law_times : FnScope ["_law_a", "_law_b", "_law_found", "_law_at"] ["_law_a", "_law_b"] (C8.fnScope s__law_times) := C8.fnScope_by (by decide +kernel)
abbrev s__law_poly : Stmt := top 27
theorem sc__law_poly : FnScope ["_law_draw", "_law_many", "_law_way", "_law_turn"] ["_law_draw", "_law_many"] (C8.fnScope s__law_poly) := C8.fnScope_by (by decide +kernel)
abbrev s__law_odd : Stmt := top 28
theorem sc__law_odd : FnScope ["_law_draw", "_law_some"] ["_law_draw"] (C8.fnScope s__law_odd) := C8.fnScope_by (by decide +kernel)
abbrev s__law_text : Stmt := top 29
theorem sc__law_text : FnScope ["_law_a", "_law_found", "_law_at"] ["_law_a"] (C8.fnScope s__law_text) := C8.fnScope_by (by decide +kernel)
abbrev s__law_pair_right : Stmt := top 30
theorem sc__law_pair_right : FnScope ["_law_a", "_law_b", "_law_due", "_law_top"] ["_law_a", "_law_b"] (C8.fnScope s__law_pair_right) := C8.fnScope_by (by decide +kernel)
abbrev s__law_odds_right : Stmt := top 31
theorem sc__law_odds_right : FnScope ["_law_draw", "_law_a", "_law_odd_here", "_law_far", "_law_told"] ["_law_draw", "_law_a"] (C8.fnScope s__law_odds_right) := C8.fnScope_by (by decide +kernel)
abbrev s_law : Stmt := top 32
theorem sc_law : FnScope ["_law_script", "_law_draw", "_law_turn", "_law_a", "_law_b", "_law_c", "_law_wide", "_law_step", "_law_far"] ["_law_script"] (C8.fnScope s_law) := C8.fnScope_by (by decide +kernel)
structure Txt (K : PySem.W.Frag) (mg : Str → Option Value) (C_DrawError C_BadSteps C_BadPolynomial C_BadDegree C_BadBits CO__law_odds_right : Addr) : Prop where
  d_BadSteps___init__ : ∃ f fd, PySem.W.findIn K (.ref C_BadSteps) "__init__" = some (some (.ref f)) ∧ PySem.W.typeIn K (.ref f) = some (.type "function") ∧ C8.Fun K "__init__" "BadSteps.__init__" s_BadSteps___init__ f fd ∧ Binds K fd ["self", "given"] []
  d_BadPolynomial___init__ : ∃ f fd, PySem.W.findIn K (.ref C_BadPolynomial) "__init__" = some (some (.ref f)) ∧ PySem.W.typeIn K (.ref f) = some (.type "function") ∧ C8.Fun K "__init__" "BadPolynomial.__init__" s_BadPolynomial___init__ f fd ∧ Binds K fd ["self", "given"] []
  d_BadDegree___init__ : ∃ f fd, PySem.W.findIn K (.ref C_BadDegree) "__init__" = some (some (.ref f)) ∧ PySem.W.typeIn K (.ref f) = some (.type "function") ∧ C8.Fun K "__init__" "BadDegree.__init__" s_BadDegree___init__ f fd ∧ Binds K fd ["self", "given"] []
  d_BadBits___init__ : ∃ f fd, PySem.W.findIn K (.ref C_BadBits) "__init__" = some (some (.ref f)) ∧ PySem.W.typeIn K (.ref f) = some (.type "function") ∧ C8.Fun K "__init__" "BadBits.__init__" s_BadBits___init__ f fd ∧ Binds K fd ["self", "given"] []
  d_is_integer : ∃ f fd, C8.Def K mg "is_integer" s_is_integer f fd ∧ Binds K fd ["value"] []
  d_s3_is_whole : ∃ f fd, C8.Def K mg "s3_is_whole" s_s3_is_whole f fd ∧ Binds K fd ["value", "least", "most"] []
  d_is_polynomial : ∃ f fd, C8.Def K mg "is_polynomial" s_is_polynomial f fd ∧ Binds K fd ["value"] []
  dk_is_polynomial_k0_value : ∃ f fd, C8.Def K mg "is_polynomial" s_is_polynomial f fd ∧ Kw.BindsK K fd ["value"] 0 ["value"] [0]
  d_s3_need : ∃ f fd, C8.Def K mg "s3_need" s_s3_need f fd ∧ Gx.StarB fd "values"
  d_s3_product : ∃ f fd, C8.Def K mg "s3_product" s_s3_product f fd ∧ Binds K fd ["first", "second"] []
  d_degree : ∃ f fd, C8.Def K mg "degree" s_degree f fd ∧ Binds K fd ["number"] []
  dk_degree_k0_number : ∃ f fd, C8.Def K mg "degree" s_degree f fd ∧ Kw.BindsK K fd ["number"] 0 ["number"] [0]
  d_added : ∃ f fd, C8.Def K mg "added" s_added f fd ∧ Binds K fd ["first", "second"] []
  dk_added_k0_second_first : ∃ f fd, C8.Def K mg "added" s_added f fd ∧ Kw.BindsK K fd ["first", "second"] 0 ["second", "first"] [1, 0]
  d_multiplied : ∃ f fd, C8.Def K mg "multiplied" s_multiplied f fd ∧ Binds K fd ["first", "second"] []
  dk_multiplied_k0_second_first : ∃ f fd, C8.Def K mg "multiplied" s_multiplied f fd ∧ Kw.BindsK K fd ["first", "second"] 0 ["second", "first"] [1, 0]
  d_s3_term : ∃ f fd, C8.Def K mg "s3_term" s_s3_term f fd ∧ Binds K fd ["place"] []
  d_polynomial_text : ∃ f fd, C8.Def K mg "polynomial_text" s_polynomial_text f fd ∧ Binds K fd ["number"] []
  dk_polynomial_text_k0_number : ∃ f fd, C8.Def K mg "polynomial_text" s_polynomial_text f fd ∧ Kw.BindsK K fd ["number"] 0 ["number"] [0]
  d__law_begun : ∃ f fd, C8.Def K mg "_law_begun" s__law_begun f fd ∧ Binds K fd ["_law_script"] []
  d__law_next : ∃ f fd, C8.Def K mg "_law_next" s__law_next f fd ∧ Binds K fd ["_law_draw", "_law_below"] []
  d__law_fault : ∃ f fd, C8.Def K mg "_law_fault" s__law_fault f fd ∧ Binds K fd ["_law_call"] []
  d__law_places : ∃ f fd, C8.Def K mg "_law_places" s__law_places f fd ∧ Binds K fd ["_law_n"] []
  d__law_number : ∃ f fd, C8.Def K mg "_law_number" s__law_number f fd ∧ Binds K fd ["_law_spots"] []
  d__law_times : ∃ f fd, C8.Def K mg "_law_times" s__law_times f fd ∧ Binds K fd ["_law_a", "_law_b"] []
  d__law_poly : ∃ f fd, C8.Def K mg "_law_poly" s__law_poly f fd ∧ Binds K fd ["_law_draw", "_law_many"] []
  d__law_odd : ∃ f fd, C8.Def K mg "_law_odd" s__law_odd f fd ∧ Binds K fd ["_law_draw"] []
  d__law_text : ∃ f fd, C8.Def K mg "_law_text" s__law_text f fd ∧ Binds K fd ["_law_a"] []
  d__law_pair_right : ∃ f fd, C8.Def K mg "_law_pair_right" s__law_pair_right f fd ∧ Binds K fd ["_law_a", "_law_b"] []
  d__law_odds_right : ∃ f fd, Gx.LamDef K mg "_law_odds_right" s__law_odds_right f CO__law_odds_right fd ∧ Binds K fd ["_law_draw", "_law_a"] []
  d_law : ∃ f fd, C8.Def K mg "law" s_law f fd ∧ Binds K fd ["_law_script"] [] ∧ ∀ (s : Shared) (v : Value), BindsTo s fd ⟨[v], []⟩ [("_law_script", v)]
  c_MOST_DIGITS : ∃ u, mg "MOST_DIGITS" = some u ∧ RelV (.int 512) u
  k_DrawError : ∃ u, mg "DrawError" = some u ∧ RelV (.ref C_DrawError) u
  g_DrawError : mg "DrawError" = some (.ref C_DrawError)
  r_DrawError : ClX.CRead K C_DrawError (.type "type")
  i_DrawError : PySem.W.findCls K (.ref C_DrawError) (.type "type") "__init__" = some (.val (.builtin "ValueError.__init__"))
  mm_DrawError : ∀ {cls : Value} {b : Bool}, PySem.W.subIn K cls (.ref C_DrawError) = some b → PySem.W.exmOne K cls (.ref C_DrawError) = some b
  e_BadSteps : ExcC K C_BadSteps
  s_BadSteps_DrawError : PySem.W.subIn K (.ref C_BadSteps) (.ref C_DrawError) = some true
  e_BadPolynomial : ExcC K C_BadPolynomial
  s_BadPolynomial_DrawError : PySem.W.subIn K (.ref C_BadPolynomial) (.ref C_DrawError) = some true
  e_BadDegree : ExcC K C_BadDegree
  s_BadDegree_DrawError : PySem.W.subIn K (.ref C_BadDegree) (.ref C_DrawError) = some true
  e_BadBits : ExcC K C_BadBits
  s_BadBits_DrawError : PySem.W.subIn K (.ref C_BadBits) (.ref C_DrawError) = some true
  k_BadSteps : ∃ u, mg "BadSteps" = some u ∧ RelV (.ref C_BadSteps) u
  g_BadSteps : mg "BadSteps" = some (.ref C_BadSteps)
  y_BadSteps : Gx.YexC K C_BadSteps "ValueError.__init__"
  f_BadSteps : XfC K C_BadSteps
  n_BadSteps_given : PySem.W.findIn K (.ref C_BadSteps) "given" = some none
  t_BadSteps_given : PySem.W.takerIn K C_BadSteps "given" = some none
  m_BadSteps : PySem.W.exmOne K (.ref C_BadSteps) (.ref C_BadSteps) = some true
  k_BadPolynomial : ∃ u, mg "BadPolynomial" = some u ∧ RelV (.ref C_BadPolynomial) u
  g_BadPolynomial : mg "BadPolynomial" = some (.ref C_BadPolynomial)
  y_BadPolynomial : Gx.YexC K C_BadPolynomial "ValueError.__init__"
  f_BadPolynomial : XfC K C_BadPolynomial
  n_BadPolynomial_given : PySem.W.findIn K (.ref C_BadPolynomial) "given" = some none
  t_BadPolynomial_given : PySem.W.takerIn K C_BadPolynomial "given" = some none
  m_BadPolynomial : PySem.W.exmOne K (.ref C_BadPolynomial) (.ref C_BadPolynomial) = some true
  k_BadDegree : ∃ u, mg "BadDegree" = some u ∧ RelV (.ref C_BadDegree) u
  g_BadDegree : mg "BadDegree" = some (.ref C_BadDegree)
  y_BadDegree : Gx.YexC K C_BadDegree "ValueError.__init__"
  f_BadDegree : XfC K C_BadDegree
  n_BadDegree_given : PySem.W.findIn K (.ref C_BadDegree) "given" = some none
  t_BadDegree_given : PySem.W.takerIn K C_BadDegree "given" = some none
  m_BadDegree : PySem.W.exmOne K (.ref C_BadDegree) (.ref C_BadDegree) = some true
  k_BadBits : ∃ u, mg "BadBits" = some u ∧ RelV (.ref C_BadBits) u
  g_BadBits : mg "BadBits" = some (.ref C_BadBits)
  y_BadBits : Gx.YexC K C_BadBits "ValueError.__init__"
  f_BadBits : XfC K C_BadBits
  n_BadBits_given : PySem.W.findIn K (.ref C_BadBits) "given" = some none
  t_BadBits_given : PySem.W.takerIn K C_BadBits "given" = some none
  m_BadBits : PySem.W.exmOne K (.ref C_BadBits) (.ref C_BadBits) = some true
  b_ValueError : mg "ValueError" = none
  b_bool : mg "bool" = none
  b_enumerate : mg "enumerate" = none
  b_int : mg "int" = none
  b_isinstance : mg "isinstance" = none
  b_len : mg "len" = none
  b_max : mg "max" = none
  b_min : mg "min" = none
  b_range : mg "range" = none
  b_repr : mg "repr" = none
  b_str : mg "str" = none
  kt_BadSteps_int : PySem.W.kitOne K (.ref C_BadSteps) (.type "int") = some false
  kt_BadPolynomial_int : PySem.W.kitOne K (.ref C_BadPolynomial) (.type "int") = some false
  kt_BadDegree_int : PySem.W.kitOne K (.ref C_BadDegree) (.type "int") = some false
  kt_BadBits_int : PySem.W.kitOne K (.ref C_BadBits) (.type "int") = some false
  kt_BadSteps_bool : PySem.W.kitOne K (.ref C_BadSteps) (.type "bool") = some false
  kt_BadPolynomial_bool : PySem.W.kitOne K (.ref C_BadPolynomial) (.type "bool") = some false
  kt_BadDegree_bool : PySem.W.kitOne K (.ref C_BadDegree) (.type "bool") = some false
  kt_BadBits_bool : PySem.W.kitOne K (.ref C_BadBits) (.type "bool") = some false
  kt_NoneType_BadPolynomial : PySem.W.kitOne K (.type "NoneType") (.ref C_BadPolynomial) = some false
  kt_bool_BadPolynomial : PySem.W.kitOne K (.type "bool") (.ref C_BadPolynomial) = some false
  kt_int_BadPolynomial : PySem.W.kitOne K (.type "int") (.ref C_BadPolynomial) = some false
  kt_str_BadPolynomial : PySem.W.kitOne K (.type "str") (.ref C_BadPolynomial) = some false
  kt_tuple_BadPolynomial : PySem.W.kitOne K (.type "tuple") (.ref C_BadPolynomial) = some false
  kt_list_BadPolynomial : PySem.W.kitOne K (.type "list") (.ref C_BadPolynomial) = some false
  kt_dict_BadPolynomial : PySem.W.kitOne K (.type "dict") (.ref C_BadPolynomial) = some false
  kt_BadSteps_BadPolynomial : PySem.W.kitOne K (.ref C_BadSteps) (.ref C_BadPolynomial) = some false
  kt_BadDegree_BadPolynomial : PySem.W.kitOne K (.ref C_BadDegree) (.ref C_BadPolynomial) = some false
  kt_BadBits_BadPolynomial : PySem.W.kitOne K (.ref C_BadBits) (.ref C_BadPolynomial) = some false
  kt_NoneType_BadDegree : PySem.W.kitOne K (.type "NoneType") (.ref C_BadDegree) = some false
  kt_bool_BadDegree : PySem.W.kitOne K (.type "bool") (.ref C_BadDegree) = some false
  kt_int_BadDegree : PySem.W.kitOne K (.type "int") (.ref C_BadDegree) = some false
  kt_str_BadDegree : PySem.W.kitOne K (.type "str") (.ref C_BadDegree) = some false
  kt_tuple_BadDegree : PySem.W.kitOne K (.type "tuple") (.ref C_BadDegree) = some false
  kt_list_BadDegree : PySem.W.kitOne K (.type "list") (.ref C_BadDegree) = some false
  kt_dict_BadDegree : PySem.W.kitOne K (.type "dict") (.ref C_BadDegree) = some false
  kt_BadSteps_BadDegree : PySem.W.kitOne K (.ref C_BadSteps) (.ref C_BadDegree) = some false
  kt_BadPolynomial_BadDegree : PySem.W.kitOne K (.ref C_BadPolynomial) (.ref C_BadDegree) = some false
  kt_BadBits_BadDegree : PySem.W.kitOne K (.ref C_BadBits) (.ref C_BadDegree) = some false
  kt_NoneType_BadBits : PySem.W.kitOne K (.type "NoneType") (.ref C_BadBits) = some false
  kt_bool_BadBits : PySem.W.kitOne K (.type "bool") (.ref C_BadBits) = some false
  kt_int_BadBits : PySem.W.kitOne K (.type "int") (.ref C_BadBits) = some false
  kt_str_BadBits : PySem.W.kitOne K (.type "str") (.ref C_BadBits) = some false
  kt_tuple_BadBits : PySem.W.kitOne K (.type "tuple") (.ref C_BadBits) = some false
  kt_list_BadBits : PySem.W.kitOne K (.type "list") (.ref C_BadBits) = some false
  kt_dict_BadBits : PySem.W.kitOne K (.type "dict") (.ref C_BadBits) = some false
  kt_BadSteps_BadBits : PySem.W.kitOne K (.ref C_BadSteps) (.ref C_BadBits) = some false
  kt_BadPolynomial_BadBits : PySem.W.kitOne K (.ref C_BadPolynomial) (.ref C_BadBits) = some false
  kt_BadDegree_BadBits : PySem.W.kitOne K (.ref C_BadDegree) (.ref C_BadBits) = some false
  kt_NoneType_BadSteps : PySem.W.kitOne K (.type "NoneType") (.ref C_BadSteps) = some false
  kt_bool_BadSteps : PySem.W.kitOne K (.type "bool") (.ref C_BadSteps) = some false
  kt_int_BadSteps : PySem.W.kitOne K (.type "int") (.ref C_BadSteps) = some false
  kt_str_BadSteps : PySem.W.kitOne K (.type "str") (.ref C_BadSteps) = some false
  kt_tuple_BadSteps : PySem.W.kitOne K (.type "tuple") (.ref C_BadSteps) = some false
  kt_list_BadSteps : PySem.W.kitOne K (.type "list") (.ref C_BadSteps) = some false
  kt_dict_BadSteps : PySem.W.kitOne K (.type "dict") (.ref C_BadSteps) = some false
  kt_BadPolynomial_BadSteps : PySem.W.kitOne K (.ref C_BadPolynomial) (.ref C_BadSteps) = some false
  kt_BadDegree_BadSteps : PySem.W.kitOne K (.ref C_BadDegree) (.ref C_BadSteps) = some false
  kt_BadBits_BadSteps : PySem.W.kitOne K (.ref C_BadBits) (.ref C_BadSteps) = some false
  kt_BadSteps_ValueError : PySem.W.kitOne K (.ref C_BadSteps) (.type "ValueError") = some true
  kt_BadPolynomial_ValueError : PySem.W.kitOne K (.ref C_BadPolynomial) (.type "ValueError") = some true
  kt_BadDegree_ValueError : PySem.W.kitOne K (.ref C_BadDegree) (.type "ValueError") = some true
  kt_BadBits_ValueError : PySem.W.kitOne K (.ref C_BadBits) (.type "ValueError") = some true
abbrev Wk (K : PySem.W.Frag) (κ : String → Addr) (TA__law_odds_right : Addr) : Wl := { K := K, κ := κ, T := [(TA__law_odds_right, "_law_odds_right.<locals>.<lambda>")], live := [], xlive := ["BadSteps", "BadPolynomial", "BadDegree", "BadBits"], inv := fun _ => True, cl := fun _ _ _ _ => trivial }
section
variable {P : Program} {w : World} {K : PySem.W.Frag} {mg : Str → Option Value} {base : Heap} {κ : String → Addr} {CO__law_odds_right TA__law_odds_right : Addr}
theorem kit_int (T : Txt K mg (κ "DrawError") (κ "BadSteps") (κ "BadPolynomial") (κ "BadDegree") (κ "BadBits") CO__law_odds_right) : KitOk (Wk K κ TA__law_odds_right) (kitB "int") := kitOk_of (.cons (kitE (show kitP "NoneType" "int" = some false by decide) (if_pos (by decide)) (if_pos (by decide)) Sx.kb_NoneType_int) (.cons (kitE (show kitP "bool" "int" = some true by decide) (if_pos (by decide)) (if_pos (by decide)) Sx.kb_bool_int) (.cons (kitE (show kitP "int" "int" = some true by decide) (if_pos (by decide)) (if_pos (by decide)) Sx.kb_int_int) (.cons (kitE (show kitP "str" "int" = some false by decide) (if_pos (by decide)) (if_pos (by decide)) Sx.kb_str_int) (.cons (kitE (show kitP "tuple" "int" = some false by decide) (if_pos (by decide)) (if_pos (by decide)) Sx.kb_tuple_int) (.cons (kitE (show kitP "list" "int" = some false by decide) (if_pos (by decide)) (if_pos (by decide)) Sx.kb_list_int) (.cons (kitE (show kitP "dict" "int" = some false by decide) (if_pos (by decide)) (if_pos (by decide)) Sx.kb_dict_int) .nil))))))) .nil (.cons (kitE (show kitP "BadSteps" "int" = some false by decide) (if_neg (by decide)) (if_pos (by decide)) T.kt_BadSteps_int) (.cons (kitE (show kitP "BadPolynomial" "int" = some false by decide) (if_neg (by decide)) (if_pos (by decide)) T.kt_BadPolynomial_int) (.cons (kitE (show kitP "BadDegree" "int" = some false by decide) (if_neg (by decide)) (if_pos (by decide)) T.kt_BadDegree_int) (.cons (kitE (show kitP "BadBits" "int" = some false by decide) (if_neg (by decide)) (if_pos (by decide)) T.kt_BadBits_int) .nil)))) .nil (.cons ⟨by decide, T.e_BadSteps⟩ (.cons ⟨by decide, T.e_BadPolynomial⟩ (.cons ⟨by decide, T.e_BadDegree⟩ (.cons ⟨by decide, T.e_BadBits⟩ .nil))))
theorem kit_bool (T : Txt K mg (κ "DrawError") (κ "BadSteps") (κ "BadPolynomial") (κ "BadDegree") (κ "BadBits") CO__law_odds_right) : KitOk (Wk K κ TA__law_odds_right) (kitB "bool") := kitOk_of (.cons (kitE (show kitP "NoneType" "bool" = some false by decide) (if_pos (by decide)) (if_pos (by decide)) Sx.kb_NoneType_bool) (.cons (kitE (show kitP "bool" "bool" = some true by decide) (if_pos (by decide)) (if_pos (by decide)) Sx.kb_bool_bool) (.cons (kitE (show kitP "int" "bool" = some false by decide) (if_pos (by decide)) (if_pos (by decide)) Sx.kb_int_bool) (.cons (kitE (show kitP "str" "bool" = some false by decide) (if_pos (by decide)) (if_pos (by decide)) Sx.kb_str_bool) (.cons (kitE (show kitP "tuple" "bool" = some false by decide) (if_pos (by decide)) (if_pos (by decide)) Sx.kb_tuple_bool) (.cons (kitE (show kitP "list" "bool" = some false by decide) (if_pos (by decide)) (if_pos (by decide)) Sx.kb_list_bool) (.cons (kitE (show kitP "dict" "bool" = some false by decide) (if_pos (by decide)) (if_pos (by decide)) Sx.kb_dict_bool) .nil))))))) .nil (.cons (kitE (show kitP "BadSteps" "bool" = some false by decide) (if_neg (by decide)) (if_pos (by decide)) T.kt_BadSteps_bool) (.cons (kitE (show kitP "BadPolynomial" "bool" = some false by decide) (if_neg (by decide)) (if_pos (by decide)) T.kt_BadPolynomial_bool) (.cons (kitE (show kitP "BadDegree" "bool" = some false by decide) (if_neg (by decide)) (if_pos (by decide)) T.kt_BadDegree_bool) (.cons (kitE (show kitP "BadBits" "bool" = some false by decide) (if_neg (by decide)) (if_pos (by decide)) T.kt_BadBits_bool) .nil)))) .nil (.cons ⟨by decide, T.e_BadSteps⟩ (.cons ⟨by decide, T.e_BadPolynomial⟩ (.cons ⟨by decide, T.e_BadDegree⟩ (.cons ⟨by decide, T.e_BadBits⟩ .nil))))
theorem kit_BadPolynomial (T : Txt K mg (κ "DrawError") (κ "BadSteps") (κ "BadPolynomial") (κ "BadDegree") (κ "BadBits") CO__law_odds_right) : KitOk (Wk K κ TA__law_odds_right) (kitB "BadPolynomial") := kitOk_of (.cons (kitE (show kitP "NoneType" "BadPolynomial" = some false by decide) (if_pos (by decide)) (if_neg (by decide)) T.kt_NoneType_BadPolynomial) (.cons (kitE (show kitP "bool" "BadPolynomial" = some false by decide) (if_pos (by decide)) (if_neg (by decide)) T.kt_bool_BadPolynomial) (.cons (kitE (show kitP "int" "BadPolynomial" = some false by decide) (if_pos (by decide)) (if_neg (by decide)) T.kt_int_BadPolynomial) (.cons (kitE (show kitP "str" "BadPolynomial" = some false by decide) (if_pos (by decide)) (if_neg (by decide)) T.kt_str_BadPolynomial) (.cons (kitE (show kitP "tuple" "BadPolynomial" = some false by decide) (if_pos (by decide)) (if_neg (by decide)) T.kt_tuple_BadPolynomial) (.cons (kitE (show kitP "list" "BadPolynomial" = some false by decide) (if_pos (by decide)) (if_neg (by decide)) T.kt_list_BadPolynomial) (.cons (kitE (show kitP "dict" "BadPolynomial" = some false by decide) (if_pos (by decide)) (if_neg (by decide)) T.kt_dict_BadPolynomial) .nil))))))) .nil (.cons (kitE (show kitP "BadSteps" "BadPolynomial" = some false by decide) (if_neg (by decide)) (if_neg (by decide)) T.kt_BadSteps_BadPolynomial) (.cons (kitE (show kitP "BadPolynomial" "BadPolynomial" = some true by decide) (if_neg (by decide)) (if_neg (by decide)) (Rd.kit_self K (κ "BadPolynomial"))) (.cons (kitE (show kitP "BadDegree" "BadPolynomial" = some false by decide) (if_neg (by decide)) (if_neg (by decide)) T.kt_BadDegree_BadPolynomial) (.cons (kitE (show kitP "BadBits" "BadPolynomial" = some false by decide) (if_neg (by decide)) (if_neg (by decide)) T.kt_BadBits_BadPolynomial) .nil)))) .nil (.cons ⟨by decide, T.e_BadSteps⟩ (.cons ⟨by decide, T.e_BadPolynomial⟩ (.cons ⟨by decide, T.e_BadDegree⟩ (.cons ⟨by decide, T.e_BadBits⟩ .nil))))
theorem kit_BadDegree (T : Txt K mg (κ "DrawError") (κ "BadSteps") (κ "BadPolynomial") (κ "BadDegree") (κ "BadBits") CO__law_odds_right) : KitOk (Wk K κ TA__law_odds_right) (kitB "BadDegree") := kitOk_of (.cons (kitE (show kitP "NoneType" "BadDegree" = some false by decide) (if_pos (by decide)) (if_neg (by decide)) T.kt_NoneType_BadDegree) (.cons (kitE (show kitP "bool" "BadDegree" = some false by decide) (if_pos (by decide)) (if_neg (by decide)) T.kt_bool_BadDegree) (.cons (kitE (show kitP "int" "BadDegree" = some false by decide) (if_pos (by decide)) (if_neg (by decide)) T.kt_int_BadDegree) (.cons (kitE (show kitP "str" "BadDegree" = some false by decide) (if_pos (by decide)) (if_neg (by decide)) T.kt_str_BadDegree) (.cons (kitE (show kitP "tuple" "BadDegree" = some false by decide) (if_pos (by decide)) (if_neg (by decide)) T.kt_tuple_BadDegree) (.cons (kitE (show kitP "list" "BadDegree" = some false by decide) (if_pos (by decide)) (if_neg (by decide)) T.kt_list_BadDegree) (.cons (kitE (show kitP "dict" "BadDegree" = some false by decide) (if_pos (by decide)) (if_neg (by decide)) T.kt_dict_BadDegree) .nil))))))) .nil (.cons (kitE (show kitP "BadSteps" "BadDegree" = some false by decide) (if_neg (by decide)) (if_neg (by decide)) T.kt_BadSteps_BadDegree) (.cons (kitE (show kitP "BadPolynomial" "BadDegree" = some false by decide) (if_neg (by decide)) (if_neg (by decide)) T.kt_BadPolynomial_BadDegree) (.cons (kitE (show kitP "BadDegree" "BadDegree" = some true by decide) (if_neg (by decide)) (if_neg (by decide)) (Rd.kit_self K (κ "BadDegree"))) (.cons (kitE (show kitP "BadBits" "BadDegree" = some false by decide) (if_neg (by decide)) (if_neg (by decide)) T.kt_BadBits_BadDegree) .nil)))) .nil (.cons ⟨by decide, T.e_BadSteps⟩ (.cons ⟨by decide, T.e_BadPolynomial⟩ (.cons ⟨by decide, T.e_BadDegree⟩ (.cons ⟨by decide, T.e_BadBits⟩ .nil))))
theorem kit_BadBits (T : Txt K mg (κ "DrawError") (κ "BadSteps") (κ "BadPolynomial") (κ "BadDegree") (κ "BadBits") CO__law_odds_right) : KitOk (Wk K κ TA__law_odds_right) (kitB "BadBits") := kitOk_of (.cons (kitE (show kitP "NoneType" "BadBits" = some false by decide) (if_pos (by decide)) (if_neg (by decide)) T.kt_NoneType_BadBits) (.cons (kitE (show kitP "bool" "BadBits" = some false by decide) (if_pos (by decide)) (if_neg (by decide)) T.kt_bool_BadBits) (.cons (kitE (show kitP "int" "BadBits" = some false by decide) (if_pos (by decide)) (if_neg (by decide)) T.kt_int_BadBits) (.cons (kitE (show kitP "str" "BadBits" = some false by decide) (if_pos (by decide)) (if_neg (by decide)) T.kt_str_BadBits) (.cons (kitE (show kitP "tuple" "BadBits" = some false by decide) (if_pos (by decide)) (if_neg (by decide)) T.kt_tuple_BadBits) (.cons (kitE (show kitP "list" "BadBits" = some false by decide) (if_pos (by decide)) (if_neg (by decide)) T.kt_list_BadBits) (.cons (kitE (show kitP "dict" "BadBits" = some false by decide) (if_pos (by decide)) (if_neg (by decide)) T.kt_dict_BadBits) .nil))))))) .nil (.cons (kitE (show kitP "BadSteps" "BadBits" = some false by decide) (if_neg (by decide)) (if_neg (by decide)) T.kt_BadSteps_BadBits) (.cons (kitE (show kitP "BadPolynomial" "BadBits" = some false by decide) (if_neg (by decide)) (if_neg (by decide)) T.kt_BadPolynomial_BadBits) (.cons (kitE (show kitP "BadDegree" "BadBits" = some false by decide) (if_neg (by decide)) (if_neg (by decide)) T.kt_BadDegree_BadBits) (.cons (kitE (show kitP "BadBits" "BadBits" = some true by decide) (if_neg (by decide)) (if_neg (by decide)) (Rd.kit_self K (κ "BadBits"))) .nil)))) .nil (.cons ⟨by decide, T.e_BadSteps⟩ (.cons ⟨by decide, T.e_BadPolynomial⟩ (.cons ⟨by decide, T.e_BadDegree⟩ (.cons ⟨by decide, T.e_BadBits⟩ .nil))))
theorem kit_BadSteps (T : Txt K mg (κ "DrawError") (κ "BadSteps") (κ "BadPolynomial") (κ "BadDegree") (κ "BadBits") CO__law_odds_right) : KitOk (Wk K κ TA__law_odds_right) (kitB "BadSteps") := kitOk_of (.cons (kitE (show kitP "NoneType" "BadSteps" = some false by decide) (if_pos (by decide)) (if_neg (by decide)) T.kt_NoneType_BadSteps) (.cons (kitE (show kitP "bool" "BadSteps" = some false by decide) (if_pos (by decide)) (if_neg (by decide)) T.kt_bool_BadSteps) (.cons (kitE (show kitP "int" "BadSteps" = some false by decide) (if_pos (by decide)) (if_neg (by decide)) T.kt_int_BadSteps) (.cons (kitE (show kitP "str" "BadSteps" = some false by decide) (if_pos (by decide)) (if_neg (by decide)) T.kt_str_BadSteps) (.cons (kitE (show kitP "tuple" "BadSteps" = some false by decide) (if_pos (by decide)) (if_neg (by decide)) T.kt_tuple_BadSteps) (.cons (kitE (show kitP "list" "BadSteps" = some false by decide) (if_pos (by decide)) (if_neg (by decide)) T.kt_list_BadSteps) (.cons (kitE (show kitP "dict" "BadSteps" = some false by decide) (if_pos (by decide)) (if_neg (by decide)) T.kt_dict_BadSteps) .nil))))))) .nil (.cons (kitE (show kitP "BadSteps" "BadSteps" = some true by decide) (if_neg (by decide)) (if_neg (by decide)) (Rd.kit_self K (κ "BadSteps"))) (.cons (kitE (show kitP "BadPolynomial" "BadSteps" = some false by decide) (if_neg (by decide)) (if_neg (by decide)) T.kt_BadPolynomial_BadSteps) (.cons (kitE (show kitP "BadDegree" "BadSteps" = some false by decide) (if_neg (by decide)) (if_neg (by decide)) T.kt_BadDegree_BadSteps) (.cons (kitE (show kitP "BadBits" "BadSteps" = some false by decide) (if_neg (by decide)) (if_neg (by decide)) T.kt_BadBits_BadSteps) .nil)))) .nil (.cons ⟨by decide, T.e_BadSteps⟩ (.cons ⟨by decide, T.e_BadPolynomial⟩ (.cons ⟨by decide, T.e_BadDegree⟩ (.cons ⟨by decide, T.e_BadBits⟩ .nil))))
theorem kitb_ValueError (T : Txt K mg (κ "DrawError") (κ "BadSteps") (κ "BadPolynomial") (κ "BadDegree") (κ "BadBits") CO__law_odds_right) : KitXB (Wk K κ TA__law_odds_right) "ValueError" := kitXB_of (.cons ⟨T.e_BadSteps, (show PySem.W.kitOne K (.ref (κ "BadSteps")) (.type "ValueError") = some (decide ("ValueError" ∈ anc "BadSteps")) by rw [show decide ("ValueError" ∈ anc "BadSteps") = true by decide]; exact T.kt_BadSteps_ValueError)⟩ (.cons ⟨T.e_BadPolynomial, (show PySem.W.kitOne K (.ref (κ "BadPolynomial")) (.type "ValueError") = some (decide ("ValueError" ∈ anc "BadPolynomial")) by rw [show decide ("ValueError" ∈ anc "BadPolynomial") = true by decide]; exact T.kt_BadPolynomial_ValueError)⟩ (.cons ⟨T.e_BadDegree, (show PySem.W.kitOne K (.ref (κ "BadDegree")) (.type "ValueError") = some (decide ("ValueError" ∈ anc "BadDegree")) by rw [show decide ("ValueError" ∈ anc "BadDegree") = true by decide]; exact T.kt_BadDegree_ValueError)⟩ (.cons ⟨T.e_BadBits, (show PySem.W.kitOne K (.ref (κ "BadBits")) (.type "ValueError") = some (decide ("ValueError" ∈ anc "BadBits")) by rw [show decide ("ValueError" ∈ anc "BadBits") = true by decide]; exact T.kt_BadBits_ValueError)⟩ .nil))))
theorem exm_DrawError (T : Txt K mg (κ "DrawError") (κ "BadSteps") (κ "BadPolynomial") (κ "BadDegree") (κ "BadBits") CO__law_odds_right) : ExOk (Wk K κ TA__law_odds_right) "DrawError" := exOk_of (.cons (exE (t := true) (by decide) (T.mm_DrawError T.s_BadSteps_DrawError)) (.cons (exE (t := true) (by decide) (T.mm_DrawError T.s_BadPolynomial_DrawError)) (.cons (exE (t := true) (by decide) (T.mm_DrawError T.s_BadDegree_DrawError)) (.cons (exE (t := true) (by decide) (T.mm_DrawError T.s_BadBits_DrawError)) .nil))))
theorem exc_BadPolynomial (T : Txt K mg (κ "DrawError") (κ "BadSteps") (κ "BadPolynomial") (κ "BadDegree") (κ "BadBits") CO__law_odds_right) : Gx.ExcMkY P w K mg base 1 "BadPolynomial" (κ "BadPolynomial") "given" := by
  obtain ⟨f, fd, hi, ht, F, b⟩ := T.d_BadPolynomial___init__
  refine ⟨f, fd, _, _, T.y_BadPolynomial, hi, ht, C8.fn0 F sc_BadPolynomial___init__ (fun vs H Q E h => ?_) (fun cdv A outer s H vs Q E hr h => ?_), b, T.g_BadPolynomial⟩
  · obtain ⟨p, v, rfl, _⟩ := h; rfl
  · obtain ⟨p, v, rfl, hp, q⟩ := h
    refine ⟨_, (pss_cons (ps_expr (Gx.pe_bi (by rfl) T.g_DrawError T.r_DrawError T.i_DrawError (by decide +kernel) (pa_cons (pv 0) (pa_cons pe_str pa_nil)))) (pss_one (Gx.ps_ostY (initId := "ValueError.__init__") (pv 0) (pv 1)))), ?_⟩
    exact ⟨_, rfl, p, (κ "BadPolynomial"), [.str "not an allowed polynomial"], rfl, Nat.le_of_ble_eq_true rfl, T.y_BadPolynomial, hp, _, rfl, _, rfl, p, (κ "BadPolynomial"), rfl, T.y_BadPolynomial, T.t_BadPolynomial_given, hp, q⟩
theorem calx_is_integer (T : Txt K mg (κ "DrawError") (κ "BadSteps") (κ "BadPolynomial") (κ "BadDegree") (κ "BadBits") CO__law_odds_right) : Gx.CalX P w K mg base 1 "is_integer" (spF (Wk K κ TA__law_odds_right) 1 F_is_integer) := by
  obtain ⟨f, fd, F, b⟩ := T.d_is_integer
  refine Gx.calX F b sc_is_integer (fun vs H Q E h => spF.len h) (fun cdv A outer s H vs Q E hr h => ?_)
  have hu := hu_of hr
  have hu64 := hr.units
  have hu65 := Ab.u65 hr
  exact ⟨_, (pss_one (ps_ret (pe_and (pe_callB (show CallR _ _ (Ab.rIsiU K) by exact Ab.call_isiU) (by rfl) T.b_isinstance (by decide +kernel) (pa_cons (pv 0) (pa_cons (pe_bltn (v := .ty "int") (by rfl) T.b_int (by decide +kernel) rfl) pa_nil))) (pe_one (pe_not (pe_callB (show CallR _ _ (Ab.rIsiU K) by exact Ab.call_isiU) (by rfl) T.b_isinstance (by decide +kernel) (pa_cons (pv 0) (pa_cons (pe_bltn (v := .ty "bool") (by rfl) T.b_bool (by decide +kernel) rfl) pa_nil)))))))), Ab.DS.dfn (spF_gc h) rfl (DS.ret (DE.andV (DE.cb (DB.isi (kit_int T)) (DA.cons DE.var (DA.cons (DE.c fun _ => .ty _) DA.nil)) NEL.isi) (DE.notV (DE.cb (DB.isi (kit_bool T)) (DA.cons DE.var (DA.cons (DE.c fun _ => .ty _) DA.nil)) NEL.isi))))⟩
theorem calx_s3_product (T : Txt K mg (κ "DrawError") (κ "BadSteps") (κ "BadPolynomial") (κ "BadDegree") (κ "BadBits") CO__law_odds_right) : Gx.CalX P w K mg base 1 "s3_product" (spF (Wk K κ TA__law_odds_right) 2 F_s3_product) := by
  obtain ⟨f, fd, F, b⟩ := T.d_s3_product
  refine Gx.calX F b sc_s3_product (fun vs H Q E h => spF.len h) (fun cdv A outer s H vs Q E hr h => ?_)
  have hu := hu_of hr
  have hu64 := hr.units
  have hu65 := Ab.u65 hr
  exact ⟨_, (pss_cons (ps_set (i := 2) sc_s3_product.nd rfl (.inl rfl) pe_int)
      (pss_cons (ps_set (i := 3) sc_s3_product.nd rfl (.inl rfl) (pv 0))
      (pss_cons (ps_set (i := 4) sc_s3_product.nd rfl (.inl rfl) (pv 1))
      (pss_cons (ps_while (passes_of rfl) (pt_cmpR op_gt (pv 4) pe_int (nomark _)) (pss_cons (ps_if (pt_cmpR (show OpR _ _ (Ab.rEqU K) by exact Ab.op_eqU hu64) (pe_op op_and (pv 4) pe_int) pe_int (nomark _)) (pss_one (ps_set (i := 2) sc_s3_product.nd rfl (.inl rfl) (pe_op op_xor (pv 2) (pv 3)))) pss_nil)
      (pss_cons (ps_set (i := 3) sc_s3_product.nd rfl (.inl rfl) (pe_op op_shlW (pv 3) pe_int))
      (pss_one (ps_set (i := 4) sc_s3_product.nd rfl (.inl rfl) (pe_op op_shr (pv 4) pe_int))))))
      (pss_one (ps_ret (pv 2))))))), Ab.DS.dfn (spF_gc h) rfl (DS.seq (DS.asg (DE.c fun _ => .int _) DG.name Goes.name)
      (DS.seq (DS.asg DE.var DG.name Goes.name)
      (DS.seq (DS.asg DE.var DG.name Goes.name)
      (DS.seq (DS.whileS (DT.test (DE.op (DR.i0 fun _ _ _ => .bl _) DE.var (DE.c fun _ => .int _) NE2.i0)) (DS.seq (DS.ifs (DT.test (DE.op DR.eq (DE.op (DR.i0 fun _ _ _ => .int _) DE.var (DE.c fun _ => .int _) NE2.i0) (DE.c fun _ => .int _) NE2.eq)) (DS.asg (DE.op (DR.i0 fun _ _ _ => .int _) DE.var DE.var NE2.i0) DG.name Goes.name) DS.next)
      (DS.seq (DS.asg (DE.op (DR.i fun _ _ _ => .int _) DE.var (DE.c fun _ => .int _) NE2.i) DG.name Goes.name)
      (DS.asg (DE.op (DR.i fun _ _ _ => .int _) DE.var (DE.c fun _ => .int _) NE2.i) DG.name Goes.name))))
      (DS.ret DE.var)))))⟩
theorem calx_s3_term (T : Txt K mg (κ "DrawError") (κ "BadSteps") (κ "BadPolynomial") (κ "BadDegree") (κ "BadBits") CO__law_odds_right) : Gx.CalX P w K mg base 1 "s3_term" (spF (Wk K κ TA__law_odds_right) 1 F_s3_term) := by
  obtain ⟨f, fd, F, b⟩ := T.d_s3_term
  refine Gx.calX F b sc_s3_term (fun vs H Q E h => spF.len h) (fun cdv A outer s H vs Q E hr h => ?_)
  have hu := hu_of hr
  have hu64 := hr.units
  have hu65 := Ab.u65 hr
  exact ⟨_, (pss_one (ps_ret (pe_ifExp (pt_cmpR op_lt (pv 0) pe_int (nomark _)) (pe_ix (show IxR _ (Ab.rIxU K) by exact Ab.ix_U) (pe_lst (pa_cons pe_str (pa_cons pe_str pa_nil))) (pv 0) (fun _ _ => rfl)) (pe_joined (PJ.cons pe_str (PJ.cons (pe_fmt (pv 0)) PJ.nil)))))), Ab.DS.dfn (spF_gc h) rfl (DS.ret (DE.ifE (DT.test (DE.op (DR.i0 fun _ _ _ => .bl _) DE.var (DE.c fun _ => .int _) NE2.i0)) (DE.op DR.ix (DE.lst (DA.cons (DE.c fun _ => .str _) (DA.cons (DE.c fun _ => .str _) DA.nil))) DE.var NE2.ix) (DE.js (Ab.DJs.cons (DE.c fun _ => .str _) (Ab.DJs.cons (DE.fmt DE.var) Ab.DJs.nil)))))⟩
theorem calx__law_begun (T : Txt K mg (κ "DrawError") (κ "BadSteps") (κ "BadPolynomial") (κ "BadDegree") (κ "BadBits") CO__law_odds_right) : Gx.CalX P w K mg base 1 "_law_begun" (spF (Wk K κ TA__law_odds_right) 1 F__law_begun) := by
  obtain ⟨f, fd, F, b⟩ := T.d__law_begun
  refine Gx.calX F b sc__law_begun (fun vs H Q E h => spF.len h) (fun cdv A outer s H vs Q E hr h => ?_)
  have hu := hu_of hr
  have hu64 := hr.units
  have hu65 := Ab.u65 hr
  exact ⟨_, (pss_cons (ps_set (i := 1) sc__law_begun.nd rfl (.inl rfl) (pe_op (show OpR _ _ (Ab.rAddU K) by exact Ab.op_addU) pe_int (pe_op Ab.op_mulU pe_int (pe_callB (show CallR _ _ (Ab.rLenU K) by exact Ab.call_lenU) (by rfl) T.b_len PySem.boot_len (pa_cons (pv 0) pa_nil)))))
      (pss_cons (ps_for (passes_of rfl) rfl (show PI _ _ _ (Ab.enU K _) by exact Ab.PI.or (pi_enum (by rfl) T.b_enumerate (pa_cons (pv 0) pa_nil)) (Gx.pi_enT (by rfl) T.b_enumerate (pa_cons (pv 0) pa_nil))) (show PG _ _ (gTup K 2 _) by exact pg_tup rfl (pgs_cons (pg_name (i := 2) sc__law_begun.nd rfl (.inl rfl)) (pgs_cons (pg_name (i := 3) sc__law_begun.nd rfl (.inl rfl)) pgs_nil))) (pss_one (ps_set (i := 1) sc__law_begun.nd rfl (.inl rfl) (pe_op op_mod (pe_op (show OpR _ _ (Ab.rAddU K) by exact Ab.op_addU) (pe_op (show OpR _ _ (Ab.rAddU K) by exact Ab.op_addU) (pe_op Ab.op_mulU (pv 1) pe_int) (pv 3)) (pe_op Ab.op_mulU pe_int (pv 2))) pe_int))))
      (pss_one (ps_ret (pe_disp (pps_cons pe_str (pv 1) (pps_cons pe_str (pe_lc (own := [("_law_cell", 3)]) rfl sc__law_begun.nd (show PI _ _ _ (Ab.iterU K _) by exact Ab.PI.or (pi_list (pv 0)) (Ab.PI.or (pi_tup (pv 0)) (pi_str (pv 0)))) (blkOk_by (N := ["_law_script", "_law_blend", "_law_k", "_law_cell"]) (sc := C8.fnScope s__law_begun) (by decide +kernel)) (fun _ _ _ _ _ => (pg_name (i := 3) sc__law_begun.nd rfl (.inl rfl))) (fun _ _ _ _ _ => (pts_one (pt_cmpR op_ge (pv 3) (pe_op op_pow pe_int pe_int) (nomark _)))) (fun _ _ _ _ _ => (pv 3))) (pps_cons pe_str pe_int pps_nil))) rfl rfl (by simp) (by decide)))))), Ab.DS.dfn (spF_gc h) rfl (DS.seq (DS.asg (DE.op DR.add (DE.c fun _ => .int _) (DE.op DR.mul (DE.c fun _ => .int _) (DE.cb DB.len (DA.cons DE.var DA.nil) NEL.len) NE2.mul) NE2.add) DG.name Goes.name)
      (DS.seq (DS.forS (DI.enumU (DA.cons DE.var DA.nil)) (DG.tup (DGs.cons DG.name (DGs.cons DG.name DGs.nil))) (Goes.tup (GoesL.cons Goes.name (GoesL.cons Goes.name GoesL.nil))) (DS.asg (DE.op (DR.i fun _ _ _ => .int _) (DE.op DR.add (DE.op DR.add (DE.op DR.mul DE.var (DE.c fun _ => .int _) NE2.mul) DE.var NE2.add) (DE.op DR.mul (DE.c fun _ => .int _) DE.var NE2.mul) NE2.add) (DE.c fun _ => .int _) NE2.i) DG.name Goes.name))
      (DS.ret (DE.disp (.cons (DE.c fun _ => .str _) DE.var (.cons (DE.c fun _ => .str _) (DE.lc (DI.iter DE.var) DG.name Goes.name (WT.name (by decide)) (DT.test (DE.op (DR.i0 fun _ _ _ => .bl _) DE.var (DE.op (DR.i fun _ _ _ => .int _) (DE.c fun _ => .int _) (DE.c fun _ => .int _) NE2.i) NE2.i0)) DE.var) (.cons (DE.c fun _ => .str _) (DE.c fun _ => .int _) .nil)))))))⟩
theorem calx__law_next (T : Txt K mg (κ "DrawError") (κ "BadSteps") (κ "BadPolynomial") (κ "BadDegree") (κ "BadBits") CO__law_odds_right) : Gx.CalX P w K mg base 1 "_law_next" (spF (Wk K κ TA__law_odds_right) 2 F__law_next) := by
  obtain ⟨f, fd, F, b⟩ := T.d__law_next
  refine Gx.calX F b sc__law_next (fun vs H Q E h => spF.len h) (fun cdv A outer s H vs Q E hr h => ?_)
  have hu := hu_of hr
  have hu64 := hr.units
  have hu65 := Ab.u65 hr
  exact ⟨_, (pss_cons (ps_asg (pe_tup (pa_cons (pe_op (show OpR _ _ (Ab.rAddU K) by exact Ab.op_addU) (pe_dget hu (pv 0) pe_str (fun _ _ => rfl)) pe_int) (pa_cons (pe_dget hu (pv 0) pe_str (fun _ _ => rfl)) pa_nil))) (show PG _ _ (gTup K 2 _) by exact pg_tup rfl (pgs_cons (pg_sub (pv 0) pe_str (set_dict hu)) (pgs_cons (pg_name (i := 2) sc__law_next.nd rfl (.inl rfl)) pgs_nil))))
      (pss_cons (ps_set (i := 3) sc__law_next.nd rfl (.inl rfl) (pe_op op_mod (pe_dget hu (pv 0) pe_str (fun _ _ => rfl)) (pe_callB (Rd.call_mx2 rfl) (by rfl) T.b_max (by decide +kernel) (pa_cons pe_int (pa_cons (pe_callB (show CallR _ _ (Ab.rLenU K) by exact Ab.call_lenU) (by rfl) T.b_len PySem.boot_len (pa_cons (pv 2) pa_nil)) pa_nil)))))
      (pss_cons (ps_if (PW.pt (pw_and (pt_cmpR (show OpR _ _ (Ab.rNeU K) by exact Ab.op_neU hu64) (pv 2) (pe_lst pa_nil) (nomark _)) (pw_and1 (pt_cmpR op_gt (pe_ix (show IxR _ (Ab.rIxU K) by exact Ab.ix_U) (pv 2) (pv 3) (fun _ _ => rfl)) pe_int (nomark _))))) (pss_cons (ps_set (i := 4) sc__law_next.nd rfl (.inl rfl) (pe_op op_mod (pe_ix (show IxR _ (Ab.rIxU K) by exact Ab.ix_U) (pv 2) (pv 3) (fun _ _ => rfl)) (pv 1)))
      (pss_cons (ps_asg (pe_op op_fdivW (pe_ix (show IxR _ (Ab.rIxU K) by exact Ab.ix_U) (pv 2) (pv 3) (fun _ _ => rfl)) (pv 1)) (pg_sub (pv 2) (pv 3) set_list))
      (pss_one (ps_ret (pv 4))))) pss_nil)
      (pss_cons (ps_set (i := 5) sc__law_next.nd rfl (.inl rfl) (pe_op (show OpR _ _ (Ab.rAddU K) by exact Ab.op_addU) (pe_op (show OpR _ _ (Ab.rAddU K) by exact Ab.op_addU) (pe_op Ab.op_mulU (pe_dget hu (pv 0) pe_str (fun _ _ => rfl)) pe_int) (pe_op Ab.op_mulU pe_int (pe_dget hu (pv 0) pe_str (fun _ _ => rfl)))) pe_int))
      (pss_cons (ps_dput hu (pv 0) pe_str (pe_op op_mod (pv 5) pe_int) rfl)
      (pss_one (ps_ret (pe_op op_mod (pe_op op_fdivW (pe_dget hu (pv 0) pe_str (fun _ _ => rfl)) pe_int) (pv 1))))))))), Ab.DS.dfn (spF_gc h) rfl (DS.seq (DS.asg (DE.tup (DA.cons (DE.op DR.add (DE.dget DE.var (DE.c fun _ => .str _)) (DE.c fun _ => .int _) NE2.add) (DA.cons (DE.dget DE.var (DE.c fun _ => .str _)) DA.nil))) (DG.tup (DGs.cons (DG.subD DE.var (DE.c fun _ => .str _)) (DGs.cons DG.name DGs.nil))) (Goes.tup (GoesL.cons Goes.sub (GoesL.cons Goes.name GoesL.nil))))
      (DS.seq (DS.asg (DE.op (DR.i fun _ _ _ => .int _) (DE.dget DE.var (DE.c fun _ => .str _)) (DE.cb DB.max2 (DA.cons (DE.c fun _ => .int _) (DA.cons (DE.cb DB.len (DA.cons DE.var DA.nil) NEL.len) DA.nil)) NEL.max2) NE2.i) DG.name Goes.name)
      (DS.seq (DS.ifs (DT.gc (DT.and (DT.test (DE.op DR.ne DE.var (DE.lst DA.nil) NE2.ne)) (DT.test (DE.op (DR.i0 fun _ _ _ => .bl _) (DE.op DR.ix DE.var DE.var NE2.ix) (DE.c fun _ => .int _) NE2.i0)))) (DS.seq (DS.asg (DE.op (DR.i fun _ _ _ => .int _) (DE.op DR.ix DE.var DE.var NE2.ix) DE.var NE2.i) DG.name Goes.name)
      (DS.seq (DS.asg (DE.op (DR.i fun _ _ _ => .int _) (DE.op DR.ix DE.var DE.var NE2.ix) DE.var NE2.i) (DG.subL DE.var DE.var) Goes.sub)
      (DS.ret DE.var))) DS.next)
      (DS.seq (DS.asg (DE.op DR.add (DE.op DR.add (DE.op DR.mul (DE.dget DE.var (DE.c fun _ => .str _)) (DE.c fun _ => .int _) NE2.mul) (DE.op DR.mul (DE.c fun _ => .int _) (DE.dget DE.var (DE.c fun _ => .str _)) NE2.mul) NE2.add) (DE.c fun _ => .int _) NE2.add) DG.name Goes.name)
      (DS.seq (DS.dput DE.var (DE.c fun _ => .str _) (DE.op (DR.i fun _ _ _ => .int _) DE.var (DE.c fun _ => .int _) NE2.i))
      (DS.ret (DE.op (DR.i fun _ _ _ => .int _) (DE.op (DR.i fun _ _ _ => .int _) (DE.dget DE.var (DE.c fun _ => .str _)) (DE.c fun _ => .int _) NE2.i) DE.var NE2.i)))))))⟩
theorem calx__law_places (T : Txt K mg (κ "DrawError") (κ "BadSteps") (κ "BadPolynomial") (κ "BadDegree") (κ "BadBits") CO__law_odds_right) : Gx.CalX P w K mg base 1 "_law_places" (spF (Wk K κ TA__law_odds_right) 1 F__law_places) := by
  obtain ⟨f, fd, F, b⟩ := T.d__law_places
  refine Gx.calX F b sc__law_places (fun vs H Q E h => spF.len h) (fun cdv A outer s H vs Q E hr h => ?_)
  have hu := hu_of hr
  have hu64 := hr.units
  have hu65 := Ab.u65 hr
  exact ⟨_, (pss_cons (ps_par (i := 1) (j := 2) rfl sc__law_places.nd rfl rfl (by decide) rfl rfl (pa_cons (pe_lst pa_nil) (pa_cons pe_int pa_nil)) (by rfl))
      (pss_cons (ps_while (passes_of rfl) (pt_cmpR op_gt (pe_op op_shr (pv 0) (pv 2)) pe_int (nomark _)) (pss_cons (ps_if (pt_cmpR (show OpR _ _ (Ab.rEqU K) by exact Ab.op_eqU hu64) (pe_op op_and (pe_op op_shr (pv 0) (pv 2)) pe_int) pe_int (nomark _)) (pss_one (ps_expr (show PE _ _ (tBM K "list" _ _ _) by exact pe_bm PySem.F.plainAttrs_list PySem.F.slot_list_append PySem.F.type_list_append mt_append (pv 1) (pa_cons (pv 2) pa_nil)))) pss_nil)
      (pss_one (ps_set (i := 2) sc__law_places.nd rfl (.inl rfl) (pe_op (show OpR _ _ (Ab.rAddU K) by exact Ab.op_addU) (pv 2) pe_int)))))
      (pss_one (ps_ret (pv 1))))), Ab.DS.dfn (spF_gc h) rfl (DS.seq (DS.par (DA.cons (DE.lst DA.nil) (DA.cons (DE.c fun _ => .int _) DA.nil)))
      (DS.seq (DS.whileS (DT.test (DE.op (DR.i0 fun _ _ _ => .bl _) (DE.op (DR.i fun _ _ _ => .int _) DE.var DE.var NE2.i) (DE.c fun _ => .int _) NE2.i0)) (DS.seq (DS.ifs (DT.test (DE.op DR.eq (DE.op (DR.i0 fun _ _ _ => .int _) (DE.op (DR.i fun _ _ _ => .int _) DE.var DE.var NE2.i) (DE.c fun _ => .int _) NE2.i0) (DE.c fun _ => .int _) NE2.eq)) (DS.drop (DE.bm DM.append NEM.append DE.var (DA.cons DE.var DA.nil))) DS.next)
      (DS.asg (DE.op DR.add DE.var (DE.c fun _ => .int _) NE2.add) DG.name Goes.name)))
      (DS.ret DE.var)))⟩
theorem calx__law_number (T : Txt K mg (κ "DrawError") (κ "BadSteps") (κ "BadPolynomial") (κ "BadDegree") (κ "BadBits") CO__law_odds_right) : Gx.CalX P w K mg base 1 "_law_number" (spF (Wk K κ TA__law_odds_right) 1 F__law_number) := by
  obtain ⟨f, fd, F, b⟩ := T.d__law_number
  refine Gx.calX F b sc__law_number (fun vs H Q E h => spF.len h) (fun cdv A outer s H vs Q E hr h => ?_)
  have hu := hu_of hr
  have hu64 := hr.units
  have hu65 := Ab.u65 hr
  exact ⟨_, (pss_cons (ps_set (i := 1) sc__law_number.nd rfl (.inl rfl) pe_int)
      (pss_cons (ps_for (passes_of rfl) rfl (show PI _ _ _ (Ab.iterU K _) by exact Ab.PI.or (pi_list (pv 0)) (Ab.PI.or (pi_tup (pv 0)) (pi_str (pv 0)))) (pg_name (i := 2) sc__law_number.nd rfl (.inl rfl)) (pss_one (ps_set (i := 1) sc__law_number.nd rfl (.inl rfl) (pe_op op_xor (pv 1) (pe_op op_shlW pe_int (pv 2))))))
      (pss_one (ps_ret (pv 1))))), Ab.DS.dfn (spF_gc h) rfl (DS.seq (DS.asg (DE.c fun _ => .int _) DG.name Goes.name)
      (DS.seq (DS.forS (DI.iter DE.var) DG.name Goes.name (DS.asg (DE.op (DR.i0 fun _ _ _ => .int _) DE.var (DE.op (DR.i fun _ _ _ => .int _) (DE.c fun _ => .int _) DE.var NE2.i) NE2.i0) DG.name Goes.name))
      (DS.ret DE.var)))⟩
theorem calx_s3_is_whole (T : Txt K mg (κ "DrawError") (κ "BadSteps") (κ "BadPolynomial") (κ "BadDegree") (κ "BadBits") CO__law_odds_right) : Gx.CalX P w K mg base 2 "s3_is_whole" (spF (Wk K κ TA__law_odds_right) 3 F_s3_is_whole) := by
  obtain ⟨f, fd, F, b⟩ := T.d_s3_is_whole
  refine Gx.calX F b sc_s3_is_whole (fun vs H Q E h => spF.len h) (fun cdv A outer s H vs Q E hr h => ?_)
  have hu := hu_of hr
  have hu64 := hr.units
  have hu65 := Ab.u65 hr
  exact ⟨_, (pss_one (ps_ret (pe_and (Gx.pe_cx (calx_is_integer T) Gx.takes_cx (fun _ _ _ _ h => h) hr (by omega) (by rfl) (pa_cons (pv 0) pa_nil)) (pe_one (pe_chain op_le op_le (pv 1) (pv 0) (pv 2)))))), Ab.DS.dfn (spF_gc h) rfl (DS.ret (DE.andV (DE.call (fun _ => .nil) (DA.cons DE.var DA.nil)) (DE.chain (DR.i0 fun _ _ _ => .bl _) (DR.i0 fun _ _ _ => .bl _) DE.var DE.var DE.var NE2.i0 NE2.i0)))⟩
theorem calx__law_times (T : Txt K mg (κ "DrawError") (κ "BadSteps") (κ "BadPolynomial") (κ "BadDegree") (κ "BadBits") CO__law_odds_right) : Gx.CalX P w K mg base 2 "_law_times" (spF (Wk K κ TA__law_odds_right) 2 F__law_times) := by
  obtain ⟨f, fd, F, b⟩ := T.d__law_times
  refine Gx.calX F b sc__law_times (fun vs H Q E h => spF.len h) (fun cdv A outer s H vs Q E hr h => ?_)
  have hu := hu_of hr
  have hu64 := hr.units
  have hu65 := Ab.u65 hr
  exact ⟨_, (pss_cons (ps_set (i := 2) sc__law_times.nd rfl (.inl rfl) pe_int)
      (pss_cons (ps_for (passes_of rfl) rfl (show PI _ _ _ (Ab.iterU K _) by exact Ab.PI.or (pi_list (Gx.pe_cx (calx__law_places T) Gx.takes_cx (fun _ _ _ _ h => h) hr (by omega) (by rfl) (pa_cons (pv 0) pa_nil))) (Ab.PI.or (pi_tup (Gx.pe_cx (calx__law_places T) Gx.takes_cx (fun _ _ _ _ h => h) hr (by omega) (by rfl) (pa_cons (pv 0) pa_nil))) (pi_str (Gx.pe_cx (calx__law_places T) Gx.takes_cx (fun _ _ _ _ h => h) hr (by omega) (by rfl) (pa_cons (pv 0) pa_nil))))) (pg_name (i := 3) sc__law_times.nd rfl (.inl rfl)) (pss_one (ps_set (i := 2) sc__law_times.nd rfl (.inl rfl) (pe_op op_xor (pv 2) (pe_op op_shlW (pv 1) (pv 3))))))
      (pss_one (ps_ret (pv 2))))), Ab.DS.dfn (spF_gc h) rfl (DS.seq (DS.asg (DE.c fun _ => .int _) DG.name Goes.name)
      (DS.seq (DS.forS (DI.iter (DE.call (fun _ => .nil) (DA.cons DE.var DA.nil))) DG.name Goes.name (DS.asg (DE.op (DR.i0 fun _ _ _ => .int _) DE.var (DE.op (DR.i fun _ _ _ => .int _) DE.var DE.var NE2.i) NE2.i0) DG.name Goes.name))
      (DS.ret DE.var)))⟩
theorem calx__law_poly (T : Txt K mg (κ "DrawError") (κ "BadSteps") (κ "BadPolynomial") (κ "BadDegree") (κ "BadBits") CO__law_odds_right) : Gx.CalX P w K mg base 2 "_law_poly" (spF (Wk K κ TA__law_odds_right) 2 F__law_poly) := by
  obtain ⟨f, fd, F, b⟩ := T.d__law_poly
  refine Gx.calX F b sc__law_poly (fun vs H Q E h => spF.len h) (fun cdv A outer s H vs Q E hr h => ?_)
  have hu := hu_of hr
  have hu64 := hr.units
  have hu65 := Ab.u65 hr
  exact ⟨_, (pss_cons (ps_set (i := 2) sc__law_poly.nd rfl (.inl rfl) (Gx.pe_cx (calx__law_next T) Gx.takes_cx (fun _ _ _ _ h => h) hr (by omega) (by rfl) (pa_cons (pv 0) (pa_cons pe_int pa_nil))))
      (pss_cons (ps_if (pt_cmpR (show OpR _ _ (Ab.rEqU K) by exact Ab.op_eqU hu64) (pv 2) pe_int (nomark _)) (pss_one (ps_ret (pe_ix (show IxR _ (Ab.rIxU K) by exact Ab.ix_U) (pe_lst (pa_cons pe_int (pa_cons pe_int (pa_cons pe_int (pa_cons pe_int (pa_cons pe_int (pa_cons pe_int pa_nil))))))) (Gx.pe_cx (calx__law_next T) Gx.takes_cx (fun _ _ _ _ h => h) hr (by omega) (by rfl) (pa_cons (pv 0) (pa_cons pe_int pa_nil))) (fun _ _ => rfl)))) pss_nil)
      (pss_cons (ps_if (pt_cmpR (show OpR _ _ (Ab.rEqU K) by exact Ab.op_eqU hu64) (pv 2) pe_int (nomark _)) (pss_one (ps_ret (Gx.pe_cx (calx__law_number T) Gx.takes_cx (fun _ _ _ _ h => h) hr (by omega) (by rfl) (pa_cons (pe_lc (own := [("_law_turn", 3)]) rfl sc__law_poly.nd (pi_range1 rfl T.b_range (pa_cons pe_int pa_nil)) (blkOk_by (N := ["_law_draw", "_law_many", "_law_way", "_law_turn"]) (sc := C8.fnScope s__law_poly) (by decide +kernel)) (fun _ _ _ _ _ => (pg_name (i := 3) sc__law_poly.nd rfl (.inl rfl))) (fun _ _ _ _ _ => pts_nil) (fun _ _ _ _ _ => (Gx.pe_cx (calx__law_next T) LamX.takes0 (E := fun _ _ _ => False) (fun _ _ _ _ h => h) hr (by omega) (by rfl) (pa_cons (pv 0) (pa_cons (pv 1) pa_nil))))) pa_nil)))) pss_nil)
      (pss_one (ps_ret (Gx.pe_cx (calx__law_next T) Gx.takes_cx (fun _ _ _ _ h => h) hr (by omega) (by rfl) (pa_cons (pv 0) (pa_cons (pe_op op_shlW pe_int (pe_op (show OpR _ _ (Ab.rAddU K) by exact Ab.op_addU) pe_int (Gx.pe_cx (calx__law_next T) Gx.takes_cx (fun _ _ _ _ h => h) hr (by omega) (by rfl) (pa_cons (pv 0) (pa_cons (pe_op op_sub (pv 1) pe_int) pa_nil))))) pa_nil)))))))), Ab.DS.dfn (spF_gc h) rfl (DS.seq (DS.asg (DE.call (fun _ => .nil) (DA.cons DE.var (DA.cons (DE.c fun _ => .int _) DA.nil))) DG.name Goes.name)
      (DS.seq (DS.ifs (DT.test (DE.op DR.eq DE.var (DE.c fun _ => .int _) NE2.eq)) (DS.ret (DE.op DR.ix (DE.lst (DA.cons (DE.c fun _ => .int _) (DA.cons (DE.c fun _ => .int _) (DA.cons (DE.c fun _ => .int _) (DA.cons (DE.c fun _ => .int _) (DA.cons (DE.c fun _ => .int _) (DA.cons (DE.c fun _ => .int _) DA.nil))))))) (DE.call (fun _ => .nil) (DA.cons DE.var (DA.cons (DE.c fun _ => .int _) DA.nil))) NE2.ix)) DS.next)
      (DS.seq (DS.ifs (DT.test (DE.op DR.eq DE.var (DE.c fun _ => .int _) NE2.eq)) (DS.ret (DE.call (fun _ => .nil) (DA.cons (DE.lc (DI.rng1 (DA.cons (DE.c fun _ => .int _) DA.nil)) DG.name Goes.name (WT.name (by decide)) DT.yes (DE.call (fun _ => .nil) (DA.cons DE.var (DA.cons DE.var DA.nil)))) DA.nil))) DS.next)
      (DS.ret (DE.call (fun _ => .nil) (DA.cons DE.var (DA.cons (DE.op (DR.i fun _ _ _ => .int _) (DE.c fun _ => .int _) (DE.op DR.add (DE.c fun _ => .int _) (DE.call (fun _ => .nil) (DA.cons DE.var (DA.cons (DE.op (DR.i0 fun _ _ _ => .int _) DE.var (DE.c fun _ => .int _) NE2.i0) DA.nil))) NE2.add) NE2.i) DA.nil)))))))⟩
theorem calx__law_odd (T : Txt K mg (κ "DrawError") (κ "BadSteps") (κ "BadPolynomial") (κ "BadDegree") (κ "BadBits") CO__law_odds_right) : Gx.CalX P w K mg base 2 "_law_odd" (spF (Wk K κ TA__law_odds_right) 1 F__law_odd) := by
  obtain ⟨f, fd, F, b⟩ := T.d__law_odd
  refine Gx.calX F b sc__law_odd (fun vs H Q E h => spF.len h) (fun cdv A outer s H vs Q E hr h => ?_)
  have hu := hu_of hr
  have hu64 := hr.units
  have hu65 := Ab.u65 hr
  exact ⟨_, (pss_cons (ps_set (i := 1) sc__law_odd.nd rfl (.inl rfl) (pe_lst (pa_cons (pe_op op_shlW pe_int pe_int) (pa_cons (pe_un un_neg pe_int) (pa_cons pe_bl (pa_cons pe_bl (pa_cons pe_non (pa_cons pe_str (pa_cons (pe_tup (pa_cons pe_int pa_nil)) (pa_cons (pe_lst (pa_cons pe_int pa_nil)) (pa_cons pe_dnewK (pa_cons (pe_op (show OpR _ _ (Ab.rAddU K) by exact Ab.op_addU) (pe_op op_shlW pe_int pe_int) pe_int) (pa_cons (pe_tup pa_nil) (pa_cons (pe_un un_neg (pe_op op_shlW pe_int pe_int)) pa_nil))))))))))))))
      (pss_one (ps_ret (pe_ix (show IxR _ (Ab.rIxU K) by exact Ab.ix_U) (pv 1) (Gx.pe_cx (calx__law_next T) Gx.takes_cx (fun _ _ _ _ h => h) hr (by omega) (by rfl) (pa_cons (pv 0) (pa_cons pe_int pa_nil))) (fun _ _ => rfl))))), Ab.DS.dfn (spF_gc h) rfl (DS.seq (DS.asg (DE.lst (DA.cons (DE.op (DR.i fun _ _ _ => .int _) (DE.c fun _ => .int _) (DE.c fun _ => .int _) NE2.i) (DA.cons (DE.un DU.neg (DE.c fun _ => .int _) NE1.neg) (DA.cons (DE.c fun _ => .bl _) (DA.cons (DE.c fun _ => .bl _) (DA.cons (DE.c fun _ => .non) (DA.cons (DE.c fun _ => .str _) (DA.cons (DE.tup (DA.cons (DE.c fun _ => .int _) DA.nil)) (DA.cons (DE.lst (DA.cons (DE.c fun _ => .int _) DA.nil)) (DA.cons DE.dnew (DA.cons (DE.op DR.add (DE.op (DR.i fun _ _ _ => .int _) (DE.c fun _ => .int _) (DE.c fun _ => .int _) NE2.i) (DE.c fun _ => .int _) NE2.add) (DA.cons (DE.tup DA.nil) (DA.cons (DE.un DU.neg (DE.op (DR.i fun _ _ _ => .int _) (DE.c fun _ => .int _) (DE.c fun _ => .int _) NE2.i) NE1.neg) DA.nil))))))))))))) DG.name Goes.name)
      (DS.ret (DE.op DR.ix DE.var (DE.call (fun _ => .nil) (DA.cons DE.var (DA.cons (DE.c fun _ => .int _) DA.nil))) NE2.ix)))⟩
theorem calx__law_text (T : Txt K mg (κ "DrawError") (κ "BadSteps") (κ "BadPolynomial") (κ "BadDegree") (κ "BadBits") CO__law_odds_right) : Gx.CalX P w K mg base 2 "_law_text" (spF (Wk K κ TA__law_odds_right) 1 F__law_text) := by
  obtain ⟨f, fd, F, b⟩ := T.d__law_text
  refine Gx.calX F b sc__law_text (fun vs H Q E h => spF.len h) (fun cdv A outer s H vs Q E hr h => ?_)
  have hu := hu_of hr
  have hu64 := hr.units
  have hu65 := Ab.u65 hr
  exact ⟨_, (pss_cons (ps_set (i := 1) sc__law_text.nd rfl (.inl rfl) (pe_lst pa_nil))
      (pss_cons (ps_for (passes_of rfl) rfl (show PI _ _ _ (Ab.iterU K _) by exact Ab.PI.or (pi_list (show PE _ _ (tRevL K _) by exact pe_revL (Gx.pe_cx (calx__law_places T) Gx.takes_cx (fun _ _ _ _ h => h) hr (by omega) (by rfl) (pa_cons (pv 0) pa_nil)))) (Ab.PI.or (pi_tup (show PE _ _ (tRevL K _) by exact pe_revL (Gx.pe_cx (calx__law_places T) Gx.takes_cx (fun _ _ _ _ h => h) hr (by omega) (by rfl) (pa_cons (pv 0) pa_nil)))) (pi_str (show PE _ _ (tRevL K _) by exact pe_revL (Gx.pe_cx (calx__law_places T) Gx.takes_cx (fun _ _ _ _ h => h) hr (by omega) (by rfl) (pa_cons (pv 0) pa_nil)))))) (pg_name (i := 2) sc__law_text.nd rfl (.inl rfl)) (pss_one (ps_expr (show PE _ _ (tBM K "list" _ _ _) by exact pe_bm PySem.F.plainAttrs_list PySem.F.slot_list_append PySem.F.type_list_append mt_append (pv 1) (pa_cons (pe_ifExp (pt_cmpR op_gt (pv 2) pe_int (nomark _)) (pe_op (show OpR _ _ (Ab.rAddU K) by exact Ab.op_addU) pe_str (pe_callTy (show CallR _ _ Ab.rStrI by exact Ab.call_strI) (by rfl) T.b_str (by decide +kernel) (pa_cons (pv 2) pa_nil))) (pe_ix (show IxR _ (Ab.rIxU K) by exact Ab.ix_U) (pe_lst (pa_cons pe_str (pa_cons pe_str pa_nil))) (pv 2) (fun _ _ => rfl))) pa_nil)))))
      (pss_one (ps_ret (pe_ifExp (pt_cmpR (show OpR _ _ (Ab.rNeU K) by exact Ab.op_neU hu64) (pv 1) (pe_lst pa_nil) (nomark _)) (show PE _ _ (tM1 (Ab.rJoin K) _ _) by exact pe_join pe_str (pv 1)) pe_str))))), Ab.DS.dfn (spF_gc h) rfl (DS.seq (DS.asg (DE.lst DA.nil) DG.name Goes.name)
      (DS.seq (DS.forS (DI.iter (DE.rev (DE.call (fun _ => .nil) (DA.cons DE.var DA.nil)))) DG.name Goes.name (DS.drop (DE.bm DM.append NEM.append DE.var (DA.cons (DE.ifE (DT.test (DE.op (DR.i0 fun _ _ _ => .bl _) DE.var (DE.c fun _ => .int _) NE2.i0)) (DE.op DR.add (DE.c fun _ => .str _) (DE.cb DB.strI (DA.cons DE.var DA.nil) NEL.strI) NE2.add) (DE.op DR.ix (DE.lst (DA.cons (DE.c fun _ => .str _) (DA.cons (DE.c fun _ => .str _) DA.nil))) DE.var NE2.ix)) DA.nil))))
      (DS.ret (DE.ifE (DT.test (DE.op DR.ne DE.var (DE.lst DA.nil) NE2.ne)) (DE.join (DE.c fun _ => .str _) DE.var) (DE.c fun _ => .str _)))))⟩
theorem calx_is_polynomial (T : Txt K mg (κ "DrawError") (κ "BadSteps") (κ "BadPolynomial") (κ "BadDegree") (κ "BadBits") CO__law_odds_right) : Gx.CalX P w K mg base 3 "is_polynomial" (spF (Wk K κ TA__law_odds_right) 1 F_is_polynomial) := by
  obtain ⟨f, fd, F, b⟩ := T.d_is_polynomial
  refine Gx.calX F b sc_is_polynomial (fun vs H Q E h => spF.len h) (fun cdv A outer s H vs Q E hr h => ?_)
  have hu := hu_of hr
  have hu64 := hr.units
  have hu65 := Ab.u65 hr
  exact ⟨_, (pss_one (ps_ret (Gx.pe_cx (calx_s3_is_whole T) Gx.takes_cx (fun _ _ _ _ h => h) hr (by omega) (by rfl) (pa_cons (pv 0) (pa_cons pe_int (pa_cons (pe_op op_sub (pe_op op_shlW pe_int (C8.pe_gc (by rfl) T.c_MOST_DIGITS)) pe_int) pa_nil)))))), Ab.DS.dfn (spF_gc h) rfl (DS.ret (DE.call (fun _ => .nil) (DA.cons DE.var (DA.cons (DE.c fun _ => .int _) (DA.cons (DE.op (DR.i0 fun _ _ _ => .int _) (DE.op (DR.i fun _ _ _ => .int _) (DE.c fun _ => .int _) (DE.c fun _ => .int _) NE2.i) (DE.c fun _ => .int _) NE2.i0) DA.nil)))))⟩
theorem calxk_is_polynomial_k0_value (T : Txt K mg (κ "DrawError") (κ "BadSteps") (κ "BadPolynomial") (κ "BadDegree") (κ "BadBits") CO__law_odds_right) : Kw.CalXK P w K mg base 3 "is_polynomial" 0 ["value"] [0] (spF (Wk K κ TA__law_odds_right) 1 F_is_polynomial) := by
  obtain ⟨f, fd, F, b⟩ := T.dk_is_polynomial_k0_value
  refine Kw.calXK F b sc_is_polynomial (fun vs H Q E h => spF.len h) (fun cdv A outer s H vs Q E hr h => ?_)
  have hu := hu_of hr
  have hu64 := hr.units
  have hu65 := Ab.u65 hr
  exact ⟨_, (pss_one (ps_ret (Gx.pe_cx (calx_s3_is_whole T) Gx.takes_cx (fun _ _ _ _ h => h) hr (by omega) (by rfl) (pa_cons (pv 0) (pa_cons pe_int (pa_cons (pe_op op_sub (pe_op op_shlW pe_int (C8.pe_gc (by rfl) T.c_MOST_DIGITS)) pe_int) pa_nil)))))), Ab.DS.dfn (spF_gc h) rfl (DS.ret (DE.call (fun _ => .nil) (DA.cons DE.var (DA.cons (DE.c fun _ => .int _) (DA.cons (DE.op (DR.i0 fun _ _ _ => .int _) (DE.op (DR.i fun _ _ _ => .int _) (DE.c fun _ => .int _) (DE.c fun _ => .int _) NE2.i) (DE.c fun _ => .int _) NE2.i0) DA.nil)))))⟩
theorem gives__law_fault (T : Txt K mg (κ "DrawError") (κ "BadSteps") (κ "BadPolynomial") (κ "BadDegree") (κ "BadBits") CO__law_odds_right) {X : Cx} (eP : X.prog = P) (ew : X.w = w) (eK : X.K = K) (em : X.mg = mg) (eb : X.base = base) (gd : X.A.guards = some []) (hr : Room 3 X.A) {gg : Addr} {cdg : Value} {q : Str} :
    LamX.GivesTo X ["_law_call", "_law_caught", "_law_found", "e", "_law_words", "_law_some"] "_law_fault" (C8.fnScope s__law_fault) gg cdg (C8.fnBody s__law_fault) "_law_call" q (TTF (Wk K κ TA__law_odds_right) F__law_fault) := by
  subst eP ew eK em eb
  intro f c' s H Q tl act hc h
  have hr := hr.deeper (envOfC "_law_fault" (C8.fnScope s__law_fault) s.heap.objs.size gg cdg)
  have hu := hu_of hr
  have hu64 := hr.units
  have hu65 := Ab.u65 hr
  exact ⟨_, (pss_cons (ps_asg (pe_tup (pa_cons pe_non (pa_cons pe_non pa_nil))) (show PG _ _ (gTup X.K 2 _) by exact pg_tup rfl (pgs_cons (pg_name (i := 1) sc__law_fault.nd rfl (.inl rfl)) (pgs_cons (pg_name (i := 2) sc__law_fault.nd rfl (.inl rfl)) pgs_nil))))
      (pss_cons (Gx.ps_tryK (Wout := fun _ _ _ _ => False) rfl rfl rfl LamX.takes0 (fun W pn xe tk _ => (pss_one (ps_set (i := 2) sc__law_fault.nd rfl (.inl rfl) (act _ pn xe (fun cls d H => ∀ σ : L2.St, σ.length = 6 → W cls d σ H) _ _ (Gx.takesL tk) (fun cls d σ H h => h σ))))) (.as (i := 3) (Gx.ht_name ⟨by rfl, by decide, .inl T.g_DrawError⟩) sc__law_fault.nd rfl (by rfl) (fun a pn => (pss_one (ps_set (i := 1) sc__law_fault.nd rfl (.inl rfl) (pv 3)))) .nil))
      (pss_cons (ps_if (pt_cmpR op_isN (pv 1) pe_non (nomark _)) (pss_one (ps_ret (pe_lst (pa_cons (pv 2) pa_nil)))) pss_nil)
      (pss_cons (ps_par (i := 4) (j := 5) rfl sc__law_fault.nd rfl rfl (by decide) rfl rfl (pa_cons (pe_lst (pa_cons pe_str (pa_cons pe_str (pa_cons pe_str (pa_cons pe_str pa_nil))))) (pa_cons (pe_lst (pa_cons (pe_callB (show CallR _ _ (Ab.rIsiU X.K) by exact Ab.call_isiU) (by rfl) T.b_isinstance (by decide +kernel) (pa_cons (pv 1) (pa_cons (C8.pe_gc (by rfl) T.k_BadPolynomial) pa_nil))) pa_nil)) pa_nil)) (by rfl))
      (pss_cons (ps_set (i := 5) sc__law_fault.nd rfl (.inl rfl) (pe_op (show OpR _ _ (Ab.rAddU X.K) by exact Ab.op_addU) (pv 5) (pe_lst (pa_cons (pe_callB (show CallR _ _ (Ab.rIsiU X.K) by exact Ab.call_isiU) (by rfl) T.b_isinstance (by decide +kernel) (pa_cons (pv 1) (pa_cons (C8.pe_gc (by rfl) T.k_BadDegree) pa_nil))) (pa_cons (pe_callB (show CallR _ _ (Ab.rIsiU X.K) by exact Ab.call_isiU) (by rfl) T.b_isinstance (by decide +kernel) (pa_cons (pv 1) (pa_cons (C8.pe_gc (by rfl) T.k_BadBits) pa_nil))) (pa_cons (pe_callB (show CallR _ _ (Ab.rIsiU X.K) by exact Ab.call_isiU) (by rfl) T.b_isinstance (by decide +kernel) (pa_cons (pv 1) (pa_cons (C8.pe_gc (by rfl) T.k_BadSteps) pa_nil))) pa_nil))))))
      (pss_cons (ps_if (PW.pt (pw_or (pt_cmpR (show OpR _ _ (Ab.rNeU X.K) by exact Ab.op_neU hu64) (show PE _ _ (tBM X.K "list" _ _ _) by exact pe_bm PySem.F.plainAttrs_list PySem.F.slot_list_count PySem.F.type_list_count (Gx.mt_countD (Ab.u65 hr)) (pv 5) (pa_cons pe_bl pa_nil)) pe_int (nomark _)) (pw_or1 (pt_not (pt_val (pe_callB (show CallR _ _ (Ab.rIsiU X.K) by exact Ab.call_isiU) (by rfl) T.b_isinstance (by decide +kernel) (pa_cons (pv 1) (pa_cons (pe_bltn (v := .ty "ValueError") (by rfl) T.b_ValueError (by decide +kernel) rfl) pa_nil)))))))) (pss_one (ps_ret (pe_tup (pa_cons pe_str (pa_cons pe_non pa_nil))))) pss_nil)
      (pss_one (ps_ret (pe_tup (pa_cons (pe_ix (show IxR _ (Ab.rIxU X.K) by exact Ab.ix_U) (pv 4) (show PE _ _ (tBM X.K "list" _ _ _) by exact pe_bm PySem.F.plainAttrs_list PySem.F.slot_list_index PySem.F.type_list_index (mt_indexD (Ab.u65 hr)) (pv 5) (pa_cons pe_bl pa_nil)) (fun _ _ => rfl)) (pa_cons (Gx.pe_xk (pv 1)) pa_nil))))))))))), told_run h hc rfl (fun w0 ask hask => (DS.seq (DS.asg (DE.tup (DA.cons (DE.c fun _ => .non) (DA.cons (DE.c fun _ => .non) DA.nil))) (DG.tup (DGs.cons DG.name (DGs.cons DG.name DGs.nil))) (Goes.tup (GoesL.cons Goes.name (GoesL.cons Goes.name GoesL.nil))))
      (DS.seq (DS.tryS (Wout := fun _ _ _ _ => False) (fun W => (DS.forget (n := 6) (DS.asg (hask _) DG.name Goes.name))) (.cons (exm_DrawError (TA__law_odds_right := TA__law_odds_right) T) (DS.asg DE.var DG.name Goes.name) .nil))
      (DS.seq (DS.ifs (DT.test (DE.op DR.isN DE.var (DE.c fun _ => .non) NE2.isN)) (DS.ret (DE.lst (DA.cons DE.var DA.nil))) DS.next)
      (DS.seq (DS.par (DA.cons (DE.lst (DA.cons (DE.c fun _ => .str _) (DA.cons (DE.c fun _ => .str _) (DA.cons (DE.c fun _ => .str _) (DA.cons (DE.c fun _ => .str _) DA.nil))))) (DA.cons (DE.lst (DA.cons (DE.cb (DB.isi (KitOk.at (kit_BadPolynomial (TA__law_odds_right := TA__law_odds_right) T))) (DA.cons DE.var (DA.cons (DE.c fun _ => .cls "BadPolynomial") DA.nil)) NEL.isi) DA.nil)) DA.nil)))
      (DS.seq (DS.asg (DE.op DR.add DE.var (DE.lst (DA.cons (DE.cb (DB.isi (KitOk.at (kit_BadDegree (TA__law_odds_right := TA__law_odds_right) T))) (DA.cons DE.var (DA.cons (DE.c fun _ => .cls "BadDegree") DA.nil)) NEL.isi) (DA.cons (DE.cb (DB.isi (KitOk.at (kit_BadBits (TA__law_odds_right := TA__law_odds_right) T))) (DA.cons DE.var (DA.cons (DE.c fun _ => .cls "BadBits") DA.nil)) NEL.isi) (DA.cons (DE.cb (DB.isi (KitOk.at (kit_BadSteps (TA__law_odds_right := TA__law_odds_right) T))) (DA.cons DE.var (DA.cons (DE.c fun _ => .cls "BadSteps") DA.nil)) NEL.isi) DA.nil)))) NE2.add) DG.name Goes.name)
      (DS.seq (DS.ifs (DT.gc (DT.or (DT.test (DE.op DR.ne (DE.bm DM.count NEM.count DE.var (DA.cons (DE.c fun _ => .bl _) DA.nil)) (DE.c fun _ => .int _) NE2.ne)) (DT.not (DT.b (DE.cb (DB.isiB (kitb_ValueError (TA__law_odds_right := TA__law_odds_right) T)) (DA.cons DE.var (DA.cons (DE.c fun _ => .ty _) DA.nil)) NEL.isiB))))) (DS.ret (DE.tup (DA.cons (DE.c fun _ => .str _) (DA.cons (DE.c fun _ => .non) DA.nil)))) DS.next)
      (DS.ret (DE.tup (DA.cons (DE.op DR.ix DE.var (DE.bm DM.index NEM.index DE.var (DA.cons (DE.c fun _ => .bl _) DA.nil)) NE2.ix) (DA.cons (DE.xk (.cons ⟨T.f_BadSteps, T.n_BadSteps_given⟩ (.cons ⟨T.f_BadPolynomial, T.n_BadPolynomial_given⟩ (.cons ⟨T.f_BadDegree, T.n_BadDegree_given⟩ (.cons ⟨T.f_BadBits, T.n_BadBits_given⟩ .nil)))) DE.var) DA.nil)))))))))))⟩
theorem calxs_s3_need (T : Txt K mg (κ "DrawError") (κ "BadSteps") (κ "BadPolynomial") (κ "BadDegree") (κ "BadBits") CO__law_odds_right) : Gx.CalXS P w K mg base 4 "s3_need" (spS (Wk K κ TA__law_odds_right) F_s3_need) := by
  obtain ⟨f, fd, F, b⟩ := T.d_s3_need
  refine Gx.calXS F b sc_s3_need (fun cdv A outer s H vs Q E hr h => ?_)
  have hu := hu_of hr
  have hu64 := hr.units
  have hu65 := Ab.u65 hr
  exact ⟨_, (pss_one (ps_for (passes_of rfl) rfl (show PI _ _ _ (Ab.iterU K _) by exact Ab.PI.or (pi_list (pv 0)) (Ab.PI.or (pi_tup (pv 0)) (pi_str (pv 0)))) (pg_name (i := 1) sc_s3_need.nd rfl (.inl rfl)) (pss_one (ps_if (pt_not (pt_val (Gx.pe_cx (calx_is_polynomial T) Gx.takes_cx (fun _ _ _ _ h => h) hr (by omega) (by rfl) (pa_cons (pv 1) pa_nil)))) (pss_one (ps_raise rfl Gx.takes_cx (Gx.pmk_exY (exc_BadPolynomial T) hr (by omega) (by rfl) (pa_cons (pv 1) pa_nil)))) pss_nil)))), Ab.DS.dfn (spF_gc h) rfl (DS.forS (DI.iter DE.var) DG.name Goes.name (DS.ifs (DT.gc (DT.not (DT.b (DE.call (fun _ => .nil) (DA.cons DE.var DA.nil))))) (DS.raise (Wx := fun cls d _ H => E cls d H) (show "BadPolynomial" ∈ (["BadSteps", "BadPolynomial", "BadDegree", "BadBits"] : List String) by decide) (DA.cons DE.var DA.nil)) DS.next))⟩
theorem calx_degree (T : Txt K mg (κ "DrawError") (κ "BadSteps") (κ "BadPolynomial") (κ "BadDegree") (κ "BadBits") CO__law_odds_right) : Gx.CalX P w K mg base 5 "degree" (spF (Wk K κ TA__law_odds_right) 1 F_degree) := by
  obtain ⟨f, fd, F, b⟩ := T.d_degree
  refine Gx.calX F b sc_degree (fun vs H Q E h => spF.len h) (fun cdv A outer s H vs Q E hr h => ?_)
  have hu := hu_of hr
  have hu64 := hr.units
  have hu65 := Ab.u65 hr
  exact ⟨_, (pss_cons (ps_expr (Gx.pe_cxS (calxs_s3_need T) Gx.takes_cx (fun _ _ _ _ h => h) hr (by omega) (by rfl) (pa_cons (pv 0) pa_nil)))
      (pss_one (ps_ret (pe_op op_sub (pe_bits (pv 0)) pe_int)))), Ab.DS.dfn (spF_gc h) rfl (DS.seq (DS.drop (DE.callStar (DA.cons DE.var DA.nil)))
      (DS.ret (DE.op (DR.i0 fun _ _ _ => .int _) (DE.bits DE.var) (DE.c fun _ => .int _) NE2.i0)))⟩
theorem calxk_degree_k0_number (T : Txt K mg (κ "DrawError") (κ "BadSteps") (κ "BadPolynomial") (κ "BadDegree") (κ "BadBits") CO__law_odds_right) : Kw.CalXK P w K mg base 5 "degree" 0 ["number"] [0] (spF (Wk K κ TA__law_odds_right) 1 F_degree) := by
  obtain ⟨f, fd, F, b⟩ := T.dk_degree_k0_number
  refine Kw.calXK F b sc_degree (fun vs H Q E h => spF.len h) (fun cdv A outer s H vs Q E hr h => ?_)
  have hu := hu_of hr
  have hu64 := hr.units
  have hu65 := Ab.u65 hr
  exact ⟨_, (pss_cons (ps_expr (Gx.pe_cxS (calxs_s3_need T) Gx.takes_cx (fun _ _ _ _ h => h) hr (by omega) (by rfl) (pa_cons (pv 0) pa_nil)))
      (pss_one (ps_ret (pe_op op_sub (pe_bits (pv 0)) pe_int)))), Ab.DS.dfn (spF_gc h) rfl (DS.seq (DS.drop (DE.callStar (DA.cons DE.var DA.nil)))
      (DS.ret (DE.op (DR.i0 fun _ _ _ => .int _) (DE.bits DE.var) (DE.c fun _ => .int _) NE2.i0)))⟩
theorem calx_added (T : Txt K mg (κ "DrawError") (κ "BadSteps") (κ "BadPolynomial") (κ "BadDegree") (κ "BadBits") CO__law_odds_right) : Gx.CalX P w K mg base 5 "added" (spF (Wk K κ TA__law_odds_right) 2 F_added) := by
  obtain ⟨f, fd, F, b⟩ := T.d_added
  refine Gx.calX F b sc_added (fun vs H Q E h => spF.len h) (fun cdv A outer s H vs Q E hr h => ?_)
  have hu := hu_of hr
  have hu64 := hr.units
  have hu65 := Ab.u65 hr
  exact ⟨_, (pss_cons (ps_expr (Gx.pe_cxS (calxs_s3_need T) Gx.takes_cx (fun _ _ _ _ h => h) hr (by omega) (by rfl) (pa_cons (pv 0) (pa_cons (pv 1) pa_nil))))
      (pss_one (ps_ret (pe_op op_xor (pv 0) (pv 1))))), Ab.DS.dfn (spF_gc h) rfl (DS.seq (DS.drop (DE.callStar (DA.cons DE.var (DA.cons DE.var DA.nil))))
      (DS.ret (DE.op (DR.i0 fun _ _ _ => .int _) DE.var DE.var NE2.i0)))⟩
theorem calxk_added_k0_second_first (T : Txt K mg (κ "DrawError") (κ "BadSteps") (κ "BadPolynomial") (κ "BadDegree") (κ "BadBits") CO__law_odds_right) : Kw.CalXK P w K mg base 5 "added" 0 ["second", "first"] [1, 0] (spF (Wk K κ TA__law_odds_right) 2 F_added) := by
  obtain ⟨f, fd, F, b⟩ := T.dk_added_k0_second_first
  refine Kw.calXK F b sc_added (fun vs H Q E h => spF.len h) (fun cdv A outer s H vs Q E hr h => ?_)
  have hu := hu_of hr
  have hu64 := hr.units
  have hu65 := Ab.u65 hr
  exact ⟨_, (pss_cons (ps_expr (Gx.pe_cxS (calxs_s3_need T) Gx.takes_cx (fun _ _ _ _ h => h) hr (by omega) (by rfl) (pa_cons (pv 0) (pa_cons (pv 1) pa_nil))))
      (pss_one (ps_ret (pe_op op_xor (pv 0) (pv 1))))), Ab.DS.dfn (spF_gc h) rfl (DS.seq (DS.drop (DE.callStar (DA.cons DE.var (DA.cons DE.var DA.nil))))
      (DS.ret (DE.op (DR.i0 fun _ _ _ => .int _) DE.var DE.var NE2.i0)))⟩
theorem calx_multiplied (T : Txt K mg (κ "DrawError") (κ "BadSteps") (κ "BadPolynomial") (κ "BadDegree") (κ "BadBits") CO__law_odds_right) : Gx.CalX P w K mg base 5 "multiplied" (spF (Wk K κ TA__law_odds_right) 2 F_multiplied) := by
  obtain ⟨f, fd, F, b⟩ := T.d_multiplied
  refine Gx.calX F b sc_multiplied (fun vs H Q E h => spF.len h) (fun cdv A outer s H vs Q E hr h => ?_)
  have hu := hu_of hr
  have hu64 := hr.units
  have hu65 := Ab.u65 hr
  exact ⟨_, (pss_cons (ps_expr (Gx.pe_cxS (calxs_s3_need T) Gx.takes_cx (fun _ _ _ _ h => h) hr (by omega) (by rfl) (pa_cons (pv 0) (pa_cons (pv 1) pa_nil))))
      (pss_one (ps_ret (Gx.pe_cx (calx_s3_product T) Gx.takes_cx (fun _ _ _ _ h => h) hr (by omega) (by rfl) (pa_cons (pv 0) (pa_cons (pv 1) pa_nil)))))), Ab.DS.dfn (spF_gc h) rfl (DS.seq (DS.drop (DE.callStar (DA.cons DE.var (DA.cons DE.var DA.nil))))
      (DS.ret (DE.call (fun _ => .nil) (DA.cons DE.var (DA.cons DE.var DA.nil)))))⟩
theorem calxk_multiplied_k0_second_first (T : Txt K mg (κ "DrawError") (κ "BadSteps") (κ "BadPolynomial") (κ "BadDegree") (κ "BadBits") CO__law_odds_right) : Kw.CalXK P w K mg base 5 "multiplied" 0 ["second", "first"] [1, 0] (spF (Wk K κ TA__law_odds_right) 2 F_multiplied) := by
  obtain ⟨f, fd, F, b⟩ := T.dk_multiplied_k0_second_first
  refine Kw.calXK F b sc_multiplied (fun vs H Q E h => spF.len h) (fun cdv A outer s H vs Q E hr h => ?_)
  have hu := hu_of hr
  have hu64 := hr.units
  have hu65 := Ab.u65 hr
  exact ⟨_, (pss_cons (ps_expr (Gx.pe_cxS (calxs_s3_need T) Gx.takes_cx (fun _ _ _ _ h => h) hr (by omega) (by rfl) (pa_cons (pv 0) (pa_cons (pv 1) pa_nil))))
      (pss_one (ps_ret (Gx.pe_cx (calx_s3_product T) Gx.takes_cx (fun _ _ _ _ h => h) hr (by omega) (by rfl) (pa_cons (pv 0) (pa_cons (pv 1) pa_nil)))))), Ab.DS.dfn (spF_gc h) rfl (DS.seq (DS.drop (DE.callStar (DA.cons DE.var (DA.cons DE.var DA.nil))))
      (DS.ret (DE.call (fun _ => .nil) (DA.cons DE.var (DA.cons DE.var DA.nil)))))⟩
theorem calx_polynomial_text (T : Txt K mg (κ "DrawError") (κ "BadSteps") (κ "BadPolynomial") (κ "BadDegree") (κ "BadBits") CO__law_odds_right) : Gx.CalX P w K mg base 5 "polynomial_text" (spF (Wk K κ TA__law_odds_right) 1 F_polynomial_text) := by
  obtain ⟨f, fd, F, b⟩ := T.d_polynomial_text
  refine Gx.calX F b sc_polynomial_text (fun vs H Q E h => spF.len h) (fun cdv A outer s H vs Q E hr h => ?_)
  have hu := hu_of hr
  have hu64 := hr.units
  have hu65 := Ab.u65 hr
  exact ⟨_, (pss_cons (ps_expr (Gx.pe_cxS (calxs_s3_need T) Gx.takes_cx (fun _ _ _ _ h => h) hr (by omega) (by rfl) (pa_cons (pv 0) pa_nil)))
      (pss_cons (ps_setLc (i := 1) (own := [("place", 2)]) rfl sc_polynomial_text.nd rfl rfl (sw_true rfl rfl rfl (by decide +kernel)) (pi_range3 rfl T.b_range (pa_cons (pe_op op_sub (pe_bits (pv 0)) pe_int) (pa_cons (pe_un un_neg pe_int) (pa_cons (pe_un un_neg pe_int) pa_nil)))) (blkOk_by (N := ["number", "places", "place"]) (sc := C8.fnScope s_polynomial_text) (by decide +kernel)) (fun _ _ _ _ _ => (pg_name (i := 2) sc_polynomial_text.nd rfl (.inl rfl))) (fun _ _ _ _ _ => (pts_one (pt_cmpR (show OpR _ _ (Ab.rEqU K) by exact Ab.op_eqU hu64) (pe_op op_and (pe_op op_shr (pv 0) (pv 2)) pe_int) pe_int (nomark _)))) (fun _ _ _ _ _ => (pv 2)))
      (pss_one (ps_ret (pe_ifExp (pt_cmpR (show OpR _ _ (Ab.rNeU K) by exact Ab.op_neU hu64) (pv 1) (pe_lst pa_nil) (nomark _)) (show PE _ _ (tM1 (Ab.rJoin K) _ _) by exact pe_join pe_str (pe_lc (own := [("place", 2)]) rfl sc_polynomial_text.nd (show PI _ _ _ (Ab.iterU K _) by exact Ab.PI.or (pi_list (pv 1)) (Ab.PI.or (pi_tup (pv 1)) (pi_str (pv 1)))) (blkOk_by (N := ["number", "places", "place"]) (sc := C8.fnScope s_polynomial_text) (by decide +kernel)) (fun _ _ _ _ _ => (pg_name (i := 2) sc_polynomial_text.nd rfl (.inl rfl))) (fun _ _ _ _ _ => pts_nil) (fun _ _ _ _ _ => (Gx.pe_cx (calx_s3_term T) LamX.takes0 (E := fun _ _ _ => False) (fun _ _ _ _ h => h) hr (by omega) (by rfl) (pa_cons (pv 2) pa_nil))))) pe_str))))), Ab.DS.dfn (spF_gc h) rfl (DS.seq (DS.drop (DE.callStar (DA.cons DE.var DA.nil)))
      (DS.seq (DS.asg (DE.lc (DI.rng3 (DA.cons (DE.op (DR.i0 fun _ _ _ => .int _) (DE.bits DE.var) (DE.c fun _ => .int _) NE2.i0) (DA.cons (DE.un DU.neg (DE.c fun _ => .int _) NE1.neg) (DA.cons (DE.un DU.neg (DE.c fun _ => .int _) NE1.neg) DA.nil)))) DG.name Goes.name (WT.name (by decide)) (DT.test (DE.op DR.eq (DE.op (DR.i0 fun _ _ _ => .int _) (DE.op (DR.i fun _ _ _ => .int _) DE.var DE.var NE2.i) (DE.c fun _ => .int _) NE2.i0) (DE.c fun _ => .int _) NE2.eq)) DE.var) DG.name Goes.name)
      (DS.ret (DE.ifE (DT.test (DE.op DR.ne DE.var (DE.lst DA.nil) NE2.ne)) (DE.join (DE.c fun _ => .str _) (DE.lc (DI.iter DE.var) DG.name Goes.name (WT.name (by decide)) DT.yes (DE.call (fun _ => .nil) (DA.cons DE.var DA.nil)))) (DE.c fun _ => .str _)))))⟩
theorem calxk_polynomial_text_k0_number (T : Txt K mg (κ "DrawError") (κ "BadSteps") (κ "BadPolynomial") (κ "BadDegree") (κ "BadBits") CO__law_odds_right) : Kw.CalXK P w K mg base 5 "polynomial_text" 0 ["number"] [0] (spF (Wk K κ TA__law_odds_right) 1 F_polynomial_text) := by
  obtain ⟨f, fd, F, b⟩ := T.dk_polynomial_text_k0_number
  refine Kw.calXK F b sc_polynomial_text (fun vs H Q E h => spF.len h) (fun cdv A outer s H vs Q E hr h => ?_)
  have hu := hu_of hr
  have hu64 := hr.units
  have hu65 := Ab.u65 hr
  exact ⟨_, (pss_cons (ps_expr (Gx.pe_cxS (calxs_s3_need T) Gx.takes_cx (fun _ _ _ _ h => h) hr (by omega) (by rfl) (pa_cons (pv 0) pa_nil)))
      (pss_cons (ps_setLc (i := 1) (own := [("place", 2)]) rfl sc_polynomial_text.nd rfl rfl (sw_true rfl rfl rfl (by decide +kernel)) (pi_range3 rfl T.b_range (pa_cons (pe_op op_sub (pe_bits (pv 0)) pe_int) (pa_cons (pe_un un_neg pe_int) (pa_cons (pe_un un_neg pe_int) pa_nil)))) (blkOk_by (N := ["number", "places", "place"]) (sc := C8.fnScope s_polynomial_text) (by decide +kernel)) (fun _ _ _ _ _ => (pg_name (i := 2) sc_polynomial_text.nd rfl (.inl rfl))) (fun _ _ _ _ _ => (pts_one (pt_cmpR (show OpR _ _ (Ab.rEqU K) by exact Ab.op_eqU hu64) (pe_op op_and (pe_op op_shr (pv 0) (pv 2)) pe_int) pe_int (nomark _)))) (fun _ _ _ _ _ => (pv 2)))
      (pss_one (ps_ret (pe_ifExp (pt_cmpR (show OpR _ _ (Ab.rNeU K) by exact Ab.op_neU hu64) (pv 1) (pe_lst pa_nil) (nomark _)) (show PE _ _ (tM1 (Ab.rJoin K) _ _) by exact pe_join pe_str (pe_lc (own := [("place", 2)]) rfl sc_polynomial_text.nd (show PI _ _ _ (Ab.iterU K _) by exact Ab.PI.or (pi_list (pv 1)) (Ab.PI.or (pi_tup (pv 1)) (pi_str (pv 1)))) (blkOk_by (N := ["number", "places", "place"]) (sc := C8.fnScope s_polynomial_text) (by decide +kernel)) (fun _ _ _ _ _ => (pg_name (i := 2) sc_polynomial_text.nd rfl (.inl rfl))) (fun _ _ _ _ _ => pts_nil) (fun _ _ _ _ _ => (Gx.pe_cx (calx_s3_term T) LamX.takes0 (E := fun _ _ _ => False) (fun _ _ _ _ h => h) hr (by omega) (by rfl) (pa_cons (pv 2) pa_nil))))) pe_str))))), Ab.DS.dfn (spF_gc h) rfl (DS.seq (DS.drop (DE.callStar (DA.cons DE.var DA.nil)))
      (DS.seq (DS.asg (DE.lc (DI.rng3 (DA.cons (DE.op (DR.i0 fun _ _ _ => .int _) (DE.bits DE.var) (DE.c fun _ => .int _) NE2.i0) (DA.cons (DE.un DU.neg (DE.c fun _ => .int _) NE1.neg) (DA.cons (DE.un DU.neg (DE.c fun _ => .int _) NE1.neg) DA.nil)))) DG.name Goes.name (WT.name (by decide)) (DT.test (DE.op DR.eq (DE.op (DR.i0 fun _ _ _ => .int _) (DE.op (DR.i fun _ _ _ => .int _) DE.var DE.var NE2.i) (DE.c fun _ => .int _) NE2.i0) (DE.c fun _ => .int _) NE2.eq)) DE.var) DG.name Goes.name)
      (DS.ret (DE.ifE (DT.test (DE.op DR.ne DE.var (DE.lst DA.nil) NE2.ne)) (DE.join (DE.c fun _ => .str _) (DE.lc (DI.iter DE.var) DG.name Goes.name (WT.name (by decide)) DT.yes (DE.call (fun _ => .nil) (DA.cons DE.var DA.nil)))) (DE.c fun _ => .str _)))))⟩
theorem cal__law_pair_right (T : Txt K mg (κ "DrawError") (κ "BadSteps") (κ "BadPolynomial") (κ "BadDegree") (κ "BadBits") CO__law_odds_right) : Gx.CalG P w K mg base 6 "_law_pair_right" (spF (Wk K κ TA__law_odds_right) 2 F__law_pair_right) := by
  obtain ⟨f, fd, F, b⟩ := T.d__law_pair_right
  refine Gx.calG F b sc__law_pair_right (fun vs H Q E h => spF.len h) (fun cdv A outer s H vs Q gd hr h => ?_)
  have hu := hu_of hr
  have hu64 := hr.units
  have hu65 := Ab.u65 hr
  exact ⟨_, (pss_cons (ps_set (i := 2) sc__law_pair_right.nd rfl (.inl rfl) (pe_lst (pa_cons (Gx.pe_cx (calx__law_number T) LamX.takes0 (E := fun _ _ _ => False) (fun _ _ _ _ h => h) hr (by omega) (by rfl) (pa_cons (pe_op (show OpR _ _ (Ab.rAddU K) by exact Ab.op_addU) (Gx.pe_cx (calx__law_places T) LamX.takes0 (E := fun _ _ _ => False) (fun _ _ _ _ h => h) hr (by omega) (by rfl) (pa_cons (pv 0) pa_nil)) (Gx.pe_cx (calx__law_places T) LamX.takes0 (E := fun _ _ _ => False) (fun _ _ _ _ h => h) hr (by omega) (by rfl) (pa_cons (pv 1) pa_nil))) pa_nil)) (pa_cons (Gx.pe_cx (calx__law_times T) LamX.takes0 (E := fun _ _ _ => False) (fun _ _ _ _ h => h) hr (by omega) (by rfl) (pa_cons (pv 0) (pa_cons (pv 1) pa_nil))) pa_nil))))
      (pss_cons (ps_if (PW.pt (pw_or (pt_cmpR (show OpR _ _ (Ab.rNeU K) by exact Ab.op_neU hu64) (pe_lst (pa_cons (Gx.pe_cx (calx_added T) LamX.takes0 (E := fun _ _ _ => False) (fun _ _ _ _ h => h) hr (by omega) (by rfl) (pa_cons (pv 0) (pa_cons (pv 1) pa_nil))) (pa_cons (Gx.pe_cx (calx_multiplied T) LamX.takes0 (E := fun _ _ _ => False) (fun _ _ _ _ h => h) hr (by omega) (by rfl) (pa_cons (pv 0) (pa_cons (pv 1) pa_nil))) pa_nil))) (pv 2) (nomark _)) (pw_or1 (pt_cmpR (show OpR _ _ (Ab.rNeU K) by exact Ab.op_neU hu64) (pe_lst (pa_cons (Kw.pe_ck0 (calxk_added_k0_second_first T) LamX.takes0 (E := fun _ _ _ => False) (fun _ _ _ _ h => h) hr (by omega) (by rfl) (Kw.pk_cons (pv 1) (Kw.pk_cons (pv 0) Kw.pk_nil))) (pa_cons (Kw.pe_ck0 (calxk_multiplied_k0_second_first T) LamX.takes0 (E := fun _ _ _ => False) (fun _ _ _ _ h => h) hr (by omega) (by rfl) (Kw.pk_cons (pv 1) (Kw.pk_cons (pv 0) Kw.pk_nil))) pa_nil))) (pv 2) (nomark _))))) (pss_one (ps_ret pe_bl)) pss_nil)
      (pss_cons (ps_if (pt_cmpR (show OpR _ _ (Ab.rNeU K) by exact Ab.op_neU hu64) (pe_callB (show CallR _ _ (Gx.rReprE K) by exact Gx.call_reprE gd hu64) (by rfl) T.b_repr (by decide +kernel) (pa_cons (pe_lst (pa_cons (Gx.pe_cx (calx_polynomial_text T) LamX.takes0 (E := fun _ _ _ => False) (fun _ _ _ _ h => h) hr (by omega) (by rfl) (pa_cons (pv 0) pa_nil)) (pa_cons (Kw.pe_ck0 (calxk_polynomial_text_k0_number T) LamX.takes0 (E := fun _ _ _ => False) (fun _ _ _ _ h => h) hr (by omega) (by rfl) (Kw.pk_cons (pv 1) Kw.pk_nil)) pa_nil))) pa_nil)) (pe_callB (show CallR _ _ (Gx.rReprE K) by exact Gx.call_reprE gd hu64) (by rfl) T.b_repr (by decide +kernel) (pa_cons (pe_lst (pa_cons (Gx.pe_cx (calx__law_text T) LamX.takes0 (E := fun _ _ _ => False) (fun _ _ _ _ h => h) hr (by omega) (by rfl) (pa_cons (pv 0) pa_nil)) (pa_cons (Gx.pe_cx (calx__law_text T) LamX.takes0 (E := fun _ _ _ => False) (fun _ _ _ _ h => h) hr (by omega) (by rfl) (pa_cons (pv 1) pa_nil)) pa_nil))) pa_nil)) (nomark _)) (pss_one (ps_ret pe_bl)) pss_nil)
      (pss_cons (ps_set (i := 3) sc__law_pair_right.nd rfl (.inl rfl) (pe_ix (show IxR _ (Ab.rIxU K) by exact Ab.ix_U) (pe_op (show OpR _ _ (Ab.rAddU K) by exact Ab.op_addU) (pe_lst (pa_cons (pe_un un_neg pe_int) pa_nil)) (Gx.pe_cx (calx__law_places T) LamX.takes0 (E := fun _ _ _ => False) (fun _ _ _ _ h => h) hr (by omega) (by rfl) (pa_cons (pv 0) pa_nil))) (pe_un un_neg pe_int) (fun _ _ => rfl)))
      (pss_one (ps_ret (pe_cmpR (show OpR _ _ (Ab.rEqU K) by exact Ab.op_eqU hu64) (pe_callB (show CallR _ _ (Gx.rReprE K) by exact Gx.call_reprE gd hu64) (by rfl) T.b_repr (by decide +kernel) (pa_cons (pe_lst (pa_cons (Gx.pe_cx (calx_degree T) LamX.takes0 (E := fun _ _ _ => False) (fun _ _ _ _ h => h) hr (by omega) (by rfl) (pa_cons (pv 0) pa_nil)) (pa_cons (Kw.pe_ck0 (calxk_degree_k0_number T) LamX.takes0 (E := fun _ _ _ => False) (fun _ _ _ _ h => h) hr (by omega) (by rfl) (Kw.pk_cons (pv 0) Kw.pk_nil)) (pa_cons (Gx.pe_cx (calx_is_polynomial T) LamX.takes0 (E := fun _ _ _ => False) (fun _ _ _ _ h => h) hr (by omega) (by rfl) (pa_cons (pv 0) pa_nil)) (pa_cons (Kw.pe_ck0 (calxk_is_polynomial_k0_value T) LamX.takes0 (E := fun _ _ _ => False) (fun _ _ _ _ h => h) hr (by omega) (by rfl) (Kw.pk_cons (pv 0) Kw.pk_nil)) pa_nil))))) pa_nil)) (pe_callB (show CallR _ _ (Gx.rReprE K) by exact Gx.call_reprE gd hu64) (by rfl) T.b_repr (by decide +kernel) (pa_cons (pe_lst (pa_cons (pv 3) (pa_cons (pv 3) (pa_cons pe_bl (pa_cons pe_bl pa_nil))))) pa_nil)) (nomark _)))))))), Ab.DS.dfn (spF_gc h) rfl (DS.seq (DS.asg (DE.lst (DA.cons (DE.call (fun _ => .nil) (DA.cons (DE.op DR.add (DE.call (fun _ => .nil) (DA.cons DE.var DA.nil)) (DE.call (fun _ => .nil) (DA.cons DE.var DA.nil)) NE2.add) DA.nil)) (DA.cons (DE.call (fun _ => .nil) (DA.cons DE.var (DA.cons DE.var DA.nil))) DA.nil))) DG.name Goes.name)
      (DS.seq (DS.ifs (DT.gc (DT.or (DT.test (DE.op DR.ne (DE.lst (DA.cons (DE.call (fun _ => .nil) (DA.cons DE.var (DA.cons DE.var DA.nil))) (DA.cons (DE.call (fun _ => .nil) (DA.cons DE.var (DA.cons DE.var DA.nil))) DA.nil))) DE.var NE2.ne)) (DT.test (DE.op DR.ne (DE.lst (DA.cons (DE.call (fun _ => .nil) (DA.kw DA.nil (DA.cons DE.var (DA.cons DE.var DA.nil)))) (DA.cons (DE.call (fun _ => .nil) (DA.kw DA.nil (DA.cons DE.var (DA.cons DE.var DA.nil)))) DA.nil))) DE.var NE2.ne)))) (DS.ret (DE.c fun _ => .bl _)) DS.next)
      (DS.seq (DS.ifs (DT.gc (DT.test (DE.op DR.ne (DE.cb DB.reprE (DA.cons (DE.lst (DA.cons (DE.call (fun _ => .nil) (DA.cons DE.var DA.nil)) (DA.cons (DE.call (fun _ => .nil) (DA.kw DA.nil (DA.cons DE.var DA.nil))) DA.nil))) DA.nil) NEL.reprE) (DE.cb DB.reprE (DA.cons (DE.lst (DA.cons (DE.call (fun _ => .nil) (DA.cons DE.var DA.nil)) (DA.cons (DE.call (fun _ => .nil) (DA.cons DE.var DA.nil)) DA.nil))) DA.nil) NEL.reprE) NE2.ne))) (DS.ret (DE.c fun _ => .bl _)) DS.next)
      (DS.seq (DS.asg (DE.gc (DE.op DR.ix (DE.op DR.add (DE.lst (DA.cons (DE.un DU.neg (DE.c fun _ => .int _) NE1.neg) DA.nil)) (DE.call (fun _ => .nil) (DA.cons DE.var DA.nil)) NE2.add) (DE.un DU.neg (DE.c fun _ => .int _) NE1.neg) NE2.ix)) DG.name Goes.name)
      (DS.ret (DE.op DR.eq (DE.cb DB.reprE (DA.cons (DE.lst (DA.cons (DE.call (fun _ => .nil) (DA.cons DE.var DA.nil)) (DA.cons (DE.call (fun _ => .nil) (DA.kw DA.nil (DA.cons DE.var DA.nil))) (DA.cons (DE.call (fun _ => .nil) (DA.cons DE.var DA.nil)) (DA.cons (DE.call (fun _ => .nil) (DA.kw DA.nil (DA.cons DE.var DA.nil))) DA.nil))))) DA.nil) NEL.reprE) (DE.cb DB.reprE (DA.cons (DE.lst (DA.cons DE.var (DA.cons DE.var (DA.cons (DE.c fun _ => .bl _) (DA.cons (DE.c fun _ => .bl _) DA.nil))))) DA.nil) NEL.reprE) NE2.eq))))))⟩
theorem cal__law_odds_right (T : Txt K mg (κ "DrawError") (κ "BadSteps") (κ "BadPolynomial") (κ "BadDegree") (κ "BadBits") CO__law_odds_right) (TB__law_odds_right : LamX.TabB base mg CO__law_odds_right TA__law_odds_right ∧ True) : Gx.CalG P w K mg base 9 "_law_odds_right" (spF (Wk K κ TA__law_odds_right) 2 F__law_odds_right) := by
  obtain ⟨f, fd, F, b⟩ := T.d__law_odds_right
  obtain ⟨f__law_fault, fd__law_fault, D__law_fault, b__law_fault⟩ := T.d__law_fault
  have mT__law_odds_right : (TA__law_odds_right, ("_law_odds_right.<locals>.<lambda>" : Str)) ∈ [(TA__law_odds_right, ("_law_odds_right.<locals>.<lambda>" : Str))] := List.mem_singleton.mpr rfl
  have hT__law_odds_right : ∀ p ∈ [(TA__law_odds_right, ("_law_odds_right.<locals>.<lambda>" : Str))], p.1 = TA__law_odds_right → p.2 = ("_law_odds_right.<locals>.<lambda>" : Str) := fun _ hp _ => congrArg Prod.snd (List.mem_singleton.mp hp)
  refine Gx.calGc F b sc__law_odds_right (fun vs H Q E h => spF.len h) (fun A outer s H vs Q gd hr h => ?_)
  have hu := hu_of hr
  have hu64 := hr.units
  have hu65 := Ab.u65 hr
  exact ⟨_, (pss_cons (ps_asg (pe_tup (pa_cons (Gx.pe_cx (calx__law_odd T) LamX.takes0 (E := fun _ _ _ => False) (fun _ _ _ _ h => h) hr (by omega) (by rfl) (pa_cons (pv 0) pa_nil)) (pa_cons (Gx.pe_cx (calx__law_odd T) LamX.takes0 (E := fun _ _ _ => False) (fun _ _ _ _ h => h) hr (by omega) (by rfl) (pa_cons (pv 0) pa_nil)) pa_nil))) (show PG _ _ (gTup K 2 _) by exact pg_tup rfl (pgs_cons (pg_name (i := 2) sc__law_odds_right.nd rfl (.inr rfl)) (pgs_cons (pg_name (i := 3) sc__law_odds_right.nd rfl (.inr rfl)) pgs_nil))))
      (pss_cons (ps_if (PW.pt (pw_or (pt_cmpR op_notBl (Gx.pe_cx (calx_is_polynomial T) LamX.takes0 (E := fun _ _ _ => False) (fun _ _ _ _ h => h) hr (by omega) (by rfl) (pa_cons (pv 2) pa_nil)) pe_bl (nomark _)) (pw_or1 (pt_cmpR (show OpR _ _ (Ab.rNeU K) by exact Ab.op_neU hu64) (Gx.pe_lam (k := 6) D__law_fault b__law_fault sc__law_fault rfl (.inl (by rfl)) (fun _ => gives__law_fault T rfl rfl rfl rfl rfl gd (hr.mono (by omega))) TB__law_odds_right.1 rfl mT__law_odds_right hT__law_odds_right hr (by omega) (by rfl) (LamX.lamS_by (sc := C8.fnScope s__law_odds_right) (by decide +kernel)) (fun _ _ _ _ _ _ _ hr => (Gx.pe_cx (calx_degree T) Gx.takes_lam (fun _ _ _ _ h => h) hr (by omega) (by rfl) (pa_cons (pv 2) pa_nil)))) (pe_tup (pa_cons pe_str (pa_cons (pv 2) pa_nil))) (nomark _))))) (pss_one (ps_ret pe_bl)) pss_nil)
      (pss_cons (ps_set (i := 4) sc__law_odds_right.nd rfl (.inl rfl) (pe_lst (pa_cons (Gx.pe_lam (k := 6) D__law_fault b__law_fault sc__law_fault rfl (.inl (by rfl)) (fun _ => gives__law_fault T rfl rfl rfl rfl rfl gd (hr.mono (by omega))) TB__law_odds_right.1 rfl mT__law_odds_right hT__law_odds_right hr (by omega) (by rfl) (LamX.lamS_by (sc := C8.fnScope s__law_odds_right) (by decide +kernel)) (fun _ _ _ _ _ _ _ hr => (Gx.pe_cx (calx_added T) Gx.takes_lam (fun _ _ _ _ h => h) hr (by omega) (by rfl) (pa_cons (pv 2) (pa_cons (pv 3) pa_nil))))) (pa_cons (LamD.pe_lamD (k := 6) (y := "_law_x") D__law_fault b__law_fault sc__law_fault rfl (.inl (by rfl)) (fun _ => gives__law_fault T rfl rfl rfl rfl rfl gd (hr.mono (by omega))) TB__law_odds_right.1 rfl mT__law_odds_right hT__law_odds_right hr (by omega) (by rfl) (LamD.lamS1_by (sc := C8.fnScope s__law_odds_right) (by decide +kernel)) (show ("_law_x" : Str) ∉ (["_law_draw", "_law_a", "_law_odd_here", "_law_far", "_law_told"] : List Str) by decide) (fun _ _ _ _ _ _ _ hr => (Gx.pe_cx (calx_multiplied T) Gx.takes_lam (fun _ _ _ _ h => h) hr (by omega) (by rfl) (pa_cons (pv 2) (pa_cons (pv 3) pa_nil)))) pe_int) pa_nil))))
      (pss_cons (ps_if (pt_cmpR (show OpR _ _ (Ab.rNeU K) by exact Ab.op_neU hu64) (pe_callB (show CallR _ _ (Gx.rReprE K) by exact Gx.call_reprE gd hu64) (by rfl) T.b_repr (by decide +kernel) (pa_cons (pv 4) pa_nil)) (pe_callB (show CallR _ _ (Gx.rReprE K) by exact Gx.call_reprE gd hu64) (by rfl) T.b_repr (by decide +kernel) (pa_cons (pe_op Ab.op_mulU (pe_lst (pa_cons (pe_tup (pa_cons pe_str (pa_cons (pv 2) pa_nil))) pa_nil)) pe_int) pa_nil)) (nomark _)) (pss_one (ps_ret pe_bl)) pss_nil)
      (pss_cons (ps_set (i := 4) sc__law_odds_right.nd rfl (.inl rfl) (pe_lst (pa_cons (Gx.pe_lam (k := 6) D__law_fault b__law_fault sc__law_fault rfl (.inl (by rfl)) (fun _ => gives__law_fault T rfl rfl rfl rfl rfl gd (hr.mono (by omega))) TB__law_odds_right.1 rfl mT__law_odds_right hT__law_odds_right hr (by omega) (by rfl) (LamX.lamS_by (sc := C8.fnScope s__law_odds_right) (by decide +kernel)) (fun _ _ _ _ _ _ _ hr => (Gx.pe_cx (calx_added T) Gx.takes_lam (fun _ _ _ _ h => h) hr (by omega) (by rfl) (pa_cons (pv 1) (pa_cons (pv 2) pa_nil))))) (pa_cons (LamD.pe_lamD (k := 6) (y := "_law_x") D__law_fault b__law_fault sc__law_fault rfl (.inl (by rfl)) (fun _ => gives__law_fault T rfl rfl rfl rfl rfl gd (hr.mono (by omega))) TB__law_odds_right.1 rfl mT__law_odds_right hT__law_odds_right hr (by omega) (by rfl) (LamD.lamS1_by (sc := C8.fnScope s__law_odds_right) (by decide +kernel)) (show ("_law_x" : Str) ∉ (["_law_draw", "_law_a", "_law_odd_here", "_law_far", "_law_told"] : List Str) by decide) (fun _ _ _ _ _ _ _ hr => (Gx.pe_cx (calx_multiplied T) Gx.takes_lam (fun _ _ _ _ h => h) hr (by omega) (by rfl) (pa_cons (pv 1) (pa_cons (pv 2) pa_nil)))) pe_int) pa_nil))))
      (pss_cons (ps_expr (show PE _ _ (tBM K "list" _ _ _) by exact pe_bm PySem.F.plainAttrs_list PySem.F.slot_list_append PySem.F.type_list_append mt_append (pv 4) (pa_cons (Gx.pe_lam (k := 6) D__law_fault b__law_fault sc__law_fault rfl (.inl (by rfl)) (fun _ => gives__law_fault T rfl rfl rfl rfl rfl gd (hr.mono (by omega))) TB__law_odds_right.1 rfl mT__law_odds_right hT__law_odds_right hr (by omega) (by rfl) (LamX.lamS_by (sc := C8.fnScope s__law_odds_right) (by decide +kernel)) (fun _ _ _ _ _ _ _ hr => (Gx.pe_cx (calx_polynomial_text T) Gx.takes_lam (fun _ _ _ _ h => h) hr (by omega) (by rfl) (pa_cons (pv 2) pa_nil)))) pa_nil)))
      (pss_one (ps_ret (pe_cmpR (show OpR _ _ (Ab.rEqU K) by exact Ab.op_eqU hu64) (pe_callB (show CallR _ _ (Gx.rReprE K) by exact Gx.call_reprE gd hu64) (by rfl) T.b_repr (by decide +kernel) (pa_cons (pv 4) pa_nil)) (pe_callB (show CallR _ _ (Gx.rReprE K) by exact Gx.call_reprE gd hu64) (by rfl) T.b_repr (by decide +kernel) (pa_cons (pe_op Ab.op_mulU (pe_lst (pa_cons (pe_tup (pa_cons pe_str (pa_cons (pv 2) pa_nil))) pa_nil)) pe_int) pa_nil)) (nomark _)))))))))), Ab.DS.dfn (spF_gc h) rfl (DS.seq (DS.asg (DE.tup (DA.cons (DE.call (fun _ => .nil) (DA.cons DE.var DA.nil)) (DA.cons (DE.call (fun _ => .nil) (DA.cons DE.var DA.nil)) DA.nil))) (DG.tup (DGs.cons DG.name (DGs.cons DG.name DGs.nil))) (Goes.tup (GoesL.cons Goes.name (GoesL.cons Goes.name GoesL.nil))))
      (DS.seq (DS.ifs (DT.gc (DT.or (DT.test (DE.op DR.notB (DE.call (fun _ => .nil) (DA.cons DE.var DA.nil)) (DE.c fun _ => .bl _) NE2.notB)) (DT.test (DE.op DR.ne (DE.gc (DE.told (fun E => (DE.call (fun _ => .nil) (DA.cons DE.var DA.nil))))) (DE.tup (DA.cons (DE.c fun _ => .str _) (DA.cons DE.var DA.nil))) NE2.ne)))) (DS.ret (DE.c fun _ => .bl _)) DS.next)
      (DS.seq (DS.asg (DE.lst (DA.cons (DE.gc (DE.told (fun E => (DE.call (fun _ => .nil) (DA.cons DE.var (DA.cons DE.var DA.nil)))))) (DA.cons (DE.gc (DE.told (fun E => (DE.call (fun _ => .nil) (DA.cons DE.var (DA.cons DE.var DA.nil)))))) DA.nil))) DG.name Goes.name)
      (DS.seq (DS.ifs (DT.gc (DT.test (DE.op DR.ne (DE.cb DB.reprE (DA.cons DE.var DA.nil) NEL.reprE) (DE.cb DB.reprE (DA.cons (DE.op DR.mul (DE.lst (DA.cons (DE.tup (DA.cons (DE.c fun _ => .str _) (DA.cons DE.var DA.nil))) DA.nil)) (DE.c fun _ => .int _) NE2.mul) DA.nil) NEL.reprE) NE2.ne))) (DS.ret (DE.c fun _ => .bl _)) DS.next)
      (DS.seq (DS.asg (DE.lst (DA.cons (DE.gc (DE.told (fun E => (DE.call (fun _ => .nil) (DA.cons DE.var (DA.cons DE.var DA.nil)))))) (DA.cons (DE.gc (DE.told (fun E => (DE.call (fun _ => .nil) (DA.cons DE.var (DA.cons DE.var DA.nil)))))) DA.nil))) DG.name Goes.name)
      (DS.seq (DS.drop (DE.bm DM.append NEM.append DE.var (DA.cons (DE.gc (DE.told (fun E => (DE.call (fun _ => .nil) (DA.cons DE.var DA.nil))))) DA.nil)))
      (DS.ret (DE.op DR.eq (DE.cb DB.reprE (DA.cons DE.var DA.nil) NEL.reprE) (DE.cb DB.reprE (DA.cons (DE.op DR.mul (DE.lst (DA.cons (DE.tup (DA.cons (DE.c fun _ => .str _) (DA.cons DE.var DA.nil))) DA.nil)) (DE.c fun _ => .int _) NE2.mul) DA.nil) NEL.reprE) NE2.eq))))))))⟩
def spLaw (K : PySem.W.Frag) (TA__law_odds_right : Addr) : Sp := fun vs H Q _ => ∃ (a : Addr) (ns : List Int), vs = [.ref a] ∧ SqF K H a (ns.map V.int) ∧ LamX.Tabs [(TA__law_odds_right, "_law_odds_right.<locals>.<lambda>")] H ∧ (∃ s', F_law [.scr (ns.map .int)] s0 = .ok (.bl true) s') ∧ ∀ H', Q (.bl true) H'
theorem fn_law (T : Txt K mg (κ "DrawError") (κ "BadSteps") (κ "BadPolynomial") (κ "BadDegree") (κ "BadBits") CO__law_odds_right) (TB__law_odds_right : LamX.TabB base mg CO__law_odds_right TA__law_odds_right ∧ True) {f : Addr} {fd : FuncData} (F : C8.Def K mg "law" s_law f fd) : Gx.FnG P w K mg base 10 f fd ["_law_script"] (spLaw K TA__law_odds_right) := by
  obtain ⟨f__law_fault, fd__law_fault, D__law_fault, b__law_fault⟩ := T.d__law_fault
  refine Gx.fnG_of F.fn sc_law (fun vs H Q E h => ?_) (fun cdv A outer s H vs Q gd hr h => ?_)
  · obtain ⟨a, ns, rfl, _⟩ := h; rfl
  · obtain ⟨a, ns, rfl, hS, tb, hl, q⟩ := h
    have hu := hu_of hr
    have hu64 := hr.units
    have hu65 := Ab.u65 hr
    exact ⟨_, (pss_cons (ps_set (i := 1) sc_law.nd rfl (.inr rfl) (Gx.pe_cx (calx__law_begun T) LamX.takes0 (E := fun _ _ _ => False) (fun _ _ _ _ h => h) hr (by omega) (by rfl) (pa_cons (pv 0) pa_nil)))
      (pss_cons (ps_for PassesOwn.never rfl (pi_range1 rfl T.b_range (pa_cons (pe_op (show OpR _ _ (Ab.rAddU K) by exact Ab.op_addU) pe_int (pe_callB (Rd.call_mn2 rfl) (by rfl) T.b_min (by decide +kernel) (pa_cons pe_int (pa_cons (pe_callB (show CallR _ _ (Ab.rLenU K) by exact Ab.call_lenU) (by rfl) T.b_len PySem.boot_len (pa_cons (pv 0) pa_nil)) pa_nil)))) pa_nil)) (pg_name (i := 2) sc_law.nd rfl (.inl rfl)) (pss_cons (ps_par3 (i := 3) (j := 4) (l := 5) rfl sc_law.nd rfl rfl rfl (by decide) (by decide) (by decide) rfl rfl rfl (pa_cons (Gx.pe_cx (calx__law_poly T) LamX.takes0 (E := fun _ _ _ => False) (fun _ _ _ _ h => h) hr (by omega) (by rfl) (pa_cons (pv 1) (pa_cons pe_int pa_nil))) (pa_cons (Gx.pe_cx (calx__law_poly T) LamX.takes0 (E := fun _ _ _ => False) (fun _ _ _ _ h => h) hr (by omega) (by rfl) (pa_cons (pv 1) (pa_cons pe_int pa_nil))) (pa_cons (Gx.pe_cx (calx__law_poly T) LamX.takes0 (E := fun _ _ _ => False) (fun _ _ _ _ h => h) hr (by omega) (by rfl) (pa_cons (pv 1) (pa_cons pe_int pa_nil))) pa_nil))) (by rfl))
      (pss_cons (ps_set (i := 6) sc_law.nd rfl (.inl rfl) (Gx.pe_cx (calx__law_number T) LamX.takes0 (E := fun _ _ _ => False) (fun _ _ _ _ h => h) hr (by omega) (by rfl) (pa_cons (pe_lc (own := [("_law_step", 7)]) rfl sc_law.nd (pi_range1 rfl T.b_range (pa_cons pe_int pa_nil)) (blkOk_by (N := ["_law_script", "_law_draw", "_law_turn", "_law_a", "_law_b", "_law_c", "_law_wide", "_law_step", "_law_far"]) (sc := C8.fnScope s_law) (by decide +kernel)) (fun _ _ _ _ _ => (pg_name (i := 7) sc_law.nd rfl (.inl rfl))) (fun _ _ _ _ _ => pts_nil) (fun _ _ _ _ _ => (Gx.pe_cx (calx__law_next T) LamX.takes0 (E := fun _ _ _ => False) (fun _ _ _ _ h => h) hr (by omega) (by rfl) (pa_cons (pv 1) (pa_cons pe_int pa_nil))))) pa_nil)))
      (pss_cons (ps_if (PW.pt (pw_or (pt_not (pt_val (Gx.pe_g (cal__law_pair_right T) gd hr (by omega) (by rfl) (pa_cons (pv 3) (pa_cons (pv 4) pa_nil))))) (pw_or (pt_not (pt_val (Gx.pe_g (cal__law_pair_right T) gd hr (by omega) (by rfl) (pa_cons (pv 4) (pa_cons (pv 3) pa_nil))))) (pw_or1 (pt_not (pt_val (Gx.pe_g (cal__law_pair_right T) gd hr (by omega) (by rfl) (pa_cons (pv 6) (pa_cons (pe_op op_mod (pv 3) pe_int) pa_nil))))))))) (pss_one (ps_ret pe_bl)) pss_nil)
      (pss_one (ps_if (PW.pt (pw_or (pt_not (pt_val (Gx.pe_g (cal__law_pair_right T) gd hr (by omega) (by rfl) (pa_cons (pe_op op_mod (pv 3) pe_int) (pa_cons (pv 6) pa_nil))))) (pw_or (pt_cmpR (show OpR _ _ (Ab.rNeU K) by exact Ab.op_neU hu64) (Gx.pe_cx (calx_degree T) LamX.takes0 (E := fun _ _ _ => False) (fun _ _ _ _ h => h) hr (by omega) (by rfl) (pa_cons (pv 5) pa_nil)) (pe_op op_sub (pe_bits (pv 5)) pe_int) (nomark _)) (pw_or1 (pt_not (pt_val (Gx.pe_g (cal__law_odds_right T TB__law_odds_right) gd hr (by omega) (by rfl) (pa_cons (pv 1) (pa_cons (pv 3) pa_nil))))))))) (pss_one (ps_ret pe_bl)) pss_nil))))))
      (pss_cons (ps_set (i := 8) sc_law.nd rfl (.inl rfl) (pe_op op_sub (pe_op op_shlW pe_int pe_int) pe_int))
      (pss_cons (ps_if (pt_cmpR (show OpR _ _ (Ab.rNeU K) by exact Ab.op_neU hu64) (pe_lst (pa_cons (C8.pe_gc (by rfl) T.c_MOST_DIGITS) (pa_cons (Gx.pe_cx (calx_is_polynomial T) LamX.takes0 (E := fun _ _ _ => False) (fun _ _ _ _ h => h) hr (by omega) (by rfl) (pa_cons (pv 8) pa_nil)) (pa_cons (Gx.pe_cx (calx_degree T) LamX.takes0 (E := fun _ _ _ => False) (fun _ _ _ _ h => h) hr (by omega) (by rfl) (pa_cons (pv 8) pa_nil)) (pa_cons (Gx.pe_cx (calx_added T) LamX.takes0 (E := fun _ _ _ => False) (fun _ _ _ _ h => h) hr (by omega) (by rfl) (pa_cons (pv 8) (pa_cons (pv 8) pa_nil))) pa_nil))))) (pe_lst (pa_cons pe_int (pa_cons pe_bl (pa_cons pe_int (pa_cons pe_int pa_nil))))) (nomark _)) (pss_one (ps_ret pe_bl)) pss_nil)
      (pss_one (ps_ret (pe_cmpR (show OpR _ _ (Ab.rEqU K) by exact Ab.op_eqU hu64) (pe_lst (pa_cons (Gx.pe_cx (calx_multiplied T) LamX.takes0 (E := fun _ _ _ => False) (fun _ _ _ _ h => h) hr (by omega) (by rfl) (pa_cons pe_int (pa_cons pe_int pa_nil))) (pa_cons (Gx.pe_cx (calx_multiplied T) LamX.takes0 (E := fun _ _ _ => False) (fun _ _ _ _ h => h) hr (by omega) (by rfl) (pa_cons pe_int (pa_cons pe_int pa_nil))) (pa_cons (Gx.pe_cx (calx_multiplied T) LamX.takes0 (E := fun _ _ _ => False) (fun _ _ _ _ h => h) hr (by omega) (by rfl) (pa_cons (pe_op op_shlW pe_int pe_int) (pa_cons (pe_op op_shlW pe_int pe_int) pa_nil))) (pa_cons (Gx.pe_cx (calx_degree T) LamX.takes0 (E := fun _ _ _ => False) (fun _ _ _ _ h => h) hr (by omega) (by rfl) (pa_cons pe_int pa_nil)) pa_nil))))) (pe_lst (pa_cons pe_int (pa_cons pe_int (pa_cons (pe_op op_shlW pe_int pe_int) (pa_cons (pe_un un_neg pe_int) pa_nil))))) (nomark _)))))))), law_run (W := (Wk K κ TA__law_odds_right)) (fun _ => trivial) hS tb hl rfl (DS.seq (DS.asg (DE.call (fun _ => .nil) (DA.cons DE.var DA.nil)) DG.name Goes.name)
      (DS.seq (DS.forS (DI.rng1 (DA.cons (DE.op DR.add (DE.c fun _ => .int _) (DE.cb DB.min2 (DA.cons (DE.c fun _ => .int _) (DA.cons (DE.cb DB.len (DA.cons DE.var DA.nil) NEL.len) DA.nil)) NEL.min2) NE2.add) DA.nil)) DG.name Goes.name (DS.seq (DS.par3 (DA.cons (DE.call (fun _ => .nil) (DA.cons DE.var (DA.cons (DE.c fun _ => .int _) DA.nil))) (DA.cons (DE.call (fun _ => .nil) (DA.cons DE.var (DA.cons (DE.c fun _ => .int _) DA.nil))) (DA.cons (DE.call (fun _ => .nil) (DA.cons DE.var (DA.cons (DE.c fun _ => .int _) DA.nil))) DA.nil))))
      (DS.seq (DS.asg (DE.call (fun _ => .nil) (DA.cons (DE.lc (DI.rng1 (DA.cons (DE.c fun _ => .int _) DA.nil)) DG.name Goes.name (WT.name (by decide)) DT.yes (DE.call (fun _ => .nil) (DA.cons DE.var (DA.cons (DE.c fun _ => .int _) DA.nil)))) DA.nil)) DG.name Goes.name)
      (DS.seq (DS.ifs (DT.gc (DT.or (DT.not (DT.b (DE.call (Ek := C8.E0) (fun _ => .nil) (DA.cons DE.var (DA.cons DE.var DA.nil))))) (DT.or (DT.not (DT.b (DE.call (Ek := C8.E0) (fun _ => .nil) (DA.cons DE.var (DA.cons DE.var DA.nil))))) (DT.not (DT.b (DE.call (Ek := C8.E0) (fun _ => .nil) (DA.cons DE.var (DA.cons (DE.op (DR.i fun _ _ _ => .int _) DE.var (DE.c fun _ => .int _) NE2.i) DA.nil)))))))) (DS.ret (DE.c fun _ => .bl _)) DS.next)
      (DS.ifs (DT.gc (DT.or (DT.not (DT.b (DE.call (Ek := C8.E0) (fun _ => .nil) (DA.cons (DE.op (DR.i fun _ _ _ => .int _) DE.var (DE.c fun _ => .int _) NE2.i) (DA.cons DE.var DA.nil))))) (DT.or (DT.test (DE.op DR.ne (DE.call (fun _ => .nil) (DA.cons DE.var DA.nil)) (DE.op (DR.i0 fun _ _ _ => .int _) (DE.bits DE.var) (DE.c fun _ => .int _) NE2.i0) NE2.ne)) (DT.not (DT.b (DE.call (Ek := C8.E0) (fun _ => .nil) (DA.cons DE.var (DA.cons DE.var DA.nil)))))))) (DS.ret (DE.c fun _ => .bl _)) DS.next)))))
      (DS.seq (DS.asg (DE.op (DR.i0 fun _ _ _ => .int _) (DE.op (DR.i fun _ _ _ => .int _) (DE.c fun _ => .int _) (DE.c fun _ => .int _) NE2.i) (DE.c fun _ => .int _) NE2.i0) DG.name Goes.name)
      (DS.seq (DS.ifs (DT.gc (DT.test (DE.op DR.ne (DE.lst (DA.cons (DE.c fun _ => .int _) (DA.cons (DE.call (fun _ => .nil) (DA.cons DE.var DA.nil)) (DA.cons (DE.call (fun _ => .nil) (DA.cons DE.var DA.nil)) (DA.cons (DE.call (fun _ => .nil) (DA.cons DE.var (DA.cons DE.var DA.nil))) DA.nil))))) (DE.lst (DA.cons (DE.c fun _ => .int _) (DA.cons (DE.c fun _ => .bl _) (DA.cons (DE.c fun _ => .int _) (DA.cons (DE.c fun _ => .int _) DA.nil))))) NE2.ne))) (DS.ret (DE.c fun _ => .bl _)) DS.next)
      (DS.ret (DE.op DR.eq (DE.lst (DA.cons (DE.call (fun _ => .nil) (DA.cons (DE.c fun _ => .int _) (DA.cons (DE.c fun _ => .int _) DA.nil))) (DA.cons (DE.call (fun _ => .nil) (DA.cons (DE.c fun _ => .int _) (DA.cons (DE.c fun _ => .int _) DA.nil))) (DA.cons (DE.call (fun _ => .nil) (DA.cons (DE.op (DR.i fun _ _ _ => .int _) (DE.c fun _ => .int _) (DE.c fun _ => .int _) NE2.i) (DA.cons (DE.op (DR.i fun _ _ _ => .int _) (DE.c fun _ => .int _) (DE.c fun _ => .int _) NE2.i) DA.nil))) (DA.cons (DE.call (fun _ => .nil) (DA.cons (DE.c fun _ => .int _) DA.nil)) DA.nil))))) (DE.lst (DA.cons (DE.c fun _ => .int _) (DA.cons (DE.c fun _ => .int _) (DA.cons (DE.op (DR.i fun _ _ _ => .int _) (DE.c fun _ => .int _) (DE.c fun _ => .int _) NE2.i) (DA.cons (DE.un DU.neg (DE.c fun _ => .int _) NE1.neg) DA.nil))))) NE2.eq)))))) q⟩
end
end Pf
set_option linter.all false
set_option maxRecDepth 100000
namespace TW
/-- the exclusive or of the items behind b whose places are digits of p -/
def act : Nat → Nat → (Nat → Nat) → Nat → Nat
  | 0, _, _, _ => 0
  | n + 1, p, u, b => (if p % 2 = 1 then u b else 0) ^^^ act n (p / 2) u (b + 1)
theorem xor4 (a b c d : Nat) : (a ^^^ b) ^^^ (c ^^^ d) = (a ^^^ c) ^^^ (b ^^^ d) := by
  rw [Nat.xor_assoc, Nat.xor_assoc, ← Nat.xor_assoc b c d, Nat.xor_comm b c, Nat.xor_assoc c b d]
theorem xor_mod2 (p q : Nat) : (p ^^^ q) % 2 = (p % 2 + q % 2) % 2 := by
  have h := Nat.testBit_xor p q 0
  simp only [Nat.testBit_zero] at h
  have a := Nat.mod_two_eq_zero_or_one p
  have b := Nat.mod_two_eq_zero_or_one q
  have c := Nat.mod_two_eq_zero_or_one (p ^^^ q)
  rcases a with a | a <;> rcases b with b | b <;> rcases c with c | c <;> simp [a, b, c] at h ⊢
theorem xor_div2 (p q : Nat) : (p ^^^ q) / 2 = (p / 2) ^^^ (q / 2) := by
  simpa [Nat.shiftRight_eq_div_pow] using @Nat.shiftRight_xor_distrib 1 p q
theorem act_xor : ∀ (n p q : Nat) (u : Nat → Nat) (b : Nat), act n (p ^^^ q) u b = act n p u b ^^^ act n q u b
  | 0, p, q, u, b => by simp [act]
  | n + 1, p, q, u, b => by
    unfold act
    rw [xor_div2, act_xor n, xor_mod2, xor4]
    congr 1
    rcases Nat.mod_two_eq_zero_or_one p with a | a <;> rcases Nat.mod_two_eq_zero_or_one q with c | c <;> simp [a, c]
theorem act_zero : ∀ (n : Nat) (u : Nat → Nat) (b : Nat), act n 0 u b = 0
  | 0, u, b => rfl
  | n + 1, u, b => by unfold act; simp [act_zero n]
theorem act_shift : ∀ (n p : Nat) (u : Nat → Nat) (b k : Nat), act n p (fun b => u (b + k)) b = act n p u (b + k)
  | 0, p, u, b, k => rfl
  | n + 1, p, u, b, k => by
    unfold act
    rw [act_shift n, show b + 1 + k = b + k + 1 by omega]
theorem act_fuel : ∀ (n m p : Nat) (u : Nat → Nat) (b : Nat), p < 2 ^ n → n ≤ m → act m p u b = act n p u b
  | 0, m, p, u, b, h, _ => by
    have : p = 0 := by simpa using h
    rw [this, act_zero]; rfl
  | n + 1, 0, p, u, b, h, k => by omega
  | n + 1, m + 1, p, u, b, h, k => by
    unfold act
    rw [act_fuel n m (p / 2) u (b + 1) (by rw [Nat.pow_succ] at h; omega) (by omega)]
theorem act_lin : ∀ (n p : Nat) (u v : Nat → Nat) (b : Nat), act n p (fun b => u b ^^^ v b) b = act n p u b ^^^ act n p v b
  | 0, p, u, v, b => by simp [act]
  | n + 1, p, u, v, b => by
    unfold act
    rw [act_lin n, xor4]
    congr 1
    by_cases h : p % 2 = 1 <;> simp [h]
theorem act_ext : ∀ (n p : Nat) (u v : Nat → Nat) (b : Nat), (∀ i, b ≤ i → u i = v i) → act n p u b = act n p v b
  | 0, p, u, v, b, h => rfl
  | n + 1, p, u, v, b, h => by
    unfold act
    rw [h b (Nat.le_refl b), act_ext n (p / 2) u v (b + 1) fun i hi => h i (by omega)]
theorem act_nil : ∀ (n p : Nat) (b : Nat), act n p (fun _ => 0) b = 0
  | 0, p, b => rfl
  | n + 1, p, b => by unfold act; rw [act_nil n]; simp
def A (p : Nat) (u : Nat → Nat) (b : Nat) : Nat := act p p u b
theorem A_fuel {n p : Nat} (h : p < 2 ^ n) (u : Nat → Nat) (b : Nat) : A p u b = act n p u b := by
  unfold A
  rcases Nat.le_total n p with k | k
  · exact act_fuel n p p u b h k
  · exact (act_fuel p n p u b Nat.lt_two_pow_self k).symm
theorem lt_big {p n : Nat} (h : p ≤ n) : p < 2 ^ n := Nat.lt_of_lt_of_le Nat.lt_two_pow_self (Nat.pow_le_pow_right (by decide) h)
theorem A_xor (p q : Nat) (u : Nat → Nat) (b : Nat) : A (p ^^^ q) u b = A p u b ^^^ A q u b := by
  rw [A_fuel (lt_big (n := p + q + (p ^^^ q)) (by omega)), A_fuel (p := p) (lt_big (n := p + q + (p ^^^ q)) (by omega)), A_fuel (p := q) (lt_big (n := p + q + (p ^^^ q)) (by omega)), act_xor]
theorem A_zero (u : Nat → Nat) (b : Nat) : A 0 u b = 0 := rfl
theorem A_step (p : Nat) (u : Nat → Nat) (b : Nat) : A p u b = (if p % 2 = 1 then u b else 0) ^^^ A (p / 2) u (b + 1) := by
  rw [A_fuel (lt_big (n := p + 1) (by omega)), A_fuel (p := p / 2) (lt_big (n := p) (by omega))]
  rfl
theorem A_one (u : Nat → Nat) (b : Nat) : A 1 u b = u b := by rw [A_step]; simp [A_zero]
theorem A_two (p : Nat) (u : Nat → Nat) (b : Nat) : A (2 * p) u b = A p u (b + 1) := by
  rw [A_step, show 2 * p % 2 = 0 by omega, show 2 * p / 2 = p by omega]
  simp
theorem A_shl (p : Nat) (u : Nat → Nat) : ∀ (k b : Nat), A (p * 2 ^ k) u b = A p u (b + k)
  | 0, b => by simp
  | k + 1, b => by
    rw [Nat.pow_succ, show p * (2 ^ k * 2) = 2 * (p * 2 ^ k) by rw [← Nat.mul_assoc]; exact Nat.mul_comm _ _, A_two, A_shl p u k, show b + 1 + k = b + (k + 1) by omega]
theorem A_shift (p : Nat) (u : Nat → Nat) (b k : Nat) : A p (fun b => u (b + k)) b = A p u (b + k) := act_shift p p u b k
theorem A_ext {p : Nat} {u v : Nat → Nat} {b : Nat} (h : ∀ i, b ≤ i → u i = v i) : A p u b = A p v b := act_ext p p u v b h
theorem A_nil (p b : Nat) : A p (fun _ => 0) b = 0 := act_nil p p b
theorem A_lin (p : Nat) (u v : Nat → Nat) (b : Nat) : A p (fun b => u b ^^^ v b) b = A p u b ^^^ A p v b := act_lin p p u v b
/-- products -/
def prodN : Nat → Nat → Nat → Nat → Nat
  | 0, f, _, _ => f
  | n + 1, f, s, r => if r = 0 then f else prodN n (if r % 2 = 1 then f ^^^ s else f) (2 * s) (r / 2)
theorem A_prodN (u : Nat → Nat) : ∀ (n f s r b : Nat), r < 2 ^ n → A (prodN n f s r) u b = A f u b ^^^ A r (A s u) b
  | 0, f, s, r, b, h => by
    have : r = 0 := by simpa using h
    subst this
    show A f u b = _
    rw [A_zero, Nat.xor_zero]
  | n + 1, f, s, r, b, h => by
    unfold prodN
    by_cases hr : r = 0
    · subst hr
      rw [if_pos rfl, A_zero, Nat.xor_zero]
    · rw [if_neg hr, A_prodN u n _ _ _ b (by rw [Nat.pow_succ] at h; omega), A_step r]
      have e : A (r / 2) (A (2 * s) u) b = A (r / 2) (A s u) (b + 1) := by
        rw [← A_shift]
        exact A_ext fun i _ => A_two s u i
      rw [e]
      by_cases h2 : r % 2 = 1
      · rw [if_pos h2, if_pos h2, A_xor, Nat.xor_assoc]
      · rw [if_neg h2, if_neg h2, Nat.zero_xor]
/-- rests -/
def len (n : Nat) : Nat := if n = 0 then 0 else n.log2 + 1
theorem len_pos {n : Nat} (h : n ≠ 0) : len n = n.log2 + 1 := if_neg h
theorem lt_len (n : Nat) : n < 2 ^ len n := by
  unfold len
  split
  · subst n; decide
  · exact Nat.lt_log2_self
theorem len_le {n k : Nat} (h : n < 2 ^ k) : len n ≤ k := by
  unfold len
  split
  · omega
  · rename_i hn
    exact (Nat.log2_lt hn).mpr h
theorem le_len {n k : Nat} (h : 2 ^ k ≤ n) : k < len n := by
  have hn : n ≠ 0 := by have := Nat.pow_pos (n := k) (show 0 < 2 by decide); omega
  rw [len_pos hn]
  exact Nat.lt_succ_of_le ((Nat.le_log2 hn).mpr h)
theorem len_ge {n : Nat} (h : n ≠ 0) : 2 ^ (len n - 1) ≤ n := by
  rw [len_pos h]
  exact Nat.log2_self_le h
/-- the highest digits go away -/
theorem top_xor {k a b : Nat} (ha : 2 ^ k ≤ a) (ha2 : a < 2 ^ (k + 1)) (hb : 2 ^ k ≤ b) (hb2 : b < 2 ^ (k + 1)) : a ^^^ b < 2 ^ k := by
  refine Nat.lt_pow_two_of_testBit _ fun i hi => ?_
  rw [Nat.testBit_xor]
  rcases Nat.lt_or_ge k i with h | h
  · rw [Nat.testBit_lt_two_pow (Nat.lt_of_lt_of_le ha2 (Nat.pow_le_pow_right (by decide) h)), Nat.testBit_lt_two_pow (Nat.lt_of_lt_of_le hb2 (Nat.pow_le_pow_right (by decide) h))]
    rfl
  · have e : i = k := by omega
    subst e
    have t : ∀ c, 2 ^ i ≤ c → c < 2 ^ (i + 1) → c.testBit i = true := fun c h1 h2 => by
      rw [Nat.testBit_eq_decide_div_mod_eq]
      have : c / 2 ^ i = 1 := by
        rw [Nat.pow_succ] at h2
        exact Nat.div_eq_of_lt_le (by omega) (by omega)
      rw [this]
      decide
    rw [t a ha ha2, t b hb hb2]
    rfl
/-- a step of a division: the rest's highest digit goes -/
theorem len_step {r m : Nat} (hm : m ≠ 0) (h : len m ≤ len r) : len (r ^^^ m * 2 ^ (len r - len m)) < len r := by
  have hr : r ≠ 0 := fun z => by
    subst z
    have : len 0 = 0 := rfl
    have : len m = m.log2 + 1 := len_pos hm
    omega
  have lr := len_pos hr
  have lm := len_pos hm
  have r1 := lt_len r
  have r2 := len_ge hr
  have m1 := lt_len m
  have m2 := len_ge hm
  have e : ∀ a b : Nat, a ≤ b → 2 ^ a * 2 ^ (b - a) = 2 ^ b := fun a b hab => by rw [← Nat.pow_add]; congr 1; omega
  have := top_xor (k := len r - 1) (a := r) (b := m * 2 ^ (len r - len m)) r2 (by rw [show len r - 1 + 1 = len r by omega]; exact r1)
    (by
      have := Nat.mul_le_mul_right (2 ^ (len r - len m)) m2
      rw [show len r - len m = (len r - 1) - (len m - 1) by omega] at this ⊢
      rw [e _ _ (by omega)] at this
      exact this)
    (by
      rw [show len r - 1 + 1 = len r by omega]
      have := Nat.mul_lt_mul_of_pos_right m1 (Nat.pow_pos (n := len r - len m) (show 0 < 2 by decide))
      rw [e _ _ h] at this
      exact this)
  have := len_le this
  omega
def restN : Nat → Nat → Nat → Nat
  | 0, r, _ => r
  | n + 1, r, m => if len m ≤ len r then restN n (r ^^^ m * 2 ^ (len r - len m)) m else r
theorem A_restN {m : Nat} {u : Nat → Nat} (hm : ∀ b, A m u b = 0) : ∀ (n r b : Nat), A (restN n r m) u b = A r u b
  | 0, r, b => rfl
  | n + 1, r, b => by
    unfold restN
    split
    · rw [A_restN hm n, A_xor, A_shl, hm, Nat.xor_zero]
    · rfl
theorem restN_lt {m : Nat} (hm : m ≠ 0) : ∀ (n r : Nat), len r < n + len m → len (restN n r m) < len m
  | 0, r, h => by unfold restN; omega
  | n + 1, r, h => by
    unfold restN
    split
    · rename_i hl
      refine restN_lt hm n _ ?_
      have := len_step hm hl
      omega
    · omega
abbrev RULE : Nat := 2147483657
abbrev PER : Nat := 2147483647
def Rec (u : Nat → Nat) : Prop := ∀ i, u (i + 31) = u i ^^^ u (i + 3)
theorem Rec.shift {u : Nat → Nat} (h : Rec u) (k : Nat) : Rec fun i => u (i + k) := fun i => by
  have := h (i + k)
  rw [show i + k + 31 = i + 31 + k by omega, show i + k + 3 = i + 3 + k by omega] at this
  exact this
theorem xor_self3 (a b : Nat) : a ^^^ (b ^^^ (a ^^^ b)) = 0 := by
  rw [Nat.xor_comm a b, ← Nat.xor_assoc b b a, Nat.xor_self, Nat.zero_xor, Nat.xor_self]
theorem A_rule {u : Nat → Nat} (h : Rec u) (b : Nat) : A RULE u b = 0 := by
  have e : RULE = 1 ^^^ (1 * 2 ^ 3 ^^^ 1 * 2 ^ 31) := by decide
  rw [e, A_xor, A_xor, A_shl, A_shl, A_one, A_one, A_one, h b]
  exact xor_self3 _ _
/-- a polynomial that does what k steps do -/
def Does (p k : Nat) : Prop := ∀ u, Rec u → ∀ b, A p u b = u (b + k)
theorem Does.two : Does 2 1 := fun u _ b => by rw [show (2 : Nat) = 2 * 1 from rfl, A_two, A_one]
theorem Does.rest {p k n : Nat} (h : Does p k) : Does (restN n p RULE) k := fun u hu b => by rw [A_restN (A_rule hu)]; exact h u hu b
theorem Does.prod {p q j k n : Nat} (h : Does p j) (g : Does q k) (hn : q < 2 ^ n) : Does (prodN n 0 p q) (j + k) := fun u hu b => by
  rw [A_prodN u n 0 p q b hn, A_zero, Nat.zero_xor]
  have e : A q (A p u) b = A q (fun i => u (i + j)) b := A_ext fun i _ => h u hu i
  rw [e, A_shift, g u hu, show b + j + k = b + (j + k) by omega]
/-- squares -/
def sq (p : Nat) : Nat := restN 64 (prodN 40 0 p p) RULE
def sqs : Nat → Nat → Nat
  | 0, p => p
  | n + 1, p => sqs n (sq p)
theorem len_rule : len RULE = 32 := by decide
theorem sq_lt {p : Nat} (h : len (prodN 40 0 p p) < 96) : len (sq p) < 32 := by
  have := restN_lt (m := RULE) (by decide) 64 (prodN 40 0 p p) (by rw [len_rule]; omega)
  rw [len_rule] at this
  exact this
/-- 31 squares of t are t -/
theorem sqs31 : sqs 31 2 = 2 := by decide +kernel
theorem prodN_lt : ∀ (n f s r k : Nat), f < 2 ^ (k + n) → s < 2 ^ k → prodN n f s r < 2 ^ (k + n)
  | 0, f, s, r, k, h, _ => h
  | n + 1, f, s, r, k, h, hs => by
    unfold prodN
    split
    · exact h
    · rw [show k + (n + 1) = (k + 1) + n by omega] at h ⊢
      refine prodN_lt n _ _ _ (k + 1) ?_ (by rw [Nat.pow_succ]; omega)
      split
      · exact Nat.xor_lt_two_pow h (Nat.lt_of_lt_of_le hs (Nat.pow_le_pow_right (by decide) (by omega)))
      · exact h
theorem sq_ok {p k : Nat} (h : Does p k) (hp : len p < 32) : Does (sq p) (2 * k) ∧ len (sq p) < 32 := by
  have h31 : p < 2 ^ 31 := Nat.lt_of_lt_of_le (lt_len p) (Nat.pow_le_pow_right (by decide) (by omega))
  refine ⟨?_, sq_lt ?_⟩
  · rw [show 2 * k = k + k by omega]
    exact (h.prod h (n := 40) (Nat.lt_of_lt_of_le h31 (by decide))).rest
  · have := len_le (prodN_lt 40 0 p p 31 (Nat.pow_pos (by decide)) h31)
    omega
theorem sqs_ok : ∀ (n : Nat) {p k : Nat}, Does p k → len p < 32 → Does (sqs n p) (k * 2 ^ n) ∧ len (sqs n p) < 32
  | 0, p, k, h, hp => ⟨by rw [Nat.pow_zero, Nat.mul_one]; exact h, hp⟩
  | n + 1, p, k, h, hp => by
    obtain ⟨a, b⟩ := sq_ok h hp
    have := sqs_ok n a b
    rw [show k * 2 ^ (n + 1) = 2 * k * 2 ^ n by rw [Nat.pow_succ, ← Nat.mul_assoc, Nat.mul_comm (k * 2 ^ n) 2, ← Nat.mul_assoc]]
    exact this
theorem does31 : Does 2 (2 ^ 31) := by
  have := (sqs_ok 31 Does.two (by decide)).1
  rw [sqs31, Nat.one_mul] at this
  exact this
/-- a window tells what is ahead of it and what is behind -/
theorem Rec.back {u : Nat → Nat} (h : Rec u) (i : Nat) : u i = u (i + 31) ^^^ u (i + 3) := by
  rw [h i, Nat.xor_assoc, Nat.xor_self, Nat.xor_zero]
theorem Rec.same {u v : Nat → Nat} (hu : Rec u) (hv : Rec v) {n : Nat} (h : ∀ i, i < 31 → u (n + i) = v (n + i)) : ∀ i, u i = v i := by
  have up : ∀ k i, n ≤ i → i < n + k → u i = v i := by
    intro k
    induction k with
    | zero => intro i h1 h2; omega
    | succ k ih =>
      intro i h1 h2
      by_cases hi : i < n + 31
      · have := h (i - n) (by omega)
        rw [show n + (i - n) = i by omega] at this
        exact this
      · have e1 := ih (i - 31) (by omega) (by omega)
        have e2 := ih (i - 28) (by omega) (by omega)
        have a := hu (i - 31)
        have b := hv (i - 31)
        rw [show i - 31 + 31 = i by omega, show i - 31 + 3 = i - 28 by omega] at a b
        rw [a, b, e1, e2]
  have down : ∀ k i, n ≤ i + k → u i = v i := by
    intro k
    induction k with
    | zero => intro i hi; exact up (i + 1) i hi (by omega)
    | succ k ih =>
      intro i hi
      rw [hu.back i, hv.back i, ih (i + 31) (by omega), ih (i + 3) (by omega)]
  exact fun i => down n i (by omega)
theorem Rec.per {u : Nat → Nat} (h : Rec u) (i : Nat) : u (i + PER) = u i := by
  have e : ∀ j, u (j + 1 + PER) = u (j + 1) := fun j => by
    have a := does31 u h j
    have b := Does.two u h j
    rw [a] at b
    rw [show j + 1 + PER = j + 2 ^ 31 from by show j + 1 + 2147483647 = _; omega]
    exact b
  rw [show u (i + PER) = (fun i => u (i + PER)) i from rfl]
  exact Rec.same (n := 1) (h.shift PER) h (fun j _ => by
    show u (1 + j + PER) = _
    rw [show 1 + j = j + 1 by omega]; exact e j) i
theorem Rec.pers {u : Nat → Nat} (h : Rec u) (i : Nat) : ∀ k, u (i + PER * k) = u i
  | 0 => rfl
  | k + 1 => by rw [show i + PER * (k + 1) = i + PER * k + PER by rw [Nat.mul_succ, Nat.add_assoc], h.per, Rec.pers h i k]
theorem Rec.mod {u : Nat → Nat} (h : Rec u) (i n : Nat) : u (i + n % PER) = u (i + n) := by
  have := h.pers (i + n % PER) (n / PER)
  rw [show i + n % PER + PER * (n / PER) = i + n by have := Nat.mod_add_div n PER; omega] at this
  exact this.symm
end TW
set_option Elab.async false
set_option linter.all false
set_option maxRecDepth 100000
set_option maxHeartbeats 1000000
set_option exponentiation.threshold 3000
namespace Pf
open PySem Ab
theorem gcT_f {f : AT} {σ : ASt} {s : Sto} {b : Bool} (h : f σ s = .ok b s) : gcT f σ s = .ok b s := gcT0 h (.refl s) (cut_self s)
theorem z1 : ((1 : Nat) ≤ sizeLine) = True := eq_true (by decide)
theorem z2 : ((2 : Nat) ≤ sizeLine) = True := eq_true (by decide)
theorem z3 : ((3 : Nat) ≤ sizeLine) = True := eq_true (by decide)
theorem z4 : ((4 : Nat) ≤ sizeLine) = True := eq_true (by decide)
theorem z5 : ((5 : Nat) ≤ sizeLine) = True := eq_true (by decide)
theorem z6 : ((6 : Nat) ≤ sizeLine) = True := eq_true (by decide)
theorem z7 : ((7 : Nat) ≤ sizeLine) = True := eq_true (by decide)
theorem z8 : ((8 : Nat) ≤ sizeLine) = True := eq_true (by decide)
theorem z9 : ((9 : Nat) ≤ sizeLine) = True := eq_true (by decide)
theorem z10 : ((10 : Nat) ≤ sizeLine) = True := eq_true (by decide)
theorem z11 : ((11 : Nat) ≤ sizeLine) = True := eq_true (by decide)
theorem z12 : ((12 : Nat) ≤ sizeLine) = True := eq_true (by decide)
theorem z13 : ((13 : Nat) ≤ sizeLine) = True := eq_true (by decide)
theorem z14 : ((14 : Nat) ≤ sizeLine) = True := eq_true (by decide)
theorem z15 : ((15 : Nat) ≤ sizeLine) = True := eq_true (by decide)
theorem z16 : ((16 : Nat) ≤ sizeLine) = True := eq_true (by decide)
local macro_rules | `(tactic| simp! [$xs,*]) => `(tactic| try simp (config := {maxSteps := 1000000}) only [k_bind, k_Kb, k_st, k_Kst, k_Rst, k_thn, k_loop, k_fn, k_forget, k_clr, k_noX, k_try, k_stuck, k_Astuck, d_thn_nx, d_thn_bk, d_thn_ct, d_thn_rt, d_thn_er, d_lp_nx, d_lp_bk, d_lp_ct, d_lp_rt, d_lp_er, d_fg_nx, d_fg_bk, d_fg_ct, d_fg_rt, d_fg_er, d_cl_nx, d_cl_bk, d_cl_ct, d_cl_rt, d_cl_er, d_tr_nx, d_tr_bk, d_tr_ct, d_tr_rt, d_tr_er, d_nX_nx, d_nX_bk, d_nX_ct, d_nX_rt, d_nX_er, d_fn_nx, d_fn_bk, d_fn_ct, d_fn_rt, d_fn_er, A_nx, A_bk, A_ct, A_rt, A_err, post_ok, post_err, post_noErr, e_op, e_opK, e_un, e_cb, e_nil, e_c, e_cons, e_consK, e_consK2, e_and, e_or, e_andK, e_orK, e_not, e_notK, e_test, e_testK, e_tand, e_tandK, e_tor, e_torK, e_tnot, e_tnotK, e_yes, e_if, e_ifK, e_ch, e_chK1, e_chK2, e_chK3, e_tup, e_tupK, e_lst, e_lstK, e_newL, e_call, e_callK, e_meth, e_methK, e_methK2, e_prop, e_propK, e_make, e_makeK, e_makeK2, e_makeV, e_sm, e_smK, e_smK2, e_cm, e_cmK, e_cmK2, e_sl, e_slK1, e_slK2, e_slK3, e_part, e_partK, e_nopart, e_rev, e_bm, e_bmK, e_pr, e_pr0, e_prK1, e_prK2, e_prK3, e_disp, e_dnew, e_own, e_ownK, e_lc, e_lcK, e_iter, e_rng1, e_rng1K, e_rng2, e_rng2K, e_enum, s_drop, s_dropK, s_ret, s_retK, s_retN, s_next, s_break, s_cont, s_seq, s_if, s_ifK, s_asg, s_asgK, s_name, s_par, s_parK, s_par3, s_parK3, s_gnil, s_gcons, s_gtup, s_for, s_forK, s_raise, s_raiseK, s_sf, s_sfK1, s_sfK2, s_dp, s_dpK1, s_dpK2, s_dpK3, s_forget, s_def, s_fld, e_enumU, e_enumUT, e_match, e_mcase, e_mcase2, e_many, e_mnil, e_lcX, e_lcXK, e_get2, e_methS, e_methS1, e_methS2, s_augS, s_augS1, gEqS_int, gEqS_str, gEqS_bl, gEqS_tup, e_fmt, e_js, e_jsC, e_jsN, e_join, e_joinK, eq_self, beq_self_eq_true, k_grd, k_grdS, k_ite, k_Aite, true_implies, false_implies, implies_true, List.map_cons, List.map_nil, List.nil_append, List.cons_append, List.append_nil, List.replicate_succ, List.replicate_zero, List.getElem?_cons_zero, List.getElem?_cons_succ, List.length_cons, List.length_nil, List.set_cons_zero, List.set_cons_succ, ↓reduceIte, ↓reduceDIte, Nat.reduceAdd, Nat.reduceLeDiff, Nat.reduceEqDiff, Nat.zero_add, if_true, if_false, aVar, gMinus_int, gLt_int, gLe_int, gGt_int, gGe_int, gEq_int, gNe_int, gEq_str, gNe_str, gEq_bl, gNe_bl, gXor_int, gAnd_int, gOr_int, gAdd_int, gIsN_non, gNotN_non, gIsB_bl, gNotB_bl, gNeg_int, gLen_tup, gLen_scr, gMax2_int, gMin2_int, gBits_int, gSl_tup, gSl_scr, Bool.not_true, Bool.not_false, Bool.true_eq_false, Bool.false_eq_true, Bool.true_and, Bool.false_and, Bool.and_true, Bool.and_false, Bool.true_or, Bool.false_or, decide_true, decide_false, and_self, and_true, true_and, and_false, false_and, not_true_eq_false, not_false_eq_true, reduceCtorEq, kz, z1, z2, z3, z4, z5, z6, z7, z8, z9, z10, z11, z12, z13, z14, z15, z16, isCls, isNon, aForget, aHand, toKey, keysA, iterOf_tup, iterOf_scr, oNx_some, noErr_ok, decide_eq_true_eq, decide_eq_false_iff_not, Sto.new_n, Sto.set_n, Sto.set_at, Sto.new_at, Nat.zero_le, aMakeV, Cl_non, Cl_bl, Cl_int, Cl_str, Cl_cls, Cl_obj, Cl_tup, ClL_nil, ClL_cons, $xs,*])
local macro_rules | `(tactic| simp! only [$xs,*]) => `(tactic| simp only [e_op, e_opK, e_un, e_cb, e_nil, e_c, e_cons, e_consK, e_consK2, e_and, e_or, e_andK, e_orK, e_not, e_notK, e_test, e_testK, e_tand, e_tandK, e_tor, e_torK, e_tnot, e_tnotK, e_yes, e_if, e_ifK, e_ch, e_chK1, e_chK2, e_chK3, e_tup, e_tupK, e_lst, e_lstK, e_newL, e_call, e_callK, e_meth, e_methK, e_methK2, e_prop, e_propK, e_make, e_makeK, e_makeK2, e_makeV, e_sm, e_smK, e_smK2, e_cm, e_cmK, e_cmK2, e_sl, e_slK1, e_slK2, e_slK3, e_part, e_partK, e_nopart, e_rev, e_bm, e_bmK, e_pr, e_pr0, e_prK1, e_prK2, e_prK3, e_disp, e_dnew, e_own, e_ownK, e_lc, e_lcK, e_iter, e_rng1, e_rng1K, e_rng2, e_rng2K, e_enum, s_drop, s_dropK, s_ret, s_retK, s_retN, s_next, s_break, s_cont, s_seq, s_if, s_ifK, s_asg, s_asgK, s_name, s_par, s_parK, s_par3, s_parK3, s_gnil, s_gcons, s_gtup, s_for, s_forK, s_raise, s_raiseK, s_sf, s_sfK1, s_sfK2, s_dp, s_dpK1, s_dpK2, s_dpK3, s_forget, s_def, s_fld, e_enumU, e_enumUT, e_match, e_mcase, e_mcase2, e_many, e_mnil, e_lcX, e_lcXK, e_get2, e_methS, e_methS1, e_methS2, s_augS, s_augS1, gEqS_int, gEqS_str, gEqS_bl, gEqS_tup, e_fmt, e_js, e_jsC, e_jsN, e_join, e_joinK, eq_self, beq_self_eq_true, true_implies, false_implies, implies_true, List.map_cons, List.map_nil, List.nil_append, List.cons_append, List.append_nil, List.replicate_succ, List.replicate_zero, List.getElem?_cons_zero, List.getElem?_cons_succ, List.length_cons, List.length_nil, List.set_cons_zero, List.set_cons_succ, ↓reduceIte, ↓reduceDIte, Nat.reduceAdd, Nat.reduceLeDiff, Nat.reduceEqDiff, Nat.zero_add, if_true, if_false, aVar, gMinus_int, gLt_int, gLe_int, gGt_int, gGe_int, gEq_int, gNe_int, gEq_str, gNe_str, gEq_bl, gNe_bl, gXor_int, gAnd_int, gOr_int, gAdd_int, gIsN_non, gNotN_non, gIsB_bl, gNotB_bl, gNeg_int, gLen_tup, gLen_scr, gMax2_int, gMin2_int, gBits_int, gSl_tup, gSl_scr, Bool.not_true, Bool.not_false, Bool.true_eq_false, Bool.false_eq_true, Bool.true_and, Bool.false_and, Bool.and_true, Bool.and_false, Bool.true_or, Bool.false_or, decide_true, decide_false, and_self, and_true, true_and, and_false, false_and, not_true_eq_false, not_false_eq_true, reduceCtorEq, kz, z1, z2, z3, z4, z5, z6, z7, z8, z9, z10, z11, z12, z13, z14, z15, z16, isCls, isNon, aForget, aHand, toKey, keysA, iterOf_tup, iterOf_scr, oNx_some, noErr_ok, decide_eq_true_eq, decide_eq_false_iff_not, Sto.new_n, Sto.set_n, Sto.set_at, Sto.new_at, Nat.zero_le, aMakeV, Cl_non, Cl_bl, Cl_int, Cl_str, Cl_cls, Cl_obj, Cl_tup, ClL_nil, ClL_cons, grd_pos, grdS_pos, Res.bind_ok, Res.bind_err, Res.st_ok, Res.st_err, SRes.thn_nx, SRes.thn_rt, SRes.thn_err, SRes.fn_rt, SRes.fn_nx, SRes.fn_err, SRes.loop_nx, SRes.loop_rt, SRes.loop_err, SRes.loop_ct, SRes.loop_bk, SRes.forget_nx, SRes.forget_rt, SRes.forget_err, SRes.clr_nx, SRes.clr_rt, SRes.noX_nx, SRes.noX_rt, aTry, sizeLine_ge, $xs,*])
theorem isi_ty {x : AV} {a n : String} {r : Bool} {s : Sto} (h1 : tyN s x = some a) (h2 : kitP a n = some r) (h3 : n ∈ bnames) : gIsi (kitB n) [x, .ty n] s = .ok (.bl r) s := gIsi_ty h1 (by rw [kitB_self]; exact h2) h3
theorem isi_cls {x : AV} {a n : String} {r : Bool} {s : Sto} (h1 : tyN s x = some a) (h2 : kitP a n = some r) (h3 : n ∉ bnames) : gIsi (kitB n) [x, .cls n] s = .ok (.bl r) s := gIsi_cls h1 (by rw [kitB_self]; exact h2) h3
theorem is_int (i : Int) (s : Sto) : F_is_integer [.int i] s = .ok (.bl true) s := by
  refine gc0 ?_ (by simp)
  have h1 : gIsi (kitB "int") [.int i, .ty "int"] s = .ok (.bl true) s := isi_ty (a := "int") rfl (by decide) (by decide)
  have h2 : gIsi (kitB "bool") [.int i, .ty "bool"] s = .ok (.bl false) s := isi_ty (a := "int") rfl (by decide) (by decide)
  simp! only [B_is_integer, h1, h2]
theorem is_int_not {x : AV} {s : Sto} {t : String} {b1 b2 : Bool} (h : tyN s x = some t) (h1 : kitP t "int" = some b1) (h2 : kitP t "bool" = some b2) (hb : (b1 && !b2) = false) : F_is_integer [x] s = .ok (.bl false) s := by
  refine gc0 ?_ (by simp)
  have h1 : gIsi (kitB "int") [x, .ty "int"] s = .ok (.bl b1) s := isi_ty h h1 (by decide)
  have h2 : gIsi (kitB "bool") [x, .ty "bool"] s = .ok (.bl b2) s := isi_ty h h2 (by decide)
  cases b1 with
  | false => simp! only [B_is_integer, h1]
  | true =>
    cases b2 with
    | false => cases hb
    | true => simp! only [B_is_integer, h1, h2]
theorem gc0' {F : List AV → Sto → Res AV} {args : List AV} {s : Sto} {v : AV} (h : (F args s).Post (fun v' s' => v' = v ∧ Cl s.n v ∧ Gb s s') (fun _ _ _ _ => False)) : gcF F args s = .ok v s :=
  res_ok (gcF_g (h.mono (fun v' s' z => ⟨z.1 ▸ z.2.1, z.2.2, z.1, rfl⟩) fun _ _ _ _ z => z.elim))
/-- a law's draws: what is left of the cell, the cell, the turns -/
abbrev drC (l c t : Int) : Cell := .dic [(.inr "left", .int l), (.inr "cell", .int c), (.inr "turns", .int t)]
structure Dr (d : Nat) (s : Sto) (B : Nat) : Prop where
  lt : d < s.n
  ex : ∃ l c t : Int, s.c d = drC l c t ∧ 0 ≤ l ∧ 0 ≤ t ∧ t ≤ B
/-- all but d stays -/
def Upto (d : Nat) (s s' : Sto) : Prop := s'.n = s.n ∧ ∀ i, i ≠ d → s'.c i = s.c i
theorem Upto.refl (d : Nat) (s : Sto) : Upto d s s := ⟨rfl, fun _ _ => rfl⟩
theorem Upto.trans {d : Nat} {s s1 s2 : Sto} (a : Upto d s s1) (b : Upto d s1 s2) : Upto d s s2 := ⟨b.1.trans a.1, fun i h => (b.2 i h).trans (a.2 i h)⟩
theorem Upto.set {d : Nat} {s : Sto} {x : Cell} : Upto d s (s.set d x) := ⟨rfl, fun i h => Sto.set_ne h⟩
theorem cmul {i j : Int} {m n : Nat} (hi : i.natAbs < 2 ^ m) (hj : j.natAbs < 2 ^ n) (h : m + n ≤ 134217728) : L2.CMulX i j := by
  have h1 := PySem.intBits_le_iff.mpr hi
  have h2 := PySem.intBits_le_iff.mpr hj
  show (Builtin.Int.intBits i : Int) + (Builtin.Int.intBits j : Int) ≤ 134217728
  omega
theorem gMul_ok {i j : Int} {m n : Nat} {s : Sto} (hi : i.natAbs < 2 ^ m) (hj : j.natAbs < 2 ^ n) (h : m + n ≤ 134217728) : gMul (.int i) (.int j) s = .ok (.int (i * j)) s := gMul_int (cmul hi hj h)
theorem rg4 : -(2 ^ 62) ≤ (4 : Int) ∧ (4 : Int) < 2 ^ 62 := by decide
theorem drCl {n : Nat} {l c t : Int} : ClC n (drC l c t) := by simp [ClC]
theorem Upto.clean {d B : Nat} {s s' : Sto} (u : Upto d s s') (D : Dr d s' B) : Clean s s' := by
  obtain ⟨l, c, t, h, _⟩ := D.ex
  refine ⟨Nat.le_of_eq u.1.symm, fun i hi => ?_⟩
  by_cases e : i = d
  · subst e
    exact .inr (by rw [h]; exact drCl)
  · exact .inl (u.2 i e)
theorem Upto.cut {d B : Nat} {s s' : Sto} (u : Upto d s s') (D : Dr d s' B) : s'.cut s = s' := by
  have lt := D.lt
  have h1 := u.1
  cases s' with
  | mk n' c' =>
    cases s with
    | mk n c =>
      unfold Sto.cut
      simp only at h1
      subst h1
      simp only [Sto.mk.injEq, true_and]
      funext j
      by_cases hj : j < n'
      · simp [hj]
      · simp only [if_neg hj]
        exact (u.2 j (by have : d < n' := lt; omega)).symm
theorem Dr.mono {d B C : Nat} {s : Sto} (D : Dr d s B) (h : B ≤ C) : Dr d s C := ⟨D.lt, by
  obtain ⟨l, c, t, a, b, e, f⟩ := D.ex
  exact ⟨l, c, t, a, b, e, by omega⟩⟩
theorem gIx_tup {s : Sto} {xs : List AV} {i : Int} {v : AV} (h : L2.atI xs i = some v) : gIx (.tup xs) (.int i) s = .ok v s := gIx_seq seqOf_tup h
theorem new_set {s : Sto} {a b : Cell} : (s.new a).set s.n b = s.new b := by
  unfold Sto.new Sto.set
  simp only [Sto.mk.injEq, true_and]
  funext j
  by_cases hj : j = s.n
  · simp [hj]
  · simp [hj]
theorem m1 (i : Int) : Builtin.bitAnd i 1 = i % 2 := PySem.W.kbt_mask i 1
theorem gM2 {i : Int} {s : Sto} (h : i.natAbs < 2 ^ 100) : gMul (.int 2) (.int i) s = .ok (.int (2 * i)) s := gMul_ok (m := 2) (by decide) h (by decide)
def DrOK (B : Nat) (x : Cell) : Prop := ∃ l c t : Int, x = drC l c t ∧ 0 ≤ l ∧ 0 ≤ t ∧ t ≤ B
theorem DrOK.mono {B C : Nat} {x : Cell} (h : DrOK B x) (hb : B ≤ C) : DrOK C x := by
  obtain ⟨l, c, t, a, b, e, f⟩ := h
  exact ⟨l, c, t, a, b, e, by omega⟩
theorem DrOK.cl {B n : Nat} {x : Cell} (h : DrOK B x) : ClC n x := by
  obtain ⟨l, c, t, rfl, b, e, f⟩ := h
  exact drCl
theorem Upto.eq {d : Nat} {s s' : Sto} (u : Upto d s s') : s' = s.set d (s'.c d) := by
  obtain ⟨h1, h2⟩ := u
  cases s with
  | mk n c =>
    cases s' with
    | mk n' c' =>
      cases (show n' = n from h1)
      unfold Sto.set
      simp only [Sto.mk.injEq, true_and]
      funext j
      by_cases e : j = d
      · rw [if_pos e, e]
      · rw [if_neg e]; exact h2 j e
theorem Dr.ok {d B : Nat} {s : Sto} (D : Dr d s B) : DrOK B (s.c d) := by
  obtain ⟨l, c, t, h, a⟩ := D.ex
  exact ⟨l, c, t, h, a⟩
structure Inv (d B : Nat) (t s : Sto) : Prop where
  lt : d < t.n
  gd : Gd d t s
  ok : DrOK B (s.c d)
section
variable {P : AV → Sto → Prop} {R : String → List Str → List AV → Sto → Prop} {d B : Nat} {s t : Sto} {x : Cell}
theorem Inv.ls (S : Inv d B t s) : d < s.n := Nat.lt_of_lt_of_le S.lt S.gd.n
theorem Inv.new (S : Inv d B t s) : Inv d B t (s.new x) := ⟨S.lt, S.gd.new, by rw [at_new S.ls]; exact S.ok⟩
theorem Inv.set (S : Inv d B t s) {C : Nat} (h : DrOK C x) : Inv d C t (s.set d x) := ⟨S.lt, S.gd.set, by rw [Sto.set_at]; exact h⟩
theorem Inv.start (hd : d < s.n) (h : DrOK B (s.c d)) : Inv d B s s := ⟨hd, .refl d s, h⟩
theorem Inv.mono {C : Nat} (S : Inv d B t s) (h : B ≤ C) : Inv d C t s := ⟨S.lt, S.gd, S.ok.mono h⟩
end
theorem ix1 {a b : AV} {r : List AV} {s : Sto} : gIx (.tup (a :: b :: r)) (.int 1) s = .ok b s := gIx_tup (show L2.atI _ ((1 : Nat) : Int) = _ from L2.atI_nat rfl)
abbrev dgC (b : Int) (g : Nat) (t : Int) : Cell := .dic [(.inr "mixed", .int b), (.inr "great", .obj g), (.inr "turn", .int t)]
structure Gd2 (d g : Nat) (s s' : Sto) : Prop where
  n : s.n ≤ s'.n
  c : ∀ i, i < s.n → i ≠ d → i ≠ g → s'.c i = s.c i
section
variable {d g : Nat} {s t u : Sto} {x : Cell}
theorem Gd2.refl (d g : Nat) (s : Sto) : Gd2 d g s s := ⟨Nat.le_refl _, fun _ _ _ _ => rfl⟩
theorem Gd2.trans (a : Gd2 d g s t) (b : Gd2 d g t u) : Gd2 d g s u := ⟨Nat.le_trans a.n b.n, fun i h e f => (b.c i (Nat.lt_of_lt_of_le h a.n) e f).trans (a.c i h e f)⟩
theorem gb_d2 (a : Gb s t) : Gd2 d g s t := ⟨a.n, fun i h _ _ => a.c i h⟩
theorem Gd2.setd (a : Gd2 d g s t) : Gd2 d g s (t.set d x) := ⟨a.n, fun i h e f => (Sto.set_ne e).trans (a.c i h e f)⟩
theorem Gd2.setg (a : Gd2 d g s t) : Gd2 d g s (t.set g x) := ⟨a.n, fun i h e f => (Sto.set_ne f).trans (a.c i h e f)⟩
theorem Gd2.new (a : Gd2 d g s t) : Gd2 d g s (t.new x) := ⟨Nat.le_succ_of_le a.n, fun i h e f => (at_new (Nat.lt_of_lt_of_le h a.n)).trans (a.c i h e f)⟩
theorem Gd2.setn {i : Nat} (a : Gd2 d g s t) (h : s.n ≤ i) : Gd2 d g s (t.set i x) := ⟨a.n, fun j hj e f => (Sto.set_ne (by omega)).trans (a.c j hj e f)⟩
theorem Gd2.cut (a : Gd2 d g s t) (hd : d < s.n) (hg : g < s.n) : t.cut s = (s.set d (t.c d)).set g (t.c g) := by
  unfold Sto.cut Sto.set
  simp only [Sto.mk.injEq, true_and]
  funext i
  by_cases f : i = g
  · subst f; simp [hg]
  · by_cases e : i = d
    · subst e; simp [hd, f]
    · by_cases hi : i < s.n
      · simp [hi, e, f, a.c i hi e f]
      · simp [hi, e, f]
theorem Gd2.clean (a : Gd2 d g s t) (h1 : ClC s.n (t.c d)) (h2 : ClC s.n (t.c g)) : Clean s t := ⟨a.n, fun i hi => by
  by_cases e : i = d
  · subst e; exact .inr h1
  · by_cases f : i = g
    · subst f; exact .inr h2
    · exact .inl (a.c i hi e f)⟩
variable {P : AV → Sto → Prop} {R : String → List Str → List AV → Sto → Prop}
theorem gcF_d2 {F : List AV → Sto → Res AV} {args : List AV} (hd : d < s.n) (hg : g < s.n) (h : (F args s).Post (fun v s' => Cl s.n v ∧ Gd2 d g s s' ∧ (ClC s.n (s'.c d) ∧ ClC s.n (s'.c g)) ∧ P v ((s.set d (s'.c d)).set g (s'.c g))) (fun c ns vs s' => False)) : (gcF F args s).Post P R :=
  post_gcF.mpr (h.mono (fun v s' z => by rw [if_pos ⟨z.1, z.2.1.clean z.2.2.1.1 z.2.2.1.2⟩, z.2.1.cut hd hg]; exact z.2.2.2) fun c ns vs s' z => z.elim)
theorem gcT_d2 {f : AT} {Q : Bool → Sto → Prop} {σ : ASt} (hd : d < s.n) (hg : g < s.n) (h : (f σ s).Post (fun v s' => Gd2 d g s s' ∧ (ClC s.n (s'.c d) ∧ ClC s.n (s'.c g)) ∧ Q v ((s.set d (s'.c d)).set g (s'.c g))) R) : (gcT f σ s).Post Q R :=
  post_gcT.mpr (h.mono (fun v s' z => by rw [if_pos (z.1.clean z.2.1.1 z.2.1.2), z.1.cut hd hg]; exact z.2.2) fun _ _ _ _ z => z)
end
structure Dg (d g : Nat) (B : Nat) (s : Sto) : Prop where
  ne : d ≠ g
  ex : ∃ (b t : Int) (gs : List Int), s.c d = dgC b g t ∧ 0 ≤ b ∧ b < 2305843009213693951 ∧ 0 ≤ t ∧ t ≤ B ∧ s.c g = .lst (gs.map .int) ∧ (∀ z ∈ gs, 0 ≤ z) ∧ gs.length ≤ 64
theorem Dg.mono {d g B C : Nat} {s : Sto} (D : Dg d g B s) (h : B ≤ C) : Dg d g C s := ⟨D.ne, by
  obtain ⟨b, t, gs, h1, h2, h3, h4, h5, h6⟩ := D.ex
  exact ⟨b, t, gs, h1, h2, h3, h4, by omega, h6⟩⟩
theorem clL_ints {n : Nat} (l : List Int) : ClL n (l.map AV.int) := by
  induction l with
  | nil => simp
  | cons a l ih => simp [ih]
theorem Dg.cl {d g B n : Nat} {s : Sto} (D : Dg d g B s) (hg : g < n) : ClC n (s.c d) ∧ ClC n (s.c g) := by
  obtain ⟨b, t, gs, h1, h2, h3, h4, h5, h6, h7⟩ := D.ex
  refine ⟨?_, ?_⟩
  · rw [h1]; simp [ClC, hg]
  · rw [h6]; exact clL_ints gs
theorem Dg.of {d g B : Nat} {s t : Sto} (D : Dg d g B s) (h1 : t.c d = s.c d) (h2 : t.c g = s.c g) : Dg d g B t := ⟨D.ne, by
  obtain ⟨b, t, gs, k1, k⟩ := D.ex
  exact ⟨b, t, gs, h1.trans k1, k.1, k.2.1, k.2.2.1, k.2.2.2.1, h2.trans k.2.2.2.2.1, k.2.2.2.2.2⟩⟩
structure Inv2 (d g B : Nat) (t s : Sto) : Prop where
  ld : d < t.n
  lg : g < t.n
  gd : Gd2 d g t s
  ok : Dg d g B s
section
variable {P : AV → Sto → Prop} {R : String → List Str → List AV → Sto → Prop} {d g B : Nat} {s t : Sto} {x : Cell}
theorem Inv2.lsd (S : Inv2 d g B t s) : d < s.n := Nat.lt_of_lt_of_le S.ld S.gd.n
theorem Inv2.lsg (S : Inv2 d g B t s) : g < s.n := Nat.lt_of_lt_of_le S.lg S.gd.n
theorem Inv2.new (S : Inv2 d g B t s) : Inv2 d g B t (s.new x) := ⟨S.ld, S.lg, S.gd.new, S.ok.of (at_new S.lsd) (at_new S.lsg)⟩
theorem Inv2.mono {C : Nat} (S : Inv2 d g B t s) (h : B ≤ C) : Inv2 d g C t s := ⟨S.ld, S.lg, S.gd, S.ok.mono h⟩
theorem Inv2.set_new {i : Nat} (S : Inv2 d g B t s) (h : t.n ≤ i) : Inv2 d g B t (s.set i x) :=
  ⟨S.ld, S.lg, S.gd.setn h, S.ok.of (Sto.set_ne (by have := S.ld; omega)) (Sto.set_ne (by have := S.lg; omega))⟩
theorem Inv2.start (hd : d < s.n) (hg : g < s.n) (h : Dg d g B s) : Inv2 d g B s s := ⟨hd, hg, .refl d g s, h⟩
/-- what a def has drawn, seen by its caller -/
theorem Inv2.back {C : Nat} {s' : Sto} (S : Inv2 d g B t s) (h : Dg d g C s') : Inv2 d g C t ((s.set d (s'.c d)).set g (s'.c g)) :=
  ⟨S.ld, S.lg, S.gd.setd.setg, h.of (by rw [Sto.set_ne h.ne, Sto.set_at]) Sto.set_at⟩
theorem Gd2.back {s' : Sto} (d g : Nat) (s : Sto) : Gd2 d g s ((s.set d (s'.c d)).set g (s'.c g)) := (Gd2.refl d g s).setd.setg
theorem inv2_gb {s' : Sto} (S : Inv2 d g B t s) (h : Gb s s') : Inv2 d g B t s' := ⟨S.ld, S.lg, S.gd.trans (gb_d2 h), S.ok.of (h.c d S.lsd) (h.c g S.lsg)⟩
end
theorem sz3b : (3 : Nat) < sizeLine := by decide
theorem q12 : ¬ (("mixed" : Str) = "great") := by decide
theorem q13 : ¬ (("mixed" : Str) = "turn") := by decide
theorem q21 : ¬ (("great" : Str) = "mixed") := by decide
theorem q23 : ¬ (("great" : Str) = "turn") := by decide
theorem q31 : ¬ (("turn" : Str) = "mixed") := by decide
theorem q32 : ¬ (("turn" : Str) = "great") := by decide
section
variable {s : Sto} {d g : Nat} {b t v : Int}
theorem dgM (h : s.c d = dgC b g t) : gDGet (.obj d) (.str "mixed") s = .ok (.int b) s := gDGet_obj h rfl (by simp [valA])
theorem dgG (h : s.c d = dgC b g t) : gDGet (.obj d) (.str "great") s = .ok (.obj g) s := gDGet_obj h rfl (by simp [valA, q12])
theorem dgT (h : s.c d = dgC b g t) : gDGet (.obj d) (.str "turn") s = .ok (.int t) s := gDGet_obj h rfl (by simp [valA, q13, q23])
theorem sdM (h : s.c d = dgC b g t) : setD (.obj d) (.str "mixed") (.int v) s = some (s.set d (dgC v g t)) := by
  rw [setD_obj h rfl sz3b]
  simp [putKA, q21, q31]
theorem sdT (h : s.c d = dgC b g t) : setD (.obj d) (.str "turn") (.int v) s = some (s.set d (dgC b g v)) := by
  rw [setD_obj h rfl sz3b]
  simp [putKA, q13, q23]
end
theorem ne_nil {s : Sto} {a e : Nat} {gs : List Int} (h1 : s.c a = .lst (gs.map .int)) (h2 : s.c e = .lst []) : gNe (.obj a) (.obj e) s = .ok (.bl (!gs.isEmpty)) s := by
  have d1 : dat 12 s (.obj a) = some (.list (gs.map PyData.int)) := by
    show (match s.c a with | .lst xs => (optL (dat 11 s) xs).map PyData.list | _ => none) = _
    rw [h1]
    have : ∀ l : List Int, optL (dat 11 s) (l.map AV.int) = some (l.map PyData.int) := by
      intro l
      induction l with
      | nil => rfl
      | cons z l ih =>
        show (match dat 11 s (.int z), optL (dat 11 s) (l.map AV.int) with | some d, some ds => some (d :: ds) | _, _ => none) = _
        rw [ih]; rfl
    show (optL (dat 11 s) (gs.map AV.int)).map PyData.list = _
    rw [this]; rfl
  have d2 : dat 12 s (.obj e) = some (.list []) := by
    show (match s.c e with | .lst xs => (optL (dat 11 s) xs).map PyData.list | _ => none) = _
    rw [h2]; rfl
  have sh : ∀ l : List Int, SeqAt.shaped (.list (l.map PyData.int)) = true := by
    intro l
    have k : PyData.canLayAll0 (l.map PyData.int) = true ∧ PyData.depthAll (l.map PyData.int) = 0 := by
      induction l with
      | nil => simp [PyData.canLayAll0, PyData.depthAll]
      | cons z l ih => simp [PyData.canLayAll0, PyData.canLay0, PyData.depthAll, PyData.depth, ih.1, ih.2]
    simp [SeqAt.shaped, PyData.canLay0, PyData.depth, k.1, k.2]
  rw [gNe_b (eqB_dat rfl d1 d2 (sh gs) (sh []))]
  congr 2
  cases gs <;> simp [PyData.eqv, PyData.eqvAll]
section
variable {P : AV → Sto → Prop} {R : String → List Str → List AV → Sto → Prop} {d g B : Nat} {s t : Sto}
theorem wi_next {n : Int} (S : Inv2 d g B t s) (hB : B ≤ 50000000) (n0 : 0 < n) (n1 : n.natAbs.log2 < 9000) (q : ∀ v s', 0 ≤ v → v < n → Inv2 d g (B + 1) t s' → Gd2 d g s s' → P (.int v) s') : (F__law_next [.obj d, .int n] s).Post P R := by
  unfold F__law_next
  refine gcF_d2 S.lsd S.lsg ?_
  obtain ⟨b, tu, gs, hd, b0, b1, t0, t1, hg, gs0, gl⟩ := S.ok.ex
  have dn := S.ok.ne
  have ld := S.lsd
  have lg := S.lsg
  have fin : ∀ v s', 0 ≤ v → v < n → Dg d g (B + 1) s' → Gd2 d g s s' → (Gd2 d g s s' ∧ (ClC s.n (s'.c d) ∧ ClC s.n (s'.c g)) ∧ P (.int v) ((s.set d (s'.c d)).set g (s'.c g))) := fun v s' h1 h2 h3 h4 =>
    ⟨h4, h3.cl lg, q v _ h1 h2 (S.back h3) (Gd2.back d g s)⟩
  have gT := dgT hd
  have gG := dgG hd
  have sT := sdT (v := tu + 1) hd
  have sub1 : agSub setD (aVar 0) (aC (.str "turn")) (.int (tu + 1)) [some (.obj d), some (.int n), none, none, none, none] s = .nx [some (.obj d), some (.int n), none, none, none, none] (s.set d (dgC b g (tu + 1))) := agSub_eq rfl rfl sT
  have hd1 : (s.set d (dgC b g (tu + 1))).c d = dgC b g (tu + 1) := Sto.set_at
  have hg1 : (s.set d (dgC b g (tu + 1))).c g = .lst (gs.map .int) := (Sto.set_ne (Ne.symm dn)).trans hg
  have G1 : Gd2 d g s (s.set d (dgC b g (tu + 1))) := (Gd2.refl d g s).setd
  have N1 : (s.set d (dgC b g (tu + 1))).n = s.n := rfl
  simp! [B__law_next, gT, gG, sub1]
  generalize s.set d (dgC b g (tu + 1)) = s1 at *
  have gT1 := dgT hd1
  have ln := gLen_seq (seqOf_obj hg1)
  rw [List.length_map] at ln
  obtain ⟨L, hL⟩ : ∃ L : Int, L = (if ((gs.length : Nat) : Int) > 1 then ((gs.length : Nat) : Int) else 1) := ⟨_, rfl⟩
  have L0 : 0 < L := by rw [hL]; split <;> omega
  have mx : gMax2 [.int 1, .int ((gs.length : Nat) : Int)] s1 = .ok (.int L) s1 := by rw [hL]; rfl
  have md : gMod (.int (tu + 1)) (.int L) s1 = .ok (.int ((tu + 1) % L)) s1 := gMod_int (by omega)
  have at0 := Int.emod_nonneg (tu + 1) (show L ≠ 0 by omega)
  have at1 := Int.emod_lt_of_pos (tu + 1) L0
  simp! [gT1, ln, mx, md]
  have ne1 := ne_nil (s := s1.new (.lst [])) (a := g) (e := s1.n) (at_old (by omega) hg1) Sto.new_at
  have gM1 := dgM hd1
  have m1 : gMul (.int b) (.int 6364136223846793) s1 = .ok (.int (b * 6364136223846793)) s1 := gMul_ok (m := 61) (n := 53) (by omega) (by decide) (by decide)
  have m2 : gMul (.int 1442695040888963) (.int (tu + 1)) s1 = .ok (.int (1442695040888963 * (tu + 1))) s1 := gMul_ok (m := 51) (n := 30) (by decide) (by omega) (by decide)
  obtain ⟨z, hz⟩ : ∃ z : Int, z = b * 6364136223846793 + 1442695040888963 * (tu + 1) + 11 := ⟨_, rfl⟩
  have md1 : gMod (.int z) (.int 2305843009213693951) s1 = .ok (.int (z % 2305843009213693951)) s1 := gMod_int (by decide)
  have sM := sdM (v := z % 2305843009213693951) hd1
  have hd2 : (s1.set d (dgC (z % 2305843009213693951) g (tu + 1))).c d = dgC (z % 2305843009213693951) g (tu + 1) := Sto.set_at
  have gM2 := dgM hd2
  have fd : ∀ s, gFdiv (.int (z % 2305843009213693951)) (.int 32749) s = .ok (.int (z % 2305843009213693951 / 32749)) s := fun s => gFdiv_int ⟨by decide, by decide⟩
  have mdn : ∀ s, gMod (.int (z % 2305843009213693951 / 32749)) (.int n) s = .ok (.int (z % 2305843009213693951 / 32749 % n)) s := fun s => gMod_int (by omega)
  have mixed := fin (z % 2305843009213693951 / 32749 % n) _ (Int.emod_nonneg _ (by omega)) (Int.emod_lt_of_pos _ n0) ⟨dn, _, _, gs, hd2, Int.emod_nonneg _ (by decide), Int.emod_lt_of_pos _ (by decide), by omega, by omega, (Sto.set_ne (Ne.symm dn)).trans hg1, gs0, gl⟩ G1.setd
  rw [hd2] at mixed
  by_cases he : gs = []
  · have ne1 : gNe (.obj g) (.obj s1.n) (s1.new (.lst [])) = .ok (.bl false) (s1.new (.lst [])) := by rw [ne1, he]; rfl
    refine gcT_g ?_
    have z0 : ((0 : Nat) ≤ sizeLine) = True := eq_true (Nat.zero_le _)
    simp! [ne1, z0]
    refine ⟨(Gb.refl _).new, ?_⟩
    simp! [gM1, gT1, m1, m2, ← hz, md1, sM, gM2, fd, mdn]
    exact mixed
  · have ne1 : gNe (.obj g) (.obj s1.n) (s1.new (.lst [])) = .ok (.bl true) (s1.new (.lst [])) := by
      rw [ne1]
      cases gs with
      | nil => exact absurd rfl he
      | cons => rfl
    have len : L = (gs.length : Nat) := by
      have : 0 < gs.length := List.length_pos_iff.mpr he
      rw [hL]; split <;> omega
    obtain ⟨k, hk⟩ := Int.eq_ofNat_of_zero_le at0
    have kl : k < gs.length := by omega
    obtain ⟨y, hy⟩ : ∃ y, gs[k]? = some y := ⟨gs[k], List.getElem?_eq_getElem kl⟩
    have z0 := gs0 y (List.mem_of_getElem? hy)
    have hx : (gs.map AV.int)[k]? = some (.int y) := by rw [List.getElem?_map, hy]; rfl
    have ia : L2.atI (gs.map AV.int) ((tu + 1) % L) = some (.int y) := by rw [hk]; exact L2.atI_nat hx
    have ix : ∀ s' : Sto, s'.c g = .lst (gs.map .int) → gIx (.obj g) (.int ((tu + 1) % L)) s' = .ok (.int y) s' := fun s' h => gIx_seq (seqOf_obj h) ia
    have ixN := ix (s1.new (.lst [])) (at_old (by omega) hg1)
    have ix1 := ix s1 hg1
    have z00 : ((0 : Nat) ≤ sizeLine) = True := eq_true (Nat.zero_le _)
    by_cases zp : 0 < y
    · have dz : decide (0 < y) = true := decide_eq_true zp
      have md2 : gMod (.int y) (.int n) s1 = .ok (.int (y % n)) s1 := gMod_int (by omega)
      have fd2 : gFdiv (.int y) (.int n) s1 = .ok (.int (y / n)) s1 := gFdiv_int ⟨by omega, by omega⟩
      have ixn : L2.ixN (gs.map AV.int).length ((tu + 1) % L) = some k := by
        rw [hk, List.length_map]
        unfold L2.ixN
        rw [if_pos (by omega), if_pos (by omega)]
        rfl
      have sl := setL_obj (y := .int (y / n)) hg1 ixn
      have sub2 : ∀ x5, agSub setL (aVar 2) (aVar 3) (.int (y / n)) [some (.obj d), some (.int n), some (.obj g), some (.int ((tu + 1) % L)), some (.int (y % n)), x5] s1 = .nx [some (.obj d), some (.int n), some (.obj g), some (.int ((tu + 1) % L)), some (.int (y % n)), x5] (s1.set g (.lst ((gs.map AV.int).set k (.int (y / n))))) := fun x5 => agSub_eq rfl rfl sl
      refine gcT_g ?_
      simp! [ne1, z00, ixN, dz, gGt_int]
      refine ⟨(Gb.refl _).new, ?_⟩
      simp! [ix1, md2, fd2, sub2]
      have f := fin (y % n) (s1.set g (.lst ((gs.map AV.int).set k (.int (y / n))))) (Int.emod_nonneg _ (by omega)) (Int.emod_lt_of_pos _ n0) ⟨dn, b, _, gs.set k (y / n), (Sto.set_ne dn).trans hd1, b0, b1, by omega, by omega, Sto.set_at.trans (by rw [List.map_set]), fun w hw => by
        rcases List.mem_or_eq_of_mem_set hw with h | rfl
        · exact gs0 w h
        · exact Int.ediv_nonneg z0 (by omega), by rw [List.length_set]; exact gl⟩ G1.setg
      rw [show (s1.set g (.lst ((gs.map AV.int).set k (.int (y / n))))).c g = .lst ((gs.map AV.int).set k (.int (y / n))) from Sto.set_at] at f
      exact f
    · have dz : decide (0 < y) = false := decide_eq_false zp
      refine gcT_g ?_
      simp! [ne1, z00, ixN, dz, gGt_int]
      refine ⟨(Gb.refl _).new, ?_⟩
      simp! [gM1, gT1, m1, m2, ← hz, md1, sM, gM2, fd, mdn]
      exact mixed
end
theorem merge3g (a b c : AV) : mergeA [] [(.inr "mixed", a), (.inr "great", b), (.inr "turn", c)] = [(.inr "mixed", a), (.inr "great", b), (.inr "turn", c)] := by
  simp [mergeA, putKA, q12, q13, q21, q23, q31, q32]
theorem pow18 (s : Sto) : gPow (.int 10) (.int 18) s = .ok (.int 1000000000000000000) s := gPow_int (show L2.CPow 10 18 from ⟨by decide, by decide, by decide⟩)
theorem begun_post {ns : List Int} {s : Sto} {P : AV → Sto → Prop} {R : String → List Str → List AV → Sto → Prop} (hl : ns.length ≤ 63) (q : ∀ d g s', Gb s s' → s.n ≤ d → d < s'.n → s.n ≤ g → g < s'.n → Dg d g 0 s' → P (.obj d) s') : (F__law_begun [.scr (ns.map .int)] s).Post P R := by
  unfold F__law_begun
  refine post_gcF.mpr ?_
  have z3 : ((0 : Nat) ≤ sizeLine) = True := eq_true (Nat.zero_le _)
  have ln : gLen [.scr (ns.map .int)] s = .ok (.int (ns.length : Nat)) s := by rw [gLen_scr, List.length_map]
  have m0 : gMul (.int 41) (.int (ns.length : Nat)) s = .ok (.int (41 * (ns.length : Nat))) s := gMul_ok (m := 6) (n := 6) (by decide) (by omega) (by decide)
  simp! [B__law_begun, ln, m0]
  refine post_enum lstOf_scr ?_
  simp! [eq_self]
  refine for_A (fun i σ s' => s' = s ∧ ∃ (b : Int) (x y : Option AV), 0 ≤ b ∧ b < 2305843009213693951 ∧ σ = [some (.scr (ns.map .int)), some (.int b), x, y]) ⟨rfl, _, _, _, by omega, by omega, rfl⟩ ?_ ?_
  · rintro i x σ s' hx ⟨rfl, b, x1, y1, b0, b1, rfl⟩
    refine ⟨lstOf_scr, ?_⟩
    obtain ⟨y, hy, rfl⟩ := enumA_get hx
    have hi : i < 63 := by
      have := (List.getElem?_eq_some_iff.mp hy).1
      rw [List.length_map] at this
      omega
    obtain ⟨z, rfl⟩ : ∃ z, y = .int z := by
      have := List.mem_of_getElem? hy
      obtain ⟨z, _, rfl⟩ := List.mem_map.mp this
      exact ⟨z, rfl⟩
    have m1 : gMul (.int b) (.int 998244353) s' = .ok (.int (b * 998244353)) s' := gMul_ok (m := 61) (n := 30) (by omega) (by decide) (by decide)
    have m2 : gMul (.int 104723) (.int (i : Nat)) s' = .ok (.int (104723 * (i : Nat))) s' := gMul_ok (m := 17) (n := 6) (by decide) (by omega) (by decide)
    have md : ∀ z : Int, gMod (.int z) (.int 2305843009213693951) s' = .ok (.int (z % 2305843009213693951)) s' := fun z => gMod_int (by decide)
    simp! [m1, m2, md]
    exact ⟨_, _, _, Int.emod_nonneg _ (by decide), Int.emod_lt_of_pos _ (by decide), rfl⟩
  rintro σ s' ⟨rfl, b, x1, y1, b0, b1, rfl⟩
  refine ⟨lstOf_scr, ?_⟩
  simp! [pow18]
  refine lc_P (fun i acc s2 => Gb s' s2 ∧ s'.n + 1 < s2.n ∧ s2.c s'.n = .dic [] ∧ acc.length ≤ i ∧ ∃ gs : List Int, acc = gs.map .int ∧ ∀ z ∈ gs, 0 ≤ z) ⟨(Gb.refl s').new.new, Nat.lt_succ_self _, at_old (Nat.lt_succ_self _) Sto.new_at, Nat.le_refl _, [], rfl, fun z hz => by cases hz⟩ Sto.new_at (by rw [List.length_map]; omega) ?_ ?_
  · rintro i y acc s2 hy ⟨g2, n2, dk, hl2, gs, rfl, h0⟩ hk
    obtain ⟨z, rfl⟩ : ∃ z, y = .int z := by
      have := List.mem_of_getElem? hy
      obtain ⟨z, _, rfl⟩ := List.mem_map.mp this
      exact ⟨z, rfl⟩
    refine ⟨trivial, ?_⟩
    by_cases hz : (1000000000000000000 : Int) ≤ z
    · have d : decide ((1000000000000000000 : Int) ≤ z) = true := decide_eq_true hz
      simp! [wipeA, pow18, d]
      refine ⟨hk, g2.set (Nat.le_succ _), n2, (Sto.set_ne (by omega)).trans dk, by simpa using hl2, gs ++ [z], by simp, fun w hw => ?_⟩
      rcases List.mem_append.mp hw with h | h
      · exact h0 w h
      · rw [List.mem_singleton.mp h]; omega
    · have d : decide ((1000000000000000000 : Int) ≤ z) = false := decide_eq_false hz
      simp! [wipeA, pow18, d]
      exact ⟨hk, g2, n2, dk, by omega, gs, rfl, h0⟩
  · rintro acc s2 ⟨g2, n2, dk, hl2, gs, rfl, h0⟩ hk
    refine ⟨trivial, ?_⟩
    rw [List.length_map, List.length_map] at hl2
    simp! [eq_self]
    rw [e_dispK dk rfl (by simp), merge3g]
    simp! [eq_self]
    rw [if_neg (by simp)]
    exact q _ (s'.n + 1) _ (g2.set (Nat.le_refl _)) (Nat.le_refl _) (show s'.n < s2.n by omega) (Nat.le_succ _) n2 ⟨by omega, b, 0, gs, Sto.set_at, b0, b1, Int.le_refl _, Int.le_refl _, (Sto.set_ne (by omega)).trans hk, h0, by omega⟩
end Pf
set_option linter.all false
namespace MB
open MX
/-- a key's part for a step -/
def part (k s : Nat) : Nat := if s % 2 = 1 then k / 4294967296 else k % 4294967296
def chg (k s l : Nat) : Nat := xs 17 ((l * F + part k s + s) % 4294967296)
def fe (k s : Nat) (p : Nat × Nat) : Nat × Nat := (p.2, p.1 ^^^ chg k s p.2)
def bk (k s : Nat) (p : Nat × Nat) : Nat × Nat := (p.2 ^^^ chg k s p.1, p.1)
/-- the first i steps -/
def fs (k : Nat) : Nat → Nat × Nat → Nat × Nat
  | 0, p => p
  | i + 1, p => fe k i (fs k i p)
/-- the last i steps back: 3, 2, .. -/
def bs (k : Nat) : Nat → Nat × Nat → Nat × Nat
  | 0, p => p
  | i + 1, p => bk k (3 - i) (bs k i p)
end MB
set_option Elab.async false
set_option linter.all false
set_option maxRecDepth 100000
set_option maxHeartbeats 1000000
set_option exponentiation.threshold 3000
namespace Pf
open PySem Ab
local macro_rules | `(tactic| simp! [$xs,*]) => `(tactic| try simp (config := {maxSteps := 1000000}) only [k_bind, k_Kb, k_st, k_Kst, k_Rst, k_thn, k_loop, k_fn, k_forget, k_clr, k_noX, k_try, k_stuck, k_Astuck, d_thn_nx, d_thn_bk, d_thn_ct, d_thn_rt, d_thn_er, d_lp_nx, d_lp_bk, d_lp_ct, d_lp_rt, d_lp_er, d_fg_nx, d_fg_bk, d_fg_ct, d_fg_rt, d_fg_er, d_cl_nx, d_cl_bk, d_cl_ct, d_cl_rt, d_cl_er, d_tr_nx, d_tr_bk, d_tr_ct, d_tr_rt, d_tr_er, d_nX_nx, d_nX_bk, d_nX_ct, d_nX_rt, d_nX_er, d_fn_nx, d_fn_bk, d_fn_ct, d_fn_rt, d_fn_er, A_nx, A_bk, A_ct, A_rt, A_err, post_ok, post_err, post_noErr, e_op, e_opK, e_un, e_cb, e_nil, e_c, e_cons, e_consK, e_consK2, e_and, e_or, e_andK, e_orK, e_not, e_notK, e_test, e_testK, e_tand, e_tandK, e_tor, e_torK, e_tnot, e_tnotK, e_yes, e_if, e_ifK, e_ch, e_chK1, e_chK2, e_chK3, e_tup, e_tupK, e_lst, e_lstK, e_newL, e_call, e_callK, e_meth, e_methK, e_methK2, e_prop, e_propK, e_make, e_makeK, e_makeK2, e_makeV, e_sm, e_smK, e_smK2, e_cm, e_cmK, e_cmK2, e_sl, e_slK1, e_slK2, e_slK3, e_part, e_partK, e_nopart, e_rev, e_bm, e_bmK, e_pr, e_pr0, e_prK1, e_prK2, e_prK3, e_disp, e_dnew, e_own, e_ownK, e_lc, e_lcK, e_iter, e_rng1, e_rng1K, e_rng2, e_rng2K, e_enum, s_drop, s_dropK, s_ret, s_retK, s_retN, s_next, s_break, s_cont, s_seq, s_if, s_ifK, s_asg, s_asgK, s_name, s_par, s_parK, s_par3, s_parK3, s_gnil, s_gcons, s_gtup, s_for, s_forK, s_raise, s_raiseK, s_sf, s_sfK1, s_sfK2, s_dp, s_dpK1, s_dpK2, s_dpK3, s_forget, s_def, s_fld, e_enumU, e_enumUT, e_match, e_mcase, e_mcase2, e_many, e_mnil, e_lcX, e_lcXK, e_get2, e_methS, e_methS1, e_methS2, s_augS, s_augS1, gEqS_int, gEqS_str, gEqS_bl, gEqS_tup, e_fmt, e_js, e_jsC, e_jsN, e_join, e_joinK, eq_self, beq_self_eq_true, k_grd, k_grdS, k_ite, k_Aite, true_implies, false_implies, implies_true, List.map_cons, List.map_nil, List.nil_append, List.cons_append, List.append_nil, List.replicate_succ, List.replicate_zero, List.getElem?_cons_zero, List.getElem?_cons_succ, List.length_cons, List.length_nil, List.set_cons_zero, List.set_cons_succ, ↓reduceIte, ↓reduceDIte, Nat.reduceAdd, Nat.reduceLeDiff, Nat.reduceEqDiff, Nat.zero_add, if_true, if_false, aVar, gMinus_int, gLt_int, gLe_int, gGt_int, gGe_int, gEq_int, gNe_int, gEq_str, gNe_str, gEq_bl, gNe_bl, gXor_int, gAnd_int, gOr_int, gAdd_int, gIsN_non, gNotN_non, gIsB_bl, gNotB_bl, gNeg_int, gLen_tup, gLen_scr, gMax2_int, gMin2_int, gBits_int, gSl_tup, gSl_scr, Bool.not_true, Bool.not_false, Bool.true_eq_false, Bool.false_eq_true, Bool.true_and, Bool.false_and, Bool.and_true, Bool.and_false, Bool.true_or, Bool.false_or, decide_true, decide_false, and_self, and_true, true_and, and_false, false_and, not_true_eq_false, not_false_eq_true, reduceCtorEq, kz, z1, z2, z3, z4, z5, z6, z7, z8, z9, z10, z11, z12, z13, z14, z15, z16, isCls, isNon, aForget, aHand, toKey, keysA, iterOf_tup, iterOf_scr, oNx_some, noErr_ok, decide_eq_true_eq, decide_eq_false_iff_not, Sto.new_n, Sto.set_n, Sto.set_at, Sto.new_at, Nat.zero_le, aMakeV, Cl_non, Cl_bl, Cl_int, Cl_str, Cl_cls, Cl_obj, Cl_tup, ClL_nil, ClL_cons, $xs,*])
local macro_rules | `(tactic| simp! only [$xs,*]) => `(tactic| simp only [e_op, e_opK, e_un, e_cb, e_nil, e_c, e_cons, e_consK, e_consK2, e_and, e_or, e_andK, e_orK, e_not, e_notK, e_test, e_testK, e_tand, e_tandK, e_tor, e_torK, e_tnot, e_tnotK, e_yes, e_if, e_ifK, e_ch, e_chK1, e_chK2, e_chK3, e_tup, e_tupK, e_lst, e_lstK, e_newL, e_call, e_callK, e_meth, e_methK, e_methK2, e_prop, e_propK, e_make, e_makeK, e_makeK2, e_makeV, e_sm, e_smK, e_smK2, e_cm, e_cmK, e_cmK2, e_sl, e_slK1, e_slK2, e_slK3, e_part, e_partK, e_nopart, e_rev, e_bm, e_bmK, e_pr, e_pr0, e_prK1, e_prK2, e_prK3, e_disp, e_dnew, e_own, e_ownK, e_lc, e_lcK, e_iter, e_rng1, e_rng1K, e_rng2, e_rng2K, e_enum, s_drop, s_dropK, s_ret, s_retK, s_retN, s_next, s_break, s_cont, s_seq, s_if, s_ifK, s_asg, s_asgK, s_name, s_par, s_parK, s_par3, s_parK3, s_gnil, s_gcons, s_gtup, s_for, s_forK, s_raise, s_raiseK, s_sf, s_sfK1, s_sfK2, s_dp, s_dpK1, s_dpK2, s_dpK3, s_forget, s_def, s_fld, e_enumU, e_enumUT, e_match, e_mcase, e_mcase2, e_many, e_mnil, e_lcX, e_lcXK, e_get2, e_methS, e_methS1, e_methS2, s_augS, s_augS1, gEqS_int, gEqS_str, gEqS_bl, gEqS_tup, e_fmt, e_js, e_jsC, e_jsN, e_join, e_joinK, eq_self, beq_self_eq_true, true_implies, false_implies, implies_true, List.map_cons, List.map_nil, List.nil_append, List.cons_append, List.append_nil, List.replicate_succ, List.replicate_zero, List.getElem?_cons_zero, List.getElem?_cons_succ, List.length_cons, List.length_nil, List.set_cons_zero, List.set_cons_succ, ↓reduceIte, ↓reduceDIte, Nat.reduceAdd, Nat.reduceLeDiff, Nat.reduceEqDiff, Nat.zero_add, if_true, if_false, aVar, gMinus_int, gLt_int, gLe_int, gGt_int, gGe_int, gEq_int, gNe_int, gEq_str, gNe_str, gEq_bl, gNe_bl, gXor_int, gAnd_int, gOr_int, gAdd_int, gIsN_non, gNotN_non, gIsB_bl, gNotB_bl, gNeg_int, gLen_tup, gLen_scr, gMax2_int, gMin2_int, gBits_int, gSl_tup, gSl_scr, Bool.not_true, Bool.not_false, Bool.true_eq_false, Bool.false_eq_true, Bool.true_and, Bool.false_and, Bool.and_true, Bool.and_false, Bool.true_or, Bool.false_or, decide_true, decide_false, and_self, and_true, true_and, and_false, false_and, not_true_eq_false, not_false_eq_true, reduceCtorEq, kz, z1, z2, z3, z4, z5, z6, z7, z8, z9, z10, z11, z12, z13, z14, z15, z16, isCls, isNon, aForget, aHand, toKey, keysA, iterOf_tup, iterOf_scr, oNx_some, noErr_ok, decide_eq_true_eq, decide_eq_false_iff_not, Sto.new_n, Sto.set_n, Sto.set_at, Sto.new_at, Nat.zero_le, aMakeV, Cl_non, Cl_bl, Cl_int, Cl_str, Cl_cls, Cl_obj, Cl_tup, ClL_nil, ClL_cons, grd_pos, grdS_pos, Res.bind_ok, Res.bind_err, Res.st_ok, Res.st_err, SRes.thn_nx, SRes.thn_rt, SRes.thn_err, SRes.fn_rt, SRes.fn_nx, SRes.fn_err, SRes.loop_nx, SRes.loop_rt, SRes.loop_err, SRes.loop_ct, SRes.loop_bk, SRes.forget_nx, SRes.forget_rt, SRes.forget_err, SRes.clr_nx, SRes.clr_rt, SRes.noX_nx, SRes.noX_rt, aTry, sizeLine_ge, $xs,*])
theorem xorN (a b : Nat) : Builtin.bitXor (a : Int) (b : Int) = ((a ^^^ b : Nat) : Int) := by
  rw [Bits.bitXor_pp (by omega) (by omega), Int.toNat_natCast, Int.toNat_natCast]
theorem bitsN (n : Nat) : Builtin.Int.intBits (n : Int) = TW.len n := by
  unfold Builtin.Int.intBits TW.len
  by_cases h : n = 0
  · subst h; rfl
  · rw [if_neg (by simpa using h), if_neg h]; simp
theorem bits_le {n k : Nat} (h : n < 2 ^ k) : Builtin.Int.intBits (n : Int) ≤ k := by
  rw [bitsN]; exact TW.len_le h
theorem shl_ok {a : Nat} {j : Nat} {k : Nat} {s : Sto} (h : a < 2 ^ k) (hk : k + j ≤ 100000) : gShl (.int (a : Nat)) (.int (j : Nat)) s = .ok (.int ((a * 2 ^ j : Nat) : Int)) s := by
  rw [gShl_int ⟨by omega, by have := bits_le h; omega⟩]
  simp
theorem shl1_ok {a : Nat} {k : Nat} {s : Sto} (h : a < 2 ^ k) (hk : k ≤ 10000) : gShl (.int (a : Nat)) (.int 1) s = .ok (.int ((2 * a : Nat) : Int)) s := by
  have := shl_ok (j := 1) (s := s) h (by omega)
  rw [show (a * 2 ^ 1 : Nat) = 2 * a by omega] at this
  exact this
theorem shr1_ok {a : Nat} {s : Sto} : gShr (.int (a : Nat)) (.int 1) s = .ok (.int ((a / 2 : Nat) : Int)) s := by
  rw [gShr_int (by decide)]
  congr 2
theorem and1_ok {a : Nat} : Builtin.bitAnd (a : Int) 1 = ((a % 2 : Nat) : Int) := by
  rw [m1]; exact (Int.natCast_emod a 2).symm
theorem prod_ok {a b n k : Nat} (s : Sto) (hb : b < 2 ^ n) (ha : a < 2 ^ k) (h : n + k ≤ 5000) : F_s3_product [.int (a : Nat), .int (b : Nat)] s = .ok (.int ((TW.prodN n 0 a b : Nat) : Int)) s := by
  refine gc0 ?_ (by simp)
  refine res_ok ?_
  simp! [B_s3_product]
  refine while_A (fun m σ s' => s' = s ∧ ∃ f sh r : Nat, σ = [some (.int (a : Nat)), some (.int (b : Nat)), some (.int (f : Nat)), some (.int (sh : Nat)), some (.int (r : Nat))] ∧ r < 2 ^ m ∧ sh < 2 ^ (k + n - m) ∧ m ≤ n ∧ TW.prodN m f sh r = TW.prodN n 0 a b) n
    ⟨rfl, 0, a, b, rfl, hb, by rw [Nat.add_sub_cancel]; exact ha, Nat.le_refl _, rfl⟩ ?_
  rintro m σ s' ⟨rfl, f, sh, r, rfl, hr, hs, hm, e⟩
  by_cases h0 : r = 0
  · have d : decide ((0 : Int) < ((r : Nat) : Int)) = false := decide_eq_false (by omega)
    simp! [d]
    have e0 : TW.prodN m f sh r = f := by
      subst h0
      cases m <;> simp [TW.prodN]
    rw [← e, e0]
  · have d : decide ((0 : Int) < ((r : Nat) : Int)) = true := decide_eq_true (by omega)
    obtain ⟨m, rfl⟩ : ∃ i, m = i + 1 := ⟨m - 1, by
      cases m with
      | zero => simp at hr; omega
      | succ i => rfl⟩
    have e1 : TW.prodN (m + 1) f sh r = TW.prodN m (if r % 2 = 1 then f ^^^ sh else f) (2 * sh) (r / 2) := by
      rw [TW.prodN, if_neg h0]
    rw [e1] at e
    have hs2 : 2 * sh < 2 ^ (k + n - m) := by
      rw [show k + n - m = (k + n - (m + 1)) + 1 by omega, Nat.pow_succ]; omega
    have sl := fun s => shl1_ok (s := s) hs (by omega)
    have sr := fun s => shr1_ok (a := r) (s := s)
    simp! [d]
    refine ⟨fun c => ?_, fun c => ?_⟩
    · rw [and1_ok] at c
      have hr2 : r % 2 = 1 := by omega
      rw [if_pos hr2] at e
      simp! [sl, sr, xorN]
      exact ⟨m, by omega, _, _, _, rfl, by rw [Nat.pow_succ] at hr; omega, hs2, by omega, e⟩
    · rw [and1_ok] at c
      have hr2 : ¬ r % 2 = 1 := by omega
      rw [if_neg hr2] at e
      simp! [sl, sr]
      exact ⟨m, by omega, _, _, _, rfl, by rw [Nat.pow_succ] at hr; omega, hs2, by omega, e⟩
theorem whole_t {i lo hi : Int} (s : Sto) (h0 : lo ≤ i) (h1 : i ≤ hi) : F_s3_is_whole [.int i, .int lo, .int hi] s = .ok (.bl true) s := by
  refine gc0 ?_ (by simp)
  have e := is_int i s
  have d0 := decide_eq_true h0
  have d1 := decide_eq_true h1
  simp! only [B_s3_is_whole, e, d0, d1]
theorem shl_one {k : Nat} (s : Sto) (hk : k ≤ 5000) : gShl (.int 1) (.int (k : Nat)) s = .ok (.int ((2 ^ k : Nat) : Int)) s := by
  have := shl_ok (a := 1) (j := k) (k := 1) (s := s) (by decide) (by omega)
  rw [Nat.one_mul] at this
  exact this
theorem poly_t {i : Nat} (s : Sto) (h : i < 2 ^ 512) : F_is_polynomial [.int (i : Nat)] s = .ok (.bl true) s := by
  refine gc0 ?_ (by simp)
  have sh : ∀ s, gShl (.int 1) (.int 512) s = .ok (.int ((2 ^ 512 : Nat) : Int)) s := fun s => shl_one (k := 512) s (by decide)
  have w := whole_t (i := ((i : Nat) : Int)) (lo := 0) (hi := ((2 ^ 512 : Nat) : Int) - 1) s (by omega) (by
    have : ((i : Nat) : Int) < ((2 ^ 512 : Nat) : Int) := Int.ofNat_lt.mpr h
    omega)
  simp! only [B_is_polynomial, sh, w]
theorem need1_t {i : Nat} (s : Sto) (h : i < 2 ^ 512) : F_s3_need [.tup [.int (i : Nat)]] s = .ok .non s := by
  refine gc0 ?_ (by simp)
  refine res_ok ?_
  have p := fun s => poly_t (i := i) s h
  simp! [B_s3_need]
  refine for_A (fun j σ s' => s' = s ∧ ∃ z, σ = [some (.tup [.int (i : Nat)]), z]) ⟨rfl, _, rfl⟩ ?_ ?_
  · rintro j x σ s' hx ⟨rfl, z, rfl⟩
    have hx : x = .int (i : Nat) := by
      cases j with
      | zero => simpa using hx.symm
      | succ j => simp at hx
    subst hx
    refine ⟨trivial, ?_⟩
    simp! [eq_self]
    refine gcT_g ?_
    simp! [p]
    exact ⟨Gb.refl _, _, rfl⟩
  · rintro σ s' ⟨rfl, z, rfl⟩
    refine ⟨trivial, ?_⟩
    simp! [eq_self]
end Pf
set_option linter.all false
set_option maxRecDepth 100000
namespace PO
open TW
def cm (a b : Nat) : Nat := A a (fun i => b * 2 ^ i) 0
theorem two_xor (x y k : Nat) : (x ^^^ y) * 2 ^ k = (x * 2 ^ k) ^^^ (y * 2 ^ k) := by
  rw [← Nat.shiftLeft_eq, ← Nat.shiftLeft_eq, ← Nat.shiftLeft_eq, Nat.shiftLeft_xor_distrib]
theorem act_scale : ∀ (n p : Nat) (u : Nat → Nat) (b k : Nat), act n p (fun i => u i * 2 ^ k) b = act n p u b * 2 ^ k
  | 0, p, u, b, k => by simp [act]
  | n + 1, p, u, b, k => by
    unfold act
    rw [act_scale n, two_xor]
    congr 1
    by_cases h : p % 2 = 1 <;> simp [h]
theorem A_scale (p : Nat) (u : Nat → Nat) (b k : Nat) : A p (fun i => u i * 2 ^ k) b = A p u b * 2 ^ k := act_scale p p u b k
theorem A_pow (a b i : Nat) : A a (fun j => b * 2 ^ j) i = cm a b * 2 ^ i := by
  have h := A_shift a (fun j => b * 2 ^ j) 0 i
  rw [Nat.zero_add] at h
  rw [← h, cm, ← A_scale]
  congr 1
  funext j
  rw [Nat.pow_add, Nat.mul_assoc]
theorem cm_step (a b : Nat) : cm a b = (if a % 2 = 1 then b else 0) ^^^ cm (a / 2) b * 2 := by
  have h := A_step a (fun i => b * 2 ^ i) 0
  rw [A_pow, A_pow] at h
  simpa using h
theorem cm_zero_left (b : Nat) : cm 0 b = 0 := rfl
theorem cm_zero_right (a : Nat) : cm a 0 = 0 := by
  unfold cm
  have : (fun i => 0 * 2 ^ i) = fun _ : Nat => 0 := by funext i; simp
  rw [this, A_nil]
theorem cm_xor_left (a b c : Nat) : cm (a ^^^ b) c = cm a c ^^^ cm b c := A_xor a b _ 0
theorem cm_xor_right (a b c : Nat) : cm a (b ^^^ c) = cm a b ^^^ cm a c := by
  unfold cm
  rw [← A_lin]
  congr 1
  funext i
  exact two_xor b c i
theorem cm_one_left (b : Nat) : cm 1 b = b := by
  unfold cm
  rw [A_one]; simp
theorem cm_two_left (a b : Nat) : cm (a * 2) b = cm a b * 2 := by
  have h := A_shl a (fun i => b * 2 ^ i) 1 0
  rw [Nat.pow_one] at h
  unfold cm at *
  rw [h, A_pow, Nat.zero_add, Nat.pow_one]
  rfl
theorem cm_two_right (a b : Nat) : cm a (b * 2) = cm a b * 2 := by
  have h := A_scale a (fun i => b * 2 ^ i) 0 1
  rw [Nat.pow_one] at h
  unfold cm
  rw [← h]
  congr 1
  funext i
  rw [Nat.mul_assoc, Nat.mul_comm 2, ← Nat.mul_assoc]
theorem pow_left (k b : Nat) : cm (2 ^ k) b = b * 2 ^ k := by
  induction k with
  | zero => rw [Nat.pow_zero, cm_one_left, Nat.mul_one]
  | succ k ih => rw [Nat.pow_succ, cm_two_left, ih, Nat.mul_assoc]
theorem halves (a : Nat) : a = (if a % 2 = 1 then 1 else 0) ^^^ a / 2 * 2 := by
  have h : (a / 2 * 2) ^^^ (if a % 2 = 1 then 1 else 0) = a / 2 * 2 + (if a % 2 = 1 then 1 else 0) := by
    have := Nat.two_pow_add_eq_or_of_lt (i := 1) (b := if a % 2 = 1 then 1 else 0) (by split <;> decide) (a / 2)
    have e2 : (a / 2 * 2) ^^^ (if a % 2 = 1 then 1 else 0) = (a / 2 * 2) ||| (if a % 2 = 1 then 1 else 0) := by
      refine Nat.eq_of_testBit_eq fun i => ?_
      rw [Nat.testBit_xor, Nat.testBit_or]
      cases i with
      | zero => simp
      | succ i =>
        have : (if a % 2 = 1 then 1 else 0 : Nat).testBit (i + 1) = false := by split <;> simp [Nat.testBit_succ]
        rw [this]; simp
    rw [e2, Nat.mul_comm, ← Nat.pow_one 2, ← this]
  rw [Nat.xor_comm, h]
  split <;> omega
theorem cm_one_right : ∀ a : Nat, cm a 1 = a := by
  intro a
  induction a using Nat.strongRecOn with
  | _ a ih =>
    by_cases h : a = 0
    · subst h; rfl
    · rw [cm_step, ih (a / 2) (by omega)]
      exact (halves a).symm
theorem cm_comm : ∀ a b : Nat, cm a b = cm b a := by
  intro a
  induction a using Nat.strongRecOn with
  | _ a ih =>
    intro b
    by_cases h : a = 0
    · subst h; rw [cm_zero_left, cm_zero_right]
    · rw [cm_step, ih (a / 2) (by omega)]
      conv => rhs; rw [halves a, cm_xor_right, cm_two_right]
      congr 1
      split
      · rw [cm_one_right]
      · rw [cm_zero_right]
theorem cm_assoc : ∀ a b c : Nat, cm (cm a b) c = cm a (cm b c) := by
  intro a
  induction a using Nat.strongRecOn with
  | _ a ih =>
    intro b c
    by_cases h : a = 0
    · subst h; rfl
    · rw [cm_step a b, cm_xor_left, cm_two_left, ih (a / 2) (by omega), cm_step a (cm b c)]
      congr 1
      split <;> simp [cm_zero_left]
theorem prod_cm {n a b : Nat} (h : b < 2 ^ n) : prodN n 0 a b = cm a b := by
  have k := A_prodN (fun i => 1 * 2 ^ i) n 0 a b 0 h
  rw [A_zero, Nat.zero_xor] at k
  have e : A (prodN n 0 a b) (fun i => 1 * 2 ^ i) 0 = prodN n 0 a b := cm_one_right _
  rw [e] at k
  rw [k, cm_comm]
  unfold cm
  refine A_ext fun i _ => ?_
  rw [A_pow]
  congr 1
  exact cm_one_right a
theorem len_rng {n : Nat} (h : n ≠ 0) : 2 ^ (len n - 1) ≤ n ∧ n < 2 ^ (len n - 1 + 1) ∧ 1 ≤ len n := by
  have h0 : 1 ≤ len n := by rw [len_pos h]; omega
  refine ⟨len_ge h, ?_, h0⟩
  rw [show len n - 1 + 1 = len n by omega]
  exact lt_len n
theorem xx (a b : Nat) : a ^^^ (a ^^^ b) = b := by rw [← Nat.xor_assoc, Nat.xor_self, Nat.zero_xor]
theorem xx2 (a b : Nat) : (b ^^^ a) ^^^ a = b := by rw [Nat.xor_assoc, Nat.xor_self, Nat.xor_zero]
theorem rest_spec : ∀ (n a m : Nat), m ≠ 0 → len a < n + len m → (∃ q, a = cm q m ^^^ restN n a m) ∧ len (restN n a m) < len m
  | 0, a, m, hm, h => ⟨⟨0, by rw [cm_zero_left, Nat.zero_xor]; rfl⟩, by show len a < _; omega⟩
  | n + 1, a, m, hm, h => by
    rw [restN]
    split
    · rename_i h0
      have st := len_step hm h0
      obtain ⟨⟨q, hq⟩, hl⟩ := rest_spec n (a ^^^ m * 2 ^ (len a - len m)) m hm (by omega)
      refine ⟨⟨q ^^^ 2 ^ (len a - len m), ?_⟩, hl⟩
      rw [cm_xor_left, pow_left]
      have e := congrArg (· ^^^ m * 2 ^ (len a - len m)) hq
      simp only [xx2] at e
      refine e.trans ?_
      rw [Nat.xor_assoc, Nat.xor_assoc, Nat.xor_comm (restN _ _ _)]
    · rename_i h0
      exact ⟨⟨0, by rw [cm_zero_left, Nat.zero_xor]⟩, by omega⟩
/-- the rest modulo m -/
def md (a m : Nat) : Nat := restN (len a + 1) a m
theorem md_spec (a : Nat) {m : Nat} (hm : m ≠ 0) : (∃ q, a = cm q m ^^^ md a m) ∧ len (md a m) < len m := rest_spec (len a + 1) a m hm (by have := (len_rng hm).2.2; omega)
def dv (d a : Nat) : Prop := ∃ q, a = cm q d
theorem dv_xor {d a b : Nat} : dv d a → dv d b → dv d (a ^^^ b)
  | ⟨q, h⟩, ⟨p, k⟩ => ⟨q ^^^ p, by rw [cm_xor_left, h, k]⟩
theorem dv_mul {d a : Nat} (c : Nat) : dv d a → dv d (cm c a)
  | ⟨q, h⟩ => ⟨cm c q, by rw [h, cm_assoc]⟩
theorem dv_md {d a m : Nat} (hm : m ≠ 0) (h : dv d a) (k : dv d m) : dv d (md a m) := by
  obtain ⟨⟨q, e⟩, _⟩ := md_spec a hm
  have : md a m = a ^^^ cm q m := by
    conv => rhs; rw [e]
    rw [Nat.xor_comm, xx]
  rw [this]
  exact dv_xor h (dv_mul q k)
theorem dv_of_md {d a m : Nat} (hm : m ≠ 0) (h : dv d (md a m)) (k : dv d m) : dv d a := by
  obtain ⟨⟨q, e⟩, _⟩ := md_spec a hm
  rw [e]
  exact dv_xor (dv_mul q k) h
theorem dv_self (a : Nat) : dv a a := ⟨1, (cm_one_left a).symm⟩
theorem dv_zero (d : Nat) : dv d 0 := ⟨0, rfl⟩
end PO
set_option linter.all false
set_option maxRecDepth 100000
namespace PO
open TW
def IsG (g a b : Nat) : Prop := dv g a ∧ dv g b ∧ ∀ d, dv d a → dv d b → dv d g
theorem IsG.symm {g a b : Nat} (x : IsG g a b) : IsG g b a := ⟨x.2.1, x.1, fun d h k => x.2.2 d k h⟩
theorem isG_zero (a : Nat) : IsG a a 0 := ⟨dv_self a, dv_zero a, fun d h _ => h⟩
theorem isG_step {g a b : Nat} (hb : b ≠ 0) : IsG g a b ↔ IsG g b (md a b) :=
  ⟨fun x => ⟨x.2.1, dv_md hb x.1 x.2.1, fun d h k => x.2.2 d (dv_of_md hb k h) h⟩, fun x => ⟨dv_of_md hb x.2.1 x.1, x.1, fun d h k => x.2.2 d k (dv_md hb h k)⟩⟩
theorem gd_ex : ∀ (n a b : Nat), len b < n → ∃ g, IsG g a b
  | 0, _, _, h => absurd h (by omega)
  | n + 1, a, b, h => by
    by_cases hb : b = 0
    · subst hb; exact ⟨a, isG_zero a⟩
    · obtain ⟨g, hg⟩ := gd_ex n b (md a b) (by have := (md_spec a hb).2; omega)
      exact ⟨g, (isG_step hb).mpr hg⟩
theorem gd_exists (a b : Nat) : ∃ g, IsG g a b := gd_ex (len b + 1) a b (by omega)
/-- the greatest common divisor, by choice -/
noncomputable def gd (a b : Nat) : Nat := Classical.choose (gd_exists a b)
end PO
set_option Elab.async false
set_option linter.all false
set_option maxRecDepth 100000
set_option maxHeartbeats 1000000
set_option exponentiation.threshold 3000
namespace Pf
open PySem Ab
local macro_rules | `(tactic| simp! [$xs,*]) => `(tactic| try simp (config := {maxSteps := 1000000}) only [k_bind, k_Kb, k_st, k_Kst, k_Rst, k_thn, k_loop, k_fn, k_forget, k_clr, k_noX, k_try, k_stuck, k_Astuck, d_thn_nx, d_thn_bk, d_thn_ct, d_thn_rt, d_thn_er, d_lp_nx, d_lp_bk, d_lp_ct, d_lp_rt, d_lp_er, d_fg_nx, d_fg_bk, d_fg_ct, d_fg_rt, d_fg_er, d_cl_nx, d_cl_bk, d_cl_ct, d_cl_rt, d_cl_er, d_tr_nx, d_tr_bk, d_tr_ct, d_tr_rt, d_tr_er, d_nX_nx, d_nX_bk, d_nX_ct, d_nX_rt, d_nX_er, d_fn_nx, d_fn_bk, d_fn_ct, d_fn_rt, d_fn_er, A_nx, A_bk, A_ct, A_rt, A_err, post_ok, post_err, post_noErr, e_op, e_opK, e_un, e_cb, e_nil, e_c, e_cons, e_consK, e_consK2, e_and, e_or, e_andK, e_orK, e_not, e_notK, e_test, e_testK, e_tand, e_tandK, e_tor, e_torK, e_tnot, e_tnotK, e_yes, e_if, e_ifK, e_ch, e_chK1, e_chK2, e_chK3, e_tup, e_tupK, e_lst, e_lstK, e_newL, e_call, e_callK, e_meth, e_methK, e_methK2, e_prop, e_propK, e_make, e_makeK, e_makeK2, e_makeV, e_sm, e_smK, e_smK2, e_cm, e_cmK, e_cmK2, e_sl, e_slK1, e_slK2, e_slK3, e_part, e_partK, e_nopart, e_rev, e_bm, e_bmK, e_pr, e_pr0, e_prK1, e_prK2, e_prK3, e_disp, e_dnew, e_own, e_ownK, e_lc, e_lcK, e_iter, e_rng1, e_rng1K, e_rng2, e_rng2K, e_enum, s_drop, s_dropK, s_ret, s_retK, s_retN, s_next, s_break, s_cont, s_seq, s_if, s_ifK, s_asg, s_asgK, s_name, s_par, s_parK, s_par3, s_parK3, s_gnil, s_gcons, s_gtup, s_for, s_forK, s_raise, s_raiseK, s_sf, s_sfK1, s_sfK2, s_dp, s_dpK1, s_dpK2, s_dpK3, s_forget, s_def, s_fld, e_enumU, e_enumUT, e_match, e_mcase, e_mcase2, e_many, e_mnil, e_lcX, e_lcXK, e_get2, e_methS, e_methS1, e_methS2, s_augS, s_augS1, gEqS_int, gEqS_str, gEqS_bl, gEqS_tup, e_fmt, e_js, e_jsC, e_jsN, e_join, e_joinK, eq_self, beq_self_eq_true, k_grd, k_grdS, k_ite, k_Aite, true_implies, false_implies, implies_true, List.map_cons, List.map_nil, List.nil_append, List.cons_append, List.append_nil, List.replicate_succ, List.replicate_zero, List.getElem?_cons_zero, List.getElem?_cons_succ, List.length_cons, List.length_nil, List.set_cons_zero, List.set_cons_succ, ↓reduceIte, ↓reduceDIte, Nat.reduceAdd, Nat.reduceLeDiff, Nat.reduceEqDiff, Nat.zero_add, if_true, if_false, aVar, gMinus_int, gLt_int, gLe_int, gGt_int, gGe_int, gEq_int, gNe_int, gEq_str, gNe_str, gEq_bl, gNe_bl, gXor_int, gAnd_int, gOr_int, gAdd_int, gIsN_non, gNotN_non, gIsB_bl, gNotB_bl, gNeg_int, gLen_tup, gLen_scr, gMax2_int, gMin2_int, gBits_int, gSl_tup, gSl_scr, Bool.not_true, Bool.not_false, Bool.true_eq_false, Bool.false_eq_true, Bool.true_and, Bool.false_and, Bool.and_true, Bool.and_false, Bool.true_or, Bool.false_or, decide_true, decide_false, and_self, and_true, true_and, and_false, false_and, not_true_eq_false, not_false_eq_true, reduceCtorEq, kz, z1, z2, z3, z4, z5, z6, z7, z8, z9, z10, z11, z12, z13, z14, z15, z16, isCls, isNon, aForget, aHand, toKey, keysA, iterOf_tup, iterOf_scr, oNx_some, noErr_ok, decide_eq_true_eq, decide_eq_false_iff_not, Sto.new_n, Sto.set_n, Sto.set_at, Sto.new_at, Nat.zero_le, aMakeV, Cl_non, Cl_bl, Cl_int, Cl_str, Cl_cls, Cl_obj, Cl_tup, ClL_nil, ClL_cons, $xs,*])
local macro_rules | `(tactic| simp! only [$xs,*]) => `(tactic| simp only [e_op, e_opK, e_un, e_cb, e_nil, e_c, e_cons, e_consK, e_consK2, e_and, e_or, e_andK, e_orK, e_not, e_notK, e_test, e_testK, e_tand, e_tandK, e_tor, e_torK, e_tnot, e_tnotK, e_yes, e_if, e_ifK, e_ch, e_chK1, e_chK2, e_chK3, e_tup, e_tupK, e_lst, e_lstK, e_newL, e_call, e_callK, e_meth, e_methK, e_methK2, e_prop, e_propK, e_make, e_makeK, e_makeK2, e_makeV, e_sm, e_smK, e_smK2, e_cm, e_cmK, e_cmK2, e_sl, e_slK1, e_slK2, e_slK3, e_part, e_partK, e_nopart, e_rev, e_bm, e_bmK, e_pr, e_pr0, e_prK1, e_prK2, e_prK3, e_disp, e_dnew, e_own, e_ownK, e_lc, e_lcK, e_iter, e_rng1, e_rng1K, e_rng2, e_rng2K, e_enum, s_drop, s_dropK, s_ret, s_retK, s_retN, s_next, s_break, s_cont, s_seq, s_if, s_ifK, s_asg, s_asgK, s_name, s_par, s_parK, s_par3, s_parK3, s_gnil, s_gcons, s_gtup, s_for, s_forK, s_raise, s_raiseK, s_sf, s_sfK1, s_sfK2, s_dp, s_dpK1, s_dpK2, s_dpK3, s_forget, s_def, s_fld, e_enumU, e_enumUT, e_match, e_mcase, e_mcase2, e_many, e_mnil, e_lcX, e_lcXK, e_get2, e_methS, e_methS1, e_methS2, s_augS, s_augS1, gEqS_int, gEqS_str, gEqS_bl, gEqS_tup, e_fmt, e_js, e_jsC, e_jsN, e_join, e_joinK, eq_self, beq_self_eq_true, true_implies, false_implies, implies_true, List.map_cons, List.map_nil, List.nil_append, List.cons_append, List.append_nil, List.replicate_succ, List.replicate_zero, List.getElem?_cons_zero, List.getElem?_cons_succ, List.length_cons, List.length_nil, List.set_cons_zero, List.set_cons_succ, ↓reduceIte, ↓reduceDIte, Nat.reduceAdd, Nat.reduceLeDiff, Nat.reduceEqDiff, Nat.zero_add, if_true, if_false, aVar, gMinus_int, gLt_int, gLe_int, gGt_int, gGe_int, gEq_int, gNe_int, gEq_str, gNe_str, gEq_bl, gNe_bl, gXor_int, gAnd_int, gOr_int, gAdd_int, gIsN_non, gNotN_non, gIsB_bl, gNotB_bl, gNeg_int, gLen_tup, gLen_scr, gMax2_int, gMin2_int, gBits_int, gSl_tup, gSl_scr, Bool.not_true, Bool.not_false, Bool.true_eq_false, Bool.false_eq_true, Bool.true_and, Bool.false_and, Bool.and_true, Bool.and_false, Bool.true_or, Bool.false_or, decide_true, decide_false, and_self, and_true, true_and, and_false, false_and, not_true_eq_false, not_false_eq_true, reduceCtorEq, kz, z1, z2, z3, z4, z5, z6, z7, z8, z9, z10, z11, z12, z13, z14, z15, z16, isCls, isNon, aForget, aHand, toKey, keysA, iterOf_tup, iterOf_scr, oNx_some, noErr_ok, decide_eq_true_eq, decide_eq_false_iff_not, Sto.new_n, Sto.set_n, Sto.set_at, Sto.new_at, Nat.zero_le, aMakeV, Cl_non, Cl_bl, Cl_int, Cl_str, Cl_cls, Cl_obj, Cl_tup, ClL_nil, ClL_cons, grd_pos, grdS_pos, Res.bind_ok, Res.bind_err, Res.st_ok, Res.st_err, SRes.thn_nx, SRes.thn_rt, SRes.thn_err, SRes.fn_rt, SRes.fn_nx, SRes.fn_err, SRes.loop_nx, SRes.loop_rt, SRes.loop_err, SRes.loop_ct, SRes.loop_bk, SRes.forget_nx, SRes.forget_rt, SRes.forget_err, SRes.clr_nx, SRes.clr_rt, SRes.noX_nx, SRes.noX_rt, aTry, sizeLine_ge, $xs,*])
abbrev iN (l : List Nat) : List AV := l.map fun n => .int (n : Nat)
theorem iN_len (r : List Nat) : (iN r).length = r.length := List.length_map ..
theorem prod2_ok {a b n k : Nat} (s : Sto) (hb : b < 2 ^ n) (ha : a < 2 ^ k) (h : n + k ≤ 5000) : F_s3_product [.int (a : Nat), .int (b : Nat)] s = .ok (.int ((PO.cm a b : Nat) : Int)) s := by
  rw [prod_ok s hb ha h, PO.prod_cm hb]
def bl (a k : Nat) : List Nat := (List.range k).filter fun i => a.testBit i
theorem bl_succ (a k : Nat) : bl a (k + 1) = bl a k ++ (if a.testBit k then [k] else []) := by
  unfold bl
  rw [List.range_succ, List.filter_append]
  congr 1
  by_cases h : a.testBit k <;> simp [h]
def sh (b : Nat) (l : List Nat) : Nat := l.foldl (fun f p => f ^^^ b * 2 ^ p) 0
theorem sh_snoc (b : Nat) (l : List Nat) (p : Nat) : sh b (l ++ [p]) = sh b l ^^^ b * 2 ^ p := by simp [sh]
theorem mod_bit (a k : Nat) : a % 2 ^ (k + 1) = a % 2 ^ k ^^^ (if a.testBit k then 2 ^ k else 0) := by
  refine Nat.eq_of_testBit_eq fun j => ?_
  rw [Nat.testBit_xor, Nat.testBit_mod_two_pow, Nat.testBit_mod_two_pow]
  by_cases h : a.testBit k
  · rw [if_pos h, Nat.testBit_two_pow]
    by_cases e : k = j
    · subst e; simp [h]
    · rcases Nat.lt_or_ge j k with g | g
      · simp [g, Nat.lt_succ_of_lt g, e]
      · simp [show ¬ j < k by omega, show ¬ j < k + 1 by omega, e]
  · rw [if_neg h]
    by_cases e : k = j
    · subst e; simp [h]
    · rcases Nat.lt_or_ge j k with g | g
      · simp [g, Nat.lt_succ_of_lt g]
      · simp [show ¬ j < k by omega, show ¬ j < k + 1 by omega]
theorem sh_bl (a b : Nat) : ∀ k, sh b (bl a k) = PO.cm (a % 2 ^ k) b
  | 0 => by simp [bl, sh, Nat.mod_one, PO.cm_zero_left]
  | k + 1 => by
    rw [bl_succ, mod_bit, PO.cm_xor_left]
    by_cases h : a.testBit k
    · rw [if_pos h, if_pos h, sh_snoc, sh_bl a b k, PO.pow_left]
    · rw [if_neg h, if_neg h, List.append_nil, sh_bl a b k, PO.cm_zero_left, Nat.xor_zero]
theorem sh_all {a b k : Nat} (h : a < 2 ^ k) : sh b (bl a k) = PO.cm a b := by rw [sh_bl, Nat.mod_eq_of_lt h]
theorem bl_len (a k : Nat) : (bl a k).length ≤ k := Nat.le_trans (List.length_filter_le _ _) (by rw [List.length_range]; exact Nat.le_refl _)
theorem places_ok {a : Nat} (s : Sto) (hl : TW.len a ≤ 900) : F__law_places [.int (a : Nat)] s = .ok (.obj s.n) (s.new (.lst (iN (bl a (TW.len a))))) := by
  have main := ex_of_post (r := aDef 2 B__law_places [.int (a : Nat)] s) (P := fun v s' => v = .obj s.n ∧ s' = s.new (.lst (iN (bl a (TW.len a))))) (by
    have z0 : ((0 : Nat) ≤ sizeLine) = True := eq_true (Nat.zero_le _)
    simp! [B__law_places, z0]
    refine while_A (fun j σ s' => ∃ i : Nat, i + j = TW.len a ∧ s' = s.new (.lst (iN (bl a i))) ∧ σ = [some (.int (a : Nat)), some (.obj s.n), some (.int (i : Nat))]) (TW.len a) ⟨0, by omega, rfl, rfl⟩ ?_
    rintro j σ s' ⟨i, hi, rfl, rfl⟩
    have sr : ∀ s, gShr (.int (a : Nat)) (.int (i : Nat)) s = .ok (.int ((a / 2 ^ i : Nat) : Int)) s := fun s => by
      rw [gShr_int (by omega)]
      congr 2
    have c0 : (s.new (.lst (iN (bl a i)))).c s.n = .lst (iN (bl a i)) := Sto.new_at
    by_cases h0 : a / 2 ^ i = 0
    · have d : decide ((0 : Int) < ((a / 2 ^ i : Nat) : Int)) = false := decide_eq_false (by omega)
      have hlt : a < 2 ^ i := by
        rcases Nat.lt_or_ge a (2 ^ i) with g | g
        · exact g
        · exact absurd h0 (Nat.ne_of_gt (Nat.div_pos g (Nat.pow_pos (by decide))))
      have := TW.len_le hlt
      obtain rfl : i = TW.len a := by omega
      simp! [sr, gGt_int, d]
    · have d : decide ((0 : Int) < ((a / 2 ^ i : Nat) : Int)) = true := decide_eq_true (Int.natCast_pos.mpr (Nat.pos_of_ne_zero h0))
      have hlt : 2 ^ i ≤ a := by
        rcases Nat.lt_or_ge a (2 ^ i) with g | g
        · exact absurd (Nat.div_eq_of_lt g) h0
        · exact g
      have := TW.le_len hlt
      have tb : a.testBit i = decide (a / 2 ^ i % 2 = 1) := Nat.testBit_eq_decide_div_mod_eq
      have i1 : ((i : Nat) : Int) + 1 = ((i + 1 : Nat) : Int) := by omega
      by_cases hb : a / 2 ^ i % 2 = 1
      · have d1 : decide ((((a / 2 ^ i) % 2 : Nat) : Int) = 1) = true := decide_eq_true (by omega)
        have sq := isSeqL_obj c0
        have ap := gAppend_obj (y := .int (i : Nat)) c0 (by
          have : (1001 : Nat) ≤ sizeLine := by decide
          have := bl_len a i
          rw [iN_len]; omega)
        simp! [sr, gGt_int, d, and1_ok, d1, sq, ap, i1]
        refine ⟨j - 1, by omega, i + 1, by omega, ?_, rfl⟩
        rw [new_set, bl_succ, tb, decide_eq_true hb, if_pos rfl]
        unfold iN
        rw [List.map_append]
        rfl
      · have d1 : decide ((((a / 2 ^ i) % 2 : Nat) : Int) = 1) = false := decide_eq_false (by omega)
        simp! [sr, gGt_int, d, and1_ok, d1, i1]
        refine ⟨j - 1, by omega, i + 1, by omega, ?_, rfl⟩
        rw [bl_succ, tb, decide_eq_false hb]
        simp)
  obtain ⟨v, s', ⟨rfl, rfl⟩, e⟩ := main
  exact gcF_raw e (by simp)
theorem iN_get {r : List Nat} {i : Nat} {x : AV} (h : (iN r)[i]? = some x) : ∃ n, r[i]? = some n ∧ n ∈ r ∧ x = .int (n : Nat) := by
  rw [List.getElem?_map] at h
  cases e : r[i]? with
  | none => rw [e] at h; cases h
  | some c => rw [e] at h; exact ⟨c, rfl, List.mem_of_getElem? e, (Option.some.inj h).symm⟩
theorem bl_lt {a k p : Nat} (h : p ∈ bl a k) : p < k := List.mem_range.mp (List.mem_filter.mp h).1
theorem sh_take (b : Nat) (l : List Nat) (i p : Nat) (h : l[i]? = some p) : sh b (l.take (i + 1)) = sh b (l.take i) ^^^ b * 2 ^ p := by
  obtain ⟨h1, h2⟩ := List.getElem?_eq_some_iff.mp h
  rw [List.take_succ_eq_append_getElem h1, h2, sh_snoc]
theorem times_ok {a b k : Nat} (s : Sto) (hl : TW.len a ≤ 900) (hb : b < 2 ^ k) (hk : k ≤ 2000) : F__law_times [.int (a : Nat), .int (b : Nat)] s = .ok (.int ((PO.cm a b : Nat) : Int)) s := by
  refine gc0' ?_
  have pl := places_ok (a := a) s hl
  have cl : (s.new (.lst (iN (bl a (TW.len a))))).c s.n = .lst (iN (bl a (TW.len a))) := Sto.new_at
  have it := iterOf_l (lstOf_obj cl)
  simp! [B__law_times, pl, it]
  refine for_A (fun i σ s' => s' = s.new (.lst (iN (bl a (TW.len a)))) ∧ ∃ x3, σ = [some (.int (a : Nat)), some (.int (b : Nat)), some (.int ((sh b ((bl a (TW.len a)).take i) : Nat) : Int)), x3]) ⟨rfl, _, rfl⟩ ?_ ?_
  · rintro i x σ s' hx ⟨rfl, x3, rfl⟩
    refine ⟨lstOf_obj cl, ?_⟩
    obtain ⟨p, h1, h2, rfl⟩ := iN_get hx
    have hp := bl_lt h2
    have sl : ∀ s, gShl (.int (b : Nat)) (.int (p : Nat)) s = .ok (.int ((b * 2 ^ p : Nat) : Int)) s := fun s => shl_ok hb (by omega)
    simp! [sl, xorN]
    rw [sh_take b _ i p h1]
    exact ⟨_, rfl⟩
  · rintro σ s' ⟨rfl, x3, rfl⟩
    refine ⟨lstOf_obj cl, ?_⟩
    rw [List.take_of_length_le (by rw [iN_len]; exact Nat.le_refl _), sh_all (TW.lt_len a)]
    simp! [eq_self]
    exact (Gb.refl s).new
theorem number_ok {l : List Nat} {s : Sto} {o k : Nat} (ho : s.c o = .lst (iN l)) (hl : ∀ y ∈ l, y < k) (hk : k ≤ 1000) : ∃ n : Nat, n < 2 ^ k ∧ F__law_number [.obj o] s = .ok (.int (n : Nat)) s := by
  refine ⟨sh 1 l, ?_, gc0' ?_⟩
  · have : ∀ i, sh 1 (l.take i) < 2 ^ k := by
      intro i
      induction i with
      | zero => simp [sh]; exact Nat.pow_pos (by decide)
      | succ i ih =>
        cases e : l[i]? with
        | none =>
          have : l.length ≤ i := List.getElem?_eq_none_iff.mp e
          rw [List.take_of_length_le (by omega)]
          rwa [List.take_of_length_le this] at ih
        | some p =>
          rw [sh_take 1 l i p e]
          exact Nat.xor_lt_two_pow ih (by rw [Nat.one_mul]; exact Nat.pow_lt_pow_right (by decide) (hl p (List.mem_of_getElem? e)))
    have h := this l.length
    rwa [List.take_length] at h
  · have it := iterOf_l (lstOf_obj ho)
    simp! [B__law_number, it]
    refine for_A (fun i σ s' => s' = s ∧ ∃ x3, σ = [some (.obj o), some (.int ((sh 1 (l.take i) : Nat) : Int)), x3]) ⟨rfl, _, rfl⟩ ?_ ?_
    · rintro i x σ s' hx ⟨rfl, x3, rfl⟩
      refine ⟨lstOf_obj ho, ?_⟩
      obtain ⟨p, h1, h2, rfl⟩ := iN_get hx
      have hp := hl p h2
      have sl : ∀ s, gShl (.int 1) (.int (p : Nat)) s = .ok (.int ((1 * 2 ^ p : Nat) : Int)) s := fun s => shl_ok (a := 1) (k := 1) (by decide) (by omega)
      simp! [sl, xorN]
      rw [sh_take 1 _ i p h1]
      exact ⟨_, rfl⟩
    · rintro σ s' ⟨rfl, x3, rfl⟩
      refine ⟨lstOf_obj ho, ?_⟩
      rw [List.take_of_length_le (by rw [iN_len]; exact Nat.le_refl _)]
      simp! [eq_self]
      exact Gb.refl _
theorem number_okE {l : List Nat} {s : Sto} {o k : Nat} (ho : s.c o = .lst (iN l)) (hl : ∀ y ∈ l, y < k) (hk : k ≤ 1000) : F__law_number [.obj o] s = .ok (.int ((sh 1 l : Nat) : Int)) s := by
  refine gc0' ?_
  have it := iterOf_l (lstOf_obj ho)
  simp! [B__law_number, it]
  refine for_A (fun i σ s' => s' = s ∧ ∃ x3, σ = [some (.obj o), some (.int ((sh 1 (l.take i) : Nat) : Int)), x3]) ⟨rfl, _, rfl⟩ ?_ ?_
  · rintro i x σ s' hx ⟨rfl, x3, rfl⟩
    refine ⟨lstOf_obj ho, ?_⟩
    obtain ⟨p, h1, h2, rfl⟩ := iN_get hx
    have hp := hl p h2
    have sl : ∀ s, gShl (.int 1) (.int (p : Nat)) s = .ok (.int ((1 * 2 ^ p : Nat) : Int)) s := fun s => shl_ok (a := 1) (k := 1) (by decide) (by omega)
    simp! [sl, xorN]
    rw [sh_take 1 _ i p h1]
    exact ⟨_, rfl⟩
  · rintro σ s' ⟨rfl, x3, rfl⟩
    refine ⟨lstOf_obj ho, ?_⟩
    rw [List.take_of_length_le (by rw [iN_len]; exact Nat.le_refl _)]
    simp! [eq_self]
    exact Gb.refl _
section
variable {P : AV → Sto → Prop} {R : String → List Str → List AV → Sto → Prop} {d g B : Nat} {s t : Sto}
theorem wi2_poly {k : Nat} (S : Inv2 d g B t s) (hB : B ≤ 20000000) (k0 : 5 ≤ k) (k1 : k ≤ 600) (q : ∀ (n : Nat) s', n < 2 ^ k → Inv2 d g (B + 10) t s' → Gd2 d g s s' → P (.int (n : Nat)) s') : (F__law_poly [.obj d, .int (k : Nat)] s).Post P R := by
  unfold F__law_poly
  refine gcF_d2 S.lsd S.lsg ?_
  have lg := S.lsg
  have ld := S.lsd
  have fin : ∀ (n : Nat) s', n < 2 ^ k → (∃ C, C ≤ B + 10 ∧ Dg d g C s') → Gd2 d g s s' → (Gd2 d g s s' ∧ (ClC s.n (s'.c d) ∧ ClC s.n (s'.c g)) ∧ P (.int (n : Nat)) ((s.set d (s'.c d)).set g (s'.c g))) := fun r s' h1 ⟨C, h2, h3⟩ h4 =>
    ⟨h4, h3.cl lg, q r _ h1 ((S.back h3).mono h2) (Gd2.back d g s)⟩
  have z0 : ((0 : Nat) ≤ sizeLine) = True := eq_true (Nat.zero_le _)
  simp! [B__law_poly]
  refine wi_next S (by omega) (by decide) (by decide) fun v1 s1 a1 b1 S1 g1 => ?_
  by_cases h0 : v1 = 0
  · have d0 : decide (v1 = 0) = true := decide_eq_true h0
    simp! [d0]
    have ld1 := S1.lsd
    have lg1 := S1.lsg
    refine wi_next S1.new (by omega) (by decide) (by decide) fun v2 s2 a2 b2 S2 g2 => ?_
    refine post_ix (seqOf_obj ((g2.c _ (Nat.lt_succ_self _) (by omega) (by omega)).trans Sto.new_at)) a2 b2 fun x hx => ?_
    have p5 : 32 ≤ 2 ^ k := Nat.le_trans (by decide) (Nat.pow_le_pow_right (show 0 < 2 by decide) k0)
    obtain ⟨n, rfl, hn⟩ : ∃ n : Nat, x = .int (n : Nat) ∧ n < 2 ^ k := by
      simp only [List.mem_cons, List.not_mem_nil, or_false] at hx
      rcases hx with rfl | rfl | rfl | rfl | rfl | rfl
      · exact ⟨0, rfl, by omega⟩
      · exact ⟨1, rfl, by omega⟩
      · exact ⟨2, rfl, by omega⟩
      · exact ⟨3, rfl, by omega⟩
      · exact ⟨7, rfl, by omega⟩
      · exact ⟨11, rfl, by omega⟩
    simp! [eq_self]
    have f := fin n s2 hn ⟨_, by omega, S2.ok⟩ (g1.new.trans g2)
    simpa using f
  have d0 : decide (v1 = 0) = false := decide_eq_false h0
  by_cases h1 : v1 = 1
  · have d1 : decide (v1 = 1) = true := decide_eq_true h1
    simp! [d0, d1, rg4]
    refine lc_P (fun i acc s' => s1.n < s'.n ∧ Inv2 d g (B + 1 + i) t s' ∧ Gd2 d g s s' ∧ ∃ l : List Nat, acc = iN l ∧ ∀ y ∈ l, y < k) ⟨Nat.lt_succ_self _, S1.new, g1.new, [], rfl, (fun y hy => by cases hy)⟩ Sto.new_at (by rw [rngA_len]; decide) ?_ ?_
    · rintro i x acc s2 hx ⟨hn, S2, g2, l, rfl, hlt⟩ hc
      refine ⟨trivial, ?_⟩
      obtain ⟨hi, rfl⟩ := rngA_get hx
      have hi : i < 4 := hi
      have dn : s1.n ≠ d := by have := S1.lsd; omega
      have gn : s1.n ≠ g := by have := S1.lsg; omega
      simp! [wipeA]
      refine wi_next S2 (by omega) (by omega) ?_ fun v3 s3 a3 b3 S3 g3 => ?_
      · rw [Int.natAbs_natCast]
        have : Nat.log2 k < 600 := Nat.lt_of_lt_of_le ((Nat.log2_lt (by omega)).mpr (Nat.lt_two_pow_self)) k1
        omega
      obtain ⟨n3, rfl⟩ := Int.eq_ofNat_of_zero_le a3
      have ts : t.n ≤ s1.n := S1.gd.n
      refine ⟨(g3.c _ hn dn gn).trans hc, Nat.lt_of_lt_of_le hn g3.n, S3.set_new ts, (g2.trans g3).setn g1.n, l ++ [n3], ?_, fun y hy => ?_⟩
      · unfold iN
        rw [List.map_append]
        rfl
      · rcases List.mem_append.mp hy with h | h
        · exact hlt y h
        · rw [List.mem_singleton.mp h]; omega
    · rintro acc s2 ⟨hn, S2, g2, l, rfl, hlt⟩ hc
      refine ⟨trivial, ?_⟩
      rw [rngA_len] at S2
      obtain ⟨n, hn2, e⟩ := number_ok hc hlt (by omega)
      simp! [e]
      have f := fin n s2 hn2 ⟨_, by show B + 1 + 4 ≤ _; omega, S2.ok⟩ g2
      simpa using f
  · have d1 : decide (v1 = 1) = false := decide_eq_false h1
    have k2 : ((k : Nat) : Int) - 2 = ((k - 2 : Nat) : Int) := by omega
    simp! [d0, d1, k2]
    refine wi_next S1 (by omega) (by omega) ?_ fun v3 s3 a3 b3 S3 g3 => ?_
    · rw [Int.natAbs_natCast]
      have : Nat.log2 (k - 2) < 600 := Nat.lt_of_lt_of_le ((Nat.log2_lt (by omega)).mpr (Nat.lt_two_pow_self)) (by omega)
      omega
    obtain ⟨n3, rfl⟩ := Int.eq_ofNat_of_zero_le a3
    have e3 : (2 : Int) + (n3 : Nat) = ((2 + n3 : Nat) : Int) := by omega
    have sl : ∀ s, gShl (.int 1) (.int ((2 + n3 : Nat) : Int)) s = .ok (.int ((1 * 2 ^ (2 + n3) : Nat) : Int)) s := fun s => shl_ok (a := 1) (k := 1) (by decide) (by omega)
    rw [Nat.one_mul] at sl
    have pp : 0 < 2 ^ (2 + n3) := Nat.pow_pos (by decide)
    simp! [e3, sl]
    refine wi_next S3 (by omega) (by exact_mod_cast pp) ?_ fun v4 s4 a4 b4 S4 g4 => ?_
    · rw [Int.natAbs_natCast, Nat.log2_two_pow]
      omega
    obtain ⟨n4, rfl⟩ := Int.eq_ofNat_of_zero_le a4
    have h4 : n4 < 2 ^ (2 + n3) := by exact_mod_cast b4
    simp! [eq_self]
    have f := fin n4 s4 (Nat.lt_of_lt_of_le h4 (Nat.pow_le_pow_right (by decide) (by omega))) ⟨_, by omega, S4.ok⟩ ((g1.trans g3).trans g4)
    simpa using f
end
theorem list_same {s : Sto} {a b : Nat} {xs : List AV} (ha : s.c a = .lst xs) (hb : s.c b = .lst xs) (hd : ∀ x ∈ xs, ∃ d, dat 11 s x = some d ∧ PyData.canLay0 d = true ∧ d.depth ≤ 3) : eqB (.obj a) (.obj b) s = some true := by
  have key : ∀ l : List AV, (∀ x ∈ l, ∃ d, dat 11 s x = some d ∧ PyData.canLay0 d = true ∧ d.depth ≤ 3) → ∃ ds, optL (dat 11 s) l = some ds ∧ PyData.canLayAll0 ds = true ∧ PyData.depthAll ds ≤ 3 := by
    intro l
    induction l with
    | nil => exact fun _ => ⟨[], rfl, by simp [PyData.canLayAll0], by simp [PyData.depthAll]⟩
    | cons x l ih =>
      intro h
      obtain ⟨d, h1, h2, h3⟩ := h x List.mem_cons_self
      obtain ⟨ds, k1, k2, k3⟩ := ih fun y hy => h y (List.mem_cons_of_mem _ hy)
      refine ⟨d :: ds, ?_, by simp [PyData.canLayAll0, h2, k2], by simp only [PyData.depthAll]; omega⟩
      show (match dat 11 s x, optL (dat 11 s) l with | some d, some ds => some (d :: ds) | _, _ => none) = _
      rw [h1, k1]
  obtain ⟨ds, k1, k2, k3⟩ := key xs hd
  have e : ∀ o, s.c o = .lst xs → dat 12 s (.obj o) = some (.list ds) := by
    intro o h
    show (match s.c o with | .lst xs => (optL (dat 11 s) xs).map PyData.list | _ => none) = _
    rw [h]
    show (optL (dat 11 s) xs).map PyData.list = _
    rw [k1]
    rfl
  have sh : SeqAt.shaped (.list ds) = true := by
    simp [SeqAt.shaped, PyData.canLay0, k2, PyData.depth]
    omega
  rw [eqB_dat rfl (e a ha) (e b hb) sh sh, PySem.SeqAt.eqv_refl _ (SeqAt.canLay_of_shaped sh)]
theorem flat_d {s : Sto} {x : AV} (h : (∃ i, x = .int i) ∨ x = .non) : ∃ d, dat 11 s x = some d ∧ PyData.canLay0 d = true ∧ d.depth ≤ 3 := by
  rcases h with ⟨i, rfl⟩ | rfl
  · exact ⟨.int i, rfl, by simp [PyData.canLay0], by simp [PyData.depth]⟩
  · exact ⟨.none, rfl, by simp [PyData.canLay0], by simp [PyData.depth]⟩
theorem pl10 {a b : AV} : Kw.permL [1, 0] [a, b] = [b, a] := rfl
theorem isi_exn {c X : String} {ns : List Str} {vs : List AV} {s : Sto} {r : Bool} (h : X ∉ bnames) (h2 : kitP c X = some r) : gIsi (kitB X) [.exn c ns vs, .cls X] s = .ok (.bl r) s := isi_cls rfl h2 h
theorem dat_b {s : Sto} {o : Nat} {bs : List Bool} (h : s.c o = .lst (bs.map .bl)) : dat 12 s (.obj o) = some (.list (bs.map PyData.bool)) := by
  show (match s.c o with | .lst xs => (optL (dat 11 s) xs).map PyData.list | _ => none) = _
  rw [h]
  have : ∀ l : List Bool, optL (dat 11 s) (l.map AV.bl) = some (l.map PyData.bool) := by
    intro l
    induction l with
    | nil => rfl
    | cons z l ih =>
      show (match dat 11 s (.bl z), optL (dat 11 s) (l.map AV.bl) with | some d, some ds => some (d :: ds) | _, _ => none) = _
      rw [ih]; rfl
  show (optL (dat 11 s) (bs.map AV.bl)).map PyData.list = _
  rw [this]; rfl
theorem sh_b (l : List Bool) : SeqAt.shaped (.list (l.map PyData.bool)) = true := by
  have k : PyData.canLayAll0 (l.map PyData.bool) = true ∧ PyData.depthAll (l.map PyData.bool) = 0 := by
    induction l with
    | nil => simp [PyData.canLayAll0, PyData.depthAll]
    | cons z l ih => simp [PyData.canLayAll0, PyData.canLay0, PyData.depthAll, PyData.depth, ih.1, ih.2]
  simp [SeqAt.shaped, PyData.canLay0, PyData.depth, k.1, k.2]
theorem sh_b1 : SeqAt.shaped (.bool true) = true := by simp [SeqAt.shaped, PyData.canLay0, PyData.depth]
theorem eqv_b (a : Bool) : PyData.eqv (.bool a) (.bool true) = a := by cases a <;> simp [PyData.eqv]
theorem count_b {s : Sto} {o : Nat} {bs : List Bool} (h : s.c o = .lst (bs.map .bl)) : gCount (.obj o) [.bl true] s = .ok (.int (bs.countP id : Nat)) s := by
  rw [gCount_dat (d := .bool true) (dat_b h) rfl ⟨sh_b bs, sh_b1⟩, List.countP_map]
  congr 4
  funext a
  exact eqv_b a
theorem idx_b : ∀ {bs : List Bool} {j : Nat}, bs.findIdx? id = some j → idxD (.bool true) (bs.map PyData.bool) = some j
  | [], j, h => by simp at h
  | b :: bs, j, h => by
    rw [List.map_cons, idxD, eqv_b]
    cases b with
    | true =>
      rw [List.findIdx?_cons] at h
      have : 0 = j := by simpa using h
      subst this; rfl
    | false =>
      obtain ⟨i, hi, rfl⟩ : ∃ i, bs.findIdx? id = some i ∧ i + 1 = j := by
        simpa [List.findIdx?_cons] using h
      rw [idx_b hi]
      rfl
theorem index_b {s : Sto} {o j : Nat} {bs : List Bool} (h : s.c o = .lst (bs.map .bl)) (e : bs.findIdx? id = some j) : gIndex (.obj o) [.bl true] s = .ok (.int (j : Nat)) s :=
  gIndex_dat (d := .bool true) (dat_b h) rfl ⟨sh_b bs, sh_b1⟩ (idx_b e)
def FW (c : String) (w : Str) : Prop := (c = "BadSteps" ∧ w = "steps") ∨ (c = "BadPolynomial" ∧ w = "polynomial") ∨ (c = "BadDegree" ∧ w = "degree") ∨ (c = "BadBits" ∧ w = "bits")
theorem fault_err {ask : Sto → Res AV} {s s2 : Sto} {v : AV} {c : String} {w : Str} (h : ask s = .err c ["given"] [v] s2) (hc : FW c w) : ∃ s', Gb s2 s' ∧ ∀ f, F__law_fault f ask s = .ok (.tup [.str w, v]) s' := by
  have hx : exP "DrawError" c = some true := by rcases hc with ⟨rfl, rfl⟩ | ⟨rfl, rfl⟩ | ⟨rfl, rfl⟩ | ⟨rfl, rfl⟩ <;> decide
  have vb : ∀ t, gIsiB "ValueError" [.exn c ["given"] [v], .ty "ValueError"] t = .ok (.bl true) t := fun t => by
    rw [gIsiB_ok]
    rcases hc with ⟨rfl, rfl⟩ | ⟨rfl, rfl⟩ | ⟨rfl, rfl⟩ | ⟨rfl, rfl⟩ <;> rfl
  obtain ⟨b1, b2, b3, b4, j, i1, i2, i3, i4, cn, ci, cw, cl⟩ : ∃ (b1 b2 b3 b4 : Bool) (j : Nat), kitP c "BadPolynomial" = some b1 ∧ kitP c "BadDegree" = some b2 ∧ kitP c "BadBits" = some b3 ∧ kitP c "BadSteps" = some b4 ∧ [b1, b2, b3, b4].countP id = 1 ∧ [b1, b2, b3, b4].findIdx? id = some j ∧ ([AV.str "polynomial", .str "degree", .str "bits", .str "steps"] : List AV)[j]? = some (.str w) ∧ c ∈ ["BadSteps", "BadPolynomial", "BadDegree", "BadBits"] := by
    rcases hc with ⟨rfl, rfl⟩ | ⟨rfl, rfl⟩ | ⟨rfl, rfl⟩ | ⟨rfl, rfl⟩
    · exact ⟨false, false, false, true, 3, by decide, by decide, by decide, by decide, by decide, by decide, rfl, by decide⟩
    · exact ⟨true, false, false, false, 0, by decide, by decide, by decide, by decide, by decide, by decide, rfl, by decide⟩
    · exact ⟨false, true, false, false, 1, by decide, by decide, by decide, by decide, by decide, by decide, rfl, by decide⟩
    · exact ⟨false, false, true, false, 2, by decide, by decide, by decide, by decide, by decide, by decide, rfl, by decide⟩
  have i1 := fun t => isi_exn (s := t) (ns := ["given"]) (vs := [v]) (by decide) i1
  have i2 := fun t => isi_exn (s := t) (ns := ["given"]) (vs := [v]) (by decide) i2
  have i3 := fun t => isi_exn (s := t) (ns := ["given"]) (vs := [v]) (by decide) i3
  have i4 := fun t => isi_exn (s := t) (ns := ["given"]) (vs := [v]) (by decide) i4
  obtain ⟨t1, ht1⟩ : ∃ t, t = s2.new (.lst [.str "polynomial", .str "degree", .str "bits", .str "steps"]) := ⟨_, rfl⟩
  obtain ⟨t2, ht2⟩ : ∃ t, t = t1.new (.lst [.bl b1]) := ⟨_, rfl⟩
  obtain ⟨t3, ht3⟩ : ∃ t, t = t2.new (.lst [.bl b2, .bl b3, .bl b4]) := ⟨_, rfl⟩
  obtain ⟨t4, ht4⟩ : ∃ t, t = t3.new (.lst ([b1, b2, b3, b4].map AV.bl)) := ⟨_, rfl⟩
  have n1 : t1.n = s2.n + 1 := by rw [ht1]; rfl
  have n2 : t2.n = s2.n + 1 + 1 := by rw [ht2]; exact congrArg (· + 1) n1
  have n3 : t3.n = s2.n + 1 + 1 + 1 := by rw [ht3]; exact congrArg (· + 1) n2
  have c1 : t1.c s2.n = .lst [.str "polynomial", .str "degree", .str "bits", .str "steps"] := by rw [ht1]; exact Sto.new_at
  have c2 : t2.c (s2.n + 1) = .lst [.bl b1] := by rw [ht2, ← n1]; exact Sto.new_at
  have c3 : t3.c (s2.n + 1 + 1) = .lst [.bl b2, .bl b3, .bl b4] := by rw [ht3, ← n2]; exact Sto.new_at
  have c4 : t4.c (s2.n + 1 + 1 + 1) = .lst ([b1, b2, b3, b4].map AV.bl) := by rw [ht4, ← n3]; exact Sto.new_at
  have c23 : t3.c (s2.n + 1) = .lst [.bl b1] := by rw [ht3]; exact at_old (by omega) c2
  have c14 : t4.c s2.n = .lst [.str "polynomial", .str "degree", .str "bits", .str "steps"] := by rw [ht4]; refine at_old (by omega) ?_; rw [ht3]; refine at_old (by omega) ?_; rw [ht2]; exact at_old (by omega) c1
  have ad : gAdd (.obj (s2.n + 1)) (.obj (s2.n + 1 + 1)) t3 = .ok (.obj (s2.n + 1 + 1 + 1)) t4 := by
    rw [gAdd_lst c23 c3 (by simp; decide)]
    unfold newL
    rw [ht4, n3]
    rfl
  have ct := count_b c4
  rw [cn, show ((1 : Nat) : Int) = 1 from rfl] at ct
  have ix := index_b c4 ci
  have gx := gIx_seq (seqOf_obj c14) (show L2.atI _ ((j : Nat) : Int) = _ from L2.atI_nat cw)
  have gk : gXk ["BadSteps", "BadPolynomial", "BadDegree", "BadBits"] "given" (.exn c ["given"] [v]) t4 = .ok v t4 := by
    unfold gXk
    simp only [if_pos cl]
    rfl
  refine ⟨t4, by rw [ht4, ht3, ht2, ht1]; exact (Gb.refl s2).new.new.new.new, fun f => ?_⟩
  have a : aAsk f ask [some (.raw f), some .non, some .non, none, none, none] s = .err c ["given"] [v] s2 := (aAsk_raw rfl).trans h
  have e : F__law_fault f ask s = (B__law_fault f ask [some (.raw f), none, none, none, none, none] s).fn := rfl
  rw [e]
  have g : ∀ x0 x2, gcT (aOr (aTest (aOp gNe (aBM gCount (aVar 5) (aCons (aC (.bl true)) aNil)) (aC (.int 1)))) (aNot (aTest (aCB (gIsiB "ValueError") (aCons (aVar 1) (aCons (aC (.ty "ValueError")) aNil)))))) [x0, some (.exn c ["given"] [v]), x2, none, some (.obj s2.n), some (.obj (s2.n + 1 + 1 + 1))] t4 = .ok false t4 := fun x0 x2 => by
    have sq := isSeqL_obj c4
    exact gcT_f (by simp! only [aBM, sq, ct, vb])
  have sq := isSeqL_obj c4
  simp! only [B__law_fault, a, hx, i1, i2, i3, i4, z4, z1, z3, ← ht1, n1, ← ht2, n2, ← ht3, n3, ad, g, aBM, sq, ix, gx, gk, isNon]
theorem wt_fault {fb : AE} {σ : ASt} {s : Sto} {v : AV} {c : String} {w : Str} {P : AV → Sto → Prop} {R : String → List Str → List AV → Sto → Prop} (h : fb σ s = .err c ["given"] [v] s) (hc : FW c w)
    (hv : Cl s.n v) (q : P (.tup [.str w, v]) s) : (gcE (aTold F__law_fault fb) σ s).Post P R := by
  obtain ⟨s', g, e⟩ := fault_err h hc
  exact gcE_g (post_told e ⟨by simp [hv], g, q⟩)
def De (s : Sto) (l c : Nat) (x : AV) : Prop := ∃ d : PyData, (∀ s', Gb s s' → ∀ n, l < n → datE n s' x = some d) ∧ Gx.SmE d ∧ d.depth ≤ l ∧ Gx.nodes d ≤ c
def DeL (s : Sto) (l c : Nat) (xs : List AV) : Prop := ∃ ds : List PyData, (∀ s', Gb s s' → ∀ n, l < n → optL (datE n s') xs = some ds) ∧ Gx.SmEAll ds ∧ PyData.depthAll ds ≤ l ∧ Gx.nodesAll ds ≤ c * xs.length
section
variable {s : Sto} {l c : Nat} {x : AV} {xs : List AV}
theorem De.gb {s' : Sto} (h : De s l c x) (g : Gb s s') : De s' l c x := by
  obtain ⟨d, h1, h2⟩ := h
  exact ⟨d, fun t k => h1 t (g.trans k), h2⟩
theorem De.mono {m e : Nat} (h : De s l c x) (h1 : l ≤ m) (h2 : c ≤ e) : De s m e x := by
  obtain ⟨d, k1, k2, k3, k4⟩ := h
  exact ⟨d, fun t g n hn => k1 t g n (by omega), k2, by omega, by omega⟩
theorem de_dat {d : PyData} (h : ∀ s' n, datE (n + 1) s' x = some d) (h2 : Gx.SmE d) (h3 : d.depth = 0) (h4 : Gx.nodes d = 1) : De s 0 1 x :=
  ⟨d, fun t g n hn => by obtain ⟨m, rfl⟩ : ∃ m, n = m + 1 := ⟨n - 1, by omega⟩; exact h t m, h2, by omega, by omega⟩
theorem de_int {i : Int} (h : i.natAbs < 2 ^ 600) : De s 0 1 (.int i) := de_dat (d := .int i) (fun _ _ => rfl) (by simp only [Gx.SmE]; exact h) (by simp [PyData.depth]) (by simp [Gx.nodes])
theorem de_bl (b : Bool) : De s 0 1 (.bl b) := de_dat (d := .bool b) (fun _ _ => rfl) (by simp [Gx.SmE]) (by simp [PyData.depth]) (by simp [Gx.nodes])
theorem de_non : De s 0 1 .non := de_dat (d := .none) (fun _ _ => rfl) (by simp [Gx.SmE]) (by simp [PyData.depth]) (by simp [Gx.nodes])
theorem de_str {z : Str} (h : Gx.SmE (.str z)) : De s 0 1 (.str z) := de_dat (d := .str z) (fun _ _ => rfl) h (by simp [PyData.depth]) (by simp [Gx.nodes])
theorem deL : ∀ {xs : List AV}, (∀ x ∈ xs, De s l c x) → DeL s l c xs
  | [], _ => ⟨[], fun _ _ _ _ => rfl, by simp [Gx.SmEAll], by simp [PyData.depthAll], by simp [Gx.nodesAll]⟩
  | x :: xs, h => by
    obtain ⟨d, k1, k2, k3, k4⟩ := h x List.mem_cons_self
    obtain ⟨ds, m1, m2, m3, m4⟩ := deL (xs := xs) fun y hy => h y (List.mem_cons_of_mem _ hy)
    refine ⟨d :: ds, fun t g n hn => ?_, by simp only [Gx.SmEAll]; exact ⟨k2, m2⟩, by simp only [PyData.depthAll]; omega, ?_⟩
    · show (match datE n t x, optL (datE n t) xs with | some d, some ds => some (d :: ds) | _, _ => none) = _
      rw [k1 t g n hn, m1 t g n hn]
    · simp only [Gx.nodesAll, List.length_cons, Nat.mul_succ]
      omega
theorem de_tup (h : DeL s l c xs) : De s (l + 1) (c * xs.length + 1) (.tup xs) := by
  obtain ⟨ds, m1, m2, m3, m4⟩ := h
  refine ⟨.tuple ds, fun t g n hn => ?_, by simp only [Gx.SmE]; exact m2, by simp only [PyData.depth]; omega, by simp only [Gx.nodes]; omega⟩
  obtain ⟨m, rfl⟩ : ∃ m, n = m + 1 := ⟨n - 1, by omega⟩
  show (optL (datE m t) xs).map PyData.tuple = _
  rw [m1 t g m (by omega)]
  rfl
theorem de_lst {o : Nat} (h : DeL s l c xs) (ho : o < s.n) (e : s.c o = .lst xs) : De s (l + 1) (c * xs.length + 1) (.obj o) := by
  obtain ⟨ds, m1, m2, m3, m4⟩ := h
  refine ⟨.list ds, fun t g n hn => ?_, by simp only [Gx.SmE]; exact m2, by simp only [PyData.depth]; omega, by simp only [Gx.nodes]; omega⟩
  obtain ⟨m, rfl⟩ : ∃ m, n = m + 1 := ⟨n - 1, by omega⟩
  show (match t.c o with | .lst xs => (optL (datE m t) xs).map PyData.list | .dic [] => some (PyData.dict []) | _ => none) = _
  rw [(g.c o ho).trans e]
  show (optL (datE m t) xs).map PyData.list = _
  rw [m1 t g m (by omega)]
  rfl
/-- the text of a value -/
theorem De.rep (h : De s l c x) (h1 : l ≤ 11) (h2 : c ≤ 20000) : ∃ z : Str, ∀ s', Gb s s' → gReprE [x] s' = .ok (.str z) s' := by
  obtain ⟨d, k1, k2, k3, k4⟩ := h
  have o : Gx.Okd d := Gx.okdE k2 (by omega) (by omega)
  exact ⟨d.shown, fun t g => gReprE_dat (k1 t g 12 (by omega)) ⟨o.sh, o.dp, o.ln⟩⟩
/-- the text of a list, by what it holds -/
theorem DeL.rep (h : DeL s l c xs) (h1 : l ≤ 10) (h2 : c * xs.length ≤ 19999) : ∃ z : Str, ∀ s' o, Gb s s' → s'.c o = .lst xs → gReprE [.obj o] s' = .ok (.str z) s' := by
  obtain ⟨ds, m1, m2, m3, m4⟩ := h
  have o : Gx.Okd (.list ds) := Gx.okdE (by simp only [Gx.SmE]; exact m2) (by simp only [PyData.depth]; omega) (by simp only [Gx.nodes]; omega)
  refine ⟨(PyData.list ds).shown, fun t p g e => gReprE_dat (d := .list ds) ?_ ⟨o.sh, o.dp, o.ln⟩⟩
  show (match t.c p with | .lst xs => (optL (datE 11 t) xs).map PyData.list | .dic [] => some (PyData.dict []) | _ => none) = _
  rw [e]
  show (optL (datE 11 t) xs).map PyData.list = _
  rw [m1 t g 11 (by omega)]
  rfl
/-- word and value -/
theorem de_pair {w : Str} (hw : Gx.SmE (.str w)) (h : De s l c x) (h1 : 1 ≤ c) : De s (l + 1) (c * 2 + 1) (.tup [.str w, x]) :=
  de_tup (deL fun y hy => by
    rcases List.mem_cons.mp hy with rfl | hy
    · exact (de_str hw).mono (Nat.zero_le _) h1
    · rw [List.mem_singleton.mp hy]; exact h)
theorem deL_rep {n : Nat} (h : De s l c x) : DeL s l c (List.replicate n x) := deL fun y hy => by
  rw [List.eq_of_mem_replicate hy]; exact h
theorem de_dic {o : Nat} (ho : o < s.n) (e : s.c o = .dic []) : De s 1 1 (.obj o) := by
  refine ⟨.dict [], fun t g n hn => ?_, by simp [Gx.SmE], by simp [PyData.depth, PyData.depthKv], by simp [Gx.nodes]⟩
  obtain ⟨m, rfl⟩ : ∃ m, n = m + 1 := ⟨n - 1, by omega⟩
  show (match t.c o with | .lst xs => (optL (datE m t) xs).map PyData.list | .dic [] => some (PyData.dict []) | _ => none) = _
  rw [(g.c o ho).trans e]
end
structure OddQ (lim : Int) (s : Sto) (v : AV) : Prop where
  cl' : ∀ n, s.n ≤ n → Cl n v
  bad : (∃ i, v = .int i ∧ ¬ (0 ≤ i ∧ i ≤ lim)) ∨ ∃ t b1 b2, (∀ s', Gb s s' → tyN s' v = some t) ∧ kitP t "int" = some b1 ∧ kitP t "bool" = some b2 ∧ (b1 && !b2) = false
  da : De s 1 7 v
section
variable {s s' : Sto} {v : AV} {lim : Int}
theorem OddQ.cl (h : OddQ lim s v) : Cl s.n v := h.cl' _ (Nat.le_refl _)
theorem OddQ.gb (h : OddQ lim s v) (g : Gb s s') : OddQ lim s' v := by
  refine ⟨fun n hn => h.cl' n (Nat.le_trans g.n hn), ?_, h.da.gb g⟩
  rcases h.bad with h1 | ⟨t, b1, b2, h1, h2⟩
  · exact .inl h1
  · exact .inr ⟨t, b1, b2, fun t g2 => h1 t (g.trans g2), h2⟩
theorem oddqInt {i : Int} (s : Sto) (h : ¬ (0 ≤ i ∧ i ≤ lim)) (h2 : i.natAbs < 2 ^ 600) : OddQ lim s (.int i) := ⟨(fun n _ => by simp), .inl ⟨i, rfl, h⟩, (de_int h2).mono (by decide) (by decide)⟩
theorem oddqBl (s : Sto) (b : Bool) : OddQ lim s (.bl b) := ⟨(fun n _ => by simp), .inr ⟨"bool", true, true, fun _ _ => rfl, by decide, by decide, rfl⟩, (de_bl b).mono (by decide) (by decide)⟩
theorem oddqNon (s : Sto) : OddQ lim s .non := ⟨(fun n _ => by simp), .inr ⟨"NoneType", false, false, fun _ _ => rfl, by decide, by decide, rfl⟩, de_non.mono (by decide) (by decide)⟩
theorem oddqStr (s : Sto) {z : Str} (h : Gx.SmE (.str z)) : OddQ lim s (.str z) := ⟨(fun n _ => by simp), .inr ⟨"str", false, false, fun _ _ => rfl, by decide, by decide, rfl⟩, (de_str h).mono (by decide) (by decide)⟩
theorem oddqTup (s : Sto) {xs : List Int} (h : ∀ i ∈ xs, i.natAbs < 2 ^ 600) (hl : xs.length ≤ 6) : OddQ lim s (.tup (xs.map .int)) := ⟨(fun n _ => by rw [Cl_tup]; exact clL_ints xs), .inr ⟨"tuple", false, false, fun _ _ => rfl, by decide, by decide, rfl⟩, (de_tup (l := 0) (c := 1) (deL fun y hy => by
  obtain ⟨i, hi, rfl⟩ := List.mem_map.mp hy
  exact de_int (h i hi))).mono (by decide) (by rw [List.length_map]; omega)⟩
theorem oddqLst {e : Nat} {xs : List Int} (h2 : e < s.n) (h3 : s.c e = .lst (xs.map .int)) (h : ∀ i ∈ xs, i.natAbs < 2 ^ 600) (hl : xs.length ≤ 6) : OddQ lim s (.obj e) := ⟨(fun n hn => by simp; omega), .inr ⟨"list", false, false, fun t g => by simp [tyN, (g.c e h2).trans h3], by decide, by decide, rfl⟩, (de_lst (l := 0) (c := 1) (deL fun y hy => by
  obtain ⟨i, hi, rfl⟩ := List.mem_map.mp hy
  exact de_int (h i hi)) h2 h3).mono (by decide) (by rw [List.length_map]; omega)⟩
theorem oddqDic {e : Nat} (h2 : e < s.n) (h3 : s.c e = .dic []) : OddQ lim s (.obj e) := ⟨(fun n hn => by simp; omega), .inr ⟨"dict", false, false, fun t g => by simp [tyN, (g.c e h2).trans h3], by decide, by decide, rfl⟩, (de_dic h2 h3).mono (by decide) (by decide)⟩
end
abbrev PL : Int := ((2 ^ 512 : Nat) : Int) - 1
section
variable {s : Sto} {v : AV}
theorem cs1 {xs : List AV} (s : Sto) {c : String} {ns : List Str} {vs : List AV} (h : F_s3_need [.tup xs] s = .err c ns vs s) (hl : xs.length ≤ 1000) : callSK F_s3_need xs s = .err c ns vs s := by
  rw [e_callSK, grd_pos (Nat.le_trans hl (by decide)), h]
theorem cs2 {xs : List AV} (s : Sto) (h : F_s3_need [.tup xs] s = .ok .non s) (hl : xs.length ≤ 1000) : callSK F_s3_need xs s = .ok .non s := by
  rw [e_callSK, grd_pos (Nat.le_trans hl (by decide)), h]
end
theorem lc_el {α : Type} {G : Sto → Prop} {j : Nat} {ft : AT} {fe : AE} {σ0 : ASt} {P : AV → Sto → Prop} {R : String → List Str → List AV → Sto → Prop} {L : List α} {φ : α → AV} {s : Sto} (p : α → Bool) (f : α → AV) (hl : L.length ≤ 1000) (hG : ∀ s', Gb s s' → G s')
    (h : ∀ x ∈ L, ∀ s', Gb s s' → ft (σ0.set j (some (φ x))) s' = .ok (p x) s' ∧ (p x = true → fe (σ0.set j (some (φ x))) s' = .ok (f x) s'))
    (q : P (.obj s.n) (s.new (.lst ((L.filter p).map f)))) : (oObj s.n (lcI s.n G (agName j) ft fe σ0 (L.map φ) (s.new (.lst [])))).Post P R := by
  refine lc_P (fun i acc s' => s' = s.new (.lst (((L.take i).filter p).map f)) ∧ acc = ((L.take i).filter p).map f) ⟨rfl, rfl⟩ Sto.new_at (by rw [List.length_map]; exact hl) ?_ ?_
  · rintro i x acc s' hx ⟨e1, rfl⟩ hk
    obtain ⟨y, hy, rfl⟩ : ∃ y, L[i]? = some y ∧ φ y = x := by
      rw [List.getElem?_map] at hx
      cases e : L[i]? with
      | none => rw [e] at hx; cases hx
      | some y => rw [e] at hx; exact ⟨y, rfl, Option.some.inj hx⟩
    have tk : L.take (i + 1) = L.take i ++ [y] := by rw [List.take_add_one, hy]; rfl
    have g : Gb s s' := e1 ▸ (Gb.refl s).new
    obtain ⟨h1, h2⟩ := h y (List.mem_of_getElem? hy) s' g
    refine ⟨hG _ g, ?_⟩
    show (ft (σ0.set j (some (φ y))) s').Post _ _
    rw [h1]
    show (p y = true → _) ∧ (p y = false → _)
    refine ⟨fun e => ?_, fun e => ?_⟩
    · rw [h2 e]
      refine ⟨hk, ?_, ?_⟩
      · rw [e1, new_set, tk]; simp [e]
      · rw [tk]; simp [e]
    · refine ⟨hk, ?_, ?_⟩
      · rw [e1, tk]; simp [e]
      · rw [tk]; simp [e]
  · rintro acc s' ⟨e1, rfl⟩ hk
    rw [List.length_map, List.take_length] at e1
    subst e1
    exact ⟨hG _ (Gb.refl s).new, q⟩
theorem shrN {a i : Nat} (s : Sto) : gShr (.int (a : Nat)) (.int (i : Nat)) s = .ok (.int ((a / 2 ^ i : Nat) : Int)) s := by
  rw [gShr_int (by omega)]
  congr 2
theorem bit1 (a i : Nat) : decide ((((a / 2 ^ i) % 2 : Nat) : Int) = 1) = a.testBit i := by
  rw [Nat.testBit_eq_decide_div_mod_eq]
  exact decide_eq_decide.mpr (by omega)
section
variable {P : AV → Sto → Prop} {R : String → List Str → List AV → Sto → Prop} {s : Sto} {a b : Nat} {xs : List AV}
theorem post_eqL (ha : s.c a = .lst xs) (hb : s.c b = .lst xs) (hd : ∀ x ∈ xs, ∃ d, dat 11 s x = some d ∧ PyData.canLay0 d = true ∧ d.depth ≤ 3) (q : P (.bl true) s) : (gEq (.obj a) (.obj b) s).Post P R := by
  rw [gEq_b (list_same ha hb hd)]
  exact q
theorem post_neL (ha : s.c a = .lst xs) (hb : s.c b = .lst xs) (hd : ∀ x ∈ xs, ∃ d, dat 11 s x = some d ∧ PyData.canLay0 d = true ∧ d.depth ≤ 3) (q : P (.bl false) s) : (gNe (.obj a) (.obj b) s).Post P R := by
  rw [gNe_b (list_same ha hb hd)]
  exact q
end
theorem need2_t {i j : Nat} (s : Sto) (h : i < 2 ^ 512) (h2 : j < 2 ^ 512) : F_s3_need [.tup [.int (i : Nat), .int (j : Nat)]] s = .ok .non s := by
  refine gc0 ?_ (by simp)
  refine res_ok ?_
  have p := fun s => poly_t (i := i) s h
  have p2 := fun s => poly_t (i := j) s h2
  simp! [B_s3_need]
  refine for_A (fun k σ s' => s' = s ∧ ∃ z, σ = [some (.tup [.int (i : Nat), .int (j : Nat)]), z]) ⟨rfl, _, rfl⟩ ?_ ?_
  · rintro k x σ s' hx ⟨rfl, z, rfl⟩
    have hx : x = .int (i : Nat) ∨ x = .int (j : Nat) := by
      rcases k with _ | _ | k
      · exact .inl (by simpa using hx.symm)
      · exact .inr (by simpa using hx.symm)
      · simp at hx
    refine ⟨trivial, ?_⟩
    rcases hx with rfl | rfl
    · simp! [eq_self]
      refine gcT_g ?_
      simp! [p]
      exact ⟨Gb.refl _, _, rfl⟩
    · simp! [eq_self]
      refine gcT_g ?_
      simp! [p2]
      exact ⟨Gb.refl _, _, rfl⟩
  · rintro σ s' ⟨rfl, z, rfl⟩
    refine ⟨trivial, ?_⟩
    simp! [eq_self]
end Pf
set_option Elab.async false
set_option linter.all false
set_option maxRecDepth 100000
set_option maxHeartbeats 1000000
set_option exponentiation.threshold 3000
namespace Pf
open PySem Ab
local macro_rules | `(tactic| simp! [$xs,*]) => `(tactic| try simp (config := {maxSteps := 1000000}) only [k_bind, k_Kb, k_st, k_Kst, k_Rst, k_thn, k_loop, k_fn, k_forget, k_clr, k_noX, k_try, k_stuck, k_Astuck, d_thn_nx, d_thn_bk, d_thn_ct, d_thn_rt, d_thn_er, d_lp_nx, d_lp_bk, d_lp_ct, d_lp_rt, d_lp_er, d_fg_nx, d_fg_bk, d_fg_ct, d_fg_rt, d_fg_er, d_cl_nx, d_cl_bk, d_cl_ct, d_cl_rt, d_cl_er, d_tr_nx, d_tr_bk, d_tr_ct, d_tr_rt, d_tr_er, d_nX_nx, d_nX_bk, d_nX_ct, d_nX_rt, d_nX_er, d_fn_nx, d_fn_bk, d_fn_ct, d_fn_rt, d_fn_er, A_nx, A_bk, A_ct, A_rt, A_err, post_ok, post_err, post_noErr, e_op, e_opK, e_un, e_cb, e_nil, e_c, e_cons, e_consK, e_consK2, e_and, e_or, e_andK, e_orK, e_not, e_notK, e_test, e_testK, e_tand, e_tandK, e_tor, e_torK, e_tnot, e_tnotK, e_yes, e_if, e_ifK, e_ch, e_chK1, e_chK2, e_chK3, e_tup, e_tupK, e_lst, e_lstK, e_newL, e_call, e_callK, e_meth, e_methK, e_methK2, e_prop, e_propK, e_make, e_makeK, e_makeK2, e_makeV, e_sm, e_smK, e_smK2, e_cm, e_cmK, e_cmK2, e_sl, e_slK1, e_slK2, e_slK3, e_part, e_partK, e_nopart, e_rev, e_bm, e_bmK, e_pr, e_pr0, e_prK1, e_prK2, e_prK3, e_disp, e_dnew, e_own, e_ownK, e_lc, e_lcK, e_iter, e_rng1, e_rng1K, e_rng2, e_rng2K, e_enum, s_drop, s_dropK, s_ret, s_retK, s_retN, s_next, s_break, s_cont, s_seq, s_if, s_ifK, s_asg, s_asgK, s_name, s_par, s_parK, s_par3, s_parK3, s_gnil, s_gcons, s_gtup, s_for, s_forK, s_raise, s_raiseK, s_sf, s_sfK1, s_sfK2, s_dp, s_dpK1, s_dpK2, s_dpK3, s_forget, s_def, s_fld, e_enumU, e_enumUT, e_match, e_mcase, e_mcase2, e_many, e_mnil, e_lcX, e_lcXK, e_get2, e_methS, e_methS1, e_methS2, s_augS, s_augS1, gEqS_int, gEqS_str, gEqS_bl, gEqS_tup, e_fmt, e_js, e_jsC, e_jsN, e_join, e_joinK, eq_self, beq_self_eq_true, k_grd, k_grdS, k_ite, k_Aite, true_implies, false_implies, implies_true, List.map_cons, List.map_nil, List.nil_append, List.cons_append, List.append_nil, List.replicate_succ, List.replicate_zero, List.getElem?_cons_zero, List.getElem?_cons_succ, List.length_cons, List.length_nil, List.set_cons_zero, List.set_cons_succ, ↓reduceIte, ↓reduceDIte, Nat.reduceAdd, Nat.reduceLeDiff, Nat.reduceEqDiff, Nat.zero_add, if_true, if_false, aVar, gMinus_int, gLt_int, gLe_int, gGt_int, gGe_int, gEq_int, gNe_int, gEq_str, gNe_str, gEq_bl, gNe_bl, gXor_int, gAnd_int, gOr_int, gAdd_int, gIsN_non, gNotN_non, gIsB_bl, gNotB_bl, gNeg_int, gLen_tup, gLen_scr, gMax2_int, gMin2_int, gBits_int, gSl_tup, gSl_scr, Bool.not_true, Bool.not_false, Bool.true_eq_false, Bool.false_eq_true, Bool.true_and, Bool.false_and, Bool.and_true, Bool.and_false, Bool.true_or, Bool.false_or, decide_true, decide_false, and_self, and_true, true_and, and_false, false_and, not_true_eq_false, not_false_eq_true, reduceCtorEq, kz, z1, z2, z3, z4, z5, z6, z7, z8, z9, z10, z11, z12, z13, z14, z15, z16, isCls, isNon, aForget, aHand, toKey, keysA, iterOf_tup, iterOf_scr, oNx_some, noErr_ok, decide_eq_true_eq, decide_eq_false_iff_not, Sto.new_n, Sto.set_n, Sto.set_at, Sto.new_at, Nat.zero_le, aMakeV, Cl_non, Cl_bl, Cl_int, Cl_str, Cl_cls, Cl_obj, Cl_tup, ClL_nil, ClL_cons, $xs,*])
local macro_rules | `(tactic| simp! only [$xs,*]) => `(tactic| simp only [e_op, e_opK, e_un, e_cb, e_nil, e_c, e_cons, e_consK, e_consK2, e_and, e_or, e_andK, e_orK, e_not, e_notK, e_test, e_testK, e_tand, e_tandK, e_tor, e_torK, e_tnot, e_tnotK, e_yes, e_if, e_ifK, e_ch, e_chK1, e_chK2, e_chK3, e_tup, e_tupK, e_lst, e_lstK, e_newL, e_call, e_callK, e_meth, e_methK, e_methK2, e_prop, e_propK, e_make, e_makeK, e_makeK2, e_makeV, e_sm, e_smK, e_smK2, e_cm, e_cmK, e_cmK2, e_sl, e_slK1, e_slK2, e_slK3, e_part, e_partK, e_nopart, e_rev, e_bm, e_bmK, e_pr, e_pr0, e_prK1, e_prK2, e_prK3, e_disp, e_dnew, e_own, e_ownK, e_lc, e_lcK, e_iter, e_rng1, e_rng1K, e_rng2, e_rng2K, e_enum, s_drop, s_dropK, s_ret, s_retK, s_retN, s_next, s_break, s_cont, s_seq, s_if, s_ifK, s_asg, s_asgK, s_name, s_par, s_parK, s_par3, s_parK3, s_gnil, s_gcons, s_gtup, s_for, s_forK, s_raise, s_raiseK, s_sf, s_sfK1, s_sfK2, s_dp, s_dpK1, s_dpK2, s_dpK3, s_forget, s_def, s_fld, e_enumU, e_enumUT, e_match, e_mcase, e_mcase2, e_many, e_mnil, e_lcX, e_lcXK, e_get2, e_methS, e_methS1, e_methS2, s_augS, s_augS1, gEqS_int, gEqS_str, gEqS_bl, gEqS_tup, e_fmt, e_js, e_jsC, e_jsN, e_join, e_joinK, eq_self, beq_self_eq_true, true_implies, false_implies, implies_true, List.map_cons, List.map_nil, List.nil_append, List.cons_append, List.append_nil, List.replicate_succ, List.replicate_zero, List.getElem?_cons_zero, List.getElem?_cons_succ, List.length_cons, List.length_nil, List.set_cons_zero, List.set_cons_succ, ↓reduceIte, ↓reduceDIte, Nat.reduceAdd, Nat.reduceLeDiff, Nat.reduceEqDiff, Nat.zero_add, if_true, if_false, aVar, gMinus_int, gLt_int, gLe_int, gGt_int, gGe_int, gEq_int, gNe_int, gEq_str, gNe_str, gEq_bl, gNe_bl, gXor_int, gAnd_int, gOr_int, gAdd_int, gIsN_non, gNotN_non, gIsB_bl, gNotB_bl, gNeg_int, gLen_tup, gLen_scr, gMax2_int, gMin2_int, gBits_int, gSl_tup, gSl_scr, Bool.not_true, Bool.not_false, Bool.true_eq_false, Bool.false_eq_true, Bool.true_and, Bool.false_and, Bool.and_true, Bool.and_false, Bool.true_or, Bool.false_or, decide_true, decide_false, and_self, and_true, true_and, and_false, false_and, not_true_eq_false, not_false_eq_true, reduceCtorEq, kz, z1, z2, z3, z4, z5, z6, z7, z8, z9, z10, z11, z12, z13, z14, z15, z16, isCls, isNon, aForget, aHand, toKey, keysA, iterOf_tup, iterOf_scr, oNx_some, noErr_ok, decide_eq_true_eq, decide_eq_false_iff_not, Sto.new_n, Sto.set_n, Sto.set_at, Sto.new_at, Nat.zero_le, aMakeV, Cl_non, Cl_bl, Cl_int, Cl_str, Cl_cls, Cl_obj, Cl_tup, ClL_nil, ClL_cons, grd_pos, grdS_pos, Res.bind_ok, Res.bind_err, Res.st_ok, Res.st_err, SRes.thn_nx, SRes.thn_rt, SRes.thn_err, SRes.fn_rt, SRes.fn_nx, SRes.fn_err, SRes.loop_nx, SRes.loop_rt, SRes.loop_err, SRes.loop_ct, SRes.loop_bk, SRes.forget_nx, SRes.forget_rt, SRes.forget_err, SRes.clr_nx, SRes.clr_rt, SRes.noX_nx, SRes.noX_rt, aTry, sizeLine_ge, $xs,*])
theorem emptyA (x : Str) : Str.empty ++ x = x := by
  cases x
  show Str.mk (#[] ++ _) = _
  simp
theorem num_s : ∀ p < 513, (PyData.strOk (numS (p : Nat)) && decide ((numS (p : Nat)).length ≤ 4)) = true := by decide +kernel
def term (p : Nat) : Str := if p = 0 then "1" else if p = 1 then "t" else ("t^" : Str) ++ numS (p : Nat)
theorem strOk_app {a b : Str} (h1 : PyData.strOk a = true) (h2 : PyData.strOk b = true) : PyData.strOk (a ++ b) = true := by
  show (a.cps ++ b.cps).all _ = true
  rw [Array.all_append]
  exact Bool.and_eq_true_iff.mpr ⟨h1, h2⟩
theorem term_ok {p : Nat} (h : p < 513) : PyData.strOk (term p) = true ∧ (term p).length ≤ 10 := by
  have k := num_s p h
  rw [Bool.and_eq_true, decide_eq_true_eq] at k
  unfold term
  split
  · exact ⟨by decide +kernel, by decide +kernel⟩
  split
  · exact ⟨by decide +kernel, by decide +kernel⟩
  · refine ⟨strOk_app (by decide +kernel) k.1, ?_⟩
    rw [Str.length_append]
    have : ("t^" : Str).length = 2 := by decide +kernel
    omega
theorem glued_ok {g : Str} (hg : PyData.strOk g = true) (hg2 : g.length ≤ 10) : ∀ (l : List Str) (acc : Array Nat), (Str.mk acc).length + 20 * l.length ≤ 1000000 → PyData.strOk (Str.mk acc) = true → (∀ y ∈ l, PyData.strOk y = true ∧ y.length ≤ 10) →
    PyData.strOk (Str.mk (l.foldl (fun acc p => acc ++ g.cps ++ p.cps) acc)) = true ∧ (Str.mk (l.foldl (fun acc p => acc ++ g.cps ++ p.cps) acc)).length ≤ (Str.mk acc).length + 20 * l.length
  | [], acc, h, h1, h2 => ⟨h1, by simp⟩
  | y :: l, acc, h, h1, h2 => by
    obtain ⟨y1, y2⟩ := h2 y List.mem_cons_self
    have e : (Str.mk (acc ++ g.cps ++ y.cps)).length = (Str.mk acc).length + g.length + y.length := by
      show (acc ++ g.cps ++ y.cps).size = acc.size + g.cps.size + y.cps.size
      rw [Array.size_append, Array.size_append]
    have ok : PyData.strOk (Str.mk (acc ++ g.cps ++ y.cps)) = true := strOk_app (a := Str.mk (acc ++ g.cps)) (b := y) (strOk_app (a := Str.mk acc) (b := g) h1 hg) y1
    have ih := glued_ok hg hg2 l (acc ++ g.cps ++ y.cps) (by rw [e]; simp only [List.length_cons] at h; omega) ok (fun z hz => h2 z (List.mem_cons_of_mem _ hz))
    refine ⟨ih.1, ?_⟩
    rw [e] at ih
    simp only [List.length_cons]
    exact Nat.le_trans ih.2 (by omega)
theorem join_ok {ys : List Str} (hl : ys.length ≤ 1000) (h : ∀ y ∈ ys, PyData.strOk y = true ∧ y.length ≤ 10) : PyData.strOk (Txt.join " + " ys) = true ∧ (Txt.join " + " ys).length ≤ 50000 := by
  cases ys with
  | nil => exact ⟨by decide +kernel, by decide +kernel⟩
  | cons y r =>
    obtain ⟨y1, y2⟩ := h y List.mem_cons_self
    have k := glued_ok (g := " + ") (by decide +kernel) (by decide +kernel) r y.cps (by show y.length + _ ≤ _; simp only [List.length_cons] at hl; omega) y1 (fun z hz => h z (List.mem_cons_of_mem _ hz))
    refine ⟨k.1, Nat.le_trans k.2 ?_⟩
    show y.length + _ ≤ _
    simp only [List.length_cons] at hl
    omega
theorem sum_len : ∀ {ys : List Str}, (∀ y ∈ ys, y.length ≤ 10) → (ys.map (·.length)).sum ≤ 10 * ys.length
  | [], _ => by simp
  | y :: r, h => by
    have h1 := h y List.mem_cons_self
    have h2 := sum_len (ys := r) (fun z hz => h z (List.mem_cons_of_mem _ hz))
    simp only [List.map_cons, List.sum_cons, List.length_cons]
    omega
/-- the places of a polynomial, descending -/
def dpl (n : Nat) : List Nat := (bl n (TW.len n)).reverse
def txt (n : Nat) : Str := if (dpl n).isEmpty = true then "0" else Txt.join " + " ((dpl n).map term)
theorem dpl_lt {n p : Nat} (hn : n < 2 ^ 512) (h : p ∈ dpl n) : p < 512 := by
  have := bl_lt (List.mem_reverse.mp h)
  have := TW.len_le hn
  omega
theorem dpl_len {n : Nat} (hn : n < 2 ^ 512) : (dpl n).length ≤ 512 := by
  unfold dpl
  rw [List.length_reverse]
  exact Nat.le_trans (bl_len _ _) (TW.len_le hn)
theorem terms_ok {n : Nat} (hn : n < 2 ^ 512) : ∀ y ∈ (dpl n).map term, PyData.strOk y = true ∧ y.length ≤ 10 := fun y hy => by
  obtain ⟨p, hp, rfl⟩ := List.mem_map.mp hy
  exact term_ok (by have := dpl_lt hn hp; omega)
theorem txt_ok {n : Nat} (hn : n < 2 ^ 512) : PyData.strOk (txt n) = true ∧ (txt n).length ≤ 50000 := by
  unfold txt
  split
  · exact ⟨by decide +kernel, by decide +kernel⟩
  · exact join_ok (by rw [List.length_map]; have := dpl_len hn; omega) (terms_ok hn)
theorem cost_ok {n : Nat} (hn : n < 2 ^ 512) : ((((dpl n).map term).map (·.length)).sum + ((dpl n).map term).length * (" + " : Str).length ≤ 16777216) := by
  have h1 := sum_len (fun y hy => (terms_ok hn y hy).2)
  have h2 := dpl_len hn
  have h3 : (" + " : Str).length = 3 := by decide +kernel
  rw [List.length_map] at *
  rw [h3]
  omega
section
variable {s : Sto}
theorem ix1t (p : Nat) (h : p < 2) (s : Sto) : gIx (.obj s.n) (.int (p : Nat)) (s.new (.lst [.str "1", .str "t"])) = .ok (.str (term p)) (s.new (.lst [.str "1", .str "t"])) := by
  refine gIx_seq (seqOf_obj Sto.new_at) ?_
  have h2 : ([.str "1", .str "t"] : List AV)[p]? = some (.str (term p)) := by
    rcases (by omega : p = 0 ∨ p = 1) with rfl | rfl <;> rfl
  exact L2.atI_nat h2
theorem num_log {p : Nat} (h : p < 513) : ((p : Nat) : Int).natAbs.log2 < 1920 := by
  rw [Int.natAbs_natCast]
  by_cases e : p = 0
  · subst e; decide
  · exact Nat.lt_of_lt_of_le ((Nat.log2_lt e).mpr (Nat.lt_two_pow_self)) (by omega)
theorem term_prog {p : Nat} (h : p < 513) (s : Sto) : F_s3_term [.int (p : Nat)] s = .ok (.str (term p)) s := by
  refine gc0' ?_
  have big : (1000 : Nat) ≤ sizeLine := by decide
  by_cases c : p < 2
  · have d : decide (((p : Nat) : Int) < 2) = true := decide_eq_true (by omega)
    have ix := ix1t p c s
    simp! [B_s3_term, d, ix, z2]
    exact (Gb.refl s).new
  · have d : decide (((p : Nat) : Int) < 2) = false := decide_eq_false (by omega)
    have fm := fmtK_int (i := ((p : Nat) : Int)) (s := s) (num_log h)
    have k := num_s p h
    rw [Bool.and_eq_true, decide_eq_true_eq] at k
    have e2 : ("t^" : Str).length = 2 := by decide +kernel
    have j1 : ∀ k (s : Sto), jsK k Str.empty (.str "t^") s = k "t^" s := fun k s => by
      rw [jsK_str (by rw [emptyA, e2]; omega), emptyA]
    have j2 : ∀ k (s : Sto), jsK k "t^" (.str (numS (p : Nat))) s = k (("t^" : Str) ++ numS (p : Nat)) s := fun k s => jsK_str (by rw [Str.length_append, e2]; omega)
    have tm : term p = ("t^" : Str) ++ numS (p : Nat) := by
      unfold term
      rw [if_neg (by omega), if_neg (by omega)]
    simp! [B_s3_term, d, j1, fm, j2]
    rw [tm]
    exact ⟨rfl, Gb.refl s⟩
theorem rngC_rev (L : Nat) : rngC (((L : Nat) : Int) - 1) (-1) L = (List.range L).reverse.map fun p => .int (p : Nat) := by
  unfold rngC
  refine List.ext_getElem (by simp) fun i h1 h2 => ?_
  simp only [List.length_map, List.length_range] at h1
  simp only [List.getElem_map, List.getElem_range, List.getElem_reverse, List.length_range]
  congr 1
  omega
theorem rngdn1 {fr : AA} {σ : ASt} {s s1 : Sto} {L : Nat} (h : fr σ s = .ok [.int (((L : Nat) : Int) - 1), .int (-1), .int (-1)] s1) (h1 : L ≤ 1000) : aRng3 fr σ s = .ok ((List.range L).reverse.map fun p => .int (p : Nat), fun _ => True) s1 := by
  have k := L2.RgC.neg (i := ((L : Nat) : Int) - 1) (j := -1) (by omega) (by omega) (by decide) (by decide)
  have e0 : (((L : Nat) : Int) - 1 - -1).toNat = L := by omega
  rw [e0] at k
  have e : (Builtin.Range.rangeSize (((L : Nat) : Int) - 1) (-1) (-1)).toNat = L := by rw [k.2.2.2]; omega
  unfold aRng3
  rw [h]
  simp only [Res.bind_ok, e, rngC_rev]
  exact if_pos (by rw [e]; exact k)
theorem dat_strs {ys : List Str} (n : Nat) (s : Sto) : optL (dat (n + 1) s) (ys.map AV.str) = some (ys.map PyData.str) := by
  induction ys with
  | nil => rfl
  | cons y r ih =>
    show (match dat (n + 1) s (.str y), optL (dat (n + 1) s) (r.map AV.str) with | some d, some ds => some (d :: ds) | _, _ => none) = _
    rw [ih]; rfl
theorem ne_nilS {a e : Nat} {ys : List Str} (h1 : s.c a = .lst (ys.map .str)) (h2 : s.c e = .lst []) (hy : ∀ y ∈ ys, PyData.strOk y = true) : gNe (.obj a) (.obj e) s = .ok (.bl (!ys.isEmpty)) s := by
  have d1 : dat 12 s (.obj a) = some (.list (ys.map PyData.str)) := by
    show (match s.c a with | .lst xs => (optL (dat 11 s) xs).map PyData.list | _ => none) = _
    rw [h1]
    show (optL (dat 11 s) (ys.map AV.str)).map PyData.list = _
    rw [dat_strs]; rfl
  have d2 : dat 12 s (.obj e) = some (.list []) := by
    show (match s.c e with | .lst xs => (optL (dat 11 s) xs).map PyData.list | _ => none) = _
    rw [h2]; rfl
  have sh : ∀ l : List Str, (∀ y ∈ l, PyData.strOk y = true) → SeqAt.shaped (.list (l.map PyData.str)) = true := by
    intro l hl
    have k : PyData.canLayAll0 (l.map PyData.str) = true ∧ PyData.depthAll (l.map PyData.str) = 0 := by
      induction l with
      | nil => simp [PyData.canLayAll0, PyData.depthAll]
      | cons z l ih =>
        have ih := ih (fun y hy => hl y (List.mem_cons_of_mem _ hy))
        have hz := hl z List.mem_cons_self
        simp [PyData.canLayAll0, PyData.canLay0, PyData.depthAll, PyData.depth, ih.1, ih.2, hz]
    simp [SeqAt.shaped, PyData.canLay0, PyData.depth, k.1, k.2]
  rw [gNe_b (eqB_dat rfl d1 d2 (sh ys hy) (sh [] (fun _ h => by cases h)))]
  congr 2
  cases ys <;> simp [PyData.eqv, PyData.eqvAll]
theorem iN_ints (l : List Nat) : iN l = (l.map fun n => ((n : Nat) : Int)).map AV.int := by
  unfold iN
  rw [List.map_map]
  rfl
theorem text_ok {n : Nat} (hn : n < 2 ^ 512) (s : Sto) : F_polynomial_text [.int (n : Nat)] s = .ok (.str (txt n)) s := by
  refine gc0' ?_
  have e1 := cs2 (xs := [.int (n : Nat)]) s (need1_t s hn) (by simp)
  have ln := TW.len_le hn
  have bt : Builtin.Int.intBits ((n : Nat) : Int) = TW.len n := bitsN n
  have z0 : ((0 : Nat) ≤ sizeLine) = True := eq_true (Nat.zero_le _)
  have ng : ∀ s, gNeg (.int 1) s = .ok (.int (-1)) s := fun s => rfl
  have gb : ∀ s, gBits (.int (n : Nat)) s = .ok (.int (TW.len n : Nat)) s := fun s => by rw [gBits_int, bt]
  have rg := rngdn1 (L := TW.len n) (fr := aCons (aOp gMinus (aUn gBits (aVar 0)) (aC (.int 1))) (aCons (aUn gNeg (aC (.int 1))) (aCons (aUn gNeg (aC (.int 1))) aNil))) (σ := [some (.int (n : Nat)), none, none]) (s := s) (s1 := s) (by simp! only [gb, ng]) (by omega)
  simp! [B_polynomial_text, e_callS, e1, rg]
  refine lc_el (L := (List.range (TW.len n)).reverse) (φ := fun p => .int (p : Nat)) (fun p => n.testBit p) (fun p => .int (p : Nat)) (by rw [List.length_reverse, List.length_range]; omega) (fun _ _ => trivial) (fun p hp s' g => ?_) ?_
  · have sr := shrN (a := n) (i := p) s'
    have b1 : Builtin.bitAnd (((n / 2 ^ p : Nat)) : Int) 1 = ((n / 2 ^ p % 2 : Nat) : Int) := and1_ok
    have b2 := bit1 n p
    refine ⟨?_, fun _ => rfl⟩
    simp! only [wipeA, sr, b1, b2]
  have fl : ((List.range (TW.len n)).reverse.filter fun p => n.testBit p).map (fun p => AV.int (p : Nat)) = iN (dpl n) := by
    unfold dpl bl iN
    rw [List.filter_reverse]
  rw [fl]
  obtain ⟨s1, h1⟩ : ∃ t, t = s.new (.lst (iN (dpl n))) := ⟨_, rfl⟩
  have c1 : s1.c s.n = .lst (iN (dpl n)) := by rw [h1]; exact Sto.new_at
  have n1 : s1.n = s.n + 1 := h1 ▸ rfl
  have G1 : Gb s s1 := h1 ▸ (Gb.refl s).new
  have ne := ne_nil (s := s1.new (.lst [])) (a := s.n) (e := s1.n) (gs := (dpl n).map fun n => ((n : Nat) : Int)) (at_old (by omega) (by rw [← iN_ints]; exact c1)) Sto.new_at
  rw [List.isEmpty_map] at ne
  rw [← h1]
  by_cases he : (dpl n).isEmpty = true
  · have ne : gNe (.obj s.n) (.obj s1.n) (s1.new (.lst [])) = .ok (.bl false) (s1.new (.lst [])) := by rw [ne, he]; rfl
    have tx : txt n = "0" := if_pos he
    simp! [z0, ne]
    rw [tx]
    exact ⟨rfl, G1.new⟩
  · have ne : gNe (.obj s.n) (.obj s1.n) (s1.new (.lst [])) = .ok (.bl true) (s1.new (.lst [])) := by
      rw [ne]
      cases h : (dpl n).isEmpty with
      | false => rfl
      | true => exact absurd h he
    have tx : txt n = Txt.join " + " ((dpl n).map term) := if_neg he
    obtain ⟨s2, h2⟩ : ∃ t, t = s1.new (.lst []) := ⟨_, rfl⟩
    have G2 : Gb s s2 := h2 ▸ G1.new
    have n2 : s2.n = s1.n + 1 := h2 ▸ rfl
    have c2 : s2.c s.n = .lst (iN (dpl n)) := by rw [h2]; exact at_old (by omega) c1
    rw [← h2] at ne
    have it := iterOf_l (lstOf_obj c2)
    simp! [z0, ← h2, ne, it]
    refine lc_el (L := dpl n) (φ := fun p => .int (p : Nat)) (fun _ => true) (fun p => .str (term p)) (by have := dpl_len hn; omega) (fun s' g => lstOf_obj ((g.c _ (by omega)).trans c2)) (fun p hp s' g => ?_) ?_
    · have tp := term_prog (p := p) (by have := dpl_lt hn hp; omega) s'
      exact ⟨rfl, fun _ => by simp! only [wipeA, tp]⟩
    have fm : ((dpl n).filter fun _ => true).map (fun p => AV.str (term p)) = ((dpl n).map term).map AV.str := by
      rw [List.filter_eq_self.mpr (fun _ _ => rfl), List.map_map]
      rfl
    rw [fm]
    have gj := gJoin_ok (a := " + ") (s := s2.new (.lst (((dpl n).map term).map AV.str))) (i := s2.n) Sto.new_at (cost_ok hn)
    simp! [gj]
    rw [tx]
    exact ⟨rfl, G2.new⟩
end
end Pf
set_option Elab.async false
set_option linter.all false
set_option maxRecDepth 100000
set_option maxHeartbeats 1000000
set_option exponentiation.threshold 3000
namespace Pf
open PySem Ab
local macro_rules | `(tactic| simp! [$xs,*]) => `(tactic| try simp (config := {maxSteps := 1000000}) only [k_bind, k_Kb, k_st, k_Kst, k_Rst, k_thn, k_loop, k_fn, k_forget, k_clr, k_noX, k_try, k_stuck, k_Astuck, d_thn_nx, d_thn_bk, d_thn_ct, d_thn_rt, d_thn_er, d_lp_nx, d_lp_bk, d_lp_ct, d_lp_rt, d_lp_er, d_fg_nx, d_fg_bk, d_fg_ct, d_fg_rt, d_fg_er, d_cl_nx, d_cl_bk, d_cl_ct, d_cl_rt, d_cl_er, d_tr_nx, d_tr_bk, d_tr_ct, d_tr_rt, d_tr_er, d_nX_nx, d_nX_bk, d_nX_ct, d_nX_rt, d_nX_er, d_fn_nx, d_fn_bk, d_fn_ct, d_fn_rt, d_fn_er, A_nx, A_bk, A_ct, A_rt, A_err, post_ok, post_err, post_noErr, e_op, e_opK, e_un, e_cb, e_nil, e_c, e_cons, e_consK, e_consK2, e_and, e_or, e_andK, e_orK, e_not, e_notK, e_test, e_testK, e_tand, e_tandK, e_tor, e_torK, e_tnot, e_tnotK, e_yes, e_if, e_ifK, e_ch, e_chK1, e_chK2, e_chK3, e_tup, e_tupK, e_lst, e_lstK, e_newL, e_call, e_callK, e_meth, e_methK, e_methK2, e_prop, e_propK, e_make, e_makeK, e_makeK2, e_makeV, e_sm, e_smK, e_smK2, e_cm, e_cmK, e_cmK2, e_sl, e_slK1, e_slK2, e_slK3, e_part, e_partK, e_nopart, e_rev, e_bm, e_bmK, e_pr, e_pr0, e_prK1, e_prK2, e_prK3, e_disp, e_dnew, e_own, e_ownK, e_lc, e_lcK, e_iter, e_rng1, e_rng1K, e_rng2, e_rng2K, e_enum, s_drop, s_dropK, s_ret, s_retK, s_retN, s_next, s_break, s_cont, s_seq, s_if, s_ifK, s_asg, s_asgK, s_name, s_par, s_parK, s_par3, s_parK3, s_gnil, s_gcons, s_gtup, s_for, s_forK, s_raise, s_raiseK, s_sf, s_sfK1, s_sfK2, s_dp, s_dpK1, s_dpK2, s_dpK3, s_forget, s_def, s_fld, e_enumU, e_enumUT, e_match, e_mcase, e_mcase2, e_many, e_mnil, e_lcX, e_lcXK, e_get2, e_methS, e_methS1, e_methS2, s_augS, s_augS1, gEqS_int, gEqS_str, gEqS_bl, gEqS_tup, e_fmt, e_js, e_jsC, e_jsN, e_join, e_joinK, eq_self, beq_self_eq_true, k_grd, k_grdS, k_ite, k_Aite, true_implies, false_implies, implies_true, List.map_cons, List.map_nil, List.nil_append, List.cons_append, List.append_nil, List.replicate_succ, List.replicate_zero, List.getElem?_cons_zero, List.getElem?_cons_succ, List.length_cons, List.length_nil, List.set_cons_zero, List.set_cons_succ, ↓reduceIte, ↓reduceDIte, Nat.reduceAdd, Nat.reduceLeDiff, Nat.reduceEqDiff, Nat.zero_add, if_true, if_false, aVar, gMinus_int, gLt_int, gLe_int, gGt_int, gGe_int, gEq_int, gNe_int, gEq_str, gNe_str, gEq_bl, gNe_bl, gXor_int, gAnd_int, gOr_int, gAdd_int, gIsN_non, gNotN_non, gIsB_bl, gNotB_bl, gNeg_int, gLen_tup, gLen_scr, gMax2_int, gMin2_int, gBits_int, gSl_tup, gSl_scr, Bool.not_true, Bool.not_false, Bool.true_eq_false, Bool.false_eq_true, Bool.true_and, Bool.false_and, Bool.and_true, Bool.and_false, Bool.true_or, Bool.false_or, decide_true, decide_false, and_self, and_true, true_and, and_false, false_and, not_true_eq_false, not_false_eq_true, reduceCtorEq, kz, z1, z2, z3, z4, z5, z6, z7, z8, z9, z10, z11, z12, z13, z14, z15, z16, isCls, isNon, aForget, aHand, toKey, keysA, iterOf_tup, iterOf_scr, oNx_some, noErr_ok, decide_eq_true_eq, decide_eq_false_iff_not, Sto.new_n, Sto.set_n, Sto.set_at, Sto.new_at, Nat.zero_le, aMakeV, Cl_non, Cl_bl, Cl_int, Cl_str, Cl_cls, Cl_obj, Cl_tup, ClL_nil, ClL_cons, $xs,*])
local macro_rules | `(tactic| simp! only [$xs,*]) => `(tactic| simp only [e_op, e_opK, e_un, e_cb, e_nil, e_c, e_cons, e_consK, e_consK2, e_and, e_or, e_andK, e_orK, e_not, e_notK, e_test, e_testK, e_tand, e_tandK, e_tor, e_torK, e_tnot, e_tnotK, e_yes, e_if, e_ifK, e_ch, e_chK1, e_chK2, e_chK3, e_tup, e_tupK, e_lst, e_lstK, e_newL, e_call, e_callK, e_meth, e_methK, e_methK2, e_prop, e_propK, e_make, e_makeK, e_makeK2, e_makeV, e_sm, e_smK, e_smK2, e_cm, e_cmK, e_cmK2, e_sl, e_slK1, e_slK2, e_slK3, e_part, e_partK, e_nopart, e_rev, e_bm, e_bmK, e_pr, e_pr0, e_prK1, e_prK2, e_prK3, e_disp, e_dnew, e_own, e_ownK, e_lc, e_lcK, e_iter, e_rng1, e_rng1K, e_rng2, e_rng2K, e_enum, s_drop, s_dropK, s_ret, s_retK, s_retN, s_next, s_break, s_cont, s_seq, s_if, s_ifK, s_asg, s_asgK, s_name, s_par, s_parK, s_par3, s_parK3, s_gnil, s_gcons, s_gtup, s_for, s_forK, s_raise, s_raiseK, s_sf, s_sfK1, s_sfK2, s_dp, s_dpK1, s_dpK2, s_dpK3, s_forget, s_def, s_fld, e_enumU, e_enumUT, e_match, e_mcase, e_mcase2, e_many, e_mnil, e_lcX, e_lcXK, e_get2, e_methS, e_methS1, e_methS2, s_augS, s_augS1, gEqS_int, gEqS_str, gEqS_bl, gEqS_tup, e_fmt, e_js, e_jsC, e_jsN, e_join, e_joinK, eq_self, beq_self_eq_true, true_implies, false_implies, implies_true, List.map_cons, List.map_nil, List.nil_append, List.cons_append, List.append_nil, List.replicate_succ, List.replicate_zero, List.getElem?_cons_zero, List.getElem?_cons_succ, List.length_cons, List.length_nil, List.set_cons_zero, List.set_cons_succ, ↓reduceIte, ↓reduceDIte, Nat.reduceAdd, Nat.reduceLeDiff, Nat.reduceEqDiff, Nat.zero_add, if_true, if_false, aVar, gMinus_int, gLt_int, gLe_int, gGt_int, gGe_int, gEq_int, gNe_int, gEq_str, gNe_str, gEq_bl, gNe_bl, gXor_int, gAnd_int, gOr_int, gAdd_int, gIsN_non, gNotN_non, gIsB_bl, gNotB_bl, gNeg_int, gLen_tup, gLen_scr, gMax2_int, gMin2_int, gBits_int, gSl_tup, gSl_scr, Bool.not_true, Bool.not_false, Bool.true_eq_false, Bool.false_eq_true, Bool.true_and, Bool.false_and, Bool.and_true, Bool.and_false, Bool.true_or, Bool.false_or, decide_true, decide_false, and_self, and_true, true_and, and_false, false_and, not_true_eq_false, not_false_eq_true, reduceCtorEq, kz, z1, z2, z3, z4, z5, z6, z7, z8, z9, z10, z11, z12, z13, z14, z15, z16, isCls, isNon, aForget, aHand, toKey, keysA, iterOf_tup, iterOf_scr, oNx_some, noErr_ok, decide_eq_true_eq, decide_eq_false_iff_not, Sto.new_n, Sto.set_n, Sto.set_at, Sto.new_at, Nat.zero_le, aMakeV, Cl_non, Cl_bl, Cl_int, Cl_str, Cl_cls, Cl_obj, Cl_tup, ClL_nil, ClL_cons, grd_pos, grdS_pos, Res.bind_ok, Res.bind_err, Res.st_ok, Res.st_err, SRes.thn_nx, SRes.thn_rt, SRes.thn_err, SRes.fn_rt, SRes.fn_nx, SRes.fn_err, SRes.loop_nx, SRes.loop_rt, SRes.loop_err, SRes.loop_ct, SRes.loop_bk, SRes.forget_nx, SRes.forget_rt, SRes.forget_err, SRes.clr_nx, SRes.clr_rt, SRes.noX_nx, SRes.noX_rt, aTry, sizeLine_ge, $xs,*])
local macro_rules | `(tactic| dsimp! only [$xs,*]) => `(tactic| try simp (config := {maxSteps := 1000000}) only [k_bind, k_Kb, k_st, k_Kst, k_Rst, k_thn, k_loop, k_fn, k_forget, k_clr, k_noX, k_try, k_stuck, k_Astuck, d_thn_nx, d_thn_bk, d_thn_ct, d_thn_rt, d_thn_er, d_lp_nx, d_lp_bk, d_lp_ct, d_lp_rt, d_lp_er, d_fg_nx, d_fg_bk, d_fg_ct, d_fg_rt, d_fg_er, d_cl_nx, d_cl_bk, d_cl_ct, d_cl_rt, d_cl_er, d_tr_nx, d_tr_bk, d_tr_ct, d_tr_rt, d_tr_er, d_nX_nx, d_nX_bk, d_nX_ct, d_nX_rt, d_nX_er, d_fn_nx, d_fn_bk, d_fn_ct, d_fn_rt, d_fn_er, A_nx, A_bk, A_ct, A_rt, A_err, post_ok, post_err, post_noErr, e_op, e_opK, e_un, e_cb, e_nil, e_c, e_cons, e_consK, e_consK2, e_and, e_or, e_andK, e_orK, e_not, e_notK, e_test, e_testK, e_tand, e_tandK, e_tor, e_torK, e_tnot, e_tnotK, e_yes, e_ifK, e_ch, e_chK1, e_chK2, e_chK3, e_tup, e_tupK, e_lst, e_lstK, e_newL, e_call, e_callK, e_meth, e_methK, e_methK2, e_prop, e_propK, e_make, e_makeK, e_makeK2, e_makeV, e_sm, e_smK, e_smK2, e_cm, e_cmK, e_cmK2, e_sl, e_slK1, e_slK2, e_slK3, e_part, e_partK, e_nopart, e_rev, e_bm, e_bmK, e_pr, e_pr0, e_prK1, e_prK2, e_prK3, e_disp, e_dnew, e_own, e_ownK, e_lc, e_lcK, e_iter, e_rng1, e_rng1K, e_rng2, e_rng2K, e_enum, s_drop, s_dropK, s_ret, s_retK, s_retN, s_next, s_break, s_cont, s_seq, s_ifK, s_asg, s_asgK, s_name, s_par, s_parK, s_par3, s_parK3, s_gnil, s_gcons, s_gtup, s_for, s_forK, s_raise, s_raiseK, s_sf, s_sfK1, s_sfK2, s_dp, s_dpK1, s_dpK2, s_dpK3, s_forget, s_def, s_fld, e_enumU, e_enumUT, e_match, e_mcase, e_mcase2, e_many, e_mnil, e_lcX, e_lcXK, e_get2, e_methS, e_methS1, e_methS2, s_augS, s_augS1, gEqS_int, gEqS_str, gEqS_bl, gEqS_tup, e_fmt, e_js, e_jsC, e_jsN, e_join, e_joinK, eq_self, beq_self_eq_true, k_grd, k_grdS, k_ite, k_Aite, true_implies, false_implies, implies_true, List.map_cons, List.map_nil, List.nil_append, List.cons_append, List.append_nil, List.replicate_succ, List.replicate_zero, List.getElem?_cons_zero, List.getElem?_cons_succ, List.length_cons, List.length_nil, List.set_cons_zero, List.set_cons_succ, ↓reduceIte, ↓reduceDIte, Nat.reduceAdd, Nat.reduceLeDiff, Nat.reduceEqDiff, Nat.zero_add, if_true, if_false, aVar, gMinus_int, gLt_int, gLe_int, gGt_int, gGe_int, gEq_int, gNe_int, gEq_str, gNe_str, gEq_bl, gNe_bl, gXor_int, gAnd_int, gOr_int, gAdd_int, gIsN_non, gNotN_non, gIsB_bl, gNotB_bl, gNeg_int, gLen_tup, gLen_scr, gMax2_int, gMin2_int, gBits_int, gSl_tup, gSl_scr, Bool.not_true, Bool.not_false, Bool.true_eq_false, Bool.false_eq_true, Bool.true_and, Bool.false_and, Bool.and_true, Bool.and_false, Bool.true_or, Bool.false_or, decide_true, decide_false, and_self, and_true, true_and, and_false, false_and, not_true_eq_false, not_false_eq_true, reduceCtorEq, kz, z1, z2, z3, z4, z5, z6, z7, z8, z9, z10, z11, z12, z13, z14, z15, z16, isCls, isNon, aForget, aHand, toKey, keysA, iterOf_tup, iterOf_scr, oNx_some, noErr_ok, decide_eq_true_eq, decide_eq_false_iff_not, Sto.new_n, Sto.set_n, Sto.set_at, Sto.new_at, Nat.zero_le, aMakeV, Cl_non, Cl_bl, Cl_int, Cl_str, Cl_cls, Cl_obj, Cl_tup, ClL_nil, ClL_cons, $xs,*])
theorem sh_fold (b : Nat) : ∀ (l : List Nat) (f : Nat), l.foldl (fun f p => f ^^^ b * 2 ^ p) f = f ^^^ sh b l
  | [], f => by simp [sh]
  | p :: l, f => by
    unfold sh
    rw [List.foldl_cons, List.foldl_cons, sh_fold b l, sh_fold b l (0 ^^^ b * 2 ^ p), Nat.zero_xor, Nat.xor_assoc]
theorem sh_app (b : Nat) (l m : List Nat) : sh b (l ++ m) = sh b l ^^^ sh b m := by
  show (l ++ m).foldl _ 0 = _
  rw [List.foldl_append, sh_fold]
  rfl
theorem bl_last {a : Nat} (h : a ≠ 0) : bl a (TW.len a) = bl a (TW.len a - 1) ++ [TW.len a - 1] := by
  obtain ⟨h1, h2, h3⟩ := PO.len_rng h
  have e : TW.len a = (TW.len a - 1) + 1 := by omega
  have tb : a.testBit (TW.len a - 1) = true := by
    rw [Nat.testBit_eq_decide_div_mod_eq, decide_eq_true_eq]
    have p : 0 < 2 ^ (TW.len a - 1) := Nat.pow_pos (by decide)
    have l1 : 1 ≤ a / 2 ^ (TW.len a - 1) := (Nat.le_div_iff_mul_le p).mpr (by omega)
    have l2 : a / 2 ^ (TW.len a - 1) < 2 := (Nat.div_lt_iff_lt_mul p).mpr (by rw [Nat.pow_succ] at h2; omega)
    omega
  conv => lhs; rw [e]
  rw [bl_succ, if_pos tb]
theorem exT {r : Res Bool} {P : Bool → Sto → Prop} (h : r.Post P (fun _ _ _ _ => False)) : ∃ v s', P v s' ∧ r = .ok v s' := by
  cases r with
  | ok v s' => exact ⟨v, s', h, rfl⟩
  | err => exact h.elim
  | stuck => exact h.elim
theorem ifF {c : AT} {a : AS} {σ : ASt} {s s' : Sto} (h : c σ s = .ok false s') : aIfS c a aNext σ s = .nx σ s' := by
  simp! only [h]
section
variable {s : Sto} {a b n : Nat}
theorem lgt {p : Nat} : gGt (.int (p : Nat)) (.int 1) s = .ok (.bl (decide ((1 : Int) < ((p : Nat) : Int)))) s := by rw [gGt_int]
theorem ltext_ok (hn : n < 2 ^ 512) (s : Sto) : F__law_text [.int (n : Nat)] s = .ok (.str (txt n)) s := by
  refine gc0' ?_
  have big : (1000 : Nat) ≤ sizeLine := by decide
  have z0 : ((0 : Nat) ≤ sizeLine) = True := eq_true (Nat.zero_le _)
  obtain ⟨s1, h1⟩ : ∃ t, t = s.new (.lst []) := ⟨_, rfl⟩
  have n1 : s1.n = s.n + 1 := h1 ▸ rfl
  have pl := places_ok (a := n) s1 (by have := TW.len_le hn; omega)
  obtain ⟨s2, h2⟩ : ∃ t, t = s1.new (.lst (iN (bl n (TW.len n)))) := ⟨_, rfl⟩
  have n2 : s2.n = s1.n + 1 := h2 ▸ rfl
  rw [← h2] at pl
  have c2 : s2.c s1.n = .lst (iN (bl n (TW.len n))) := by rw [h2]; exact Sto.new_at
  obtain ⟨s3, h3⟩ : ∃ t, t = s2.new (.lst (iN (dpl n))) := ⟨_, rfl⟩
  have n3 : s3.n = s2.n + 1 := h3 ▸ rfl
  have rv : revK (.obj s1.n) s2 = .ok (.obj s2.n) s3 := by
    unfold revK
    rw [lstOf_obj c2]
    show newL (iN (bl n (TW.len n))).reverse s2 = _
    have e : (iN (bl n (TW.len n))).reverse = iN (dpl n) := by
      unfold iN dpl
      rw [List.map_reverse]
    rw [e, h3]
    rfl
  have cR : s3.c s2.n = .lst (iN (dpl n)) := by rw [h3]; exact Sto.new_at
  have cD : s3.c s.n = .lst [] := by rw [h3]; exact at_old (by omega) (by rw [h2]; exact at_old (by omega) (by rw [h1]; exact Sto.new_at))
  have G3 : Gb s s3 := by rw [h3, h2, h1]; exact (Gb.refl s).new.new.new
  have it := iterOf_l (lstOf_obj cR)
  simp! [B__law_text, z0, ← h1, pl, rv, it]
  refine for_A (fun i σ s' => Gb s s' ∧ s3.n ≤ s'.n ∧ s'.c s.n = .lst ((((dpl n).take i).map term).map AV.str) ∧ s'.c s2.n = .lst (iN (dpl n)) ∧ ∃ y, σ = [some (.int (n : Nat)), some (.obj s.n), y]) ⟨G3, Nat.le_refl _, cD, cR, _, rfl⟩ ?_ ?_
  · rintro i x σ s' hx ⟨G, ln, kD, kR, y, rfl⟩
    refine ⟨lstOf_obj kR, ?_⟩
    obtain ⟨p, h1, h2', rfl⟩ := iN_get hx
    have hp := dpl_lt hn h2'
    have tk : (((dpl n).take (i + 1)).map term).map AV.str = (((dpl n).take i).map term).map AV.str ++ [.str (term p)] := by
      rw [List.take_add_one, h1]
      simp
    have il := (List.getElem?_eq_some_iff.mp h1).1
    have dl := dpl_len hn
    have ap : ∀ u : Sto, u.c s.n = .lst ((((dpl n).take i).map term).map AV.str) → gAppend (.obj s.n) [.str (term p)] u = .ok .non (u.set s.n (.lst ((((dpl n).take (i + 1)).map term).map AV.str))) := fun u hu => by
      have k := gAppend_obj (y := .str (term p)) hu (by rw [List.length_map, List.length_map, List.length_take]; omega)
      rw [← tk] at k
      exact k
    by_cases c : p < 2
    · have d : decide ((1 : Int) < ((p : Nat) : Int)) = false := decide_eq_false (by omega)
      have ix := ix1t p c s'
      have kD' : (s'.new (.lst [.str "1", .str "t"])).c s.n = .lst ((((dpl n).take i).map term).map AV.str) := at_old (by omega) kD
      have sq := isSeqL_obj kD
      have ap' := ap _ kD'
      simp! [lgt, d, ix, z2, sq, ap']
      refine ⟨G.new.set (Nat.le_refl _), by show s3.n ≤ s'.n + 1; omega, ?_, _, rfl⟩
      exact (Sto.set_ne (by omega)).trans (at_old (by omega) kR)
    · have d : decide ((1 : Int) < ((p : Nat) : Int)) = true := decide_eq_true (by omega)
      have st := gStrI_int (i := ((p : Nat) : Int)) (s := s') (num_log (by omega))
      have k := num_s p (by omega)
      rw [Bool.and_eq_true, decide_eq_true_eq] at k
      have e2 : ("t^" : Str).length = 2 := by decide +kernel
      have ad : gAdd (.str "t^") (.str (numS (p : Nat))) s' = .ok (.str (("t^" : Str) ++ numS (p : Nat))) s' := gAdd_str (by rw [e2]; omega)
      have tm : ("t^" : Str) ++ numS (p : Nat) = term p := by
        unfold term
        rw [if_neg (by omega), if_neg (by omega)]
      rw [tm] at ad
      have sq := isSeqL_obj kD
      have ap' := ap _ kD
      simp! [lgt, d, st, ad, sq, ap']
      exact ⟨G.set (Nat.le_refl _), ln, (Sto.set_ne (by omega)).trans kR, _, rfl⟩
  · rintro σ s' ⟨G, ln, kD, kR, y, rfl⟩
    refine ⟨lstOf_obj kR, ?_⟩
    rw [List.take_of_length_le (by rw [iN_len]; exact Nat.le_refl _)] at kD
    have ne := ne_nilS (s := s'.new (.lst [])) (a := s.n) (e := s'.n) (at_old (by omega) kD) Sto.new_at (fun y hy => (terms_ok hn y hy).1)
    rw [List.isEmpty_map] at ne
    by_cases he : (dpl n).isEmpty = true
    · have ne : gNe (.obj s.n) (.obj s'.n) (s'.new (.lst [])) = .ok (.bl false) (s'.new (.lst [])) := by rw [ne, he]; rfl
      have tx : txt n = "0" := if_pos he
      simp! [z0, ne]
      rw [tx]
      exact ⟨rfl, G.new⟩
    · have ne : gNe (.obj s.n) (.obj s'.n) (s'.new (.lst [])) = .ok (.bl true) (s'.new (.lst [])) := by
        rw [ne]
        cases h : (dpl n).isEmpty with
        | false => rfl
        | true => exact absurd h he
      have tx : txt n = Txt.join " + " ((dpl n).map term) := if_neg he
      have gj := gJoin_ok (a := " + ") (s := s'.new (.lst [])) (i := s.n) (at_old (by omega) kD) (cost_ok hn)
      simp! [z0, ne, gj]
      rw [tx]
      exact ⟨rfl, G.new⟩
theorem degree_ok (hn : n < 2 ^ 512) (s : Sto) : F_degree [.int (n : Nat)] s = .ok (.int ((TW.len n : Nat) - 1 : Int)) s := by
  refine gc0 ?_ (by simp)
  have e1 := cs2 (xs := [.int (n : Nat)]) s (need1_t s hn) (by simp)
  have bt : gBits (.int (n : Nat)) s = .ok (.int (TW.len n : Nat)) s := by rw [gBits_int, bitsN]
  simp! only [B_degree, e_callS, e1, bt]
theorem added_ok (ha : a < 2 ^ 512) (hb : b < 2 ^ 512) (s : Sto) : F_added [.int (a : Nat), .int (b : Nat)] s = .ok (.int ((a ^^^ b : Nat) : Int)) s := by
  refine gc0 ?_ (by simp)
  have e1 := cs2 (xs := [.int (a : Nat), .int (b : Nat)]) s (need2_t s ha hb) (by simp)
  have x := xorN a b
  simp! only [B_added, e_callS, e1, x]
theorem mult_ok (ha : a < 2 ^ 512) (hb : b < 2 ^ 512) (s : Sto) : F_multiplied [.int (a : Nat), .int (b : Nat)] s = .ok (.int ((PO.cm a b : Nat) : Int)) s := by
  refine gc0 ?_ (by simp)
  have e1 := cs2 (xs := [.int (a : Nat), .int (b : Nat)]) s (need2_t s ha hb) (by simp)
  have e2 := prod2_ok (a := a) (b := b) (n := 512) (k := 512) s hb ha (by decide)
  simp! only [B_multiplied, e_callS, e1, e2]
theorem rep2s {x y : Str} (h1 : PyData.strOk x = true ∧ x.length ≤ 50000) (h2 : PyData.strOk y = true ∧ y.length ≤ 50000) : ∃ z : Str, ∀ s' o, s'.c o = .lst [.str x, .str y] → gReprE [.obj o] s' = .ok (.str z) s' := by
  refine ⟨(PyData.list [.str x, .str y]).shown, fun s' o h => gReprE_dat ?_ ⟨?_, ?_, ?_⟩⟩
  · show (match s'.c o with | .lst xs => (optL (datE 11 s') xs).map PyData.list | .dic [] => some (PyData.dict []) | _ => none) = _
    rw [h]
    rfl
  · simp only [PyData.showable, PyData.showableAll]
    rfl
  · simp [PyData.depth, PyData.depthAll]
  · have big : (16000000 : Nat) ≤ sizeLine := by decide
    have ch : ∀ {z : Str}, PyData.strOk z = true → ∀ c ∈ z.cps.toList, c < 16 ^ 8 := fun {z} hz c hc => by
      have := Array.all_eq_true_iff_forall_mem.mp hz c (Array.mem_toList_iff.mp hc)
      rw [decide_eq_true_eq] at this
      omega
    have l1 := StrLaws.reprText_len x (ch h1.1)
    have l2 := StrLaws.reprText_len y (ch h2.1)
    have e1 : (Str.ofString "[").length = 1 := by decide +kernel
    have e2 : (Str.ofString "]").length = 1 := by decide +kernel
    have e3 : (Str.ofString (if 0 > 0 then ", " else "")).length = 0 := by decide +kernel
    have e4 : (Str.ofString (if 0 + 1 > 0 then ", " else "")).length = 2 := by decide +kernel
    simp only [PyData.shown, PyData.shownAll, listText, textFrom, Str.length_append, e1, e2, e3, e4]
    omega
theorem top_ok (ha : a < 2 ^ 512) {a1 a2 a3 : Option AV} : gcE (aOp gIx (aOp gAdd (aLst (aCons (aUn gNeg (aC (.int 1))) aNil)) (aCall 1 F__law_places [] (aCons (aVar 0) aNil))) (aUn gNeg (aC (.int 1)))) [some (.int (a : Nat)), a1, a2, a3] s = .ok (.int ((TW.len a : Nat) - 1 : Int)) s := by
  have big : (1000 : Nat) ≤ sizeLine := by decide
  have ng : ∀ s, gNeg (.int 1) s = .ok (.int (-1)) s := fun s => rfl
  obtain ⟨s1, h1⟩ : ∃ t, t = s.new (.lst [.int (-1)]) := ⟨_, rfl⟩
  have n1 : s1.n = s.n + 1 := h1 ▸ rfl
  have pl := places_ok (a := a) s1 (by have := TW.len_le ha; omega)
  obtain ⟨s2, h2⟩ : ∃ t, t = s1.new (.lst (iN (bl a (TW.len a)))) := ⟨_, rfl⟩
  rw [← h2] at pl
  have c1 : s2.c s.n = .lst [.int (-1)] := by rw [h2]; exact at_old (by omega) (by rw [h1]; exact Sto.new_at)
  have c2 : s2.c s1.n = .lst (iN (bl a (TW.len a))) := by rw [h2]; exact Sto.new_at
  have len : (iN (bl a (TW.len a))).length ≤ 512 := by rw [iN_len]; exact Nat.le_trans (bl_len _ _) (TW.len_le ha)
  have ad : gAdd (.obj s.n) (.obj s1.n) s2 = .ok (.obj s2.n) (s2.new (.lst ([.int (-1)] ++ iN (bl a (TW.len a))))) := (gAdd_lst c1 c2 (by simp only [List.length_cons, List.length_nil]; omega)).trans rfl
  have ix : gIx (.obj s2.n) (.int (-1)) (s2.new (.lst ([.int (-1)] ++ iN (bl a (TW.len a))))) = .ok (.int ((TW.len a : Nat) - 1 : Int)) (s2.new (.lst ([.int (-1)] ++ iN (bl a (TW.len a))))) := by
    refine gIx_seq (seqOf_obj Sto.new_at) ?_
    by_cases h : a = 0
    · subst h
      exact L2.atI_last [] _
    · have e : ([.int (-1)] ++ iN (bl a (TW.len a)) : List AV) = ([.int (-1)] ++ iN (bl a (TW.len a - 1))) ++ [.int ((TW.len a : Nat) - 1 : Int)] := by
        rw [bl_last h]
        have := (PO.len_rng h).2.2
        have e2 : (((TW.len a - 1 : Nat)) : Int) = (TW.len a : Nat) - 1 := by omega
        unfold iN
        rw [List.map_append, List.map_singleton, e2, List.append_assoc]
      rw [e]
      exact L2.atI_last _ _
  simp only [List.cons_append, List.nil_append] at ix ad
  obtain ⟨v, s', ⟨rfl, rfl⟩, e⟩ := ex_of_post (r := gcE (aOp gIx (aOp gAdd (aLst (aCons (aUn gNeg (aC (.int 1))) aNil)) (aCall 1 F__law_places [] (aCons (aVar 0) aNil))) (aUn gNeg (aC (.int 1)))) [some (.int (a : Nat)), a1, a2, a3] s) (P := fun v s' => v = .int ((TW.len a : Nat) - 1 : Int) ∧ s' = s) (by
    refine gcE_g ?_
    simp! [ng, z1, ← h1, pl, ad, ix]
    rw [h2, h1]
    exact (Gb.refl s).new.new.new)
  exact e
theorem pr_ok (ha : a < 2 ^ 512) (hb : b < 2 ^ 512) (s : Sto) : F__law_pair_right [.int (a : Nat), .int (b : Nat)] s = .ok (.bl true) s := by
  refine gc0' ?_
  have big : (1000 : Nat) ≤ sizeLine := by decide
  have la := TW.len_le ha
  have lb := TW.len_le hb
  have pa := places_ok (a := a) s (by omega)
  obtain ⟨s1, h1⟩ : ∃ t, t = s.new (.lst (iN (bl a (TW.len a)))) := ⟨_, rfl⟩
  have n1 : s1.n = s.n + 1 := h1 ▸ rfl
  rw [← h1] at pa
  have pb := places_ok (a := b) s1 (by omega)
  obtain ⟨s2, h2⟩ : ∃ t, t = s1.new (.lst (iN (bl b (TW.len b)))) := ⟨_, rfl⟩
  have n2 : s2.n = s1.n + 1 := h2 ▸ rfl
  rw [← h2] at pb
  have c1 : s2.c s.n = .lst (iN (bl a (TW.len a))) := by rw [h2]; exact at_old (by omega) (by rw [h1]; exact Sto.new_at)
  have c2 : s2.c s1.n = .lst (iN (bl b (TW.len b))) := by rw [h2]; exact Sto.new_at
  have apn : iN (bl a (TW.len a)) ++ iN (bl b (TW.len b)) = iN (bl a (TW.len a) ++ bl b (TW.len b)) := by
    unfold iN
    rw [List.map_append]
  have ad : gAdd (.obj s.n) (.obj s1.n) s2 = .ok (.obj s2.n) (s2.new (.lst (iN (bl a (TW.len a) ++ bl b (TW.len b))))) := by
    rw [← apn]
    exact (gAdd_lst c1 c2 (by rw [iN_len, iN_len]; have := bl_len a (TW.len a); have := bl_len b (TW.len b); exact Nat.le_trans (show _ ≤ 2000 by omega) (by decide))).trans rfl
  obtain ⟨s3, h3⟩ : ∃ t, t = s2.new (.lst (iN (bl a (TW.len a) ++ bl b (TW.len b)))) := ⟨_, rfl⟩
  have n3 : s3.n = s2.n + 1 := h3 ▸ rfl
  rw [← h3] at ad
  have nm := number_okE (l := bl a (TW.len a) ++ bl b (TW.len b)) (s := s3) (o := s2.n) (k := 512) (by rw [h3]; exact Sto.new_at) (fun y hy => by
    rcases List.mem_append.mp hy with h | h
    · have := bl_lt h; omega
    · have := bl_lt h; omega) (by decide)
  rw [sh_app, sh_all (TW.lt_len a), sh_all (TW.lt_len b), PO.cm_one_right, PO.cm_one_right] at nm
  have tm := times_ok (a := a) (b := b) (k := 512) s3 (by omega) hb (by decide)
  obtain ⟨xs, hxs⟩ : ∃ xs : List AV, xs = [.int ((a ^^^ b : Nat) : Int), .int ((PO.cm a b : Nat) : Int)] := ⟨_, rfl⟩
  have zx : (xs.length ≤ sizeLine) = True := by rw [hxs]; exact eq_true (show 2 ≤ sizeLine by decide)
  have fl : ∀ s : Sto, ∀ x ∈ xs, ∃ d, dat 11 s x = some d ∧ PyData.canLay0 d = true ∧ d.depth ≤ 3 := fun s x hx => by
    rw [hxs] at hx
    simp only [List.mem_cons, List.not_mem_nil, or_false] at hx
    rcases hx with rfl | rfl
    · exact flat_d (.inl ⟨_, rfl⟩)
    · exact flat_d (.inl ⟨_, rfl⟩)
  obtain ⟨s4, h4⟩ : ∃ t, t = s3.new (.lst xs) := ⟨_, rfl⟩
  have n4 : s4.n = s3.n + 1 := h4 ▸ rfl
  have c4 : s4.c s3.n = .lst xs := by rw [h4]; exact Sto.new_at
  have G4 : Gb s s4 := by rw [h4, h3, h2, h1]; exact (Gb.refl s).new.new.new.new
  have ao := added_ok ha hb
  have mo := mult_ok ha hb
  have g1 : gcT (aOr (aTest (aOp gNe (aLst (aCons (aCall 2 F_added [] (aCons (aVar 0) (aCons (aVar 1) aNil))) (aCons (aCall 2 F_multiplied [] (aCons (aVar 0) (aCons (aVar 1) aNil))) aNil))) (aVar 2))) (aTest (aOp gNe (aLst (aCons (aCall 2 F_added [] (aKw 0 2 [1, 0] aNil (aCons (aVar 1) (aCons (aVar 0) aNil)))) (aCons (aCall 2 F_multiplied [] (aKw 0 2 [1, 0] aNil (aCons (aVar 1) (aCons (aVar 0) aNil)))) aNil))) (aVar 2)))) [some (.int (a : Nat)), some (.int (b : Nat)), some (.obj s3.n), none] s4 = .ok false s4 := by
    obtain ⟨v, s', ⟨rfl, rfl⟩, e⟩ := exT (r := gcT (aOr (aTest (aOp gNe (aLst (aCons (aCall 2 F_added [] (aCons (aVar 0) (aCons (aVar 1) aNil))) (aCons (aCall 2 F_multiplied [] (aCons (aVar 0) (aCons (aVar 1) aNil))) aNil))) (aVar 2))) (aTest (aOp gNe (aLst (aCons (aCall 2 F_added [] (aKw 0 2 [1, 0] aNil (aCons (aVar 1) (aCons (aVar 0) aNil)))) (aCons (aCall 2 F_multiplied [] (aKw 0 2 [1, 0] aNil (aCons (aVar 1) (aCons (aVar 0) aNil)))) aNil))) (aVar 2)))) [some (.int (a : Nat)), some (.int (b : Nat)), some (.obj s3.n), none] s4) (P := fun v s' => v = false ∧ s' = s4) (by
      refine gcT_g ?_
      simp! [ao, mo, z2, ← hxs, zx]
      refine post_neL (xs := xs) Sto.new_at (at_old (by omega) c4) (fl _) ?_
      simp! [ao, mo, z2, e_kw, e_kwK1, e_kwK2, pl10, ← hxs, zx]
      refine post_neL (xs := xs) Sto.new_at (at_old (Nat.lt_succ_of_lt (by omega)) (at_old (by omega) c4)) (fl _) ?_
      simp! [eq_self]
      exact (Gb.refl _).new.new)
    exact e
  obtain ⟨z, hz⟩ := rep2s (txt_ok ha) (txt_ok hb)
  have ta := text_ok ha
  have tb := text_ok hb
  have ua := ltext_ok ha
  have ub := ltext_ok hb
  have pl0 : ∀ v : AV, Kw.permL [0] [v] = [v] := fun v => rfl
  have dz : decide (z = z) = true := decide_eq_true rfl
  have g2 : gcT (aTest (aOp gNe (aCB gReprE (aCons (aLst (aCons (aCall 1 F_polynomial_text [] (aCons (aVar 0) aNil)) (aCons (aCall 1 F_polynomial_text [] (aKw 0 1 [0] aNil (aCons (aVar 1) aNil))) aNil))) aNil)) (aCB gReprE (aCons (aLst (aCons (aCall 1 F__law_text [] (aCons (aVar 0) aNil)) (aCons (aCall 1 F__law_text [] (aCons (aVar 1) aNil)) aNil))) aNil)))) [some (.int (a : Nat)), some (.int (b : Nat)), some (.obj s3.n), none] s4 = .ok false s4 := by
    have q1 := hz (s4.new (.lst [.str (txt a), .str (txt b)])) s4.n Sto.new_at
    have q2 := hz ((s4.new (.lst [.str (txt a), .str (txt b)])).new (.lst [.str (txt a), .str (txt b)])) (s4.n + 1) Sto.new_at
    obtain ⟨v, s', ⟨rfl, rfl⟩, e⟩ := exT (r := gcT (aTest (aOp gNe (aCB gReprE (aCons (aLst (aCons (aCall 1 F_polynomial_text [] (aCons (aVar 0) aNil)) (aCons (aCall 1 F_polynomial_text [] (aKw 0 1 [0] aNil (aCons (aVar 1) aNil))) aNil))) aNil)) (aCB gReprE (aCons (aLst (aCons (aCall 1 F__law_text [] (aCons (aVar 0) aNil)) (aCons (aCall 1 F__law_text [] (aCons (aVar 1) aNil)) aNil))) aNil)))) [some (.int (a : Nat)), some (.int (b : Nat)), some (.obj s3.n), none] s4) (P := fun v s' => v = false ∧ s' = s4) (by
      refine gcT_g ?_
      simp! [ta, tb, e_kw, e_kwK1, e_kwK2, pl0, z2, q1, ua, ub, q2, dz]
      exact (Gb.refl _).new.new)
    exact e
  have tp := top_ok (s := s4) ha (a1 := some (.int (b : Nat))) (a2 := some (.obj s3.n)) (a3 := none)
  have dg := degree_ok ha
  have pt := fun s => poly_t (i := a) s ha
  obtain ⟨T, hT⟩ : ∃ T : Int, T = (TW.len a : Nat) - 1 := ⟨_, rfl⟩
  rw [← hT] at tp
  simp only [← hT] at dg
  obtain ⟨y, hy⟩ := (deL (s := s4) (l := 0) (c := 1) (xs := [.int T, .int T, .bl true, .bl true]) fun u hu => by
    have hi : De s4 0 1 (.int T) := de_int (Nat.lt_of_lt_of_le (show _ < 2 ^ 10 by omega) (Nat.pow_le_pow_right (by decide) (by decide)))
    simp only [List.mem_cons, List.not_mem_nil, or_false] at hu
    rcases hu with rfl | rfl | rfl | rfl
    · exact hi
    · exact hi
    · exact de_bl true
    · exact de_bl true).rep (by decide) (by simp)
  have q1 := hy (s4.new (.lst [.int T, .int T, .bl true, .bl true])) s4.n (Gb.refl _).new Sto.new_at
  have q2 := hy ((s4.new (.lst [.int T, .int T, .bl true, .bl true])).new (.lst [.int T, .int T, .bl true, .bl true])) (s4.n + 1) (Gb.refl _).new.new Sto.new_at
  have dy : decide (y = y) = true := decide_eq_true rfl
  have i1 := ifF (a := aRet (aC (.bl false))) g1
  have i2 := ifF (a := aRet (aC (.bl false))) g2
  dsimp! only [B__law_pair_right, pa, pb, ad, nm, tm, z2, ← hxs, zx, ← h4, i1, i2, tp, dg, pt, e_kw, e_kwK1, e_kwK2, pl0, z4, q1, q2, dy]
  exact G4.new.new
end
end Pf
set_option Elab.async false
set_option linter.all false
set_option maxRecDepth 100000
set_option maxHeartbeats 1000000
set_option exponentiation.threshold 3000
namespace Pf
open PySem Ab
local macro_rules | `(tactic| simp! [$xs,*]) => `(tactic| try simp (config := {maxSteps := 1000000}) only [k_bind, k_Kb, k_st, k_Kst, k_Rst, k_thn, k_loop, k_fn, k_forget, k_clr, k_noX, k_try, k_stuck, k_Astuck, d_thn_nx, d_thn_bk, d_thn_ct, d_thn_rt, d_thn_er, d_lp_nx, d_lp_bk, d_lp_ct, d_lp_rt, d_lp_er, d_fg_nx, d_fg_bk, d_fg_ct, d_fg_rt, d_fg_er, d_cl_nx, d_cl_bk, d_cl_ct, d_cl_rt, d_cl_er, d_tr_nx, d_tr_bk, d_tr_ct, d_tr_rt, d_tr_er, d_nX_nx, d_nX_bk, d_nX_ct, d_nX_rt, d_nX_er, d_fn_nx, d_fn_bk, d_fn_ct, d_fn_rt, d_fn_er, A_nx, A_bk, A_ct, A_rt, A_err, post_ok, post_err, post_noErr, e_op, e_opK, e_un, e_cb, e_nil, e_c, e_cons, e_consK, e_consK2, e_and, e_or, e_andK, e_orK, e_not, e_notK, e_test, e_testK, e_tand, e_tandK, e_tor, e_torK, e_tnot, e_tnotK, e_yes, e_if, e_ifK, e_ch, e_chK1, e_chK2, e_chK3, e_tup, e_tupK, e_lst, e_lstK, e_newL, e_call, e_callK, e_meth, e_methK, e_methK2, e_prop, e_propK, e_make, e_makeK, e_makeK2, e_makeV, e_sm, e_smK, e_smK2, e_cm, e_cmK, e_cmK2, e_sl, e_slK1, e_slK2, e_slK3, e_part, e_partK, e_nopart, e_rev, e_bm, e_bmK, e_pr, e_pr0, e_prK1, e_prK2, e_prK3, e_disp, e_dnew, e_own, e_ownK, e_lc, e_lcK, e_iter, e_rng1, e_rng1K, e_rng2, e_rng2K, e_enum, s_drop, s_dropK, s_ret, s_retK, s_retN, s_next, s_break, s_cont, s_seq, s_if, s_ifK, s_asg, s_asgK, s_name, s_par, s_parK, s_par3, s_parK3, s_gnil, s_gcons, s_gtup, s_for, s_forK, s_raise, s_raiseK, s_sf, s_sfK1, s_sfK2, s_dp, s_dpK1, s_dpK2, s_dpK3, s_forget, s_def, s_fld, e_enumU, e_enumUT, e_match, e_mcase, e_mcase2, e_many, e_mnil, e_lcX, e_lcXK, e_get2, e_methS, e_methS1, e_methS2, s_augS, s_augS1, gEqS_int, gEqS_str, gEqS_bl, gEqS_tup, e_fmt, e_js, e_jsC, e_jsN, e_join, e_joinK, eq_self, beq_self_eq_true, k_grd, k_grdS, k_ite, k_Aite, true_implies, false_implies, implies_true, List.map_cons, List.map_nil, List.nil_append, List.cons_append, List.append_nil, List.replicate_succ, List.replicate_zero, List.getElem?_cons_zero, List.getElem?_cons_succ, List.length_cons, List.length_nil, List.set_cons_zero, List.set_cons_succ, ↓reduceIte, ↓reduceDIte, Nat.reduceAdd, Nat.reduceLeDiff, Nat.reduceEqDiff, Nat.zero_add, if_true, if_false, aVar, gMinus_int, gLt_int, gLe_int, gGt_int, gGe_int, gEq_int, gNe_int, gEq_str, gNe_str, gEq_bl, gNe_bl, gXor_int, gAnd_int, gOr_int, gAdd_int, gIsN_non, gNotN_non, gIsB_bl, gNotB_bl, gNeg_int, gLen_tup, gLen_scr, gMax2_int, gMin2_int, gBits_int, gSl_tup, gSl_scr, Bool.not_true, Bool.not_false, Bool.true_eq_false, Bool.false_eq_true, Bool.true_and, Bool.false_and, Bool.and_true, Bool.and_false, Bool.true_or, Bool.false_or, decide_true, decide_false, and_self, and_true, true_and, and_false, false_and, not_true_eq_false, not_false_eq_true, reduceCtorEq, kz, z1, z2, z3, z4, z5, z6, z7, z8, z9, z10, z11, z12, z13, z14, z15, z16, isCls, isNon, aForget, aHand, toKey, keysA, iterOf_tup, iterOf_scr, oNx_some, noErr_ok, decide_eq_true_eq, decide_eq_false_iff_not, Sto.new_n, Sto.set_n, Sto.set_at, Sto.new_at, Nat.zero_le, aMakeV, Cl_non, Cl_bl, Cl_int, Cl_str, Cl_cls, Cl_obj, Cl_tup, ClL_nil, ClL_cons, $xs,*])
local macro_rules | `(tactic| simp! only [$xs,*]) => `(tactic| simp only [e_op, e_opK, e_un, e_cb, e_nil, e_c, e_cons, e_consK, e_consK2, e_and, e_or, e_andK, e_orK, e_not, e_notK, e_test, e_testK, e_tand, e_tandK, e_tor, e_torK, e_tnot, e_tnotK, e_yes, e_if, e_ifK, e_ch, e_chK1, e_chK2, e_chK3, e_tup, e_tupK, e_lst, e_lstK, e_newL, e_call, e_callK, e_meth, e_methK, e_methK2, e_prop, e_propK, e_make, e_makeK, e_makeK2, e_makeV, e_sm, e_smK, e_smK2, e_cm, e_cmK, e_cmK2, e_sl, e_slK1, e_slK2, e_slK3, e_part, e_partK, e_nopart, e_rev, e_bm, e_bmK, e_pr, e_pr0, e_prK1, e_prK2, e_prK3, e_disp, e_dnew, e_own, e_ownK, e_lc, e_lcK, e_iter, e_rng1, e_rng1K, e_rng2, e_rng2K, e_enum, s_drop, s_dropK, s_ret, s_retK, s_retN, s_next, s_break, s_cont, s_seq, s_if, s_ifK, s_asg, s_asgK, s_name, s_par, s_parK, s_par3, s_parK3, s_gnil, s_gcons, s_gtup, s_for, s_forK, s_raise, s_raiseK, s_sf, s_sfK1, s_sfK2, s_dp, s_dpK1, s_dpK2, s_dpK3, s_forget, s_def, s_fld, e_enumU, e_enumUT, e_match, e_mcase, e_mcase2, e_many, e_mnil, e_lcX, e_lcXK, e_get2, e_methS, e_methS1, e_methS2, s_augS, s_augS1, gEqS_int, gEqS_str, gEqS_bl, gEqS_tup, e_fmt, e_js, e_jsC, e_jsN, e_join, e_joinK, eq_self, beq_self_eq_true, true_implies, false_implies, implies_true, List.map_cons, List.map_nil, List.nil_append, List.cons_append, List.append_nil, List.replicate_succ, List.replicate_zero, List.getElem?_cons_zero, List.getElem?_cons_succ, List.length_cons, List.length_nil, List.set_cons_zero, List.set_cons_succ, ↓reduceIte, ↓reduceDIte, Nat.reduceAdd, Nat.reduceLeDiff, Nat.reduceEqDiff, Nat.zero_add, if_true, if_false, aVar, gMinus_int, gLt_int, gLe_int, gGt_int, gGe_int, gEq_int, gNe_int, gEq_str, gNe_str, gEq_bl, gNe_bl, gXor_int, gAnd_int, gOr_int, gAdd_int, gIsN_non, gNotN_non, gIsB_bl, gNotB_bl, gNeg_int, gLen_tup, gLen_scr, gMax2_int, gMin2_int, gBits_int, gSl_tup, gSl_scr, Bool.not_true, Bool.not_false, Bool.true_eq_false, Bool.false_eq_true, Bool.true_and, Bool.false_and, Bool.and_true, Bool.and_false, Bool.true_or, Bool.false_or, decide_true, decide_false, and_self, and_true, true_and, and_false, false_and, not_true_eq_false, not_false_eq_true, reduceCtorEq, kz, z1, z2, z3, z4, z5, z6, z7, z8, z9, z10, z11, z12, z13, z14, z15, z16, isCls, isNon, aForget, aHand, toKey, keysA, iterOf_tup, iterOf_scr, oNx_some, noErr_ok, decide_eq_true_eq, decide_eq_false_iff_not, Sto.new_n, Sto.set_n, Sto.set_at, Sto.new_at, Nat.zero_le, aMakeV, Cl_non, Cl_bl, Cl_int, Cl_str, Cl_cls, Cl_obj, Cl_tup, ClL_nil, ClL_cons, grd_pos, grdS_pos, Res.bind_ok, Res.bind_err, Res.st_ok, Res.st_err, SRes.thn_nx, SRes.thn_rt, SRes.thn_err, SRes.fn_rt, SRes.fn_nx, SRes.fn_err, SRes.loop_nx, SRes.loop_rt, SRes.loop_err, SRes.loop_ct, SRes.loop_bk, SRes.forget_nx, SRes.forget_rt, SRes.forget_err, SRes.clr_nx, SRes.clr_rt, SRes.noX_nx, SRes.noX_rt, aTry, sizeLine_ge, $xs,*])
abbrev pT (v : AV) : AV := .tup [.str "polynomial", v]
structure OddB (lim : Int) (s : Sto) (v : AV) : Prop where
  cl' : ∀ n, s.n ≤ n → Cl n v
  bad : (∃ i, v = .int i ∧ ¬ (0 ≤ i ∧ i ≤ lim)) ∨ ∃ t b1 b2, (∀ s', Gb s s' → tyN s' v = some t) ∧ kitP t "int" = some b1 ∧ kitP t "bool" = some b2 ∧ (b1 && !b2) = false
structure OddP (s : Sto) (v : AV) : Prop where
  b : OddB PL s v
  rp : ∀ m, m ≤ 3 → ∃ z : Str, ∀ s' o, Gb s s' → s'.c o = .lst (List.replicate m (pT v)) → gReprE [.obj o] s' = .ok (.str z) s'
  ne : ∀ s', Gb s s' → gNe (pT v) (pT v) s' = .ok (.bl false) s'
theorem OddB.cl {lim : Int} {s : Sto} {v : AV} (h : OddB lim s v) : Cl s.n v := h.cl' _ (Nat.le_refl _)
theorem OddB.gb {lim : Int} {s s' : Sto} {v : AV} (h : OddB lim s v) (g : Gb s s') : OddB lim s' v := by
  refine ⟨fun n hn => h.cl' n (Nat.le_trans g.n hn), ?_⟩
  rcases h.bad with h1 | ⟨t, b1, b2, h1, h2⟩
  · exact .inl h1
  · exact .inr ⟨t, b1, b2, fun t g2 => h1 t (g.trans g2), h2⟩
theorem OddP.gb {s s' : Sto} {v : AV} (h : OddP s v) (g : Gb s s') : OddP s' v :=
  ⟨h.b.gb g, fun m hm => (h.rp m hm).imp fun z k s2 o g2 => k s2 o (g.trans g2), fun s2 g2 => h.ne s2 (g.trans g2)⟩
section
variable {s : Sto} {v : AV} {lim : Int}
theorem whole_fB (h : OddB lim s v) : F_s3_is_whole [v, .int 0, .int lim] s = .ok (.bl false) s := by
  refine gc0 ?_ (by simp)
  rcases h.bad with ⟨i, rfl, hb⟩ | ⟨t, b1, b2, h1, h2, h3, h4⟩
  rotate_left
  have h1 := h1 s (Gb.refl s)
  rotate_left
  · have e := is_int i s
    by_cases h0 : 0 ≤ i
    · have e0 := decide_eq_true h0
      have e1 : decide (i ≤ lim) = false := decide_eq_false fun c => hb ⟨h0, c⟩
      simp! only [B_s3_is_whole, e, e0, e1]
    · have e0 := decide_eq_false h0
      simp! only [B_s3_is_whole, e, e0]
  · have e := is_int_not h1 h2 h3 h4
    simp! only [B_s3_is_whole, e]
end
section
variable {s : Sto} {v : AV}
theorem poly_fB (h : OddB PL s v) : F_is_polynomial [v] s = .ok (.bl false) s := by
  have w := whole_fB h
  have sl : ∀ s, gShl (.int 1) (.int 512) s = .ok (.int ((2 ^ 512 : Nat) : Int)) s := fun s => shl_one (k := 512) s (by decide)
  refine gc0 ?_ (by simp)
  simp! only [B_is_polynomial, sl, w]
theorem need_fB (h : OddB PL s v) : F_s3_need [.tup [v]] s = .err "BadPolynomial" ["given"] [v] s := by
  have w := poly_fB h
  have g : gcT (aNot (aTest (aCall 1 F_is_polynomial [] (aCons (aVar 1) aNil)))) [some (.tup [v]), some v] s = .ok true s := gcT_f (by simp! only [w])
  refine gcx0 ?_ (by simp [h.cl])
  have n : ∀ g b x σ s, forI (fun _ => True) g b [x] σ s = (aSeq (g x) b σ s).loop (fun σ s => .nx σ s) := by
    intro g b x σ s
    rw [forI_cons trivial]
    congr 1
    funext σ s
    rw [forI_nil trivial]
  simp! only [B_s3_need, n, g]
theorem need_e1B (w : AV) (h : OddB PL s v) : F_s3_need [.tup [v, w]] s = .err "BadPolynomial" ["given"] [v] s := by
  have k := poly_fB h
  have g : gcT (aNot (aTest (aCall 1 F_is_polynomial [] (aCons (aVar 1) aNil)))) [some (.tup [v, w]), some v] s = .ok true s := gcT_f (by simp! only [k])
  refine gcx0 ?_ (by simp [h.cl])
  have n : ∀ g b x σ s, forI (fun _ => True) g b [x, w] σ s = (aSeq (g x) b σ s).loop (forI (fun _ => True) g b [w]) := fun g b x σ s => forI_cons trivial
  simp! only [B_s3_need, n, g]
theorem need_e2B {a : Nat} (ha : a < 2 ^ 512) (h : OddB PL s v) : F_s3_need [.tup [.int (a : Nat), v]] s = .err "BadPolynomial" ["given"] [v] s := by
  have k := poly_fB h
  have k0 := poly_t s ha
  have g0 : gcT (aNot (aTest (aCall 1 F_is_polynomial [] (aCons (aVar 1) aNil)))) [some (.tup [.int (a : Nat), v]), some (.int (a : Nat))] s = .ok false s := gcT_f (by simp! only [k0])
  have g : gcT (aNot (aTest (aCall 1 F_is_polynomial [] (aCons (aVar 1) aNil)))) [some (.tup [.int (a : Nat), v]), some v] s = .ok true s := gcT_f (by simp! only [k])
  refine gcx0 ?_ (by simp [h.cl])
  have n : ∀ g b x y σ s, forI (fun _ => True) g b [x, y] σ s = (aSeq (g x) b σ s).loop (forI (fun _ => True) g b [y]) := fun g b x y σ s => forI_cons trivial
  have n1 : ∀ g b x σ s, forI (fun _ => True) g b [x] σ s = (aSeq (g x) b σ s).loop (forI (fun _ => True) g b []) := fun g b x σ s => forI_cons trivial
  simp! only [B_s3_need, n, n1, g0, g]
theorem smEp : Gx.SmE (.str "polynomial") := by simp only [Gx.SmE]; decide +kernel
theorem smE5 : Gx.SmE (.str "5") := by simp only [Gx.SmE]; decide +kernel
theorem OddB.of (h : OddQ PL s v) : OddB PL s v := ⟨h.cl', h.bad⟩
theorem rp_of (h : De s 1 7 v) : ∀ m, m ≤ 3 → ∃ z : Str, ∀ s' o, Gb s s' → s'.c o = .lst (List.replicate m (pT v)) → gReprE [.obj o] s' = .ok (.str z) s' := fun m hm =>
  (deL_rep (n := m) (de_pair smEp h (by decide))).rep (by decide) (by rw [List.length_replicate]; omega)
theorem ne_dat {d : PyData} {s' : Sto} (h : dat 11 s' v = some d) (h1 : PyData.canLay0 d = true) (h2 : d.depth ≤ 3) : gNe (pT v) (pT v) s' = .ok (.bl false) s' := by
  have e : dat 12 s' (pT v) = some (.tuple [.str "polynomial", d]) := by
    show (optL (dat 11 s') [.str "polynomial", v]).map PyData.tuple = _
    have : optL (dat 11 s') [.str "polynomial", v] = some [.str "polynomial", d] := by
      show (match dat 11 s' (.str "polynomial"), (match dat 11 s' v, optL (dat 11 s') [] with | some d, some ds => some (d :: ds) | _, _ => none) with | some d, some ds => some (d :: ds) | _, _ => none) = _
      rw [h]
      rfl
    rw [this]
    rfl
  have c1 : PyData.canLay0 (.str "polynomial") = true := by simp only [PyData.canLay0]; decide +kernel
  have sh : SeqAt.shaped (.tuple [.str "polynomial", d]) = true := by
    simp [SeqAt.shaped, PyData.canLay0, PyData.canLayAll0, c1, h1, PyData.depth, PyData.depthAll]
    exact ⟨by simpa only [PyData.canLay0] using c1, by omega⟩
  rw [gNe_b (eqB_dat rfl e e sh sh), PySem.SeqAt.eqv_refl _ (SeqAt.canLay_of_shaped sh)]
  rfl
theorem oddpFlat (h : OddQ PL s v) {d : PyData} (k : ∀ s', dat 11 s' v = some d) (h1 : PyData.canLay0 d = true) (h2 : d.depth ≤ 3) : OddP s v :=
  ⟨.of h, rp_of h.da, fun s' _ => ne_dat (k s') h1 h2⟩
theorem oddpLst {e : Nat} (h2 : e < s.n) (h3 : s.c e = .lst [.int 5]) : OddP s (.obj e) := by
  have q : OddQ PL s (.obj e) := oddqLst (xs := [5]) h2 h3 (fun i hi => by rw [List.mem_singleton.mp hi]; decide) (by decide)
  refine ⟨.of q, rp_of q.da, fun s' g => ne_dat (d := .list [.int 5]) ?_ (by simp [PyData.canLay0, PyData.canLayAll0]) (by simp [PyData.depth, PyData.depthAll])⟩
  show (match s'.c e with | .lst xs => (optL (dat 10 s') xs).map PyData.list | _ => none) = _
  rw [g.c e h2, h3]
  rfl
theorem oddpDic {e : Nat} (h2 : e < s.n) (h3 : s.c e = .dic []) : OddP s (.obj e) := by
  have q : OddQ PL s (.obj e) := oddqDic h2 h3
  refine ⟨.of q, rp_of q.da, fun s' g => ?_⟩
  refine gNe_b (eqB_same (by rfl) rfl ?_)
  show (match dat 11 s' (.str "polynomial"), (match (match s'.c e with | .lst xs => (optL (dat 10 s') xs).map PyData.list | _ => none), optL (dat 11 s') [] with | some d, some ds => some (d :: ds) | _, _ => none) with | some d, some ds => some (d :: ds) | _, _ => none : Option (List PyData)).map PyData.tuple = none
  rw [g.c e h2, h3]
  rfl
/-- an integer of many digits -/
theorem rep_big : ∀ m, m ≤ 3 → (PyData.list (List.replicate m (.tuple [.str "polynomial", .int (-((2 ^ 600 : Nat) : Int))]))).showable = true ∧ (PyData.list (List.replicate m (.tuple [.str "polynomial", .int (-((2 ^ 600 : Nat) : Int))]))).depth ≤ 60 ∧ (PyData.list (List.replicate m (.tuple [.str "polynomial", .int (-((2 ^ 600 : Nat) : Int))]))).shown.length ≤ sizeLine := by
  intro m hm
  rcases (by omega : m = 0 ∨ m = 1 ∨ m = 2 ∨ m = 3) with rfl | rfl | rfl | rfl
  · exact ⟨by decide +kernel, by decide +kernel, by decide +kernel⟩
  · exact ⟨by decide +kernel, by decide +kernel, by decide +kernel⟩
  · exact ⟨by decide +kernel, by decide +kernel, by decide +kernel⟩
  · exact ⟨by decide +kernel, by decide +kernel, by decide +kernel⟩
theorem oddpBig (s : Sto) : OddP s (.int (-((2 ^ 600 : Nat) : Int))) := by
  refine ⟨⟨fun n _ => by simp, .inl ⟨_, rfl, fun h => absurd h.1 (by decide +kernel)⟩⟩, fun m hm => ⟨_, fun s' o _ h => gReprE_dat (d := .list (List.replicate m (.tuple [.str "polynomial", .int (-((2 ^ 600 : Nat) : Int))]))) ?_ (rep_big m hm)⟩, fun s' _ => ne_dat (d := .int (-((2 ^ 600 : Nat) : Int))) rfl (by simp [PyData.canLay0]) (by simp [PyData.depth])⟩
  show (match s'.c o with | .lst xs => (optL (datE 11 s') xs).map PyData.list | .dic [] => some (PyData.dict []) | _ => none) = _
  rw [h]
  show (optL (datE 11 s') (List.replicate m (pT (.int (-((2 ^ 600 : Nat) : Int)))))).map PyData.list = _
  have : ∀ m, optL (datE 11 s') (List.replicate m (pT (.int (-((2 ^ 600 : Nat) : Int))))) = some (List.replicate m (.tuple [.str "polynomial", .int (-((2 ^ 600 : Nat) : Int))])) := by
    intro m
    induction m with
    | zero => rfl
    | succ m ih =>
      rw [List.replicate_succ, List.replicate_succ]
      show (match datE 11 s' (pT (.int (-((2 ^ 600 : Nat) : Int)))), optL (datE 11 s') (List.replicate m (pT (.int (-((2 ^ 600 : Nat) : Int))))) with | some d, some ds => some (d :: ds) | _, _ => none) = _
      rw [ih]
      rfl
  rw [this]
  rfl
theorem deg_f (h : OddB PL s v) : F_degree [v] s = .err "BadPolynomial" ["given"] [v] s := by
  have e := cs1 (xs := [v]) s (need_fB h) (by simp)
  refine gcx0 ?_ (by simp [h.cl])
  simp! only [B_degree, e_callS, e]
theorem txt_f (h : OddB PL s v) : F_polynomial_text [v] s = .err "BadPolynomial" ["given"] [v] s := by
  have e := cs1 (xs := [v]) s (need_fB h) (by simp)
  refine gcx0 ?_ (by simp [h.cl])
  simp! only [B_polynomial_text, e_callS, e]
theorem add_e1 (w : AV) (h : OddB PL s v) : F_added [v, w] s = .err "BadPolynomial" ["given"] [v] s := by
  have e := cs1 (xs := [v, w]) s (need_e1B w h) (by simp)
  refine gcx0 ?_ (by simp [h.cl])
  simp! only [B_added, e_callS, e]
theorem add_e2 {a : Nat} (ha : a < 2 ^ 512) (h : OddB PL s v) : F_added [.int (a : Nat), v] s = .err "BadPolynomial" ["given"] [v] s := by
  have e := cs1 (xs := [.int (a : Nat), v]) s (need_e2B ha h) (by simp)
  refine gcx0 ?_ (by simp [h.cl])
  simp! only [B_added, e_callS, e]
theorem mul_e1 (w : AV) (h : OddB PL s v) : F_multiplied [v, w] s = .err "BadPolynomial" ["given"] [v] s := by
  have e := cs1 (xs := [v, w]) s (need_e1B w h) (by simp)
  refine gcx0 ?_ (by simp [h.cl])
  simp! only [B_multiplied, e_callS, e]
theorem mul_e2 {a : Nat} (ha : a < 2 ^ 512) (h : OddB PL s v) : F_multiplied [.int (a : Nat), v] s = .err "BadPolynomial" ["given"] [v] s := by
  have e := cs1 (xs := [.int (a : Nat), v]) s (need_e2B ha h) (by simp)
  refine gcx0 ?_ (by simp [h.cl])
  simp! only [B_multiplied, e_callS, e]
end
theorem mulL {s : Sto} {a : AV} {o : Nat} (h : s.c o = .lst [a]) : gMul (.obj o) (.int 2) s = .ok (.obj s.n) (s.new (.lst [a, a])) ∧ gMul (.obj o) (.int 3) s = .ok (.obj s.n) (s.new (.lst [a, a, a])) := by
  constructor
  · rw [gMul_lst h ⟨by decide, by decide, by simp; decide⟩]
    rfl
  · rw [gMul_lst h ⟨by decide, by decide, by simp; decide⟩]
    rfl
theorem gcF_o {F : List AV → Sto → Res AV} {args : List AV} {s : Sto} {P : AV → Sto → Prop} {R : String → List Str → List AV → Sto → Prop} (h : (F args s).Post (fun v s' => ∀ s2, (s2 = s' ∧ (¬ Cl s.n v ∨ ¬ Clean s s') ∨ Cl s.n v ∧ s2 = s'.cut s) → P v s2) (fun _ _ _ _ => False)) : (gcF F args s).Post P R :=
  post_gcF.mpr (h.mono (fun v s' z => by
    by_cases c : Cl s.n v ∧ Clean s s'
    · rw [if_pos c]; exact z _ (.inr ⟨c.1, rfl⟩)
    · rw [if_neg c]
      refine z _ (.inl ⟨rfl, ?_⟩)
      by_cases c1 : Cl s.n v
      · exact .inr fun c2 => c ⟨c1, c2⟩
      · exact .inl c1) fun _ _ _ _ z => z.elim)
section
variable {P : AV → Sto → Prop} {R : String → List Str → List AV → Sto → Prop} {d g B : Nat} {s t : Sto}
theorem pick_oddP {y : AV} {o1 o2 : Nat} {s1 s2 : Sto} (S : Inv2 d g B t s) {C : Nat} (S1 : Inv2 d g C t s1) (G1 : Gd2 d g s s1) (h2 : s2 = s1 ∧ (¬ Cl s.n y ∨ ¬ Clean s s1) ∨ Cl s.n y ∧ s2 = s1.cut s)
    (a1 : s.n ≤ o1) (a2 : s.n ≤ o2) (b1 : o1 < s1.n) (b2 : o2 < s1.n) (c1 : s1.c o1 = .lst [.int 5]) (c2 : s1.c o2 = .dic []) (hy : y = .obj o1 ∨ y = .obj o2 ∨ ∀ s, OddP s y) : Inv2 d g C t s2 ∧ Gd2 d g s s2 ∧ ∀ t', Gd2 d g s2 t' → OddP t' y := by
  have ld := S.lsd
  have lg := S.lsg
  rcases h2 with ⟨rfl, _⟩ | ⟨hc, rfl⟩
  · refine ⟨S1, G1, fun t' g' => ?_⟩
    have hn := g'.n
    rcases hy with rfl | rfl | h
    · exact oddpLst (by omega) ((g'.c _ b1 (by omega) (by omega)).trans c1)
    · exact oddpDic (by omega) ((g'.c _ b2 (by omega) (by omega)).trans c2)
    · exact h _
  · rw [G1.cut ld lg]
    refine ⟨S.back S1.ok, Gd2.back d g s, fun t' g' => ?_⟩
    rcases hy with rfl | rfl | h
    · exact absurd hc (by simp; omega)
    · exact absurd hc (by simp; omega)
    · exact h _
theorem sh512q (s : Sto) : gShl (.int 1) (.int 512) s = .ok (.int ((2 ^ 512 : Nat) : Int)) s := shl_one (k := 512) s (by decide)
theorem wi_odd (S : Inv2 d g B t s) (hB : B ≤ 10000000) (q : ∀ v s', Inv2 d g (B + 1) t s' → Gd2 d g s s' → (∀ t', Gd2 d g s' t' → OddP t' v) → P v s') : (F__law_odd [.obj d] s).Post P R := by
  unfold F__law_odd
  have lg := S.lsg
  have ld := S.lsd
  have ng : ∀ i s, gNeg (.int i) s = .ok (.int (-i)) s := fun i s => rfl
  have z0 : ((0 : Nat) ≤ sizeLine) = True := eq_true (Nat.zero_le _)
  have s6 : ∀ s, gShl (.int 1) (.int 600) s = .ok (.int ((2 ^ 600 : Nat) : Int)) s := fun s => shl_one (k := 600) s (by decide)
  have b512 : (2 : Nat) ^ 512 + 7 < 2 ^ 600 := by decide +kernel
  have z12 : ((12 : Nat) ≤ sizeLine) = True := eq_true (by decide)
  refine gcF_o ?_
  simp! [B__law_odd, sh512q, ng, s6, z0, z1, z12]
  refine wi_next S.new.new.new (by omega) (by decide) (by decide) fun vD sD aD bD SD gD => ?_
  have nD : s.n + 3 ≤ sD.n := gD.n
  have k1 : sD.c s.n = .lst [.int 5] := (gD.c _ (by show s.n < s.n + 3; omega) (by omega) (by omega)).trans (at_old (by show s.n < s.n + 2; omega) (at_old (Nat.lt_succ_self _) Sto.new_at))
  have k2 : sD.c (s.n + 1) = .dic [] := (gD.c _ (by show s.n + 1 < s.n + 3; omega) (by omega) (by omega)).trans (at_old (Nat.lt_succ_self _) Sto.new_at)
  refine post_ix (seqOf_obj ((gD.c _ (Nat.lt_succ_self _) (by show s.n + 2 ≠ d; omega) (by show s.n + 2 ≠ g; omega)).trans Sto.new_at)) aD bD fun y hy => ?_
  have hy2 : y = .obj s.n ∨ y = .obj (s.n + 1) ∨ ∀ s, OddP s y := by
    have e0 : PL = ((2 ^ 512 : Nat) : Int) - 1 := rfl
    have fi : ∀ (i : Int) (s : Sto), ¬ (0 ≤ i ∧ i ≤ PL) → i.natAbs < 2 ^ 600 → OddP s (.int i) := fun i s h1 h2 => oddpFlat (d := .int i) (oddqInt s h1 h2) (fun _ => rfl) (by simp [PyData.canLay0]) (by simp [PyData.depth])
    simp only [List.mem_cons, List.not_mem_nil, or_false] at hy
    rcases hy with rfl | rfl | rfl | rfl | rfl | rfl | rfl | rfl | rfl | rfl | rfl | rfl
    · exact .inr (.inr fun s => fi _ s (by rw [e0]; omega) (by rw [Int.natAbs_natCast]; omega))
    · exact .inr (.inr fun s => fi _ s (by omega) (by decide))
    · exact .inr (.inr fun s => oddpFlat (d := .bool true) (oddqBl s true) (fun _ => rfl) (by simp [PyData.canLay0]) (by simp [PyData.depth]))
    · exact .inr (.inr fun s => oddpFlat (d := .bool false) (oddqBl s false) (fun _ => rfl) (by simp [PyData.canLay0]) (by simp [PyData.depth]))
    · exact .inr (.inr fun s => oddpFlat (d := .none) (oddqNon s) (fun _ => rfl) (by simp [PyData.canLay0]) (by simp [PyData.depth]))
    · exact .inr (.inr fun s => oddpFlat (d := .str "5") (oddqStr s smE5) (fun _ => rfl) (by simp only [PyData.canLay0]; decide +kernel) (by simp [PyData.depth]))
    · exact .inr (.inr fun s => oddpFlat (d := .tuple [.int 5]) (oddqTup (xs := [5]) s (fun i hi => by rw [List.mem_singleton.mp hi]; decide) (by decide)) (fun _ => rfl) (by simp [PyData.canLay0, PyData.canLayAll0]) (by simp [PyData.depth, PyData.depthAll]))
    · exact .inl rfl
    · exact .inr (.inl rfl)
    · exact .inr (.inr fun s => fi _ s (by rw [e0]; omega) (by omega))
    · exact .inr (.inr fun s => oddpFlat (d := .tuple []) (oddqTup (xs := []) s (fun i hi => by cases hi) (by decide)) (fun _ => rfl) (by simp [PyData.canLay0, PyData.canLayAll0]) (by simp [PyData.depth, PyData.depthAll]))
    · exact .inr (.inr fun s => oddpBig s)
  intro sE hE
  obtain ⟨SE, gE, oE⟩ := pick_oddP S SD ((Gd2.refl d g s).new.new.new.trans gD) hE (Nat.le_refl _) (Nat.le_succ _) (by omega) (by omega) k1 k2 hy2
  exact q y sE SE gE oE
end
end Pf
set_option Elab.async false
set_option linter.all false
set_option maxRecDepth 100000
set_option maxHeartbeats 1000000
set_option exponentiation.threshold 3000
namespace Pf
open PySem Ab
local macro_rules | `(tactic| simp! [$xs,*]) => `(tactic| try simp (config := {maxSteps := 1000000}) only [k_bind, k_Kb, k_st, k_Kst, k_Rst, k_thn, k_loop, k_fn, k_forget, k_clr, k_noX, k_try, k_stuck, k_Astuck, d_thn_nx, d_thn_bk, d_thn_ct, d_thn_rt, d_thn_er, d_lp_nx, d_lp_bk, d_lp_ct, d_lp_rt, d_lp_er, d_fg_nx, d_fg_bk, d_fg_ct, d_fg_rt, d_fg_er, d_cl_nx, d_cl_bk, d_cl_ct, d_cl_rt, d_cl_er, d_tr_nx, d_tr_bk, d_tr_ct, d_tr_rt, d_tr_er, d_nX_nx, d_nX_bk, d_nX_ct, d_nX_rt, d_nX_er, d_fn_nx, d_fn_bk, d_fn_ct, d_fn_rt, d_fn_er, A_nx, A_bk, A_ct, A_rt, A_err, post_ok, post_err, post_noErr, e_op, e_opK, e_un, e_cb, e_nil, e_c, e_cons, e_consK, e_consK2, e_and, e_or, e_andK, e_orK, e_not, e_notK, e_test, e_testK, e_tand, e_tandK, e_tor, e_torK, e_tnot, e_tnotK, e_yes, e_if, e_ifK, e_ch, e_chK1, e_chK2, e_chK3, e_tup, e_tupK, e_lst, e_lstK, e_newL, e_call, e_callK, e_meth, e_methK, e_methK2, e_prop, e_propK, e_make, e_makeK, e_makeK2, e_makeV, e_sm, e_smK, e_smK2, e_cm, e_cmK, e_cmK2, e_sl, e_slK1, e_slK2, e_slK3, e_part, e_partK, e_nopart, e_rev, e_bm, e_bmK, e_pr, e_pr0, e_prK1, e_prK2, e_prK3, e_disp, e_dnew, e_own, e_ownK, e_lc, e_lcK, e_iter, e_rng1, e_rng1K, e_rng2, e_rng2K, e_enum, s_drop, s_dropK, s_ret, s_retK, s_retN, s_next, s_break, s_cont, s_seq, s_if, s_ifK, s_asg, s_asgK, s_name, s_par, s_parK, s_par3, s_parK3, s_gnil, s_gcons, s_gtup, s_for, s_forK, s_raise, s_raiseK, s_sf, s_sfK1, s_sfK2, s_dp, s_dpK1, s_dpK2, s_dpK3, s_forget, s_def, s_fld, e_enumU, e_enumUT, e_match, e_mcase, e_mcase2, e_many, e_mnil, e_lcX, e_lcXK, e_get2, e_methS, e_methS1, e_methS2, s_augS, s_augS1, gEqS_int, gEqS_str, gEqS_bl, gEqS_tup, e_fmt, e_js, e_jsC, e_jsN, e_join, e_joinK, eq_self, beq_self_eq_true, k_grd, k_grdS, k_ite, k_Aite, true_implies, false_implies, implies_true, List.map_cons, List.map_nil, List.nil_append, List.cons_append, List.append_nil, List.replicate_succ, List.replicate_zero, List.getElem?_cons_zero, List.getElem?_cons_succ, List.length_cons, List.length_nil, List.set_cons_zero, List.set_cons_succ, ↓reduceIte, ↓reduceDIte, Nat.reduceAdd, Nat.reduceLeDiff, Nat.reduceEqDiff, Nat.zero_add, if_true, if_false, aVar, gMinus_int, gLt_int, gLe_int, gGt_int, gGe_int, gEq_int, gNe_int, gEq_str, gNe_str, gEq_bl, gNe_bl, gXor_int, gAnd_int, gOr_int, gAdd_int, gIsN_non, gNotN_non, gIsB_bl, gNotB_bl, gNeg_int, gLen_tup, gLen_scr, gMax2_int, gMin2_int, gBits_int, gSl_tup, gSl_scr, Bool.not_true, Bool.not_false, Bool.true_eq_false, Bool.false_eq_true, Bool.true_and, Bool.false_and, Bool.and_true, Bool.and_false, Bool.true_or, Bool.false_or, decide_true, decide_false, and_self, and_true, true_and, and_false, false_and, not_true_eq_false, not_false_eq_true, reduceCtorEq, kz, z1, z2, z3, z4, z5, z6, z7, z8, z9, z10, z11, z12, z13, z14, z15, z16, isCls, isNon, aForget, aHand, toKey, keysA, iterOf_tup, iterOf_scr, oNx_some, noErr_ok, decide_eq_true_eq, decide_eq_false_iff_not, Sto.new_n, Sto.set_n, Sto.set_at, Sto.new_at, Nat.zero_le, aMakeV, Cl_non, Cl_bl, Cl_int, Cl_str, Cl_cls, Cl_obj, Cl_tup, ClL_nil, ClL_cons, $xs,*])
local macro_rules | `(tactic| simp! only [$xs,*]) => `(tactic| simp only [e_op, e_opK, e_un, e_cb, e_nil, e_c, e_cons, e_consK, e_consK2, e_and, e_or, e_andK, e_orK, e_not, e_notK, e_test, e_testK, e_tand, e_tandK, e_tor, e_torK, e_tnot, e_tnotK, e_yes, e_if, e_ifK, e_ch, e_chK1, e_chK2, e_chK3, e_tup, e_tupK, e_lst, e_lstK, e_newL, e_call, e_callK, e_meth, e_methK, e_methK2, e_prop, e_propK, e_make, e_makeK, e_makeK2, e_makeV, e_sm, e_smK, e_smK2, e_cm, e_cmK, e_cmK2, e_sl, e_slK1, e_slK2, e_slK3, e_part, e_partK, e_nopart, e_rev, e_bm, e_bmK, e_pr, e_pr0, e_prK1, e_prK2, e_prK3, e_disp, e_dnew, e_own, e_ownK, e_lc, e_lcK, e_iter, e_rng1, e_rng1K, e_rng2, e_rng2K, e_enum, s_drop, s_dropK, s_ret, s_retK, s_retN, s_next, s_break, s_cont, s_seq, s_if, s_ifK, s_asg, s_asgK, s_name, s_par, s_parK, s_par3, s_parK3, s_gnil, s_gcons, s_gtup, s_for, s_forK, s_raise, s_raiseK, s_sf, s_sfK1, s_sfK2, s_dp, s_dpK1, s_dpK2, s_dpK3, s_forget, s_def, s_fld, e_enumU, e_enumUT, e_match, e_mcase, e_mcase2, e_many, e_mnil, e_lcX, e_lcXK, e_get2, e_methS, e_methS1, e_methS2, s_augS, s_augS1, gEqS_int, gEqS_str, gEqS_bl, gEqS_tup, e_fmt, e_js, e_jsC, e_jsN, e_join, e_joinK, eq_self, beq_self_eq_true, true_implies, false_implies, implies_true, List.map_cons, List.map_nil, List.nil_append, List.cons_append, List.append_nil, List.replicate_succ, List.replicate_zero, List.getElem?_cons_zero, List.getElem?_cons_succ, List.length_cons, List.length_nil, List.set_cons_zero, List.set_cons_succ, ↓reduceIte, ↓reduceDIte, Nat.reduceAdd, Nat.reduceLeDiff, Nat.reduceEqDiff, Nat.zero_add, if_true, if_false, aVar, gMinus_int, gLt_int, gLe_int, gGt_int, gGe_int, gEq_int, gNe_int, gEq_str, gNe_str, gEq_bl, gNe_bl, gXor_int, gAnd_int, gOr_int, gAdd_int, gIsN_non, gNotN_non, gIsB_bl, gNotB_bl, gNeg_int, gLen_tup, gLen_scr, gMax2_int, gMin2_int, gBits_int, gSl_tup, gSl_scr, Bool.not_true, Bool.not_false, Bool.true_eq_false, Bool.false_eq_true, Bool.true_and, Bool.false_and, Bool.and_true, Bool.and_false, Bool.true_or, Bool.false_or, decide_true, decide_false, and_self, and_true, true_and, and_false, false_and, not_true_eq_false, not_false_eq_true, reduceCtorEq, kz, z1, z2, z3, z4, z5, z6, z7, z8, z9, z10, z11, z12, z13, z14, z15, z16, isCls, isNon, aForget, aHand, toKey, keysA, iterOf_tup, iterOf_scr, oNx_some, noErr_ok, decide_eq_true_eq, decide_eq_false_iff_not, Sto.new_n, Sto.set_n, Sto.set_at, Sto.new_at, Nat.zero_le, aMakeV, Cl_non, Cl_bl, Cl_int, Cl_str, Cl_cls, Cl_obj, Cl_tup, ClL_nil, ClL_cons, grd_pos, grdS_pos, Res.bind_ok, Res.bind_err, Res.st_ok, Res.st_err, SRes.thn_nx, SRes.thn_rt, SRes.thn_err, SRes.fn_rt, SRes.fn_nx, SRes.fn_err, SRes.loop_nx, SRes.loop_rt, SRes.loop_err, SRes.loop_ct, SRes.loop_bk, SRes.forget_nx, SRes.forget_rt, SRes.forget_err, SRes.clr_nx, SRes.clr_rt, SRes.noX_nx, SRes.noX_rt, aTry, sizeLine_ge, $xs,*])
local macro_rules | `(tactic| dsimp! only [$xs,*]) => `(tactic| try simp (config := {maxSteps := 1000000}) only [k_bind, k_Kb, k_st, k_Kst, k_Rst, k_thn, k_loop, k_fn, k_forget, k_clr, k_noX, k_try, k_stuck, k_Astuck, d_thn_nx, d_thn_bk, d_thn_ct, d_thn_rt, d_thn_er, d_lp_nx, d_lp_bk, d_lp_ct, d_lp_rt, d_lp_er, d_fg_nx, d_fg_bk, d_fg_ct, d_fg_rt, d_fg_er, d_cl_nx, d_cl_bk, d_cl_ct, d_cl_rt, d_cl_er, d_tr_nx, d_tr_bk, d_tr_ct, d_tr_rt, d_tr_er, d_nX_nx, d_nX_bk, d_nX_ct, d_nX_rt, d_nX_er, d_fn_nx, d_fn_bk, d_fn_ct, d_fn_rt, d_fn_er, A_nx, A_bk, A_ct, A_rt, A_err, post_ok, post_err, post_noErr, e_op, e_opK, e_un, e_cb, e_nil, e_c, e_cons, e_consK, e_consK2, e_and, e_or, e_andK, e_orK, e_not, e_notK, e_test, e_testK, e_tand, e_tandK, e_tor, e_torK, e_tnot, e_tnotK, e_yes, e_ifK, e_ch, e_chK1, e_chK2, e_chK3, e_tup, e_tupK, e_lst, e_lstK, e_newL, e_call, e_callK, e_meth, e_methK, e_methK2, e_prop, e_propK, e_make, e_makeK, e_makeK2, e_makeV, e_sm, e_smK, e_smK2, e_cm, e_cmK, e_cmK2, e_sl, e_slK1, e_slK2, e_slK3, e_part, e_partK, e_nopart, e_rev, e_bm, e_bmK, e_pr, e_pr0, e_prK1, e_prK2, e_prK3, e_disp, e_dnew, e_own, e_ownK, e_lc, e_lcK, e_iter, e_rng1, e_rng1K, e_rng2, e_rng2K, e_enum, s_drop, s_dropK, s_ret, s_retK, s_retN, s_next, s_break, s_cont, s_seq, s_ifK, s_asg, s_asgK, s_name, s_par, s_parK, s_par3, s_parK3, s_gnil, s_gcons, s_gtup, s_for, s_forK, s_raise, s_raiseK, s_sf, s_sfK1, s_sfK2, s_dp, s_dpK1, s_dpK2, s_dpK3, s_forget, s_def, s_fld, e_enumU, e_enumUT, e_match, e_mcase, e_mcase2, e_many, e_mnil, e_lcX, e_lcXK, e_get2, e_methS, e_methS1, e_methS2, s_augS, s_augS1, gEqS_int, gEqS_str, gEqS_bl, gEqS_tup, e_fmt, e_js, e_jsC, e_jsN, e_join, e_joinK, eq_self, beq_self_eq_true, k_grd, k_grdS, k_ite, k_Aite, true_implies, false_implies, implies_true, List.map_cons, List.map_nil, List.nil_append, List.cons_append, List.append_nil, List.replicate_succ, List.replicate_zero, List.getElem?_cons_zero, List.getElem?_cons_succ, List.length_cons, List.length_nil, List.set_cons_zero, List.set_cons_succ, ↓reduceIte, ↓reduceDIte, Nat.reduceAdd, Nat.reduceLeDiff, Nat.reduceEqDiff, Nat.zero_add, if_true, if_false, aVar, gMinus_int, gLt_int, gLe_int, gGt_int, gGe_int, gEq_int, gNe_int, gEq_str, gNe_str, gEq_bl, gNe_bl, gXor_int, gAnd_int, gOr_int, gAdd_int, gIsN_non, gNotN_non, gIsB_bl, gNotB_bl, gNeg_int, gLen_tup, gLen_scr, gMax2_int, gMin2_int, gBits_int, gSl_tup, gSl_scr, Bool.not_true, Bool.not_false, Bool.true_eq_false, Bool.false_eq_true, Bool.true_and, Bool.false_and, Bool.and_true, Bool.and_false, Bool.true_or, Bool.false_or, decide_true, decide_false, and_self, and_true, true_and, and_false, false_and, not_true_eq_false, not_false_eq_true, reduceCtorEq, kz, z1, z2, z3, z4, z5, z6, z7, z8, z9, z10, z11, z12, z13, z14, z15, z16, isCls, isNon, aForget, aHand, toKey, keysA, iterOf_tup, iterOf_scr, oNx_some, noErr_ok, decide_eq_true_eq, decide_eq_false_iff_not, Sto.new_n, Sto.set_n, Sto.set_at, Sto.new_at, Nat.zero_le, aMakeV, Cl_non, Cl_bl, Cl_int, Cl_str, Cl_cls, Cl_obj, Cl_tup, ClL_nil, ClL_cons, $xs,*])
section
variable {P : AV → Sto → Prop} {R : String → List Str → List AV → Sto → Prop} {d g B : Nat} {s t : Sto}
theorem wi_odds {a : Nat} (S : Inv2 d g B t s) (hB : B ≤ 1000000) (ha : a < 2 ^ 512) (q : ∀ s', Inv2 d g (B + 2) t s' → Gd2 d g s s' → P (.bl true) s') : (F__law_odds_right [.obj d, .int (a : Nat)] s).Post P R := by
  unfold F__law_odds_right
  refine gcF_d2 S.lsd S.lsg ?_
  simp! [B__law_odds_right]
  refine wi_odd S (by omega) fun v s1 S1 g1 o1 => ?_
  simp! [eq_self]
  refine wi_odd S1 (by omega) fun v2 s2 S2 g2 _ => ?_
  have oy : OddP s2 v := o1 s2 g2
  have fin : ∀ s', Gb s2 s' → (Gd2 d g s s' ∧ (ClC s.n (s'.c d) ∧ ClC s.n (s'.c g)) ∧ P (.bl true) ((s.set d (s'.c d)).set g (s'.c g))) := fun s' G => by
    have S' := inv2_gb S2 G
    exact ⟨(g1.trans g2).trans (gb_d2 G), S'.ok.cl S.lsg, q _ (S.back S'.ok) (Gd2.back d g s)⟩
  clear S1 S2 g1 g2 o1 S
  obtain ⟨za, hza⟩ := oy.rp 2 (by decide)
  obtain ⟨zb, hzb⟩ := oy.rp 3 (by decide)
  have da : decide (za = za) = true := decide_eq_true rfl
  have db : decide (zb = zb) = true := decide_eq_true rfl
  obtain ⟨T, hT⟩ : ∃ T : AV, T = .tup [.str "polynomial", v] := ⟨_, rfl⟩
  have hP : FW "BadPolynomial" "polynomial" := .inr (.inl ⟨rfl, rfl⟩)
  have pf := poly_fB oy.b
  have ne := oy.ne s2 (Gb.refl _)
  unfold pT at ne
  simp! [eq_self]
  refine gcT_g ?_
  simp! [pf]
  refine wt_fault (c := "BadPolynomial") (v := v) (by
    have e := deg_f oy.b
    simp! only [e]) hP oy.b.cl ?_
  simp! [ne]
  refine ⟨Gb.refl _, ?_⟩
  refine wt_fault (c := "BadPolynomial") (v := v) (by
    have e := add_e1 v2 oy.b
    simp! only [e]) hP oy.b.cl ?_
  simp! [eq_self]
  refine wt_fault (c := "BadPolynomial") (v := v) (by
    have e := mul_e1 v2 oy.b
    simp! only [e]) hP oy.b.cl ?_
  rw [← hT]
  simp! [z2]
  have L1 : (s2.new (.lst [T, T])).c s2.n = .lst [T, T] := Sto.new_at
  have G5 : Gb s2 (s2.new (.lst [T, T])) := (Gb.refl s2).new
  have l1 : s2.n < (s2.new (.lst [T, T])).n := Nat.lt_succ_self _
  generalize s2.new (.lst [T, T]) = s5 at *
  have oy5 := oy.gb G5
  have r1 := hza s5 s2.n G5 (by rw [L1, hT]; rfl)
  have m2 := (mulL (s := s5.new (.lst [T])) (a := T) (o := s5.n) Sto.new_at).1
  have r2 := hza ((s5.new (.lst [T])).new (.lst [T, T])) (s5.n + 1) G5.new.new (by rw [hT]; exact Sto.new_at)
  refine gcT_g ?_
  simp! [r1, ← hT, m2, r2, z1, da]
  refine ⟨(Gb.refl _).new.new, ?_⟩
  refine wt_fault (c := "BadPolynomial") (v := v) (by
    have e := add_e2 ha oy5.b
    simp! only [e]) hP oy5.b.cl ?_
  simp! [eq_self]
  refine wt_fault (c := "BadPolynomial") (v := v) (by
    have e := mul_e2 ha oy5.b
    simp! only [e]) hP oy5.b.cl ?_
  rw [← hT]
  simp! [z2]
  have L6 : (s5.new (.lst [T, T])).c s5.n = .lst [T, T] := Sto.new_at
  have G6 : Gb s2 (s5.new (.lst [T, T])) := G5.new
  have l6 : s5.n < (s5.new (.lst [T, T])).n := Nat.lt_succ_self _
  have ge : s2.n ≤ s5.n := G5.n
  generalize s5.new (.lst [T, T]) = s6 at *
  have oy6 := oy.gb G6
  have sq := isSeqL_obj L6
  simp! [sq]
  refine wt_fault (c := "BadPolynomial") (v := v) (by
    have e := txt_f oy6.b
    simp! only [e]) hP oy6.b.cl ?_
  rw [← hT]
  have ap := gAppend_obj (y := T) L6 (by simp only [List.length_cons, List.length_nil]; exact (show 2 < sizeLine by decide))
  obtain ⟨s7, h7⟩ : ∃ u, u = s6.set s5.n (.lst ([T, T] ++ [T])) := ⟨_, rfl⟩
  rw [← h7] at ap
  have L7 : s7.c s5.n = .lst [T, T, T] := by rw [h7]; exact Sto.set_at
  have G7 : Gb s2 s7 := by rw [h7]; exact G6.set ge
  have r3 := hzb s7 s5.n G7 (by rw [L7, hT]; rfl)
  have m3 := (mulL (s := s7.new (.lst [T])) (a := T) (o := s7.n) Sto.new_at).2
  have r4 := hzb ((s7.new (.lst [T])).new (.lst [T, T, T])) (s7.n + 1) G7.new.new (by rw [hT]; exact Sto.new_at)
  simp! [ap, r3, ← hT, m3, r4, z1, db]
  simpa using fin _ G7.new.new
theorem wi2_polyI {k : Nat} {ki : Int} (hk : ki = ((k : Nat) : Int)) (S : Inv2 d g B t s) (hB : B ≤ 20000000) (k0 : 5 ≤ k) (k1 : k ≤ 600) (q : ∀ (n : Nat) s', n < 2 ^ k → Inv2 d g (B + 10) t s' → Gd2 d g s s' → P (.int (n : Nat)) s') : (F__law_poly [.obj d, .int ki] s).Post P R := by
  subst hk
  exact wi2_poly S hB k0 k1 q
theorem wi2_gcT {f : AT} {Q : Bool → Sto → Prop} {σ : ASt} (S : Inv2 d g B t s) (h : (f σ s).Post (fun v s' => Gd2 d g s s' ∧ ∃ C, Dg d g C s' ∧ ∀ s2, Inv2 d g C t s2 → Gd2 d g s s2 → Q v s2) R) : (gcT f σ s).Post Q R :=
  gcT_d2 S.lsd S.lsg (h.mono (fun v s' z => by
    obtain ⟨z2, C, z3, z4⟩ := z
    exact ⟨z2, z3.cl S.lsg, z4 _ (S.back z3) (Gd2.back d g s)⟩) fun _ _ _ _ z => z)
theorem lt1 {FP : List AV → Sto → Res AV} {a b w : Nat} {x0 x1 x2 x5 x7 x8 : Option AV} (p : ∀ a b s, a < 2 ^ 512 → b < 2 ^ 512 → FP [.int (a : Nat), .int (b : Nat)] s = .ok (.bl true) s) (ha : a < 2 ^ 512) (hb : b < 2 ^ 512) (hw : w < 2 ^ 512) :
    gcT (aOr (aNot (aTest (aCall 2 FP [] (aCons (aVar 3) (aCons (aVar 4) aNil))))) (aOr (aNot (aTest (aCall 2 FP [] (aCons (aVar 4) (aCons (aVar 3) aNil))))) (aNot (aTest (aCall 2 FP [] (aCons (aVar 6) (aCons (aOp gMod (aVar 3) (aC (.int 64))) aNil))))))) [x0, x1, x2, some (.int (a : Nat)), some (.int (b : Nat)), x5, some (.int (w : Nat)), x7, x8] s = .ok false s := by
  have e1 := p a b s ha hb
  have e2 := p b a s hb ha
  have md : gMod (.int (a : Nat)) (.int 64) s = .ok (.int ((a % 64 : Nat) : Int)) s := gMod_int (by decide)
  have e3 := p w (a % 64) s hw (Nat.lt_of_le_of_lt (Nat.mod_le _ _) ha)
  exact gcT_f (by simp! only [e1, e2, md, e3])
theorem lt2 {FP FD FO : List AV → Sto → Res AV} {a c w : Nat} {x0 x2 x4 x7 x8 : Option AV} {Q : Bool → Sto → Prop} (p : ∀ a b s, a < 2 ^ 512 → b < 2 ^ 512 → FP [.int (a : Nat), .int (b : Nat)] s = .ok (.bl true) s) (dg : ∀ c s, c < 2 ^ 512 → FD [.int (c : Nat)] s = .ok (.int ((TW.len c : Nat) - 1 : Int)) s)
    (od : ∀ {P : AV → Sto → Prop} {R : String → List Str → List AV → Sto → Prop} {s : Sto}, Inv2 d g B t s → (∀ s', Inv2 d g (B + 2) t s' → Gd2 d g s s' → P (.bl true) s') → (FO [.obj d, .int (a : Nat)] s).Post P R) (S : Inv2 d g B t s) (ha : a < 2 ^ 512) (hc : c < 2 ^ 512) (hw : w < 2 ^ 512) (q : ∀ s', Inv2 d g (B + 2) t s' → Q false s') :
    (gcT (aOr (aNot (aTest (aCall 2 FP [] (aCons (aOp gMod (aVar 3) (aC (.int 64))) (aCons (aVar 6) aNil))))) (aOr (aTest (aOp gNe (aCall 1 FD [] (aCons (aVar 5) aNil)) (aOp gMinus (aUn gBits (aVar 5)) (aC (.int 1))))) (aNot (aTest (aCall 2 FO [] (aCons (aVar 1) (aCons (aVar 3) aNil))))))) [x0, some (.obj d), x2, some (.int (a : Nat)), x4, some (.int (c : Nat)), some (.int (w : Nat)), x7, x8] s).Post Q R := by
  have md : gMod (.int (a : Nat)) (.int 64) s = .ok (.int ((a % 64 : Nat) : Int)) s := gMod_int (by decide)
  have e3 := p (a % 64) w s (Nat.lt_of_le_of_lt (Nat.mod_le _ _) ha) hw
  have e4 := dg c s hc
  have bt : gBits (.int (c : Nat)) s = .ok (.int (TW.len c : Nat)) s := by rw [gBits_int, bitsN]
  have dd : decide (((TW.len c : Nat) - 1 : Int) = (TW.len c : Nat) - 1) = true := decide_eq_true rfl
  refine wi2_gcT S ?_
  simp! [md, e3, e4, bt, dd]
  refine od S fun s' S' g' => ?_
  simp! [eq_self]
  exact ⟨g', _, S'.ok, fun s2 S2 _ => q s2 S2⟩
end
theorem s_ifQ {f : AT} {a : AS} {σ : ASt} {s : Sto} {D : Dn} (h : (f σ s).Post (fun b s' => b = false ∧ D.nx σ s' ∨ False) (fun c ns vs s' => False)) : (aIfS f a aNext σ s).A D := by
  unfold aIfS
  cases e : f σ s with
  | ok b s' =>
    rw [e] at h
    rcases h with ⟨rfl, h⟩ | h
    · exact h
    · exact h.elim
  | err => rw [e] at h; exact h.elim
  | stuck => rw [e] at h; exact h.elim
theorem law_true (ns : List Int) (hl : ns.length ≤ 63) (hbit : ∀ z ∈ ns, Builtin.Int.intBits z ≤ 1048576) : ∃ s', F_law [.scr (ns.map .int)] s0 = .ok (.bl true) s' := by
  refine ok_of_post ?_
  unfold F_law
  have z0 : ((0 : Nat) ≤ sizeLine) = True := eq_true (Nat.zero_le _)
  have ln : ∀ s, gLen [.scr (ns.map .int)] s = .ok (.int (ns.length : Nat)) s := fun s => by rw [gLen_scr, List.length_map]
  obtain ⟨K, hK⟩ : ∃ K : Nat, ((3 : Int) + (if ((ns.length : Nat) : Int) < 8 then ((ns.length : Nat) : Int) else 8)) = (K : Nat) := ⟨(3 + (if ((ns.length : Nat) : Int) < 8 then ((ns.length : Nat) : Int) else 8)).toNat, by split <;> omega⟩
  have K5 : K ≤ 11 := by split at hK <;> omega
  have rg : -(2 ^ 62) ≤ ((K : Nat) : Int) ∧ ((K : Nat) : Int) < 2 ^ 62 := by omega
  have tn : ((K : Nat) : Int).toNat = K := by omega
  have rg5 : -(2 ^ 62) ≤ (5 : Int) ∧ (5 : Int) < 2 ^ 62 := by decide
  have up : ∀ {x : Nat}, x < 2 ^ 40 → x < 2 ^ 512 := fun h => Nat.lt_of_lt_of_le h (Nat.pow_le_pow_right (by decide) (by decide))
  simp! [B_law]
  refine begun_post (by omega) fun d g s1 g1 d0 d1 g0 gg D => ?_
  have S0 : Inv2 d g 0 s1 s1 := Inv2.start d1 gg D
  simp! [ln, hK, rg, tn]
  refine for_rng (n := K) (fun i σ s' => Inv2 d g (500 * i) s1 s' ∧ ∃ x2 x3 x4 x5 x6 x7 x8, σ = [some (.scr (ns.map .int)), some (.obj d), x2, x3, x4, x5, x6, x7, x8]) ⟨S0, _, _, _, _, _, _, _, rfl⟩ ?_ ?_
  · rintro i σ s' hi ⟨S1, x2, x3, x4, x5, x6, x7, x8, rfl⟩
    refine ⟨trivial, ?_⟩
    simp! [eq_self]
    refine wi2_polyI (k := 40) rfl S1 (by omega) (by decide) (by decide) fun a s2 ha S2 g2 => ?_
    simp! [eq_self]
    refine wi2_polyI (k := 40) rfl S2 (by omega) (by decide) (by decide) fun b s3 hb S3 g3 => ?_
    simp! [eq_self]
    refine wi2_polyI (k := 512) rfl S3 (by omega) (by decide) (by decide) fun c s4 hc S4 g4 => ?_
    simp! [rg5]
    refine lc_P (fun i' acc s' => s4.n < s'.n ∧ Inv2 d g (500 * i + 30 + i') s1 s' ∧ ∃ l : List Nat, acc = iN l ∧ ∀ y ∈ l, y < 512) ⟨Nat.lt_succ_self _, S4.new.mono (by omega), [], rfl, (fun y hy => by cases hy)⟩ Sto.new_at (by rw [rngA_len]; decide) ?_ ?_
    · rintro i' x acc u hx ⟨hn, Su, l, rfl, hlt⟩ hcu
      refine ⟨trivial, ?_⟩
      obtain ⟨hi', rfl⟩ := rngA_get hx
      have hi' : i' < 5 := hi'
      have dn : s4.n ≠ d := by have := S4.lsd; omega
      have gn : s4.n ≠ g := by have := S4.lsg; omega
      simp! [wipeA]
      refine wi_next Su (by omega) (by decide) (by decide) fun v3 u3 a3 b3 S3' g3' => ?_
      obtain ⟨n3, rfl⟩ := Int.eq_ofNat_of_zero_le a3
      have ts : s1.n ≤ s4.n := S4.gd.n
      refine ⟨(g3'.c _ hn dn gn).trans hcu, Nat.lt_of_lt_of_le hn g3'.n, (S3'.set_new ts), l ++ [n3], ?_, fun y hy => ?_⟩
      · unfold iN
        rw [List.map_append]
        rfl
      · rcases List.mem_append.mp hy with h | h
        · exact hlt y h
        · rw [List.mem_singleton.mp h]; omega
    · rintro acc u ⟨hn, Su, l, rfl, hlt⟩ hcu
      refine ⟨trivial, ?_⟩
      rw [rngA_len] at Su
      have Su : Inv2 d g (500 * i + 40) s1 u := Su.mono (by show 500 * i + 30 + 5 ≤ _; omega)
      obtain ⟨w, hw, e⟩ := number_ok hcu hlt (by decide)
      have i1 := ifF (a := aRet (aC (.bl false))) (lt1 (s := u) (FP := F__law_pair_right) (x0 := some (.scr (ns.map .int))) (x1 := some (.obj d)) (x2 := some (.int (0 + (i : Nat)))) (x5 := some (.int (c : Nat))) (x7 := x7) (x8 := x8) (fun a b s h1 h2 => pr_ok h1 h2 s) (up ha) (up hb) hw)
      dsimp! only [e, i1]
      refine s_ifQ (lt2 (FP := F__law_pair_right) (FD := F_degree) (FO := F__law_odds_right) (fun a b s h1 h2 => pr_ok h1 h2 s) (fun c s h => degree_ok h s) (fun S q => wi_odds S (by omega) (up ha) q) Su (up ha) hc hw fun s6 S6 => .inl ⟨rfl, ?_⟩)
      exact ⟨S6.mono (by omega), _, _, _, _, _, _, _, rfl⟩
  · rintro σ s' ⟨S1, x2, x3, x4, x5, x6, x7, x8, rfl⟩
    refine ⟨trivial, ?_⟩
    obtain ⟨M, hM⟩ : ∃ M : Nat, M = 2 ^ 512 - 1 := ⟨_, rfl⟩
    have M1 : M < 2 ^ 512 := by rw [hM]; exact Nat.sub_lt (Nat.pow_pos (by decide)) (by decide)
    have far : ((2 ^ 512 : Nat) : Int) - 1 = (M : Nat) := by
      have : 0 < 2 ^ 512 := Nat.pow_pos (by decide)
      rw [hM]
      omega
    have lM : ((TW.len M : Nat) : Int) - 1 = 511 := by rw [hM]; decide +kernel
    have pm := fun s => poly_t (i := M) s M1
    have dm := fun s => degree_ok (n := M) M1 s
    simp only [lM] at dm
    have am := fun s => added_ok (a := M) (b := M) M1 M1 s
    simp only [Nat.xor_self] at am
    have p511 : (2 : Nat) ^ 511 < 2 ^ 512 := Nat.pow_lt_pow_right (by decide) (by decide)
    have sm : ∀ {x : Nat}, x < 2 ^ 4 → x < 2 ^ 512 := fun h => Nat.lt_of_lt_of_le h (Nat.pow_le_pow_right (by decide) (by decide))
    have m1 : ∀ s, F_multiplied [.int 3, .int 3] s = .ok (.int 5) s := fun s => by
      have e := mult_ok (a := 3) (b := 3) (sm (by decide)) (sm (by decide)) s
      rw [show PO.cm 3 3 = 5 by decide +kernel] at e
      exact e
    have m2 : ∀ s, F_multiplied [.int 7, .int 6] s = .ok (.int 18) s := fun s => by
      have e := mult_ok (a := 7) (b := 6) (sm (by decide)) (sm (by decide)) s
      rw [show PO.cm 7 6 = 18 by decide +kernel] at e
      exact e
    have m3 := fun s => mult_ok (a := 2 ^ 511) (b := 2 ^ 511) p511 p511 s
    rw [PO.pow_left, ← Nat.pow_add] at m3
    have s511 : ∀ s, gShl (.int 1) (.int 511) s = .ok (.int ((2 ^ 511 : Nat) : Int)) s := fun s => shl_one (k := 511) s (by decide)
    have s1022 : ∀ s, gShl (.int 1) (.int 1022) s = .ok (.int ((2 ^ (511 + 511) : Nat) : Int)) s := fun s => shl_one (k := 1022) s (by decide)
    have dz : ∀ s, F_degree [.int 0] s = .ok (.int (-1)) s := fun s => degree_ok (n := 0) (Nat.pow_pos (by decide)) s
    have ng : ∀ s, gNeg (.int 1) s = .ok (.int (-1)) s := fun s => rfl
    have a0 : (((0 : Nat)) : Int) = 0 := rfl
    generalize (2 : Nat) ^ (511 + 511) = X at *
    generalize (2 : Nat) ^ 511 = Y at *
    simp! [sh512q, far, pm, dm, am, a0, z4]
    refine gcT_g ?_
    simp! [pm, dm, am, a0, z4]
    refine post_neL (at_old (Nat.lt_succ_self _) Sto.new_at) Sto.new_at (fun x hx => ?_) ?_
    · simp only [List.mem_cons, List.not_mem_nil, or_false] at hx
      rcases hx with rfl | rfl | rfl | rfl
      · exact flat_d (.inl ⟨_, rfl⟩)
      · exact ⟨.bool true, rfl, by simp [PyData.canLay0], by simp [PyData.depth]⟩
      · exact flat_d (.inl ⟨_, rfl⟩)
      · exact flat_d (.inl ⟨_, rfl⟩)
    simp! [m1, m2, s511, m3, dz, s1022, ng, z4]
    refine ⟨(Gb.refl _).new.new, ?_⟩
    refine post_eqL (at_old (Nat.lt_succ_self _) Sto.new_at) Sto.new_at (fun x hx => ?_) ?_
    · simp only [List.mem_cons, List.not_mem_nil, or_false] at hx
      rcases hx with rfl | rfl | rfl | rfl
      · exact flat_d (.inl ⟨_, rfl⟩)
      · exact flat_d (.inl ⟨_, rfl⟩)
      · exact flat_d (.inl ⟨_, rfl⟩)
      · exact flat_d (.inl ⟨_, rfl⟩)
    · simp! [eq_self]
end Pf
set_option Elab.async false
set_option linter.all false
set_option maxRecDepth 100000
set_option maxHeartbeats 4000000
set_option exponentiation.threshold 3000
namespace Pf
open PySem PySem.Spec PyProof.Rows L2 Ab
def kap (C_DrawError C_BadSteps C_BadPolynomial C_BadDegree C_BadBits : Addr) : String → Addr := fun n => if n = "DrawError" then C_DrawError else if n = "BadSteps" then C_BadSteps else if n = "BadPolynomial" then C_BadPolynomial else if n = "BadDegree" then C_BadDegree else if n = "BadBits" then C_BadBits else 0
theorem txt_kap {K : PySem.W.Frag} {mg : Str → Option Value} {C_DrawError C_BadSteps C_BadPolynomial C_BadDegree C_BadBits CO__law_odds_right : Addr} (T : Txt K mg C_DrawError C_BadSteps C_BadPolynomial C_BadDegree C_BadBits CO__law_odds_right) : Txt K mg ((kap C_DrawError C_BadSteps C_BadPolynomial C_BadDegree C_BadBits) "DrawError") ((kap C_DrawError C_BadSteps C_BadPolynomial C_BadDegree C_BadBits) "BadSteps") ((kap C_DrawError C_BadSteps C_BadPolynomial C_BadDegree C_BadBits) "BadPolynomial") ((kap C_DrawError C_BadSteps C_BadPolynomial C_BadDegree C_BadBits) "BadDegree") ((kap C_DrawError C_BadSteps C_BadPolynomial C_BadDegree C_BadBits) "BadBits") CO__law_odds_right := by
  have e0 : (kap C_DrawError C_BadSteps C_BadPolynomial C_BadDegree C_BadBits) "DrawError" = C_DrawError := by unfold kap; simp
  have e1 : (kap C_DrawError C_BadSteps C_BadPolynomial C_BadDegree C_BadBits) "BadSteps" = C_BadSteps := by unfold kap; simp
  have e2 : (kap C_DrawError C_BadSteps C_BadPolynomial C_BadDegree C_BadBits) "BadPolynomial" = C_BadPolynomial := by unfold kap; simp
  have e3 : (kap C_DrawError C_BadSteps C_BadPolynomial C_BadDegree C_BadBits) "BadDegree" = C_BadDegree := by unfold kap; simp
  have e4 : (kap C_DrawError C_BadSteps C_BadPolynomial C_BadDegree C_BadBits) "BadBits" = C_BadBits := by unfold kap; simp
  rw [e0, e1, e2, e3, e4]
  exact T
theorem law_mk {l : PySem.W.OpenLaw} {w : World} {K : PySem.W.Frag} {mg : Str → Option Value} {fa C_DrawError C_BadSteps C_BadPolynomial C_BadDegree C_BadBits CO__law_odds_right TA__law_odds_right : Addr} {h : Heap} (hmg : mg "law" = some (.ref fa)) (T : Txt K mg C_DrawError C_BadSteps C_BadPolynomial C_BadDegree C_BadBits CO__law_odds_right)
    (hT__law_odds_right : h.get? TA__law_odds_right = some { cls := .none, data := .fields #[] }) (nT__law_odds_right : K.lookup TA__law_odds_right = none) (hC__law_odds_right : PySem.W.CodeHd h CO__law_odds_right TA__law_odds_right) : Gx.LawF l w K 10 "_law_script" mg fa h := by
  have T := txt_kap T
  obtain ⟨f, fd, F, b, hb⟩ := T.d_law
  have e := hmg.symm.trans F.mgf
  cases e
  refine ⟨fd, [(CO__law_odds_right, TA__law_odds_right)], spLaw K TA__law_odds_right, fun p hp => ?_, fun p hp => ?_, fun p hp => ?_, hb, fun H a ns hl hbit hH hS => ⟨a, ns, rfl, hS, fun p hp => ?_, law_true ns hl hbit, fun _ => rfl⟩, fun base _ _ hTB => fn_law T ⟨hTB _ (List.mem_singleton.mpr rfl), trivial⟩ F⟩
  · cases List.mem_singleton.mp hp; exact hT__law_odds_right
  · cases List.mem_singleton.mp hp; exact nT__law_odds_right
  · cases List.mem_singleton.mp hp; exact hC__law_odds_right
  · cases List.mem_singleton.mp hp
    exact ⟨#[], hH _ (List.mem_singleton.mpr rfl), by first | exact .nil | simp [LamX.TriplesOk] | trivial, fun pos cv hc => by simp [codeAmong] at hc⟩
set_option maxHeartbeats 4000000 in
theorem txt_mk {K : PySem.W.Frag} {h : Heap} {mg : Str → Option Value} {f_BadSteps___init__ f_BadPolynomial___init__ f_BadDegree___init__ f_BadBits___init__ f_is_integer f_s3_is_whole f_is_polynomial f_s3_need f_s3_product f_degree f_added f_multiplied f_s3_term f_polynomial_text f__law_begun f__law_next f__law_fault f__law_places f__law_number f__law_times f__law_poly f__law_odd f__law_text f__law_pair_right f__law_odds_right f_law CO__law_odds_right C_DrawError C_BadSteps C_BadPolynomial C_BadDegree C_BadBits : Addr} {od_BadSteps___init__ an_BadSteps___init__ od_BadPolynomial___init__ an_BadPolynomial___init__ od_BadDegree___init__ an_BadDegree___init__ od_BadBits___init__ an_BadBits___init__ od_is_integer an_is_integer od_s3_is_whole an_s3_is_whole od_is_polynomial an_is_polynomial od_s3_need an_s3_need od_s3_product an_s3_product od_degree an_degree od_added an_added od_multiplied an_multiplied od_s3_term an_s3_term od_polynomial_text an_polynomial_text od__law_begun an__law_begun od__law_next an__law_next od__law_fault an__law_fault od__law_places an__law_places od__law_number an__law_number od__law_times an__law_times od__law_poly an__law_poly od__law_odd an__law_odd od__law_text an__law_text od__law_pair_right an__law_pair_right od__law_odds_right an__law_odds_right od_law an_law : Option Addr} {sl_BadSteps___init__ sl_BadPolynomial___init__ sl_BadDegree___init__ sl_BadBits___init__ sl_is_integer sl_s3_is_whole sl_is_polynomial sl_s3_need sl_s3_product sl_degree sl_added sl_multiplied sl_s3_term sl_polynomial_text sl__law_begun sl__law_next sl__law_fault sl__law_places sl__law_number sl__law_times sl__law_poly sl__law_odd sl__law_text sl__law_pair_right sl__law_odds_right sl_law : Array (Option Value)} {oc_BadSteps___init__ kV_BadSteps___init__ dc_BadSteps___init__ pm_BadSteps___init__ cd_BadSteps___init__ ct_BadSteps___init__ oc_BadPolynomial___init__ kV_BadPolynomial___init__ dc_BadPolynomial___init__ pm_BadPolynomial___init__ cd_BadPolynomial___init__ ct_BadPolynomial___init__ oc_BadDegree___init__ kV_BadDegree___init__ dc_BadDegree___init__ pm_BadDegree___init__ cd_BadDegree___init__ ct_BadDegree___init__ oc_BadBits___init__ kV_BadBits___init__ dc_BadBits___init__ pm_BadBits___init__ cd_BadBits___init__ ct_BadBits___init__ oc_is_integer kV_is_integer dc_is_integer pm_is_integer cd_is_integer ct_is_integer oc_s3_is_whole kV_s3_is_whole dc_s3_is_whole pm_s3_is_whole cd_s3_is_whole ct_s3_is_whole oc_is_polynomial kV_is_polynomial dc_is_polynomial pm_is_polynomial cd_is_polynomial ct_is_polynomial oc_s3_need kV_s3_need dc_s3_need pm_s3_need cd_s3_need ct_s3_need oc_s3_product kV_s3_product dc_s3_product pm_s3_product cd_s3_product ct_s3_product oc_degree kV_degree dc_degree pm_degree cd_degree ct_degree oc_added kV_added dc_added pm_added cd_added ct_added oc_multiplied kV_multiplied dc_multiplied pm_multiplied cd_multiplied ct_multiplied oc_s3_term kV_s3_term dc_s3_term pm_s3_term cd_s3_term ct_s3_term oc_polynomial_text kV_polynomial_text dc_polynomial_text pm_polynomial_text cd_polynomial_text ct_polynomial_text oc__law_begun kV__law_begun dc__law_begun pm__law_begun cd__law_begun ct__law_begun oc__law_next kV__law_next dc__law_next pm__law_next cd__law_next ct__law_next oc__law_fault kV__law_fault dc__law_fault pm__law_fault cd__law_fault ct__law_fault oc__law_places kV__law_places dc__law_places pm__law_places cd__law_places ct__law_places oc__law_number kV__law_number dc__law_number pm__law_number cd__law_number ct__law_number oc__law_times kV__law_times dc__law_times pm__law_times cd__law_times ct__law_times oc__law_poly kV__law_poly dc__law_poly pm__law_poly cd__law_poly ct__law_poly oc__law_odd kV__law_odd dc__law_odd pm__law_odd cd__law_odd ct__law_odd oc__law_text kV__law_text dc__law_text pm__law_text cd__law_text ct__law_text oc__law_pair_right kV__law_pair_right dc__law_pair_right pm__law_pair_right cd__law_pair_right ct__law_pair_right oc__law_odds_right kV__law_odds_right dc__law_odds_right pm__law_odds_right ct__law_odds_right oc_law kV_law dc_law pm_law cd_law ct_law : Value} {tk_MOST_DIGITS : Tok} (X : K.In h) (G : h.Ns mainGlobals mg)
    (a_BadSteps___init__ : PySem.W.findIn K (.ref C_BadSteps) "__init__" = some (some (.ref f_BadSteps___init__)))
    (ti_BadSteps___init__ : PySem.W.typeIn K (.ref f_BadSteps___init__) = some (.type "function"))
    (l_BadSteps___init__ : K.lookup f_BadSteps___init__ = some ⟨oc_BadSteps___init__, od_BadSteps___init__, .func (PySem.W.fnOf "__init__" "BadSteps.__init__" (C8.fnArgs s_BadSteps___init__) (C8.fnBody s_BadSteps___init__) (C8.fnScope s_BadSteps___init__) .none kV_BadSteps___init__ dc_BadSteps___init__ pm_BadSteps___init__ an_BadSteps___init__ cd_BadSteps___init__ ct_BadSteps___init__), sl_BadSteps___init__⟩)
    (c_BadSteps___init__ : PySem.W.codeIn K cd_BadSteps___init__ "BadSteps.__init__" = true)
    (a_BadPolynomial___init__ : PySem.W.findIn K (.ref C_BadPolynomial) "__init__" = some (some (.ref f_BadPolynomial___init__)))
    (ti_BadPolynomial___init__ : PySem.W.typeIn K (.ref f_BadPolynomial___init__) = some (.type "function"))
    (l_BadPolynomial___init__ : K.lookup f_BadPolynomial___init__ = some ⟨oc_BadPolynomial___init__, od_BadPolynomial___init__, .func (PySem.W.fnOf "__init__" "BadPolynomial.__init__" (C8.fnArgs s_BadPolynomial___init__) (C8.fnBody s_BadPolynomial___init__) (C8.fnScope s_BadPolynomial___init__) .none kV_BadPolynomial___init__ dc_BadPolynomial___init__ pm_BadPolynomial___init__ an_BadPolynomial___init__ cd_BadPolynomial___init__ ct_BadPolynomial___init__), sl_BadPolynomial___init__⟩)
    (c_BadPolynomial___init__ : PySem.W.codeIn K cd_BadPolynomial___init__ "BadPolynomial.__init__" = true)
    (a_BadDegree___init__ : PySem.W.findIn K (.ref C_BadDegree) "__init__" = some (some (.ref f_BadDegree___init__)))
    (ti_BadDegree___init__ : PySem.W.typeIn K (.ref f_BadDegree___init__) = some (.type "function"))
    (l_BadDegree___init__ : K.lookup f_BadDegree___init__ = some ⟨oc_BadDegree___init__, od_BadDegree___init__, .func (PySem.W.fnOf "__init__" "BadDegree.__init__" (C8.fnArgs s_BadDegree___init__) (C8.fnBody s_BadDegree___init__) (C8.fnScope s_BadDegree___init__) .none kV_BadDegree___init__ dc_BadDegree___init__ pm_BadDegree___init__ an_BadDegree___init__ cd_BadDegree___init__ ct_BadDegree___init__), sl_BadDegree___init__⟩)
    (c_BadDegree___init__ : PySem.W.codeIn K cd_BadDegree___init__ "BadDegree.__init__" = true)
    (a_BadBits___init__ : PySem.W.findIn K (.ref C_BadBits) "__init__" = some (some (.ref f_BadBits___init__)))
    (ti_BadBits___init__ : PySem.W.typeIn K (.ref f_BadBits___init__) = some (.type "function"))
    (l_BadBits___init__ : K.lookup f_BadBits___init__ = some ⟨oc_BadBits___init__, od_BadBits___init__, .func (PySem.W.fnOf "__init__" "BadBits.__init__" (C8.fnArgs s_BadBits___init__) (C8.fnBody s_BadBits___init__) (C8.fnScope s_BadBits___init__) .none kV_BadBits___init__ dc_BadBits___init__ pm_BadBits___init__ an_BadBits___init__ cd_BadBits___init__ ct_BadBits___init__), sl_BadBits___init__⟩)
    (c_BadBits___init__ : PySem.W.codeIn K cd_BadBits___init__ "BadBits.__init__" = true)
    (a_is_integer : PySem.W.nsIn K mainGlobals "is_integer" = some (some (.ref f_is_integer)))
    (l_is_integer : K.lookup f_is_integer = some ⟨oc_is_integer, od_is_integer, .func (PySem.W.fnOf "is_integer" "is_integer" (C8.fnArgs s_is_integer) (C8.fnBody s_is_integer) (C8.fnScope s_is_integer) .none kV_is_integer dc_is_integer pm_is_integer an_is_integer cd_is_integer ct_is_integer), sl_is_integer⟩)
    (c_is_integer : PySem.W.codeIn K cd_is_integer "is_integer" = true)
    (k_is_integer : PySem.W.keepIn K (.ref f_is_integer) = true)
    (a_s3_is_whole : PySem.W.nsIn K mainGlobals "s3_is_whole" = some (some (.ref f_s3_is_whole)))
    (l_s3_is_whole : K.lookup f_s3_is_whole = some ⟨oc_s3_is_whole, od_s3_is_whole, .func (PySem.W.fnOf "s3_is_whole" "s3_is_whole" (C8.fnArgs s_s3_is_whole) (C8.fnBody s_s3_is_whole) (C8.fnScope s_s3_is_whole) .none kV_s3_is_whole dc_s3_is_whole pm_s3_is_whole an_s3_is_whole cd_s3_is_whole ct_s3_is_whole), sl_s3_is_whole⟩)
    (c_s3_is_whole : PySem.W.codeIn K cd_s3_is_whole "s3_is_whole" = true)
    (k_s3_is_whole : PySem.W.keepIn K (.ref f_s3_is_whole) = true)
    (a_is_polynomial : PySem.W.nsIn K mainGlobals "is_polynomial" = some (some (.ref f_is_polynomial)))
    (l_is_polynomial : K.lookup f_is_polynomial = some ⟨oc_is_polynomial, od_is_polynomial, .func (PySem.W.fnOf "is_polynomial" "is_polynomial" (C8.fnArgs s_is_polynomial) (C8.fnBody s_is_polynomial) (C8.fnScope s_is_polynomial) .none kV_is_polynomial dc_is_polynomial pm_is_polynomial an_is_polynomial cd_is_polynomial ct_is_polynomial), sl_is_polynomial⟩)
    (c_is_polynomial : PySem.W.codeIn K cd_is_polynomial "is_polynomial" = true)
    (k_is_polynomial : PySem.W.keepIn K (.ref f_is_polynomial) = true)
    (a_s3_need : PySem.W.nsIn K mainGlobals "s3_need" = some (some (.ref f_s3_need)))
    (l_s3_need : K.lookup f_s3_need = some ⟨oc_s3_need, od_s3_need, .func (PySem.W.fnOf "s3_need" "s3_need" (C8.fnArgs s_s3_need) (C8.fnBody s_s3_need) (C8.fnScope s_s3_need) .none kV_s3_need dc_s3_need pm_s3_need an_s3_need cd_s3_need ct_s3_need), sl_s3_need⟩)
    (c_s3_need : PySem.W.codeIn K cd_s3_need "s3_need" = true)
    (k_s3_need : PySem.W.keepIn K (.ref f_s3_need) = true)
    (a_s3_product : PySem.W.nsIn K mainGlobals "s3_product" = some (some (.ref f_s3_product)))
    (l_s3_product : K.lookup f_s3_product = some ⟨oc_s3_product, od_s3_product, .func (PySem.W.fnOf "s3_product" "s3_product" (C8.fnArgs s_s3_product) (C8.fnBody s_s3_product) (C8.fnScope s_s3_product) .none kV_s3_product dc_s3_product pm_s3_product an_s3_product cd_s3_product ct_s3_product), sl_s3_product⟩)
    (c_s3_product : PySem.W.codeIn K cd_s3_product "s3_product" = true)
    (k_s3_product : PySem.W.keepIn K (.ref f_s3_product) = true)
    (a_degree : PySem.W.nsIn K mainGlobals "degree" = some (some (.ref f_degree)))
    (l_degree : K.lookup f_degree = some ⟨oc_degree, od_degree, .func (PySem.W.fnOf "degree" "degree" (C8.fnArgs s_degree) (C8.fnBody s_degree) (C8.fnScope s_degree) .none kV_degree dc_degree pm_degree an_degree cd_degree ct_degree), sl_degree⟩)
    (c_degree : PySem.W.codeIn K cd_degree "degree" = true)
    (k_degree : PySem.W.keepIn K (.ref f_degree) = true)
    (a_added : PySem.W.nsIn K mainGlobals "added" = some (some (.ref f_added)))
    (l_added : K.lookup f_added = some ⟨oc_added, od_added, .func (PySem.W.fnOf "added" "added" (C8.fnArgs s_added) (C8.fnBody s_added) (C8.fnScope s_added) .none kV_added dc_added pm_added an_added cd_added ct_added), sl_added⟩)
    (c_added : PySem.W.codeIn K cd_added "added" = true)
    (k_added : PySem.W.keepIn K (.ref f_added) = true)
    (a_multiplied : PySem.W.nsIn K mainGlobals "multiplied" = some (some (.ref f_multiplied)))
    (l_multiplied : K.lookup f_multiplied = some ⟨oc_multiplied, od_multiplied, .func (PySem.W.fnOf "multiplied" "multiplied" (C8.fnArgs s_multiplied) (C8.fnBody s_multiplied) (C8.fnScope s_multiplied) .none kV_multiplied dc_multiplied pm_multiplied an_multiplied cd_multiplied ct_multiplied), sl_multiplied⟩)
    (c_multiplied : PySem.W.codeIn K cd_multiplied "multiplied" = true)
    (k_multiplied : PySem.W.keepIn K (.ref f_multiplied) = true)
    (a_s3_term : PySem.W.nsIn K mainGlobals "s3_term" = some (some (.ref f_s3_term)))
    (l_s3_term : K.lookup f_s3_term = some ⟨oc_s3_term, od_s3_term, .func (PySem.W.fnOf "s3_term" "s3_term" (C8.fnArgs s_s3_term) (C8.fnBody s_s3_term) (C8.fnScope s_s3_term) .none kV_s3_term dc_s3_term pm_s3_term an_s3_term cd_s3_term ct_s3_term), sl_s3_term⟩)
    (c_s3_term : PySem.W.codeIn K cd_s3_term "s3_term" = true)
    (k_s3_term : PySem.W.keepIn K (.ref f_s3_term) = true)
    (a_polynomial_text : PySem.W.nsIn K mainGlobals "polynomial_text" = some (some (.ref f_polynomial_text)))
    (l_polynomial_text : K.lookup f_polynomial_text = some ⟨oc_polynomial_text, od_polynomial_text, .func (PySem.W.fnOf "polynomial_text" "polynomial_text" (C8.fnArgs s_polynomial_text) (C8.fnBody s_polynomial_text) (C8.fnScope s_polynomial_text) .none kV_polynomial_text dc_polynomial_text pm_polynomial_text an_polynomial_text cd_polynomial_text ct_polynomial_text), sl_polynomial_text⟩)
    (c_polynomial_text : PySem.W.codeIn K cd_polynomial_text "polynomial_text" = true)
    (k_polynomial_text : PySem.W.keepIn K (.ref f_polynomial_text) = true)
    (a__law_begun : PySem.W.nsIn K mainGlobals "_law_begun" = some (some (.ref f__law_begun)))
    (l__law_begun : K.lookup f__law_begun = some ⟨oc__law_begun, od__law_begun, .func (PySem.W.fnOf "_law_begun" "_law_begun" (C8.fnArgs s__law_begun) (C8.fnBody s__law_begun) (C8.fnScope s__law_begun) .none kV__law_begun dc__law_begun pm__law_begun an__law_begun cd__law_begun ct__law_begun), sl__law_begun⟩)
    (c__law_begun : PySem.W.codeIn K cd__law_begun "_law_begun" = true)
    (k__law_begun : PySem.W.keepIn K (.ref f__law_begun) = true)
    (a__law_next : PySem.W.nsIn K mainGlobals "_law_next" = some (some (.ref f__law_next)))
    (l__law_next : K.lookup f__law_next = some ⟨oc__law_next, od__law_next, .func (PySem.W.fnOf "_law_next" "_law_next" (C8.fnArgs s__law_next) (C8.fnBody s__law_next) (C8.fnScope s__law_next) .none kV__law_next dc__law_next pm__law_next an__law_next cd__law_next ct__law_next), sl__law_next⟩)
    (c__law_next : PySem.W.codeIn K cd__law_next "_law_next" = true)
    (k__law_next : PySem.W.keepIn K (.ref f__law_next) = true)
    (a__law_fault : PySem.W.nsIn K mainGlobals "_law_fault" = some (some (.ref f__law_fault)))
    (l__law_fault : K.lookup f__law_fault = some ⟨oc__law_fault, od__law_fault, .func (PySem.W.fnOf "_law_fault" "_law_fault" (C8.fnArgs s__law_fault) (C8.fnBody s__law_fault) (C8.fnScope s__law_fault) .none kV__law_fault dc__law_fault pm__law_fault an__law_fault cd__law_fault ct__law_fault), sl__law_fault⟩)
    (c__law_fault : PySem.W.codeIn K cd__law_fault "_law_fault" = true)
    (k__law_fault : PySem.W.keepIn K (.ref f__law_fault) = true)
    (a__law_places : PySem.W.nsIn K mainGlobals "_law_places" = some (some (.ref f__law_places)))
    (l__law_places : K.lookup f__law_places = some ⟨oc__law_places, od__law_places, .func (PySem.W.fnOf "_law_places" "_law_places" (C8.fnArgs s__law_places) (C8.fnBody s__law_places) (C8.fnScope s__law_places) .none kV__law_places dc__law_places pm__law_places an__law_places cd__law_places ct__law_places), sl__law_places⟩)
    (c__law_places : PySem.W.codeIn K cd__law_places "_law_places" = true)
    (k__law_places : PySem.W.keepIn K (.ref f__law_places) = true)
    (a__law_number : PySem.W.nsIn K mainGlobals "_law_number" = some (some (.ref f__law_number)))
    (l__law_number : K.lookup f__law_number = some ⟨oc__law_number, od__law_number, .func (PySem.W.fnOf "_law_number" "_law_number" (C8.fnArgs s__law_number) (C8.fnBody s__law_number) (C8.fnScope s__law_number) .none kV__law_number dc__law_number pm__law_number an__law_number cd__law_number ct__law_number), sl__law_number⟩)
    (c__law_number : PySem.W.codeIn K cd__law_number "_law_number" = true)
    (k__law_number : PySem.W.keepIn K (.ref f__law_number) = true)
    (a__law_times : PySem.W.nsIn K mainGlobals "_law_times" = some (some (.ref f__law_times)))
    (l__law_times : K.lookup f__law_times = some ⟨oc__law_times, od__law_times, .func (PySem.W.fnOf "_law_times" "_law_times" (C8.fnArgs s__law_times) (C8.fnBody s__law_times) (C8.fnScope s__law_times) .none kV__law_times dc__law_times pm__law_times an__law_times cd__law_times ct__law_times), sl__law_times⟩)
    (c__law_times : PySem.W.codeIn K cd__law_times "_law_times" = true)
    (k__law_times : PySem.W.keepIn K (.ref f__law_times) = true)
    (a__law_poly : PySem.W.nsIn K mainGlobals "_law_poly" = some (some (.ref f__law_poly)))
    (l__law_poly : K.lookup f__law_poly = some ⟨oc__law_poly, od__law_poly, .func (PySem.W.fnOf "_law_poly" "_law_poly" (C8.fnArgs s__law_poly) (C8.fnBody s__law_poly) (C8.fnScope s__law_poly) .none kV__law_poly dc__law_poly pm__law_poly an__law_poly cd__law_poly ct__law_poly), sl__law_poly⟩)
    (c__law_poly : PySem.W.codeIn K cd__law_poly "_law_poly" = true)
    (k__law_poly : PySem.W.keepIn K (.ref f__law_poly) = true)
    (a__law_odd : PySem.W.nsIn K mainGlobals "_law_odd" = some (some (.ref f__law_odd)))
    (l__law_odd : K.lookup f__law_odd = some ⟨oc__law_odd, od__law_odd, .func (PySem.W.fnOf "_law_odd" "_law_odd" (C8.fnArgs s__law_odd) (C8.fnBody s__law_odd) (C8.fnScope s__law_odd) .none kV__law_odd dc__law_odd pm__law_odd an__law_odd cd__law_odd ct__law_odd), sl__law_odd⟩)
    (c__law_odd : PySem.W.codeIn K cd__law_odd "_law_odd" = true)
    (k__law_odd : PySem.W.keepIn K (.ref f__law_odd) = true)
    (a__law_text : PySem.W.nsIn K mainGlobals "_law_text" = some (some (.ref f__law_text)))
    (l__law_text : K.lookup f__law_text = some ⟨oc__law_text, od__law_text, .func (PySem.W.fnOf "_law_text" "_law_text" (C8.fnArgs s__law_text) (C8.fnBody s__law_text) (C8.fnScope s__law_text) .none kV__law_text dc__law_text pm__law_text an__law_text cd__law_text ct__law_text), sl__law_text⟩)
    (c__law_text : PySem.W.codeIn K cd__law_text "_law_text" = true)
    (k__law_text : PySem.W.keepIn K (.ref f__law_text) = true)
    (a__law_pair_right : PySem.W.nsIn K mainGlobals "_law_pair_right" = some (some (.ref f__law_pair_right)))
    (l__law_pair_right : K.lookup f__law_pair_right = some ⟨oc__law_pair_right, od__law_pair_right, .func (PySem.W.fnOf "_law_pair_right" "_law_pair_right" (C8.fnArgs s__law_pair_right) (C8.fnBody s__law_pair_right) (C8.fnScope s__law_pair_right) .none kV__law_pair_right dc__law_pair_right pm__law_pair_right an__law_pair_right cd__law_pair_right ct__law_pair_right), sl__law_pair_right⟩)
    (c__law_pair_right : PySem.W.codeIn K cd__law_pair_right "_law_pair_right" = true)
    (k__law_pair_right : PySem.W.keepIn K (.ref f__law_pair_right) = true)
    (a__law_odds_right : PySem.W.nsIn K mainGlobals "_law_odds_right" = some (some (.ref f__law_odds_right)))
    (l__law_odds_right : K.lookup f__law_odds_right = some ⟨oc__law_odds_right, od__law_odds_right, .func (PySem.W.fnOf "_law_odds_right" "_law_odds_right" (C8.fnArgs s__law_odds_right) (C8.fnBody s__law_odds_right) (C8.fnScope s__law_odds_right) .none kV__law_odds_right dc__law_odds_right pm__law_odds_right an__law_odds_right (.ref CO__law_odds_right) ct__law_odds_right), sl__law_odds_right⟩)
    (c__law_odds_right : PySem.W.codeIn K (.ref CO__law_odds_right) "_law_odds_right" = true)
    (k__law_odds_right : PySem.W.keepIn K (.ref f__law_odds_right) = true)
    (a_law : PySem.W.nsIn K mainGlobals "law" = some (some (.ref f_law)))
    (l_law : K.lookup f_law = some ⟨oc_law, od_law, .func (PySem.W.fnOf "law" "law" (C8.fnArgs s_law) (C8.fnBody s_law) (C8.fnScope s_law) .none kV_law dc_law pm_law an_law cd_law ct_law), sl_law⟩)
    (c_law : PySem.W.codeIn K cd_law "law" = true)
    (k_law : PySem.W.keepIn K (.ref f_law) = true)
    (e_MOST_DIGITS : PySem.W.nsIn K mainGlobals "MOST_DIGITS" = some (some (.int 512 tk_MOST_DIGITS)))
    (q_DrawError : PySem.W.nsIn K mainGlobals "DrawError" = some (some (.ref C_DrawError)))
    (rd_DrawError : PySem.W.readsIn K C_DrawError (.type "type") = true)
    (rg_DrawError : PySem.W.specialIn K (.ref C_DrawError) "__getattribute__" = some (some (.builtin "type.__getattribute__")))
    (fi_DrawError : PySem.W.findCls K (.ref C_DrawError) (.type "type") "__init__" = some (.val (.builtin "ValueError.__init__")))
    (eb_DrawError : PySem.W.subIn K (.ref C_DrawError) (.type "BaseException") = some true)
    (hb_DrawError : PySem.W.hasDictIn K C_DrawError = true)
    (tb_DrawError : PySem.W.typeIn K (.ref C_DrawError) = some (.type "type"))
    (ha_BadSteps : PySem.W.findIn K (.ref C_BadSteps) "__class__" = some (some (.builtin "object.__class__")))
    (hn_BadSteps : PySem.W.specialIn K (.builtin "object.__class__") "__get__" = some (some (.builtin "getset_descriptor.__get__")))
    (ht_BadSteps : PySem.W.takesIn K (.builtin "object.__class__") = some true)
    (hm_BadSteps : PySem.W.mroIn K C_BadSteps (.type "object") = some true)
    (sb_BadSteps_DrawError : PySem.W.subIn K (.ref C_BadSteps) (.ref C_DrawError) = some true)
    (ha_BadPolynomial : PySem.W.findIn K (.ref C_BadPolynomial) "__class__" = some (some (.builtin "object.__class__")))
    (hn_BadPolynomial : PySem.W.specialIn K (.builtin "object.__class__") "__get__" = some (some (.builtin "getset_descriptor.__get__")))
    (ht_BadPolynomial : PySem.W.takesIn K (.builtin "object.__class__") = some true)
    (hm_BadPolynomial : PySem.W.mroIn K C_BadPolynomial (.type "object") = some true)
    (sb_BadPolynomial_DrawError : PySem.W.subIn K (.ref C_BadPolynomial) (.ref C_DrawError) = some true)
    (ha_BadDegree : PySem.W.findIn K (.ref C_BadDegree) "__class__" = some (some (.builtin "object.__class__")))
    (hn_BadDegree : PySem.W.specialIn K (.builtin "object.__class__") "__get__" = some (some (.builtin "getset_descriptor.__get__")))
    (ht_BadDegree : PySem.W.takesIn K (.builtin "object.__class__") = some true)
    (hm_BadDegree : PySem.W.mroIn K C_BadDegree (.type "object") = some true)
    (sb_BadDegree_DrawError : PySem.W.subIn K (.ref C_BadDegree) (.ref C_DrawError) = some true)
    (ha_BadBits : PySem.W.findIn K (.ref C_BadBits) "__class__" = some (some (.builtin "object.__class__")))
    (hn_BadBits : PySem.W.specialIn K (.builtin "object.__class__") "__get__" = some (some (.builtin "getset_descriptor.__get__")))
    (ht_BadBits : PySem.W.takesIn K (.builtin "object.__class__") = some true)
    (hm_BadBits : PySem.W.mroIn K C_BadBits (.type "object") = some true)
    (sb_BadBits_DrawError : PySem.W.subIn K (.ref C_BadBits) (.ref C_DrawError) = some true)
    (q_BadSteps : PySem.W.nsIn K mainGlobals "BadSteps" = some (some (.ref C_BadSteps)))
    (in_BadSteps : PySem.W.excInitIn K C_BadSteps [.type "ValueError", .type "Exception", .type "BaseException", .type "object"] "ValueError.__new__" = true)
    (ov_BadSteps : PySem.W.excOver K C_BadSteps [.type "ValueError", .type "Exception", .type "BaseException", .type "object"] = true)
    (hd_BadSteps : PySem.W.hasDictIn K C_BadSteps = true)
    (sa_BadSteps : PySem.W.findIn K (.ref C_BadSteps) "__setattr__" = some (some (.builtin "object.__setattr__")))
    (ex_BadSteps : PySem.W.subIn K (.ref C_BadSteps) (.type "BaseException") = some true)
    (ty_BadSteps : PySem.W.typeIn K (.ref C_BadSteps) = some (.type "type"))
    (kc_BadSteps : PySem.W.keepIn K (.ref C_BadSteps) = true)
    (ga_BadSteps : PySem.W.findIn K (.ref C_BadSteps) "__getattribute__" = some (some (.builtin "BaseException.__getattribute__")))
    (gg_BadSteps : PySem.W.findIn K (.ref C_BadSteps) "__getattr__" = some none)
    (na_BadSteps : PySem.W.findIn K (.ref C_BadSteps) "given" = some none)
    (tk_BadSteps : PySem.W.takerIn K C_BadSteps "given" = some none)
    (sb_BadSteps : PySem.W.subIn K (.ref C_BadSteps) (.ref C_BadSteps) = some true)
    (q_BadPolynomial : PySem.W.nsIn K mainGlobals "BadPolynomial" = some (some (.ref C_BadPolynomial)))
    (in_BadPolynomial : PySem.W.excInitIn K C_BadPolynomial [.type "ValueError", .type "Exception", .type "BaseException", .type "object"] "ValueError.__new__" = true)
    (ov_BadPolynomial : PySem.W.excOver K C_BadPolynomial [.type "ValueError", .type "Exception", .type "BaseException", .type "object"] = true)
    (hd_BadPolynomial : PySem.W.hasDictIn K C_BadPolynomial = true)
    (sa_BadPolynomial : PySem.W.findIn K (.ref C_BadPolynomial) "__setattr__" = some (some (.builtin "object.__setattr__")))
    (ex_BadPolynomial : PySem.W.subIn K (.ref C_BadPolynomial) (.type "BaseException") = some true)
    (ty_BadPolynomial : PySem.W.typeIn K (.ref C_BadPolynomial) = some (.type "type"))
    (kc_BadPolynomial : PySem.W.keepIn K (.ref C_BadPolynomial) = true)
    (ga_BadPolynomial : PySem.W.findIn K (.ref C_BadPolynomial) "__getattribute__" = some (some (.builtin "BaseException.__getattribute__")))
    (gg_BadPolynomial : PySem.W.findIn K (.ref C_BadPolynomial) "__getattr__" = some none)
    (na_BadPolynomial : PySem.W.findIn K (.ref C_BadPolynomial) "given" = some none)
    (tk_BadPolynomial : PySem.W.takerIn K C_BadPolynomial "given" = some none)
    (sb_BadPolynomial : PySem.W.subIn K (.ref C_BadPolynomial) (.ref C_BadPolynomial) = some true)
    (q_BadDegree : PySem.W.nsIn K mainGlobals "BadDegree" = some (some (.ref C_BadDegree)))
    (in_BadDegree : PySem.W.excInitIn K C_BadDegree [.type "ValueError", .type "Exception", .type "BaseException", .type "object"] "ValueError.__new__" = true)
    (ov_BadDegree : PySem.W.excOver K C_BadDegree [.type "ValueError", .type "Exception", .type "BaseException", .type "object"] = true)
    (hd_BadDegree : PySem.W.hasDictIn K C_BadDegree = true)
    (sa_BadDegree : PySem.W.findIn K (.ref C_BadDegree) "__setattr__" = some (some (.builtin "object.__setattr__")))
    (ex_BadDegree : PySem.W.subIn K (.ref C_BadDegree) (.type "BaseException") = some true)
    (ty_BadDegree : PySem.W.typeIn K (.ref C_BadDegree) = some (.type "type"))
    (kc_BadDegree : PySem.W.keepIn K (.ref C_BadDegree) = true)
    (ga_BadDegree : PySem.W.findIn K (.ref C_BadDegree) "__getattribute__" = some (some (.builtin "BaseException.__getattribute__")))
    (gg_BadDegree : PySem.W.findIn K (.ref C_BadDegree) "__getattr__" = some none)
    (na_BadDegree : PySem.W.findIn K (.ref C_BadDegree) "given" = some none)
    (tk_BadDegree : PySem.W.takerIn K C_BadDegree "given" = some none)
    (sb_BadDegree : PySem.W.subIn K (.ref C_BadDegree) (.ref C_BadDegree) = some true)
    (q_BadBits : PySem.W.nsIn K mainGlobals "BadBits" = some (some (.ref C_BadBits)))
    (in_BadBits : PySem.W.excInitIn K C_BadBits [.type "ValueError", .type "Exception", .type "BaseException", .type "object"] "ValueError.__new__" = true)
    (ov_BadBits : PySem.W.excOver K C_BadBits [.type "ValueError", .type "Exception", .type "BaseException", .type "object"] = true)
    (hd_BadBits : PySem.W.hasDictIn K C_BadBits = true)
    (sa_BadBits : PySem.W.findIn K (.ref C_BadBits) "__setattr__" = some (some (.builtin "object.__setattr__")))
    (ex_BadBits : PySem.W.subIn K (.ref C_BadBits) (.type "BaseException") = some true)
    (ty_BadBits : PySem.W.typeIn K (.ref C_BadBits) = some (.type "type"))
    (kc_BadBits : PySem.W.keepIn K (.ref C_BadBits) = true)
    (ga_BadBits : PySem.W.findIn K (.ref C_BadBits) "__getattribute__" = some (some (.builtin "BaseException.__getattribute__")))
    (gg_BadBits : PySem.W.findIn K (.ref C_BadBits) "__getattr__" = some none)
    (na_BadBits : PySem.W.findIn K (.ref C_BadBits) "given" = some none)
    (tk_BadBits : PySem.W.takerIn K C_BadBits "given" = some none)
    (sb_BadBits : PySem.W.subIn K (.ref C_BadBits) (.ref C_BadBits) = some true)
    (z_ValueError : PySem.W.nsIn K mainGlobals "ValueError" = some none)
    (z_bool : PySem.W.nsIn K mainGlobals "bool" = some none)
    (z_enumerate : PySem.W.nsIn K mainGlobals "enumerate" = some none)
    (z_int : PySem.W.nsIn K mainGlobals "int" = some none)
    (z_isinstance : PySem.W.nsIn K mainGlobals "isinstance" = some none)
    (z_len : PySem.W.nsIn K mainGlobals "len" = some none)
    (z_max : PySem.W.nsIn K mainGlobals "max" = some none)
    (z_min : PySem.W.nsIn K mainGlobals "min" = some none)
    (z_range : PySem.W.nsIn K mainGlobals "range" = some none)
    (z_repr : PySem.W.nsIn K mainGlobals "repr" = some none)
    (z_str : PySem.W.nsIn K mainGlobals "str" = some none)
    (ob_kt_BadSteps_int : PySem.W.kitOne K (.ref C_BadSteps) (.type "int") = some false)
    (ob_kt_BadPolynomial_int : PySem.W.kitOne K (.ref C_BadPolynomial) (.type "int") = some false)
    (ob_kt_BadDegree_int : PySem.W.kitOne K (.ref C_BadDegree) (.type "int") = some false)
    (ob_kt_BadBits_int : PySem.W.kitOne K (.ref C_BadBits) (.type "int") = some false)
    (ob_kt_BadSteps_bool : PySem.W.kitOne K (.ref C_BadSteps) (.type "bool") = some false)
    (ob_kt_BadPolynomial_bool : PySem.W.kitOne K (.ref C_BadPolynomial) (.type "bool") = some false)
    (ob_kt_BadDegree_bool : PySem.W.kitOne K (.ref C_BadDegree) (.type "bool") = some false)
    (ob_kt_BadBits_bool : PySem.W.kitOne K (.ref C_BadBits) (.type "bool") = some false)
    (ob_kt_NoneType_BadPolynomial : PySem.W.kitOne K (.type "NoneType") (.ref C_BadPolynomial) = some false)
    (ob_kt_bool_BadPolynomial : PySem.W.kitOne K (.type "bool") (.ref C_BadPolynomial) = some false)
    (ob_kt_int_BadPolynomial : PySem.W.kitOne K (.type "int") (.ref C_BadPolynomial) = some false)
    (ob_kt_str_BadPolynomial : PySem.W.kitOne K (.type "str") (.ref C_BadPolynomial) = some false)
    (ob_kt_tuple_BadPolynomial : PySem.W.kitOne K (.type "tuple") (.ref C_BadPolynomial) = some false)
    (ob_kt_list_BadPolynomial : PySem.W.kitOne K (.type "list") (.ref C_BadPolynomial) = some false)
    (ob_kt_dict_BadPolynomial : PySem.W.kitOne K (.type "dict") (.ref C_BadPolynomial) = some false)
    (ob_kt_BadSteps_BadPolynomial : PySem.W.kitOne K (.ref C_BadSteps) (.ref C_BadPolynomial) = some false)
    (ob_kt_BadDegree_BadPolynomial : PySem.W.kitOne K (.ref C_BadDegree) (.ref C_BadPolynomial) = some false)
    (ob_kt_BadBits_BadPolynomial : PySem.W.kitOne K (.ref C_BadBits) (.ref C_BadPolynomial) = some false)
    (ob_kt_NoneType_BadDegree : PySem.W.kitOne K (.type "NoneType") (.ref C_BadDegree) = some false)
    (ob_kt_bool_BadDegree : PySem.W.kitOne K (.type "bool") (.ref C_BadDegree) = some false)
    (ob_kt_int_BadDegree : PySem.W.kitOne K (.type "int") (.ref C_BadDegree) = some false)
    (ob_kt_str_BadDegree : PySem.W.kitOne K (.type "str") (.ref C_BadDegree) = some false)
    (ob_kt_tuple_BadDegree : PySem.W.kitOne K (.type "tuple") (.ref C_BadDegree) = some false)
    (ob_kt_list_BadDegree : PySem.W.kitOne K (.type "list") (.ref C_BadDegree) = some false)
    (ob_kt_dict_BadDegree : PySem.W.kitOne K (.type "dict") (.ref C_BadDegree) = some false)
    (ob_kt_BadSteps_BadDegree : PySem.W.kitOne K (.ref C_BadSteps) (.ref C_BadDegree) = some false)
    (ob_kt_BadPolynomial_BadDegree : PySem.W.kitOne K (.ref C_BadPolynomial) (.ref C_BadDegree) = some false)
    (ob_kt_BadBits_BadDegree : PySem.W.kitOne K (.ref C_BadBits) (.ref C_BadDegree) = some false)
    (ob_kt_NoneType_BadBits : PySem.W.kitOne K (.type "NoneType") (.ref C_BadBits) = some false)
    (ob_kt_bool_BadBits : PySem.W.kitOne K (.type "bool") (.ref C_BadBits) = some false)
    (ob_kt_int_BadBits : PySem.W.kitOne K (.type "int") (.ref C_BadBits) = some false)
    (ob_kt_str_BadBits : PySem.W.kitOne K (.type "str") (.ref C_BadBits) = some false)
    (ob_kt_tuple_BadBits : PySem.W.kitOne K (.type "tuple") (.ref C_BadBits) = some false)
    (ob_kt_list_BadBits : PySem.W.kitOne K (.type "list") (.ref C_BadBits) = some false)
    (ob_kt_dict_BadBits : PySem.W.kitOne K (.type "dict") (.ref C_BadBits) = some false)
    (ob_kt_BadSteps_BadBits : PySem.W.kitOne K (.ref C_BadSteps) (.ref C_BadBits) = some false)
    (ob_kt_BadPolynomial_BadBits : PySem.W.kitOne K (.ref C_BadPolynomial) (.ref C_BadBits) = some false)
    (ob_kt_BadDegree_BadBits : PySem.W.kitOne K (.ref C_BadDegree) (.ref C_BadBits) = some false)
    (ob_kt_NoneType_BadSteps : PySem.W.kitOne K (.type "NoneType") (.ref C_BadSteps) = some false)
    (ob_kt_bool_BadSteps : PySem.W.kitOne K (.type "bool") (.ref C_BadSteps) = some false)
    (ob_kt_int_BadSteps : PySem.W.kitOne K (.type "int") (.ref C_BadSteps) = some false)
    (ob_kt_str_BadSteps : PySem.W.kitOne K (.type "str") (.ref C_BadSteps) = some false)
    (ob_kt_tuple_BadSteps : PySem.W.kitOne K (.type "tuple") (.ref C_BadSteps) = some false)
    (ob_kt_list_BadSteps : PySem.W.kitOne K (.type "list") (.ref C_BadSteps) = some false)
    (ob_kt_dict_BadSteps : PySem.W.kitOne K (.type "dict") (.ref C_BadSteps) = some false)
    (ob_kt_BadPolynomial_BadSteps : PySem.W.kitOne K (.ref C_BadPolynomial) (.ref C_BadSteps) = some false)
    (ob_kt_BadDegree_BadSteps : PySem.W.kitOne K (.ref C_BadDegree) (.ref C_BadSteps) = some false)
    (ob_kt_BadBits_BadSteps : PySem.W.kitOne K (.ref C_BadBits) (.ref C_BadSteps) = some false)
    (ob_kt_BadSteps_ValueError : PySem.W.kitOne K (.ref C_BadSteps) (.type "ValueError") = some true)
    (ob_kt_BadPolynomial_ValueError : PySem.W.kitOne K (.ref C_BadPolynomial) (.type "ValueError") = some true)
    (ob_kt_BadDegree_ValueError : PySem.W.kitOne K (.ref C_BadDegree) (.type "ValueError") = some true)
    (ob_kt_BadBits_ValueError : PySem.W.kitOne K (.ref C_BadBits) (.type "ValueError") = some true)
    : Txt K mg C_DrawError C_BadSteps C_BadPolynomial C_BadDegree C_BadBits CO__law_odds_right :=
  { d_BadSteps___init__ := ⟨f_BadSteps___init__, _, a_BadSteps___init__, ti_BadSteps___init__, ⟨⟨oc_BadSteps___init__, od_BadSteps___init__, .none, kV_BadSteps___init__, dc_BadSteps___init__, pm_BadSteps___init__, an_BadSteps___init__, cd_BadSteps___init__, ct_BadSteps___init__, sl_BadSteps___init__, rfl, l_BadSteps___init__, c_BadSteps___init__⟩⟩, C8.Fun.binds (x := "__init__") (qual := "BadSteps.__init__") (st := s_BadSteps___init__) (f := f_BadSteps___init__) ⟨⟨oc_BadSteps___init__, od_BadSteps___init__, .none, kV_BadSteps___init__, dc_BadSteps___init__, pm_BadSteps___init__, an_BadSteps___init__, cd_BadSteps___init__, ct_BadSteps___init__, sl_BadSteps___init__, rfl, l_BadSteps___init__, c_BadSteps___init__⟩⟩ rfl (fun _ _ _ _ _ _ us hl => match us, hl with | [_, _], _ => rfl)⟩,
    d_BadPolynomial___init__ := ⟨f_BadPolynomial___init__, _, a_BadPolynomial___init__, ti_BadPolynomial___init__, ⟨⟨oc_BadPolynomial___init__, od_BadPolynomial___init__, .none, kV_BadPolynomial___init__, dc_BadPolynomial___init__, pm_BadPolynomial___init__, an_BadPolynomial___init__, cd_BadPolynomial___init__, ct_BadPolynomial___init__, sl_BadPolynomial___init__, rfl, l_BadPolynomial___init__, c_BadPolynomial___init__⟩⟩, C8.Fun.binds (x := "__init__") (qual := "BadPolynomial.__init__") (st := s_BadPolynomial___init__) (f := f_BadPolynomial___init__) ⟨⟨oc_BadPolynomial___init__, od_BadPolynomial___init__, .none, kV_BadPolynomial___init__, dc_BadPolynomial___init__, pm_BadPolynomial___init__, an_BadPolynomial___init__, cd_BadPolynomial___init__, ct_BadPolynomial___init__, sl_BadPolynomial___init__, rfl, l_BadPolynomial___init__, c_BadPolynomial___init__⟩⟩ rfl (fun _ _ _ _ _ _ us hl => match us, hl with | [_, _], _ => rfl)⟩,
    d_BadDegree___init__ := ⟨f_BadDegree___init__, _, a_BadDegree___init__, ti_BadDegree___init__, ⟨⟨oc_BadDegree___init__, od_BadDegree___init__, .none, kV_BadDegree___init__, dc_BadDegree___init__, pm_BadDegree___init__, an_BadDegree___init__, cd_BadDegree___init__, ct_BadDegree___init__, sl_BadDegree___init__, rfl, l_BadDegree___init__, c_BadDegree___init__⟩⟩, C8.Fun.binds (x := "__init__") (qual := "BadDegree.__init__") (st := s_BadDegree___init__) (f := f_BadDegree___init__) ⟨⟨oc_BadDegree___init__, od_BadDegree___init__, .none, kV_BadDegree___init__, dc_BadDegree___init__, pm_BadDegree___init__, an_BadDegree___init__, cd_BadDegree___init__, ct_BadDegree___init__, sl_BadDegree___init__, rfl, l_BadDegree___init__, c_BadDegree___init__⟩⟩ rfl (fun _ _ _ _ _ _ us hl => match us, hl with | [_, _], _ => rfl)⟩,
    d_BadBits___init__ := ⟨f_BadBits___init__, _, a_BadBits___init__, ti_BadBits___init__, ⟨⟨oc_BadBits___init__, od_BadBits___init__, .none, kV_BadBits___init__, dc_BadBits___init__, pm_BadBits___init__, an_BadBits___init__, cd_BadBits___init__, ct_BadBits___init__, sl_BadBits___init__, rfl, l_BadBits___init__, c_BadBits___init__⟩⟩, C8.Fun.binds (x := "__init__") (qual := "BadBits.__init__") (st := s_BadBits___init__) (f := f_BadBits___init__) ⟨⟨oc_BadBits___init__, od_BadBits___init__, .none, kV_BadBits___init__, dc_BadBits___init__, pm_BadBits___init__, an_BadBits___init__, cd_BadBits___init__, ct_BadBits___init__, sl_BadBits___init__, rfl, l_BadBits___init__, c_BadBits___init__⟩⟩ rfl (fun _ _ _ _ _ _ us hl => match us, hl with | [_, _], _ => rfl)⟩,
    d_is_integer := ⟨f_is_integer, _, ⟨⟨⟨oc_is_integer, od_is_integer, .none, kV_is_integer, dc_is_integer, pm_is_integer, an_is_integer, cd_is_integer, ct_is_integer, sl_is_integer, rfl, l_is_integer, c_is_integer⟩⟩, PySem.W.mg_of X G a_is_integer, k_is_integer⟩, C8.Fun.binds (x := "is_integer") (qual := "is_integer") (st := s_is_integer) (f := f_is_integer) ⟨⟨oc_is_integer, od_is_integer, .none, kV_is_integer, dc_is_integer, pm_is_integer, an_is_integer, cd_is_integer, ct_is_integer, sl_is_integer, rfl, l_is_integer, c_is_integer⟩⟩ rfl (fun _ _ _ _ _ _ us hl => match us, hl with | [_], _ => rfl)⟩,
    d_s3_is_whole := ⟨f_s3_is_whole, _, ⟨⟨⟨oc_s3_is_whole, od_s3_is_whole, .none, kV_s3_is_whole, dc_s3_is_whole, pm_s3_is_whole, an_s3_is_whole, cd_s3_is_whole, ct_s3_is_whole, sl_s3_is_whole, rfl, l_s3_is_whole, c_s3_is_whole⟩⟩, PySem.W.mg_of X G a_s3_is_whole, k_s3_is_whole⟩, C8.Fun.binds (x := "s3_is_whole") (qual := "s3_is_whole") (st := s_s3_is_whole) (f := f_s3_is_whole) ⟨⟨oc_s3_is_whole, od_s3_is_whole, .none, kV_s3_is_whole, dc_s3_is_whole, pm_s3_is_whole, an_s3_is_whole, cd_s3_is_whole, ct_s3_is_whole, sl_s3_is_whole, rfl, l_s3_is_whole, c_s3_is_whole⟩⟩ rfl (fun _ _ _ _ _ _ us hl => match us, hl with | [_, _, _], _ => rfl)⟩,
    d_is_polynomial := ⟨f_is_polynomial, _, ⟨⟨⟨oc_is_polynomial, od_is_polynomial, .none, kV_is_polynomial, dc_is_polynomial, pm_is_polynomial, an_is_polynomial, cd_is_polynomial, ct_is_polynomial, sl_is_polynomial, rfl, l_is_polynomial, c_is_polynomial⟩⟩, PySem.W.mg_of X G a_is_polynomial, k_is_polynomial⟩, C8.Fun.binds (x := "is_polynomial") (qual := "is_polynomial") (st := s_is_polynomial) (f := f_is_polynomial) ⟨⟨oc_is_polynomial, od_is_polynomial, .none, kV_is_polynomial, dc_is_polynomial, pm_is_polynomial, an_is_polynomial, cd_is_polynomial, ct_is_polynomial, sl_is_polynomial, rfl, l_is_polynomial, c_is_polynomial⟩⟩ rfl (fun _ _ _ _ _ _ us hl => match us, hl with | [_], _ => rfl)⟩,
    dk_is_polynomial_k0_value := ⟨f_is_polynomial, _, ⟨⟨⟨oc_is_polynomial, od_is_polynomial, .none, kV_is_polynomial, dc_is_polynomial, pm_is_polynomial, an_is_polynomial, cd_is_polynomial, ct_is_polynomial, sl_is_polynomial, rfl, l_is_polynomial, c_is_polynomial⟩⟩, PySem.W.mg_of X G a_is_polynomial, k_is_polynomial⟩, Kw.bindsK (x := "is_polynomial") (qual := "is_polynomial") (st := s_is_polynomial) (f := f_is_polynomial) ⟨⟨oc_is_polynomial, od_is_polynomial, .none, kV_is_polynomial, dc_is_polynomial, pm_is_polynomial, an_is_polynomial, cd_is_polynomial, ct_is_polynomial, sl_is_polynomial, rfl, l_is_polynomial, c_is_polynomial⟩⟩ rfl (fun _ _ _ _ _ _ us ks h1 h2 => match us, ks, h1, h2 with | [], [_], _, _ => rfl)⟩,
    d_s3_need := ⟨f_s3_need, _, ⟨⟨⟨oc_s3_need, od_s3_need, .none, kV_s3_need, dc_s3_need, pm_s3_need, an_s3_need, cd_s3_need, ct_s3_need, sl_s3_need, rfl, l_s3_need, c_s3_need⟩⟩, PySem.W.mg_of X G a_s3_need, k_s3_need⟩, Gx.starB_of rfl (fun _ _ => rfl)⟩,
    d_s3_product := ⟨f_s3_product, _, ⟨⟨⟨oc_s3_product, od_s3_product, .none, kV_s3_product, dc_s3_product, pm_s3_product, an_s3_product, cd_s3_product, ct_s3_product, sl_s3_product, rfl, l_s3_product, c_s3_product⟩⟩, PySem.W.mg_of X G a_s3_product, k_s3_product⟩, C8.Fun.binds (x := "s3_product") (qual := "s3_product") (st := s_s3_product) (f := f_s3_product) ⟨⟨oc_s3_product, od_s3_product, .none, kV_s3_product, dc_s3_product, pm_s3_product, an_s3_product, cd_s3_product, ct_s3_product, sl_s3_product, rfl, l_s3_product, c_s3_product⟩⟩ rfl (fun _ _ _ _ _ _ us hl => match us, hl with | [_, _], _ => rfl)⟩,
    d_degree := ⟨f_degree, _, ⟨⟨⟨oc_degree, od_degree, .none, kV_degree, dc_degree, pm_degree, an_degree, cd_degree, ct_degree, sl_degree, rfl, l_degree, c_degree⟩⟩, PySem.W.mg_of X G a_degree, k_degree⟩, C8.Fun.binds (x := "degree") (qual := "degree") (st := s_degree) (f := f_degree) ⟨⟨oc_degree, od_degree, .none, kV_degree, dc_degree, pm_degree, an_degree, cd_degree, ct_degree, sl_degree, rfl, l_degree, c_degree⟩⟩ rfl (fun _ _ _ _ _ _ us hl => match us, hl with | [_], _ => rfl)⟩,
    dk_degree_k0_number := ⟨f_degree, _, ⟨⟨⟨oc_degree, od_degree, .none, kV_degree, dc_degree, pm_degree, an_degree, cd_degree, ct_degree, sl_degree, rfl, l_degree, c_degree⟩⟩, PySem.W.mg_of X G a_degree, k_degree⟩, Kw.bindsK (x := "degree") (qual := "degree") (st := s_degree) (f := f_degree) ⟨⟨oc_degree, od_degree, .none, kV_degree, dc_degree, pm_degree, an_degree, cd_degree, ct_degree, sl_degree, rfl, l_degree, c_degree⟩⟩ rfl (fun _ _ _ _ _ _ us ks h1 h2 => match us, ks, h1, h2 with | [], [_], _, _ => rfl)⟩,
    d_added := ⟨f_added, _, ⟨⟨⟨oc_added, od_added, .none, kV_added, dc_added, pm_added, an_added, cd_added, ct_added, sl_added, rfl, l_added, c_added⟩⟩, PySem.W.mg_of X G a_added, k_added⟩, C8.Fun.binds (x := "added") (qual := "added") (st := s_added) (f := f_added) ⟨⟨oc_added, od_added, .none, kV_added, dc_added, pm_added, an_added, cd_added, ct_added, sl_added, rfl, l_added, c_added⟩⟩ rfl (fun _ _ _ _ _ _ us hl => match us, hl with | [_, _], _ => rfl)⟩,
    dk_added_k0_second_first := ⟨f_added, _, ⟨⟨⟨oc_added, od_added, .none, kV_added, dc_added, pm_added, an_added, cd_added, ct_added, sl_added, rfl, l_added, c_added⟩⟩, PySem.W.mg_of X G a_added, k_added⟩, Kw.bindsK (x := "added") (qual := "added") (st := s_added) (f := f_added) ⟨⟨oc_added, od_added, .none, kV_added, dc_added, pm_added, an_added, cd_added, ct_added, sl_added, rfl, l_added, c_added⟩⟩ rfl (fun _ _ _ _ _ _ us ks h1 h2 => match us, ks, h1, h2 with | [], [_, _], _, _ => rfl)⟩,
    d_multiplied := ⟨f_multiplied, _, ⟨⟨⟨oc_multiplied, od_multiplied, .none, kV_multiplied, dc_multiplied, pm_multiplied, an_multiplied, cd_multiplied, ct_multiplied, sl_multiplied, rfl, l_multiplied, c_multiplied⟩⟩, PySem.W.mg_of X G a_multiplied, k_multiplied⟩, C8.Fun.binds (x := "multiplied") (qual := "multiplied") (st := s_multiplied) (f := f_multiplied) ⟨⟨oc_multiplied, od_multiplied, .none, kV_multiplied, dc_multiplied, pm_multiplied, an_multiplied, cd_multiplied, ct_multiplied, sl_multiplied, rfl, l_multiplied, c_multiplied⟩⟩ rfl (fun _ _ _ _ _ _ us hl => match us, hl with | [_, _], _ => rfl)⟩,
    dk_multiplied_k0_second_first := ⟨f_multiplied, _, ⟨⟨⟨oc_multiplied, od_multiplied, .none, kV_multiplied, dc_multiplied, pm_multiplied, an_multiplied, cd_multiplied, ct_multiplied, sl_multiplied, rfl, l_multiplied, c_multiplied⟩⟩, PySem.W.mg_of X G a_multiplied, k_multiplied⟩, Kw.bindsK (x := "multiplied") (qual := "multiplied") (st := s_multiplied) (f := f_multiplied) ⟨⟨oc_multiplied, od_multiplied, .none, kV_multiplied, dc_multiplied, pm_multiplied, an_multiplied, cd_multiplied, ct_multiplied, sl_multiplied, rfl, l_multiplied, c_multiplied⟩⟩ rfl (fun _ _ _ _ _ _ us ks h1 h2 => match us, ks, h1, h2 with | [], [_, _], _, _ => rfl)⟩,
    d_s3_term := ⟨f_s3_term, _, ⟨⟨⟨oc_s3_term, od_s3_term, .none, kV_s3_term, dc_s3_term, pm_s3_term, an_s3_term, cd_s3_term, ct_s3_term, sl_s3_term, rfl, l_s3_term, c_s3_term⟩⟩, PySem.W.mg_of X G a_s3_term, k_s3_term⟩, C8.Fun.binds (x := "s3_term") (qual := "s3_term") (st := s_s3_term) (f := f_s3_term) ⟨⟨oc_s3_term, od_s3_term, .none, kV_s3_term, dc_s3_term, pm_s3_term, an_s3_term, cd_s3_term, ct_s3_term, sl_s3_term, rfl, l_s3_term, c_s3_term⟩⟩ rfl (fun _ _ _ _ _ _ us hl => match us, hl with | [_], _ => rfl)⟩,
    d_polynomial_text := ⟨f_polynomial_text, _, ⟨⟨⟨oc_polynomial_text, od_polynomial_text, .none, kV_polynomial_text, dc_polynomial_text, pm_polynomial_text, an_polynomial_text, cd_polynomial_text, ct_polynomial_text, sl_polynomial_text, rfl, l_polynomial_text, c_polynomial_text⟩⟩, PySem.W.mg_of X G a_polynomial_text, k_polynomial_text⟩, C8.Fun.binds (x := "polynomial_text") (qual := "polynomial_text") (st := s_polynomial_text) (f := f_polynomial_text) ⟨⟨oc_polynomial_text, od_polynomial_text, .none, kV_polynomial_text, dc_polynomial_text, pm_polynomial_text, an_polynomial_text, cd_polynomial_text, ct_polynomial_text, sl_polynomial_text, rfl, l_polynomial_text, c_polynomial_text⟩⟩ rfl (fun _ _ _ _ _ _ us hl => match us, hl with | [_], _ => rfl)⟩,
    dk_polynomial_text_k0_number := ⟨f_polynomial_text, _, ⟨⟨⟨oc_polynomial_text, od_polynomial_text, .none, kV_polynomial_text, dc_polynomial_text, pm_polynomial_text, an_polynomial_text, cd_polynomial_text, ct_polynomial_text, sl_polynomial_text, rfl, l_polynomial_text, c_polynomial_text⟩⟩, PySem.W.mg_of X G a_polynomial_text, k_polynomial_text⟩, Kw.bindsK (x := "polynomial_text") (qual := "polynomial_text") (st := s_polynomial_text) (f := f_polynomial_text) ⟨⟨oc_polynomial_text, od_polynomial_text, .none, kV_polynomial_text, dc_polynomial_text, pm_polynomial_text, an_polynomial_text, cd_polynomial_text, ct_polynomial_text, sl_polynomial_text, rfl, l_polynomial_text, c_polynomial_text⟩⟩ rfl (fun _ _ _ _ _ _ us ks h1 h2 => match us, ks, h1, h2 with | [], [_], _, _ => rfl)⟩,
    d__law_begun := ⟨f__law_begun, _, ⟨⟨⟨oc__law_begun, od__law_begun, .none, kV__law_begun, dc__law_begun, pm__law_begun, an__law_begun, cd__law_begun, ct__law_begun, sl__law_begun, rfl, l__law_begun, c__law_begun⟩⟩, PySem.W.mg_of X G a__law_begun, k__law_begun⟩, C8.Fun.binds (x := "_law_begun") (qual := "_law_begun") (st := s__law_begun) (f := f__law_begun) ⟨⟨oc__law_begun, od__law_begun, .none, kV__law_begun, dc__law_begun, pm__law_begun, an__law_begun, cd__law_begun, ct__law_begun, sl__law_begun, rfl, l__law_begun, c__law_begun⟩⟩ rfl (fun _ _ _ _ _ _ us hl => match us, hl with | [_], _ => rfl)⟩,
    d__law_next := ⟨f__law_next, _, ⟨⟨⟨oc__law_next, od__law_next, .none, kV__law_next, dc__law_next, pm__law_next, an__law_next, cd__law_next, ct__law_next, sl__law_next, rfl, l__law_next, c__law_next⟩⟩, PySem.W.mg_of X G a__law_next, k__law_next⟩, C8.Fun.binds (x := "_law_next") (qual := "_law_next") (st := s__law_next) (f := f__law_next) ⟨⟨oc__law_next, od__law_next, .none, kV__law_next, dc__law_next, pm__law_next, an__law_next, cd__law_next, ct__law_next, sl__law_next, rfl, l__law_next, c__law_next⟩⟩ rfl (fun _ _ _ _ _ _ us hl => match us, hl with | [_, _], _ => rfl)⟩,
    d__law_fault := ⟨f__law_fault, _, ⟨⟨⟨oc__law_fault, od__law_fault, .none, kV__law_fault, dc__law_fault, pm__law_fault, an__law_fault, cd__law_fault, ct__law_fault, sl__law_fault, rfl, l__law_fault, c__law_fault⟩⟩, PySem.W.mg_of X G a__law_fault, k__law_fault⟩, C8.Fun.binds (x := "_law_fault") (qual := "_law_fault") (st := s__law_fault) (f := f__law_fault) ⟨⟨oc__law_fault, od__law_fault, .none, kV__law_fault, dc__law_fault, pm__law_fault, an__law_fault, cd__law_fault, ct__law_fault, sl__law_fault, rfl, l__law_fault, c__law_fault⟩⟩ rfl (fun _ _ _ _ _ _ us hl => match us, hl with | [_], _ => rfl)⟩,
    d__law_places := ⟨f__law_places, _, ⟨⟨⟨oc__law_places, od__law_places, .none, kV__law_places, dc__law_places, pm__law_places, an__law_places, cd__law_places, ct__law_places, sl__law_places, rfl, l__law_places, c__law_places⟩⟩, PySem.W.mg_of X G a__law_places, k__law_places⟩, C8.Fun.binds (x := "_law_places") (qual := "_law_places") (st := s__law_places) (f := f__law_places) ⟨⟨oc__law_places, od__law_places, .none, kV__law_places, dc__law_places, pm__law_places, an__law_places, cd__law_places, ct__law_places, sl__law_places, rfl, l__law_places, c__law_places⟩⟩ rfl (fun _ _ _ _ _ _ us hl => match us, hl with | [_], _ => rfl)⟩,
    d__law_number := ⟨f__law_number, _, ⟨⟨⟨oc__law_number, od__law_number, .none, kV__law_number, dc__law_number, pm__law_number, an__law_number, cd__law_number, ct__law_number, sl__law_number, rfl, l__law_number, c__law_number⟩⟩, PySem.W.mg_of X G a__law_number, k__law_number⟩, C8.Fun.binds (x := "_law_number") (qual := "_law_number") (st := s__law_number) (f := f__law_number) ⟨⟨oc__law_number, od__law_number, .none, kV__law_number, dc__law_number, pm__law_number, an__law_number, cd__law_number, ct__law_number, sl__law_number, rfl, l__law_number, c__law_number⟩⟩ rfl (fun _ _ _ _ _ _ us hl => match us, hl with | [_], _ => rfl)⟩,
    d__law_times := ⟨f__law_times, _, ⟨⟨⟨oc__law_times, od__law_times, .none, kV__law_times, dc__law_times, pm__law_times, an__law_times, cd__law_times, ct__law_times, sl__law_times, rfl, l__law_times, c__law_times⟩⟩, PySem.W.mg_of X G a__law_times, k__law_times⟩, C8.Fun.binds (x := "_law_times") (qual := "_law_times") (st := s__law_times) (f := f__law_times) ⟨⟨oc__law_times, od__law_times, .none, kV__law_times, dc__law_times, pm__law_times, an__law_times, cd__law_times, ct__law_times, sl__law_times, rfl, l__law_times, c__law_times⟩⟩ rfl (fun _ _ _ _ _ _ us hl => match us, hl with | [_, _], _ => rfl)⟩,
    d__law_poly := ⟨f__law_poly, _, ⟨⟨⟨oc__law_poly, od__law_poly, .none, kV__law_poly, dc__law_poly, pm__law_poly, an__law_poly, cd__law_poly, ct__law_poly, sl__law_poly, rfl, l__law_poly, c__law_poly⟩⟩, PySem.W.mg_of X G a__law_poly, k__law_poly⟩, C8.Fun.binds (x := "_law_poly") (qual := "_law_poly") (st := s__law_poly) (f := f__law_poly) ⟨⟨oc__law_poly, od__law_poly, .none, kV__law_poly, dc__law_poly, pm__law_poly, an__law_poly, cd__law_poly, ct__law_poly, sl__law_poly, rfl, l__law_poly, c__law_poly⟩⟩ rfl (fun _ _ _ _ _ _ us hl => match us, hl with | [_, _], _ => rfl)⟩,
    d__law_odd := ⟨f__law_odd, _, ⟨⟨⟨oc__law_odd, od__law_odd, .none, kV__law_odd, dc__law_odd, pm__law_odd, an__law_odd, cd__law_odd, ct__law_odd, sl__law_odd, rfl, l__law_odd, c__law_odd⟩⟩, PySem.W.mg_of X G a__law_odd, k__law_odd⟩, C8.Fun.binds (x := "_law_odd") (qual := "_law_odd") (st := s__law_odd) (f := f__law_odd) ⟨⟨oc__law_odd, od__law_odd, .none, kV__law_odd, dc__law_odd, pm__law_odd, an__law_odd, cd__law_odd, ct__law_odd, sl__law_odd, rfl, l__law_odd, c__law_odd⟩⟩ rfl (fun _ _ _ _ _ _ us hl => match us, hl with | [_], _ => rfl)⟩,
    d__law_text := ⟨f__law_text, _, ⟨⟨⟨oc__law_text, od__law_text, .none, kV__law_text, dc__law_text, pm__law_text, an__law_text, cd__law_text, ct__law_text, sl__law_text, rfl, l__law_text, c__law_text⟩⟩, PySem.W.mg_of X G a__law_text, k__law_text⟩, C8.Fun.binds (x := "_law_text") (qual := "_law_text") (st := s__law_text) (f := f__law_text) ⟨⟨oc__law_text, od__law_text, .none, kV__law_text, dc__law_text, pm__law_text, an__law_text, cd__law_text, ct__law_text, sl__law_text, rfl, l__law_text, c__law_text⟩⟩ rfl (fun _ _ _ _ _ _ us hl => match us, hl with | [_], _ => rfl)⟩,
    d__law_pair_right := ⟨f__law_pair_right, _, ⟨⟨⟨oc__law_pair_right, od__law_pair_right, .none, kV__law_pair_right, dc__law_pair_right, pm__law_pair_right, an__law_pair_right, cd__law_pair_right, ct__law_pair_right, sl__law_pair_right, rfl, l__law_pair_right, c__law_pair_right⟩⟩, PySem.W.mg_of X G a__law_pair_right, k__law_pair_right⟩, C8.Fun.binds (x := "_law_pair_right") (qual := "_law_pair_right") (st := s__law_pair_right) (f := f__law_pair_right) ⟨⟨oc__law_pair_right, od__law_pair_right, .none, kV__law_pair_right, dc__law_pair_right, pm__law_pair_right, an__law_pair_right, cd__law_pair_right, ct__law_pair_right, sl__law_pair_right, rfl, l__law_pair_right, c__law_pair_right⟩⟩ rfl (fun _ _ _ _ _ _ us hl => match us, hl with | [_, _], _ => rfl)⟩,
    d__law_odds_right := ⟨f__law_odds_right, _, ⟨⟨oc__law_odds_right, od__law_odds_right, .none, kV__law_odds_right, dc__law_odds_right, pm__law_odds_right, an__law_odds_right, ct__law_odds_right, sl__law_odds_right, rfl, l__law_odds_right, c__law_odds_right⟩, PySem.W.mg_of X G a__law_odds_right, k__law_odds_right⟩, C8.Fun.binds (x := "_law_odds_right") (qual := "_law_odds_right") (st := s__law_odds_right) (f := f__law_odds_right) ⟨⟨oc__law_odds_right, od__law_odds_right, .none, kV__law_odds_right, dc__law_odds_right, pm__law_odds_right, an__law_odds_right, (.ref CO__law_odds_right), ct__law_odds_right, sl__law_odds_right, rfl, l__law_odds_right, c__law_odds_right⟩⟩ rfl (fun _ _ _ _ _ _ us hl => match us, hl with | [_, _], _ => rfl)⟩,
    d_law := ⟨f_law, _, ⟨⟨⟨oc_law, od_law, .none, kV_law, dc_law, pm_law, an_law, cd_law, ct_law, sl_law, rfl, l_law, c_law⟩⟩, PySem.W.mg_of X G a_law, k_law⟩, C8.Fun.binds (x := "law") (qual := "law") (st := s_law) (f := f_law) ⟨⟨oc_law, od_law, .none, kV_law, dc_law, pm_law, an_law, cd_law, ct_law, sl_law, rfl, l_law, c_law⟩⟩ rfl (fun _ _ _ _ _ _ us hl => match us, hl with | [_], _ => rfl), fun s v => .of_eq rfl⟩,
    c_MOST_DIGITS := ⟨_, PySem.W.mg_of X G e_MOST_DIGITS, _, rfl⟩,
    k_DrawError := ⟨_, PySem.W.mg_of X G q_DrawError, rfl⟩,
    g_DrawError := PySem.W.mg_of X G q_DrawError,
    r_DrawError := ⟨rd_DrawError, rg_DrawError⟩,
    i_DrawError := fi_DrawError,
    mm_DrawError := fun h => PySem.W.exm_ref eb_DrawError hb_DrawError tb_DrawError h,
    e_BadSteps := ⟨ga_BadSteps, gg_BadSteps, ex_BadSteps, hd_BadSteps, ha_BadSteps, hn_BadSteps, ht_BadSteps, hm_BadSteps⟩,
    s_BadSteps_DrawError := sb_BadSteps_DrawError,
    e_BadPolynomial := ⟨ga_BadPolynomial, gg_BadPolynomial, ex_BadPolynomial, hd_BadPolynomial, ha_BadPolynomial, hn_BadPolynomial, ht_BadPolynomial, hm_BadPolynomial⟩,
    s_BadPolynomial_DrawError := sb_BadPolynomial_DrawError,
    e_BadDegree := ⟨ga_BadDegree, gg_BadDegree, ex_BadDegree, hd_BadDegree, ha_BadDegree, hn_BadDegree, ht_BadDegree, hm_BadDegree⟩,
    s_BadDegree_DrawError := sb_BadDegree_DrawError,
    e_BadBits := ⟨ga_BadBits, gg_BadBits, ex_BadBits, hd_BadBits, ha_BadBits, hn_BadBits, ht_BadBits, hm_BadBits⟩,
    s_BadBits_DrawError := sb_BadBits_DrawError,
    k_BadSteps := ⟨_, PySem.W.mg_of X G q_BadSteps, rfl⟩,
    g_BadSteps := PySem.W.mg_of X G q_BadSteps,
    y_BadSteps := ⟨⟨"ValueError", "ValueError.__new__", _, PySem.F.excBase_ValueError, PySem.F.store_ValueError, in_BadSteps, ov_BadSteps⟩, hd_BadSteps, sa_BadSteps, ex_BadSteps, ty_BadSteps, kc_BadSteps⟩,
    f_BadSteps := ⟨ga_BadSteps, gg_BadSteps, ex_BadSteps, hd_BadSteps⟩,
    n_BadSteps_given := na_BadSteps,
    t_BadSteps_given := tk_BadSteps,
    m_BadSteps := PySem.W.exm_ref ex_BadSteps hd_BadSteps ty_BadSteps sb_BadSteps,
    k_BadPolynomial := ⟨_, PySem.W.mg_of X G q_BadPolynomial, rfl⟩,
    g_BadPolynomial := PySem.W.mg_of X G q_BadPolynomial,
    y_BadPolynomial := ⟨⟨"ValueError", "ValueError.__new__", _, PySem.F.excBase_ValueError, PySem.F.store_ValueError, in_BadPolynomial, ov_BadPolynomial⟩, hd_BadPolynomial, sa_BadPolynomial, ex_BadPolynomial, ty_BadPolynomial, kc_BadPolynomial⟩,
    f_BadPolynomial := ⟨ga_BadPolynomial, gg_BadPolynomial, ex_BadPolynomial, hd_BadPolynomial⟩,
    n_BadPolynomial_given := na_BadPolynomial,
    t_BadPolynomial_given := tk_BadPolynomial,
    m_BadPolynomial := PySem.W.exm_ref ex_BadPolynomial hd_BadPolynomial ty_BadPolynomial sb_BadPolynomial,
    k_BadDegree := ⟨_, PySem.W.mg_of X G q_BadDegree, rfl⟩,
    g_BadDegree := PySem.W.mg_of X G q_BadDegree,
    y_BadDegree := ⟨⟨"ValueError", "ValueError.__new__", _, PySem.F.excBase_ValueError, PySem.F.store_ValueError, in_BadDegree, ov_BadDegree⟩, hd_BadDegree, sa_BadDegree, ex_BadDegree, ty_BadDegree, kc_BadDegree⟩,
    f_BadDegree := ⟨ga_BadDegree, gg_BadDegree, ex_BadDegree, hd_BadDegree⟩,
    n_BadDegree_given := na_BadDegree,
    t_BadDegree_given := tk_BadDegree,
    m_BadDegree := PySem.W.exm_ref ex_BadDegree hd_BadDegree ty_BadDegree sb_BadDegree,
    k_BadBits := ⟨_, PySem.W.mg_of X G q_BadBits, rfl⟩,
    g_BadBits := PySem.W.mg_of X G q_BadBits,
    y_BadBits := ⟨⟨"ValueError", "ValueError.__new__", _, PySem.F.excBase_ValueError, PySem.F.store_ValueError, in_BadBits, ov_BadBits⟩, hd_BadBits, sa_BadBits, ex_BadBits, ty_BadBits, kc_BadBits⟩,
    f_BadBits := ⟨ga_BadBits, gg_BadBits, ex_BadBits, hd_BadBits⟩,
    n_BadBits_given := na_BadBits,
    t_BadBits_given := tk_BadBits,
    m_BadBits := PySem.W.exm_ref ex_BadBits hd_BadBits ty_BadBits sb_BadBits,
    b_ValueError := PySem.W.mg_none_of X G z_ValueError,
    b_bool := PySem.W.mg_none_of X G z_bool,
    b_enumerate := PySem.W.mg_none_of X G z_enumerate,
    b_int := PySem.W.mg_none_of X G z_int,
    b_isinstance := PySem.W.mg_none_of X G z_isinstance,
    b_len := PySem.W.mg_none_of X G z_len,
    b_max := PySem.W.mg_none_of X G z_max,
    b_min := PySem.W.mg_none_of X G z_min,
    b_range := PySem.W.mg_none_of X G z_range,
    b_repr := PySem.W.mg_none_of X G z_repr,
    b_str := PySem.W.mg_none_of X G z_str,
    kt_BadSteps_int := ob_kt_BadSteps_int,
    kt_BadPolynomial_int := ob_kt_BadPolynomial_int,
    kt_BadDegree_int := ob_kt_BadDegree_int,
    kt_BadBits_int := ob_kt_BadBits_int,
    kt_BadSteps_bool := ob_kt_BadSteps_bool,
    kt_BadPolynomial_bool := ob_kt_BadPolynomial_bool,
    kt_BadDegree_bool := ob_kt_BadDegree_bool,
    kt_BadBits_bool := ob_kt_BadBits_bool,
    kt_NoneType_BadPolynomial := ob_kt_NoneType_BadPolynomial,
    kt_bool_BadPolynomial := ob_kt_bool_BadPolynomial,
    kt_int_BadPolynomial := ob_kt_int_BadPolynomial,
    kt_str_BadPolynomial := ob_kt_str_BadPolynomial,
    kt_tuple_BadPolynomial := ob_kt_tuple_BadPolynomial,
    kt_list_BadPolynomial := ob_kt_list_BadPolynomial,
    kt_dict_BadPolynomial := ob_kt_dict_BadPolynomial,
    kt_BadSteps_BadPolynomial := ob_kt_BadSteps_BadPolynomial,
    kt_BadDegree_BadPolynomial := ob_kt_BadDegree_BadPolynomial,
    kt_BadBits_BadPolynomial := ob_kt_BadBits_BadPolynomial,
    kt_NoneType_BadDegree := ob_kt_NoneType_BadDegree,
    kt_bool_BadDegree := ob_kt_bool_BadDegree,
    kt_int_BadDegree := ob_kt_int_BadDegree,
    kt_str_BadDegree := ob_kt_str_BadDegree,
    kt_tuple_BadDegree := ob_kt_tuple_BadDegree,
    kt_list_BadDegree := ob_kt_list_BadDegree,
    kt_dict_BadDegree := ob_kt_dict_BadDegree,
    kt_BadSteps_BadDegree := ob_kt_BadSteps_BadDegree,
    kt_BadPolynomial_BadDegree := ob_kt_BadPolynomial_BadDegree,
    kt_BadBits_BadDegree := ob_kt_BadBits_BadDegree,
    kt_NoneType_BadBits := ob_kt_NoneType_BadBits,
    kt_bool_BadBits := ob_kt_bool_BadBits,
    kt_int_BadBits := ob_kt_int_BadBits,
    kt_str_BadBits := ob_kt_str_BadBits,
    kt_tuple_BadBits := ob_kt_tuple_BadBits,
    kt_list_BadBits := ob_kt_list_BadBits,
    kt_dict_BadBits := ob_kt_dict_BadBits,
    kt_BadSteps_BadBits := ob_kt_BadSteps_BadBits,
    kt_BadPolynomial_BadBits := ob_kt_BadPolynomial_BadBits,
    kt_BadDegree_BadBits := ob_kt_BadDegree_BadBits,
    kt_NoneType_BadSteps := ob_kt_NoneType_BadSteps,
    kt_bool_BadSteps := ob_kt_bool_BadSteps,
    kt_int_BadSteps := ob_kt_int_BadSteps,
    kt_str_BadSteps := ob_kt_str_BadSteps,
    kt_tuple_BadSteps := ob_kt_tuple_BadSteps,
    kt_list_BadSteps := ob_kt_list_BadSteps,
    kt_dict_BadSteps := ob_kt_dict_BadSteps,
    kt_BadPolynomial_BadSteps := ob_kt_BadPolynomial_BadSteps,
    kt_BadDegree_BadSteps := ob_kt_BadDegree_BadSteps,
    kt_BadBits_BadSteps := ob_kt_BadBits_BadSteps,
    kt_BadSteps_ValueError := ob_kt_BadSteps_ValueError,
    kt_BadPolynomial_ValueError := ob_kt_BadPolynomial_ValueError,
    kt_BadDegree_ValueError := ob_kt_BadDegree_ValueError,
    kt_BadBits_ValueError := ob_kt_BadBits_ValueError }
end Pf
open PySem PySem.W PyProof.Rows
set_option maxRecDepth 100000 in
set_option maxHeartbeats 0 in
theorem PySem.Challenge.cw_drawstate_k19_sums_and_products_holds : PySem.Challenge.rw_drawstate_k19_sums_and_products.Holds := by
  refine Pf.hd ?_
  k_fill
  refine Gx.walkF (l := PySem.Challenge.rw_drawstate_k19_sums_and_products) (k := 10) (x := "_law_script") rfl rfl ⟨rfl, by decide, by decide⟩ (fun w h Y => PySem.W.km_in_of Y) ?F
  case F =>
    intro w mg fa h Y KX G hmg
    refine' Pf.law_mk hmg (Pf.txt_mk KX G ?a_BadSteps___init__ ?ti_BadSteps___init__ ?l_BadSteps___init__ ?c_BadSteps___init__ ?a_BadPolynomial___init__ ?ti_BadPolynomial___init__ ?l_BadPolynomial___init__ ?c_BadPolynomial___init__ ?a_BadDegree___init__ ?ti_BadDegree___init__ ?l_BadDegree___init__ ?c_BadDegree___init__ ?a_BadBits___init__ ?ti_BadBits___init__ ?l_BadBits___init__ ?c_BadBits___init__ ?a_is_integer ?l_is_integer ?c_is_integer ?k_is_integer ?a_s3_is_whole ?l_s3_is_whole ?c_s3_is_whole ?k_s3_is_whole ?a_is_polynomial ?l_is_polynomial ?c_is_polynomial ?k_is_polynomial ?a_s3_need ?l_s3_need ?c_s3_need ?k_s3_need ?a_s3_product ?l_s3_product ?c_s3_product ?k_s3_product ?a_degree ?l_degree ?c_degree ?k_degree ?a_added ?l_added ?c_added ?k_added ?a_multiplied ?l_multiplied ?c_multiplied ?k_multiplied ?a_s3_term ?l_s3_term ?c_s3_term ?k_s3_term ?a_polynomial_text ?l_polynomial_text ?c_polynomial_text ?k_polynomial_text ?a__law_begun ?l__law_begun ?c__law_begun ?k__law_begun ?a__law_next ?l__law_next ?c__law_next ?k__law_next ?a__law_fault ?l__law_fault ?c__law_fault ?k__law_fault ?a__law_places ?l__law_places ?c__law_places ?k__law_places ?a__law_number ?l__law_number ?c__law_number ?k__law_number ?a__law_times ?l__law_times ?c__law_times ?k__law_times ?a__law_poly ?l__law_poly ?c__law_poly ?k__law_poly ?a__law_odd ?l__law_odd ?c__law_odd ?k__law_odd ?a__law_text ?l__law_text ?c__law_text ?k__law_text ?a__law_pair_right ?l__law_pair_right ?c__law_pair_right ?k__law_pair_right ?a__law_odds_right ?l__law_odds_right ?c__law_odds_right ?k__law_odds_right ?a_law ?l_law ?c_law ?k_law ?e_MOST_DIGITS ?q_DrawError ?rd_DrawError ?rg_DrawError ?fi_DrawError ?eb_DrawError ?hb_DrawError ?tb_DrawError ?ha_BadSteps ?hn_BadSteps ?ht_BadSteps ?hm_BadSteps ?sb_BadSteps_DrawError ?ha_BadPolynomial ?hn_BadPolynomial ?ht_BadPolynomial ?hm_BadPolynomial ?sb_BadPolynomial_DrawError ?ha_BadDegree ?hn_BadDegree ?ht_BadDegree ?hm_BadDegree ?sb_BadDegree_DrawError ?ha_BadBits ?hn_BadBits ?ht_BadBits ?hm_BadBits ?sb_BadBits_DrawError ?q_BadSteps ?in_BadSteps ?ov_BadSteps ?hd_BadSteps ?sa_BadSteps ?ex_BadSteps ?ty_BadSteps ?kc_BadSteps ?ga_BadSteps ?gg_BadSteps ?na_BadSteps ?tk_BadSteps ?sb_BadSteps ?q_BadPolynomial ?in_BadPolynomial ?ov_BadPolynomial ?hd_BadPolynomial ?sa_BadPolynomial ?ex_BadPolynomial ?ty_BadPolynomial ?kc_BadPolynomial ?ga_BadPolynomial ?gg_BadPolynomial ?na_BadPolynomial ?tk_BadPolynomial ?sb_BadPolynomial ?q_BadDegree ?in_BadDegree ?ov_BadDegree ?hd_BadDegree ?sa_BadDegree ?ex_BadDegree ?ty_BadDegree ?kc_BadDegree ?ga_BadDegree ?gg_BadDegree ?na_BadDegree ?tk_BadDegree ?sb_BadDegree ?q_BadBits ?in_BadBits ?ov_BadBits ?hd_BadBits ?sa_BadBits ?ex_BadBits ?ty_BadBits ?kc_BadBits ?ga_BadBits ?gg_BadBits ?na_BadBits ?tk_BadBits ?sb_BadBits ?z_ValueError ?z_bool ?z_enumerate ?z_int ?z_isinstance ?z_len ?z_max ?z_min ?z_range ?z_repr ?z_str ?ob_kt_BadSteps_int ?ob_kt_BadPolynomial_int ?ob_kt_BadDegree_int ?ob_kt_BadBits_int ?ob_kt_BadSteps_bool ?ob_kt_BadPolynomial_bool ?ob_kt_BadDegree_bool ?ob_kt_BadBits_bool ?ob_kt_NoneType_BadPolynomial ?ob_kt_bool_BadPolynomial ?ob_kt_int_BadPolynomial ?ob_kt_str_BadPolynomial ?ob_kt_tuple_BadPolynomial ?ob_kt_list_BadPolynomial ?ob_kt_dict_BadPolynomial ?ob_kt_BadSteps_BadPolynomial ?ob_kt_BadDegree_BadPolynomial ?ob_kt_BadBits_BadPolynomial ?ob_kt_NoneType_BadDegree ?ob_kt_bool_BadDegree ?ob_kt_int_BadDegree ?ob_kt_str_BadDegree ?ob_kt_tuple_BadDegree ?ob_kt_list_BadDegree ?ob_kt_dict_BadDegree ?ob_kt_BadSteps_BadDegree ?ob_kt_BadPolynomial_BadDegree ?ob_kt_BadBits_BadDegree ?ob_kt_NoneType_BadBits ?ob_kt_bool_BadBits ?ob_kt_int_BadBits ?ob_kt_str_BadBits ?ob_kt_tuple_BadBits ?ob_kt_list_BadBits ?ob_kt_dict_BadBits ?ob_kt_BadSteps_BadBits ?ob_kt_BadPolynomial_BadBits ?ob_kt_BadDegree_BadBits ?ob_kt_NoneType_BadSteps ?ob_kt_bool_BadSteps ?ob_kt_int_BadSteps ?ob_kt_str_BadSteps ?ob_kt_tuple_BadSteps ?ob_kt_list_BadSteps ?ob_kt_dict_BadSteps ?ob_kt_BadPolynomial_BadSteps ?ob_kt_BadDegree_BadSteps ?ob_kt_BadBits_BadSteps ?ob_kt_BadSteps_ValueError ?ob_kt_BadPolynomial_ValueError ?ob_kt_BadDegree_ValueError ?ob_kt_BadBits_ValueError) (PySem.W.km_tabs_of Y 246 (by simp)) (by kernel_rfl) (PySem.W.codeHd_of_K KX ?hc0)
    (case q_DrawError => k_is)
    (case q_BadSteps => k_is)
    (case q_BadPolynomial => k_is)
    (case q_BadDegree => k_is)
    (case q_BadBits => k_is)
    (case a_BadSteps___init__ => k_is)
    (case ti_BadSteps___init__ => k_is)
    (case l_BadSteps___init__ => k_is)
    (case c_BadSteps___init__ => k_is)
    (case a_BadPolynomial___init__ => k_is)
    (case ti_BadPolynomial___init__ => k_is)
    (case l_BadPolynomial___init__ => k_is)
    (case c_BadPolynomial___init__ => k_is)
    (case a_BadDegree___init__ => k_is)
    (case ti_BadDegree___init__ => k_is)
    (case l_BadDegree___init__ => k_is)
    (case c_BadDegree___init__ => k_is)
    (case a_BadBits___init__ => k_is)
    (case ti_BadBits___init__ => k_is)
    (case l_BadBits___init__ => k_is)
    (case c_BadBits___init__ => k_is)
    (case a_is_integer => k_is)
    (case l_is_integer => k_is)
    (case c_is_integer => k_is)
    (case k_is_integer => k_is)
    (case a_s3_is_whole => k_is)
    (case l_s3_is_whole => k_is)
    (case c_s3_is_whole => k_is)
    (case k_s3_is_whole => k_is)
    (case a_is_polynomial => k_is)
    (case l_is_polynomial => k_is)
    (case c_is_polynomial => k_is)
    (case k_is_polynomial => k_is)
    (case a_s3_need => k_is)
    (case l_s3_need => k_is)
    (case c_s3_need => k_is)
    (case k_s3_need => k_is)
    (case a_s3_product => k_is)
    (case l_s3_product => k_is)
    (case c_s3_product => k_is)
    (case k_s3_product => k_is)
    (case a_degree => k_is)
    (case l_degree => k_is)
    (case c_degree => k_is)
    (case k_degree => k_is)
    (case a_added => k_is)
    (case l_added => k_is)
    (case c_added => k_is)
    (case k_added => k_is)
    (case a_multiplied => k_is)
    (case l_multiplied => k_is)
    (case c_multiplied => k_is)
    (case k_multiplied => k_is)
    (case a_s3_term => k_is)
    (case l_s3_term => k_is)
    (case c_s3_term => k_is)
    (case k_s3_term => k_is)
    (case a_polynomial_text => k_is)
    (case l_polynomial_text => k_is)
    (case c_polynomial_text => k_is)
    (case k_polynomial_text => k_is)
    (case a__law_begun => k_is)
    (case l__law_begun => k_is)
    (case c__law_begun => k_is)
    (case k__law_begun => k_is)
    (case a__law_next => k_is)
    (case l__law_next => k_is)
    (case c__law_next => k_is)
    (case k__law_next => k_is)
    (case a__law_fault => k_is)
    (case l__law_fault => k_is)
    (case c__law_fault => k_is)
    (case k__law_fault => k_is)
    (case a__law_places => k_is)
    (case l__law_places => k_is)
    (case c__law_places => k_is)
    (case k__law_places => k_is)
    (case a__law_number => k_is)
    (case l__law_number => k_is)
    (case c__law_number => k_is)
    (case k__law_number => k_is)
    (case a__law_times => k_is)
    (case l__law_times => k_is)
    (case c__law_times => k_is)
    (case k__law_times => k_is)
    (case a__law_poly => k_is)
    (case l__law_poly => k_is)
    (case c__law_poly => k_is)
    (case k__law_poly => k_is)
    (case a__law_odd => k_is)
    (case l__law_odd => k_is)
    (case c__law_odd => k_is)
    (case k__law_odd => k_is)
    (case a__law_text => k_is)
    (case l__law_text => k_is)
    (case c__law_text => k_is)
    (case k__law_text => k_is)
    (case a__law_pair_right => k_is)
    (case l__law_pair_right => k_is)
    (case c__law_pair_right => k_is)
    (case k__law_pair_right => k_is)
    (case a__law_odds_right => k_is)
    (case l__law_odds_right => k_is)
    (case c__law_odds_right => k_is)
    (case k__law_odds_right => k_is)
    (case a_law => k_is)
    (case l_law => k_is)
    (case c_law => k_is)
    (case k_law => k_is)
    (case e_MOST_DIGITS => k_is)
    (case rd_DrawError => k_is)
    (case rg_DrawError => k_is)
    (case fi_DrawError => k_is)
    (case eb_DrawError => k_is)
    (case hb_DrawError => k_is)
    (case tb_DrawError => k_is)
    (case ha_BadSteps => k_is)
    (case hn_BadSteps => k_is)
    (case ht_BadSteps => k_is)
    (case hm_BadSteps => k_is)
    (case sb_BadSteps_DrawError => k_is)
    (case ha_BadPolynomial => k_is)
    (case hn_BadPolynomial => k_is)
    (case ht_BadPolynomial => k_is)
    (case hm_BadPolynomial => k_is)
    (case sb_BadPolynomial_DrawError => k_is)
    (case ha_BadDegree => k_is)
    (case hn_BadDegree => k_is)
    (case ht_BadDegree => k_is)
    (case hm_BadDegree => k_is)
    (case sb_BadDegree_DrawError => k_is)
    (case ha_BadBits => k_is)
    (case hn_BadBits => k_is)
    (case ht_BadBits => k_is)
    (case hm_BadBits => k_is)
    (case sb_BadBits_DrawError => k_is)
    (case in_BadSteps => kernel_rfl)
    (case ov_BadSteps => kernel_rfl)
    (case hd_BadSteps => k_is)
    (case sa_BadSteps => k_is)
    (case ex_BadSteps => k_is)
    (case ty_BadSteps => k_is)
    (case kc_BadSteps => k_is)
    (case ga_BadSteps => k_is)
    (case gg_BadSteps => k_is)
    (case na_BadSteps => k_is)
    (case tk_BadSteps => k_is)
    (case sb_BadSteps => k_is)
    (case in_BadPolynomial => kernel_rfl)
    (case ov_BadPolynomial => kernel_rfl)
    (case hd_BadPolynomial => k_is)
    (case sa_BadPolynomial => k_is)
    (case ex_BadPolynomial => k_is)
    (case ty_BadPolynomial => k_is)
    (case kc_BadPolynomial => k_is)
    (case ga_BadPolynomial => k_is)
    (case gg_BadPolynomial => k_is)
    (case na_BadPolynomial => k_is)
    (case tk_BadPolynomial => k_is)
    (case sb_BadPolynomial => k_is)
    (case in_BadDegree => kernel_rfl)
    (case ov_BadDegree => kernel_rfl)
    (case hd_BadDegree => k_is)
    (case sa_BadDegree => k_is)
    (case ex_BadDegree => k_is)
    (case ty_BadDegree => k_is)
    (case kc_BadDegree => k_is)
    (case ga_BadDegree => k_is)
    (case gg_BadDegree => k_is)
    (case na_BadDegree => k_is)
    (case tk_BadDegree => k_is)
    (case sb_BadDegree => k_is)
    (case in_BadBits => kernel_rfl)
    (case ov_BadBits => kernel_rfl)
    (case hd_BadBits => k_is)
    (case sa_BadBits => k_is)
    (case ex_BadBits => k_is)
    (case ty_BadBits => k_is)
    (case kc_BadBits => k_is)
    (case ga_BadBits => k_is)
    (case gg_BadBits => k_is)
    (case na_BadBits => k_is)
    (case tk_BadBits => k_is)
    (case sb_BadBits => k_is)
    (case z_ValueError => k_is)
    (case z_bool => k_is)
    (case z_enumerate => k_is)
    (case z_int => k_is)
    (case z_isinstance => k_is)
    (case z_len => k_is)
    (case z_max => k_is)
    (case z_min => k_is)
    (case z_range => k_is)
    (case z_repr => k_is)
    (case z_str => k_is)
    (case ob_kt_BadSteps_int => kernel_rfl)
    (case ob_kt_BadPolynomial_int => kernel_rfl)
    (case ob_kt_BadDegree_int => kernel_rfl)
    (case ob_kt_BadBits_int => kernel_rfl)
    (case ob_kt_BadSteps_bool => kernel_rfl)
    (case ob_kt_BadPolynomial_bool => kernel_rfl)
    (case ob_kt_BadDegree_bool => kernel_rfl)
    (case ob_kt_BadBits_bool => kernel_rfl)
    (case ob_kt_NoneType_BadPolynomial => kernel_rfl)
    (case ob_kt_bool_BadPolynomial => kernel_rfl)
    (case ob_kt_int_BadPolynomial => kernel_rfl)
    (case ob_kt_str_BadPolynomial => kernel_rfl)
    (case ob_kt_tuple_BadPolynomial => kernel_rfl)
    (case ob_kt_list_BadPolynomial => kernel_rfl)
    (case ob_kt_dict_BadPolynomial => kernel_rfl)
    (case ob_kt_BadSteps_BadPolynomial => kernel_rfl)
    (case ob_kt_BadDegree_BadPolynomial => kernel_rfl)
    (case ob_kt_BadBits_BadPolynomial => kernel_rfl)
    (case ob_kt_NoneType_BadDegree => kernel_rfl)
    (case ob_kt_bool_BadDegree => kernel_rfl)
    (case ob_kt_int_BadDegree => kernel_rfl)
    (case ob_kt_str_BadDegree => kernel_rfl)
    (case ob_kt_tuple_BadDegree => kernel_rfl)
    (case ob_kt_list_BadDegree => kernel_rfl)
    (case ob_kt_dict_BadDegree => kernel_rfl)
    (case ob_kt_BadSteps_BadDegree => kernel_rfl)
    (case ob_kt_BadPolynomial_BadDegree => kernel_rfl)
    (case ob_kt_BadBits_BadDegree => kernel_rfl)
    (case ob_kt_NoneType_BadBits => kernel_rfl)
    (case ob_kt_bool_BadBits => kernel_rfl)
    (case ob_kt_int_BadBits => kernel_rfl)
    (case ob_kt_str_BadBits => kernel_rfl)
    (case ob_kt_tuple_BadBits => kernel_rfl)
    (case ob_kt_list_BadBits => kernel_rfl)
    (case ob_kt_dict_BadBits => kernel_rfl)
    (case ob_kt_BadSteps_BadBits => kernel_rfl)
    (case ob_kt_BadPolynomial_BadBits => kernel_rfl)
    (case ob_kt_BadDegree_BadBits => kernel_rfl)
    (case ob_kt_NoneType_BadSteps => kernel_rfl)
    (case ob_kt_bool_BadSteps => kernel_rfl)
    (case ob_kt_int_BadSteps => kernel_rfl)
    (case ob_kt_str_BadSteps => kernel_rfl)
    (case ob_kt_tuple_BadSteps => kernel_rfl)
    (case ob_kt_list_BadSteps => kernel_rfl)
    (case ob_kt_dict_BadSteps => kernel_rfl)
    (case ob_kt_BadPolynomial_BadSteps => kernel_rfl)
    (case ob_kt_BadDegree_BadSteps => kernel_rfl)
    (case ob_kt_BadBits_BadSteps => kernel_rfl)
    (case ob_kt_BadSteps_ValueError => kernel_rfl)
    (case ob_kt_BadPolynomial_ValueError => kernel_rfl)
    (case ob_kt_BadDegree_ValueError => kernel_rfl)
    (case ob_kt_BadBits_ValueError => kernel_rfl)
    (case hc0 => kernel_rfl)
#print axioms PySem.Challenge.cw_drawstate_k19_sums_and_products_holds
