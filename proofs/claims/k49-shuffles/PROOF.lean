import PyProof.Rows.All
import Wide.All
import OpenK.AllK
import Wide.FinOn
import PySem.Challenge.RW_drawstate_k49_shuffles_and_their_rows
import HandS.ForMost
import HandS.Exc
import HandS.Codes
import HandS.Wide
import HandS.WideBits
import HandS.IsInst
import HandS.Property
import HandS.Style
import HandS.Flow
import HandS.Small
import HandS.Lambda
import HandS.EndTab
import HandS.Walk
import HandS.GenCall
import HandS.GenList
import KE.KOpsOwn
import HandS.ClsMeth
import HandS.TupAny
import HandS.ExcInit
import HandS.ExcField
import HandS.ExcIs
import KE.KExcInit
import HandS.CallSlots
import HandS.Defaults
import HandS.TryMany
import HandS.Zip
import KE.KTryMore
import PyProof.StrLawsRepr
import HandS.HotCalls
import KE.KDflt
import HandS.TupMul
import HandS.Deep
import HandS.SetFor
import HandS.Star
import HandS.TupSets
import HandS.Iter
import KE.GoesEnum
import HandS.DictSubView
import KE.KDictWalk
import HandS.Conv
import HandS.Comp
import HandS.SortInts
def PySem.W.Fast.tw10241701680866110130 : Nat := 0
def PySem.W.Fast.tw10543788698361185739 : Nat := 0
def PySem.W.Fast.tw11362388695756774336 : Nat := 0
def PySem.W.Fast.tw11408811694235394784 : Nat := 0
def PySem.W.Fast.tw11950079759873761605 : Nat := 0
def PySem.W.Fast.tw12142273501073464755 : Nat := 0
def PySem.W.Fast.tw12214064749970178308 : Nat := 0
def PySem.W.Fast.tw12728573414441954316 : Nat := 0
def PySem.W.Fast.tw13221612982204247085 : Nat := 0
def PySem.W.Fast.tw13739054992867888951 : Nat := 0
def PySem.W.Fast.tw14413933633558940252 : Nat := 0
def PySem.W.Fast.tw1489287962354256218 : Nat := 0
def PySem.W.Fast.tw15650707214663502369 : Nat := 0
def PySem.W.Fast.tw159970913892572624 : Nat := 0
def PySem.W.Fast.tw16321028723863335068 : Nat := 0
def PySem.W.Fast.tw16424890035842799334 : Nat := 0
def PySem.W.Fast.tw1717494907254855979 : Nat := 0
def PySem.W.Fast.tw17194110111808864883 : Nat := 0
def PySem.W.Fast.tw17194936911018473237 : Nat := 0
def PySem.W.Fast.tw17830467967509165570 : Nat := 0
def PySem.W.Fast.tw3143498686783473675 : Nat := 0
def PySem.W.Fast.tw345137759446190390 : Nat := 0
def PySem.W.Fast.tw5520861561937541242 : Nat := 0
def PySem.W.Fast.tw6235323239963963952 : Nat := 0
def PySem.W.Fast.tw8166467276950538269 : Nat := 0
def PySem.W.Fast.tw8234450103526030802 : Nat := 0
def PySem.W.Fast.tw8293796183367136505 : Nat := 0
def PySem.W.Fast.tw8662061748167146623 : Nat := 0
def PySem.W.Fast.tw8867624232619479098 : Nat := 0
def PySem.W.Fast.tw9298945793306557135 : Nat := 0
def PySem.W.Fast.tw9415564514803979715 : Nat := 0
set_option Elab.async false
set_option linter.all false
namespace Pf
open PySem PySem.W PyProof.Rows
set_option maxRecDepth 100000
set_option maxHeartbeats 0
open_top hd for PySem.Challenge.rw_drawstate_k49_shuffles_and_their_rows
end Pf
set_option Elab.async false
set_option linter.all false
set_option maxRecDepth 100000
set_option maxHeartbeats 4000000
namespace Gx
open PySem PySem.Spec PyProof.Rows L2
structure FnG (P : Program) (w : World) (K : PySem.W.Frag) (mg : Str → Option Value) (base : Heap) (k : Nat) (f : Addr) (fd : FuncData) (ps : List Str) (sp : Sp) : Prop where
  len : ∀ vs H Q E, sp vs H Q E → vs.length = ps.length
  run : ∀ (A : Around) (outer : List Env) (s : Shared) (H : Hp) (args : Args) (us : List Value) (vs : List V) (Q : VK), A.guards = some [] → Room k A → Env0 P w K mg base A outer s H →
    BindsTo s fd args (ps.zip us) → Vals vs us → sp vs H Q C8.E0 → codeAny (model P w) A (.call (.ref f) args) (CR C8.CX0 outer P w H s Q C8.E0) s
structure CalG (P : Program) (w : World) (K : PySem.W.Frag) (mg : Str → Option Value) (base : Heap) (k : Nat) (x : Str) (sp : Sp) : Prop where
  ex : ∃ (f : Addr) (fd : FuncData) (ps : List Str), FnG P w K mg base k f fd ps sp ∧ mg x = some (.ref f) ∧ PySem.W.keepIn K (.ref f) = true ∧ Binds K fd ps []
section
variable {P : Program} {w : World} {K : PySem.W.Frag} {mg : Str → Option Value} {base : Heap}
theorem fnG_of {x qual : Str} {st : Stmt} {f : Addr} {fd : FuncData} {N ps : List Str} {k : Nat} {sp : Sp} (F : C8.Fun K x qual st f fd) (S : FnScope N ps (C8.fnScope st)) (len : ∀ vs H Q E, sp vs H Q E → vs.length = ps.length)
    (hbody : ∀ (cdv : Value) (A : Around) (outer : List Env) (s : Shared) (H : Hp) (vs : List V) (Q : VK), A.guards = some [] → Room k (A.deeper (envOfC qual (C8.fnScope st) s.heap.objs.size f cdv)) → sp vs H Q C8.E0 →
      ∃ t, PSs (cxOf C8.CX0 P w K mg base N qual (C8.fnScope st) f cdv A outer s H C8.E0).nox (C8.fnBody st) t ∧ t { nx := fun _ H' => Q .non H', rt := Q } (start N vs) H) : FnG P w K mg base (k + 1) f fd ps sp := by
  obtain ⟨oc, od, dV, kV, doc, pm, an, cdv, ct, osl, rfl, lk, hcd⟩ := F.ex
  refine ⟨len, fun A outer s H args us vs Q hg hr e0 hb r hsp => ?_⟩
  refine LamX.run_ofS (CX := C8.CX0) (E := C8.E0) lk hcd S hr e0 hb r (len _ _ _ _ hsp) fun hr' => ?_
  obtain ⟨t, h, q⟩ := hbody cdv A outer s H vs Q hg hr' hsp
  exact ⟨t, h.nox, q⟩
theorem calG {x : Str} {st : Stmt} {f : Addr} {fd : FuncData} {N ps : List Str} {k : Nat} {sp : Sp} (F : C8.Def K mg x st f fd) (b : Binds K fd ps []) (S : FnScope N ps (C8.fnScope st)) (len : ∀ vs H Q E, sp vs H Q E → vs.length = ps.length)
    (hbody : ∀ (cdv : Value) (A : Around) (outer : List Env) (s : Shared) (H : Hp) (vs : List V) (Q : VK), A.guards = some [] → Room k (A.deeper (envOfC x (C8.fnScope st) s.heap.objs.size f cdv)) → sp vs H Q C8.E0 →
      ∃ t, PSs (cxOf C8.CX0 P w K mg base N x (C8.fnScope st) f cdv A outer s H C8.E0).nox (C8.fnBody st) t ∧ t { nx := fun _ H' => Q .non H', rt := Q } (start N vs) H) : CalG P w K mg base (k + 1) x sp :=
  ⟨f, fd, ps, fnG_of F.fn S len hbody, F.mgf, F.kp, b⟩
end
section
variable {X : Cx} {k j : Nat} {x : Str} {sp : Sp} {p pos : Pos} {e : Expr} {es : List Expr} {t : TA}
theorem runG {f : Addr} {fd : FuncData} {ps : List Str} {pins : List (Addr × Obj)} {σ : L2.St} {H : Hp} {s : Shared} {Q : VK} {us : List Value} {vs : List V} (F : FnG X.prog X.w X.K X.mg X.base k f fd ps sp) (gd : X.A.guards = some []) (hr : Room k X.A) (hb : Binds X.K fd ps [])
    (I : Inv X pins σ H s) (r : Vals vs us) (h : sp vs H Q C8.E0) : wpAny (model X.prog X.w) X.A (call (.ref f) us) (EP X pins σ Q) X.xe s := by
  have hl : us.length = ps.length := r.length.symm.trans (F.len _ _ _ _ h)
  have hbt : BindsTo s fd ⟨us, []⟩ (ps.zip us) := by
    have z := hb s us I.kIn (by rw [List.append_nil]; exact hl)
    rw [List.append_nil] at z
    exact z
  have go := F.run X.A X.stack s H ⟨us, []⟩ us vs Q gd hr I.env0 hbt r h
  refine wpAny_call (codeAny_mono go fun res s2 hres => ?_)
  match res, hres with
  | .ok (.ret u), hq => exact I.after hq
  | .ok .next, hq => exact hq.elim
  | .ok .brk, hq => exact hq.elim
  | .ok .cont, hq => exact hq.elim
  | .error er, hq => exact (show False from hq).elim
theorem pe_g (c : CalG X.prog X.w X.K X.mg X.base k x sp) (gd : X.A.guards = some []) (hr : Room j X.A) (hk : k ≤ j) (hgl : Gl X x) (ha : PA X (e :: es) t)
    (hdb : (x == ("__debug__" : Str)) = false := by decide) (hst : starEach (e :: es) X.env = (false, eval e X.env) :: starEach es X.env := by rfl)
    (hpl : (backTo pos (starEach es X.env)).any (·.1) = false := by rfl) : PE X (.Call (.Name x p) (e :: es) [] pos) (tCall sp [] C8.E0 t) := by
  obtain ⟨f, fd, ps, F, hm, kp, b⟩ := c.ex
  constructor
  intro pins s σ H Q I h
  refine wpAny_Call_Name_kw (ld_glob I hgl hm ?_ hdb)
  refine PySem.W.callWith_K (h₀ := X.base) I.ok.mod.kin kp ?_ hst hpl
  refine thn (ha.run pos pins s σ H _ I h) fun us s1 got => ?_
  obtain ⟨vs, H1, I1, r, q⟩ := got
  refine ⟨I1.kIn, runG F gd (hr.mono hk) b I1 r ?_⟩
  have z : sp (vs ++ []) H1 Q C8.E0 := q
  rw [List.append_nil] at z
  exact z
end
end Gx
set_option Elab.async false
set_option linter.all false
set_option maxRecDepth 100000
set_option maxHeartbeats 4000000
namespace Gx
open PySem PySem.Spec PyProof.Rows L2
structure PrpC (P : Program) (w : World) (K : PySem.W.Frag) (mg : Str → Option Value) (base : Heap) (k : Nat) (C : Addr) (nm : Str) (sp : Sp) : Prop where
  ex : ∃ (p f : Addr) (fd : FuncData) (ps : List Str), Cls K C ∧ PropOf K C nm p f ∧ FnOk P w K mg base C8.CX0 k f fd ps sp ∧ Binds K fd ps []
theorem prp0 {P : Program} {w : World} {K : PySem.W.Frag} {mg : Str → Option Value} {base : Heap} {nm qual : Str} {C p : Addr} {st : Stmt} {f : Addr} {fd : FuncData} {N ps : List Str} {k : Nat} {sp : Sp} (c : Cls K C) (pr : PropOf K C nm p f) (F : C8.Fun K nm qual st f fd) (b : Binds K fd ps [])
    (S : FnScope N ps (C8.fnScope st)) (len : ∀ vs H Q E, sp vs H Q E → vs.length = ps.length)
    (hbody : ∀ (cdv : Value) (A : Around) (outer : List Env) (s : Shared) (H : Hp) (vs : List V) (Q : VK) (E : XK), Room k (A.deeper (envOfC qual (C8.fnScope st) s.heap.objs.size f cdv)) → sp vs H Q E →
      ∃ t, PSs (cxOf C8.CX0 P w K mg base N qual (C8.fnScope st) f cdv A outer s H E).nox (C8.fnBody st) t ∧ t { nx := fun _ H' => Q .non H', rt := Q } (start N vs) H) : PrpC P w K mg base (k + 1) C nm sp :=
  ⟨p, f, fd, ps, c, pr, C8.fn0 F S len hbody, b⟩
theorem pe_propC {X : Cx} {k j : Nat} {C : Addr} {nm : Str} {sp : Sp} {e : Expr} {ta : TE} {pos : Pos} (he : PE X e ta) (c : PrpC X.prog X.w X.K X.mg X.base k C nm sp) (hr : Room j X.A) (hk : k + 1 ≤ j) (hab : attributeBase e nm X.env (eval e X.env) = eval e X.env) :
    PE X (.Attribute e nm pos) (tProp C sp [] C8.E0 ta) := by
  obtain ⟨p, f, fd, ps, cl, pr, F, b⟩ := c.ex
  exact pe_prop he cl pr F (hr.mono hk) b .nil C8.pass0 hab
end Gx
set_option Elab.async false
set_option linter.all false
set_option maxRecDepth 100000
set_option maxHeartbeats 4000000
namespace Rd
open PySem PySem.Spec PyProof.Rows L2
section
variable {D : Ends} {σ : L2.St} {H H1 : Hp} {Q : VK} {QB : Bool → Hp → Prop} {QA : List V → Hp → Prop} {t1 t2 : TS} {te ta tb tc : TE} {t u : TT} {i j : Nat} {v x y : V} {m n : Int} {r r2 : R2} {K : PySem.W.Frag} {A B : Prop} {b : Bool} {p : Prop}
theorem seq (h : t1 { D with nx := t2 D } σ H) : tSeq t1 t2 D σ H := h
theorem next (h : D.nx σ H) : tNext D σ H := h
theorem nm {Qs : L2.St → Hp → Prop} (h : Qs (σ.set i (some v)) H) : gName i v σ H Qs := h
theorem ret (h : te σ H D.rt) : tRet te D σ H := h
theorem drop (h : te σ H fun _ H1 => D.nx σ H1) : tDrop te D σ H := h
theorem un {g : V → Hp → VK → Prop} (h : ta σ H fun x H1 => g x H1 Q) : tUn g ta σ H Q := h
theorem nil (h : QA [] H) : tNil σ H QA := h
theorem cons {tr : TA} (h : ta σ H fun x H1 => tr σ H1 fun xs H2 => QA (x :: xs) H2) : tCons ta tr σ H QA := h
theorem call {sp : Sp} {E : XK} {tr : TA} (h : tr σ H fun vs H1 => sp (vs ++ []) H1 Q E) : tCall sp [] E tr σ H Q := h
theorem tup {tr : TA} (h : tr σ H fun xs H1 => xs.length ≤ sizeLine ∧ ∀ p, H1 p = none → Q (.ref p) (upd H1 p (.tup xs))) : tTup tr σ H Q := h
theorem lst {tr : TA} (h : tr σ H fun xs H1 => xs.length ≤ sizeLine ∧ ∀ p, H1 p = none → Q (.ref p) (upd H1 p (.lst xs))) : tLst tr σ H Q := h
end
def rLenQ (K : PySem.W.Frag) : List V → Hp → VK → Prop := fun xs H Q => ∃ p ys, xs = [.ref p] ∧ (SqL K H p ys ∨ SqT K H p ys) ∧ Q (.int ys.length) H
theorem call_lenQ {X : Cx} : CallR X (.builtin "len") (rLenQ X.K) := call_len_seq
theorem kit_self (K : PySem.W.Frag) (C : Addr) : PySem.W.kitOne K (.ref C) (.ref C) = some true := by
  unfold PySem.W.kitOne
  simp
theorem sql {K : PySem.W.Frag} {H : Hp} {a : Addr} {xs : List V} (h : H a = some (.lst xs)) : SqL K H a xs := .inl (.inl h)
theorem cut {t u : TS} {D : Ends} {σ : L2.St} {H : Hp} (Mid : L2.St → Hp → Prop) (h1 : t { D with nx := Mid } σ H) (h2 : ∀ σ' H', Mid σ' H' → u D σ' H') : C8.tCut t u D σ H := ⟨Mid, h1, h2⟩
/-- all that was tracked stands -/
abbrev Ex := L2.Same
theorem ex_new {H : Hp} {p : Addr} {o : HO} (h : H p = none) : Ex H (upd H p o) := fun b z e => by
  rw [upd_ne (ne_of_none e h)]
  exact e
theorem ex_t {K : PySem.W.Frag} {H H' : Hp} {a : Addr} {xs : List V} (e : Ex H H') (h : SqT K H a xs) : SqT K H' a xs := by
  rcases h with (h | ⟨o, h⟩) | h
  · exact .inl (.inl (e _ _ h))
  · exact .inl (.inr ⟨o, e _ _ h⟩)
  · exact .inr h
end Rd
set_option Elab.async false
set_option linter.all false
set_option maxRecDepth 100000
set_option maxHeartbeats 4000000
set_option exponentiation.threshold 2000
namespace Gx
open PySem PySem.Spec PyProof.Rows L2
mutual
def nodes : PyData → Nat
  | .list xs => nodesAll xs + 1
  | .tuple xs => nodesAll xs + 1
  | .none => 1
  | .bool _ => 1
  | .int _ => 1
  | .str _ => 1
  | .dict _ => 1
def nodesAll : List PyData → Nat
  | [] => 0
  | x :: xs => nodes x + nodesAll xs
end
theorem log_lt {n k : Nat} (hk : 0 < k) (h : n < 2 ^ k) : n.log2 < k := PySem.Flt.log2_lt_of hk h
/-- what repr asks of the data -/
structure Okd (d : PyData) : Prop where
  sh : d.showable = true
  dp : d.depth ≤ 60
  ln : d.shown.length ≤ sizeLine
section
variable {k1 k2 k3 : Key} {a b c v : V}
theorem merge3 (h : ¬ k1 = k2) (h2 : ¬ k1 = k3) (h3 : ¬ k2 = k3) : mergeK [] [(k1, a), (k2, b), (k3, c)] = [(k1, a), (k2, b), (k3, c)] := by
  have e1 : putK [] k1 a = [(k1, a)] := by simp [putK]
  have e2 : putK [(k1, a)] k2 b = [(k1, a), (k2, b)] := by simp [putK, h]
  have e3 : putK [(k1, a), (k2, b)] k3 c = [(k1, a), (k2, b), (k3, c)] := by simp [putK, h2, h3]
  simp only [mergeK, List.foldl_cons, List.foldl_nil, e1, e2, e3]
end
end Gx
set_option Elab.async false
set_option linter.all false
set_option maxRecDepth 100000
set_option maxHeartbeats 1000000
namespace Gx
open PySem PySem.Spec PyProof.Rows L2 GenW
end Gx
set_option Elab.async false
set_option linter.all false
set_option maxRecDepth 100000
set_option maxHeartbeats 1000000
namespace Gx
open PySem PySem.Spec PyProof.Rows L2 GenW
structure SAt (K : PySem.W.Frag) (C : Addr) (m : Str) (f : Addr) : Prop where
  ex : ∃ (mc : Value) (p : Addr) (rest : List Value), ClX.CRead K C mc ∧ PySem.W.findCls K (.ref C) mc m = some (.get (.builtin "staticmethod.__get__") (.ref p) .none (.ref C)) ∧ PySem.W.recIn K p "staticmethod" = some (.ref f :: rest) ∧ PySem.W.keepIn K (.ref f) = true
end Gx
namespace Gx
open PySem PySem.Spec PyProof.Rows L2 GenW
theorem isTup {K : PySem.W.Frag} {a : Addr} {xs : List V} {H : Hp} {Q : VK} (h : H a = some (.tup xs)) (q : Q (.bl true) H) : rIsi K [.ref a, .ty "tuple"] H Q :=
  ⟨_, _, .type "tuple", _, true, rfl, .ty _, .base (.tup h), by first | rfl | decide +kernel | kernel_rfl, q⟩
section
variable {t u : TGn} {tp : TS} {te : TE} {D : GEnds} {ys : List V} {σ : L2.St} {H : Hp}
theorem mg {C : Addr} {m : Str} {sp : SpG} {E : XK} {ta : TE} {t : TA} {cont : List V → Hp → Prop} (h : ta σ H fun x H1 => ∃ a dx fs, x = .ref a ∧ H1 a = some (.ins C dx fs) ∧ fs.lookup m = none ∧ t σ H1 fun vs H2 => sp (x :: (vs ++ [])) H2 cont E) : tMethG C m sp [] E ta t σ H cont := h
end
end Gx
namespace Gx
open PySem PySem.Spec PyProof.Rows L2 GenW
end Gx
set_option Elab.async false
set_option linter.all false
set_option maxRecDepth 100000
set_option maxHeartbeats 1000000
namespace Gx
open PySem PySem.Spec PyProof.Rows L2 GenW HT
end Gx
set_option Elab.async false
set_option linter.all false
set_option maxRecDepth 100000
set_option maxHeartbeats 1000000
namespace Gx
open PySem PySem.Spec PyProof.Rows L2 GenW
/-- the promise of such a class's __init__ -/
def spExc (C : Addr) (fl : Str) : Sp := fun vs H Q _ => ∃ (p : Addr) (v : V), vs = [.ref p, v] ∧ H p = some (exo p C none) ∧ ∀ dx, H dx = none → dx ≠ p → Q .non (upd (upd H dx (exd dx [(fl, v)])) p (exo p C (some dx)))
/-- the exception is made: its dict holds the value -/
theorem mkO {C : Addr} {fl : Str} {v : V} {H : Hp} {Q : XK} (q : ∀ d H', H d = none → Rd.Ex H H' → H' d = some (.xd [(fl, v)]) → Q (.ref C) (some d) H') :
    [v].length ≤ 1000 ∧ ∀ a, H a = none → spExc C fl (.ref a :: ([v] ++ [])) (upd H a (exo a C none))
      (fun r H2 => r = .non ∧ ∃ (d : Addr) (fs : List (Str × V)), H2 a = some (exo a C (some d)) ∧ H2 d = some (exd d fs) ∧ H d = none ∧ Q (.ref C) (some d) (upd (del H2 a) d (.xd fs))) (fun _ _ _ => False) := by
  refine ⟨Nat.le_of_ble_eq_true rfl, fun a ha => ⟨a, v, rfl, upd_same, fun dx hd ne => ⟨rfl, dx, [(fl, v)], upd_same, ?_, ?_, ?_⟩⟩⟩
  · rw [upd_ne ne, upd_same]
  · rw [upd_ne ne] at hd; exact hd
  · have hd' : H dx = none := by rw [upd_ne ne] at hd; exact hd
    refine q dx _ hd' (fun c o h => ?_) upd_same
    have n1 : c ≠ a := ne_of_none h ha
    have n2 : c ≠ dx := ne_of_none h hd'
    rw [upd_ne n2, del_ne n1, upd_ne n1, upd_ne n2, upd_ne n1]
    exact h
structure CalX (P : Program) (w : World) (K : PySem.W.Frag) (mg : Str → Option Value) (base : Heap) (k : Nat) (x : Str) (sp : Sp) : Prop where
  ex : ∃ (f : Addr) (fd : FuncData) (ps : List Str), FnOk P w K mg base (CX P w) k f fd ps sp ∧ mg x = some (.ref f) ∧ PySem.W.keepIn K (.ref f) = true ∧ Binds K fd ps []
theorem takes_cx {P : Program} {w : World} {K : PySem.W.Frag} {mg : Str → Option Value} {base : Heap} {N : List Str} {qual : Str} {scope : Scope} {f : Addr} {cd : Value} {A : Around} {outer : List Env} {s : Shared} {H : Hp} {E : XK} :
    Takes (cxOf (CX P w) P w K mg base N qual scope f cd A outer s H E) (fun cls d _ H' => E cls d H') := takes_of rfl rfl rfl rfl
theorem calX {P : Program} {w : World} {K : PySem.W.Frag} {mg : Str → Option Value} {base : Heap} {x : Str} {st : Stmt} {f : Addr} {fd : FuncData} {N ps : List Str} {k : Nat} {sp : Sp} (F : C8.Def K mg x st f fd) (b : Binds K fd ps []) (S : FnScope N ps (C8.fnScope st)) (len : ∀ vs H Q E, sp vs H Q E → vs.length = ps.length)
    (hbody : ∀ (cdv : Value) (A : Around) (outer : List Env) (s : Shared) (H : Hp) (vs : List V) (Q : VK) (E : XK), Room k (A.deeper (envOfC x (C8.fnScope st) s.heap.objs.size f cdv)) → sp vs H Q E →
      ∃ t, PSs (cxOf (CX P w) P w K mg base N x (C8.fnScope st) f cdv A outer s H E) (C8.fnBody st) t ∧ t { nx := fun _ H' => Q .non H', rt := Q } (start N vs) H) : CalX P w K mg base (k + 1) x sp := by
  obtain ⟨oc, od, dV, kV, doc, pm, an, cdv, ct, osl, rfl, lk, hcd⟩ := F.fn.ex
  exact ⟨f, _, ps, fn_of lk hcd S len (hbody cdv), F.mgf, F.kp, b⟩
section
variable {X : Cx} {k j : Nat} {x : Str} {sp : Sp} {p pos : Pos} {e : Expr} {es : List Expr} {t : TA} {W : WX} {E : XK}
theorem pe_cx (c : CalX X.prog X.w X.K X.mg X.base k x sp) (tk : Takes X W) (hW : ∀ cls d σ H, E cls d H → W cls d σ H) (hr : Room j X.A) (hk : k ≤ j) (hg : Gl X x) (ha : PA X (e :: es) t)
    (hdb : (x == ("__debug__" : Str)) = false := by decide) (he : starEach (e :: es) X.env = (false, eval e X.env) :: starEach es X.env := by rfl) (hpl : (backTo pos (starEach es X.env)).any (·.1) = false := by rfl) :
    PE X (.Call (.Name x p) (e :: es) [] pos) (tCall sp [] E t) := by
  obtain ⟨f, fd, ps, F, hm, kp, b⟩ := c.ex
  exact pe_call F (hr.mono hk) hg hm kp b .nil (passes_call tk hW) ha hdb he hpl
end
end Gx
set_option Elab.async false
set_option linter.all false
set_option maxRecDepth 100000
set_option maxHeartbeats 1000000
namespace Gx
open PySem PySem.Spec PySem.Calls PyProof.Rows PySem.W
section
variable {prog : Program} {w : World} {A : Around} {E : Value → Shared → Prop} {s : Shared} {K : Frag} {a D : Addr} {oa odict : Obj}
/-- e.__class__ -/
theorem cls_of_exc {Q : Option Value → Shared → Prop} (G : L2.ExcC K D) (KI : K.In s.heap) (J : InstAt s.heap a oa D (some odict)) (q : Q (some (.ref D)) { s with toks := s.toks + 1 }) : wpAny (model prog w) A (getAttr? (.ref a) "__class__") Q E s := by
  have some1 : (clsIn K D).isSome = true := by
    obtain ⟨_, e, _⟩ := any_some G.hd
    rw [e]; rfl
  have found := findObj_data (od := odict) some1 G.ha G.hn G.ht
  obtain ⟨hp, gs, dr, tk, oss⟩ := s
  have M1 : Looks (model prog w) hp (typeOf (.ref a)) (.ref D) := J.type
  have M2 := looks_findIn (M := model prog w) KI G.hg
  have M3 := looks_findIn (M := model prog w) KI G.hk
  have M4 := looks_find (M := model prog w) KI J found
  have M5 : Looks (model prog w) hp (isInstance (.ref a) (.type "BaseException")) true := M1.andThen (looks_subIn KI G.hs)
  have other : (Value.builtin "BaseException.__getattribute__" == Value.builtin "object.__getattribute__") = false := by decide +kernel
  have b1 : (onTheHeap (Value.ref D) && Value.builtin "BaseException.__getattribute__" == Value.builtin "object.__getattribute__") = false := by rw [other]; rfl
  unfold getAttr? getAttrBy? getAttrBy
  refine wpAny_bind (wpAny_mkText (wpAny_bind (wpAny_attempt (wpAny_holding (wpAny_bind (M1.at (wpAny_bind (M2.at ?a1))))))))
  case a1 =>
    show wpAny _ _ (if (onTheHeap (Value.ref D) && Value.builtin "BaseException.__getattribute__" == Value.builtin "object.__getattribute__") = true then _ else _) _ _ _
    rw [b1, if_neg Bool.false_ne_true]
    unfold getAttrByItsOwn hookBefore
    refine wpAny_bind ?a2
    case a2 =>
      rw [if_pos (show onTheHeap (Value.ref D) = true from rfl)]
      refine M3.at (wpAny_bind (wpAny_attempt (wpAny_holding ?a3)))
      case a3 =>
        unfold callGetattribute
        rw [show (false && onTheHeap (Value.builtin "BaseException.__getattribute__")) = false from rfl, if_neg Bool.false_ne_true]
        unfold boundAndCalled
        rw [PySem.F.excAttr_ValueError.ga.bind (.ref a)]
        refine wpAny_bind (wpAny_pure ?a4)
        case a4 =>
          show wpAny _ _ (call (.builtin "BaseException.__getattribute__") [.ref a, .str "__class__" tk]) _ _ _
          refine wpAny_call (codeAny_call_builtin PySem.F.excAttr_ValueError.ga.plain PySem.F.entry_bexc_ga (@check_slot (model prog w) _ _ ⟨hp, gs, dr, tk + 1, oss⟩ "BaseException.__getattribute__" "BaseException" "__getattribute__" (.ref a) [.str "__class__" tk] [] _
            (by decide +kernel) (by decide +kernel) M5 (PySem.F.args_bexc_ga (.ref a) (.str "__class__" tk)) ?a5))
          case a5 =>
            unfold Builtin.«object.__getattribute__»
            refine wpAny_bind (wpAny_of_eq (a := ((Value.ref a : Value), [Value.str "__class__" tk])) (by first | rfl | (simp only [slotArgs]; rfl)) (wpAny_bind (wpAny_pure (wpAny_bind (M1.at (wpAny_bind (M4.at ?a6)))))))
            case a6 =>
              show wpAny _ _ (holding [Value.builtin "object.__class__"] (call (.builtin "getset_descriptor.__get__") [.builtin "object.__class__", .ref a, .ref D]) >>= ret) _ _ _
              refine wpAny_bind (wpAny_holding (wpAny_call (class_get (s := ⟨hp, gs, dr, tk + 1, oss⟩) KI J G.hm (wpAny_pure ?a7))))
              case a7 =>
                show wpAny _ _ (handedOut (.ref D)) _ _ _
                rw [handedOut_of (v := .ref D) rfl]
                first
                  | exact wpAny_pure (wpAny_pure q)
                  | exact wpAny_pure q
                  | exact wpAny_pure (wpAny_bind (wpAny_pure (wpAny_pure q)))
theorem kit_exc (G : L2.ExcC K D) : KitX K (.ref a) (.ref D) (fun h => InstAt h a oa D (some odict)) := by
  have atK : ∃ c d cd sl, K.lookup D = some ⟨c, d, .cls cd, sl⟩ := by
    obtain ⟨_, e, _⟩ := any_some G.hd
    unfold clsIn at e
    split at e
    · exact ⟨_, _, _, _, by assumption⟩
    · cases e
  obtain ⟨c, d, cd, sl, eD⟩ := atK
  refine ⟨fun _ _ _ J => J.type, fun _ _ KI _ => ?_, fun h tp dd its n sl' KI e => ?_, fun KI J q => cls_of_exc G KI J q⟩
  · intro A' Q' E' s' k q
    unfold isType loadHead
    exact wpAny_bind (wpAny_loadPart (k _ _ (KI _ _ eD)) (wpAny_pure q))
  · refine Bool.eq_false_iff.mpr fun z => ?_
    obtain rfl : D = tp := Value.ref.inj (beq_iff_eq.mp z)
    cases (KI _ _ eD).symm.trans e
end
open L2
end Gx
set_option Elab.async false
set_option linter.all false
set_option maxRecDepth 100000
set_option maxHeartbeats 1000000
namespace Gx
open PySem PySem.Spec PyProof.Rows L2
end Gx
set_option Elab.async false
set_option linter.all false
set_option maxRecDepth 100000
set_option maxHeartbeats 1000000
namespace Gx
open PySem PySem.Spec PyProof.Rows L2
end Gx
set_option Elab.async false
set_option linter.all false
set_option maxRecDepth 100000
set_option maxHeartbeats 4000000
namespace Au
open PySem PySem.Spec PyProof.Rows L2
def ExP (p : Addr) (H H' : Hp) : Prop := ∀ c o, H c = some o → c ≠ p → H' c = some o
theorem ExP.refl {p : Addr} (H : Hp) : ExP p H H := fun _ _ e _ => e
theorem ExP.of {p : Addr} {H H' : Hp} (e : Rd.Ex H H') : ExP p H H' := fun c o h _ => e c o h
theorem ExP.trans {p : Addr} {H H1 H2 : Hp} (a : ExP p H H1) (b : ExP p H1 H2) : ExP p H H2 := fun c o h n => b c o (a c o h n) n
theorem rep {H : Hp} {Q : VK} {l : Addr} {k : Int} {xs : List V} (h1 : H l = some (.lst xs)) (hk : 0 ≤ k ∧ k < 100) (hl : xs.length ≤ 10) (q : ∀ p H', H p = none → Rd.Ex H H' → H' p = some (.lst (List.replicate k.toNat xs).flatten) → Q (.ref p) H') : rRep (.ref l) (.int k) H Q :=
  ⟨l, k, xs, rfl, rfl, h1, by omega, by omega, Nat.le_trans (Nat.mul_le_mul hl (show k.toNat ≤ 100 by omega)) (Nat.le_of_ble_eq_true rfl), fun p hp => q p _ hp (Rd.ex_new hp) upd_same⟩
def NewO (H : Hp) (o : HO) (Q : VK) : Prop := ∀ p, H p = none → Q (.ref p) (upd H p o)
section
variable {σ : L2.St} {H : Hp} {Q : VK} {K : PySem.W.Frag} {tr : TA} {te ti : TE} {o : HO} {a C dx : Addr} {fs : List (Str × V)} {xs : List V} {v : V}
theorem new (q : ∀ p H', H p = none → Rd.Ex H H' → H' p = some o → Q (.ref p) H') : NewO H o Q := fun p hp => q p _ hp (Rd.ex_new hp) upd_same
theorem tup (h : tr σ H fun xs H1 => xs.length ≤ sizeLine ∧ NewO H1 (.tup xs) Q) : tTup tr σ H Q := h
theorem lst (h : tr σ H fun xs H1 => xs.length ≤ sizeLine ∧ NewO H1 (.lst xs) Q) : tLst tr σ H Q := h
theorem sum {ns : List Int} (h : SqL K H a (ns.map V.int)) (q : Q (.int ns.sum) H) : rSum K [.ref a] H Q := ⟨a, ns, rfl, h, q⟩
end
end Au
set_option maxRecDepth 100000
namespace ML
def A : Int := 205891132094649
def M : Int := 281474976710656
def S : Nat → Int
  | 0 => 0
  | n + 1 => A * S n + 1
/-- the state after n steps, as an integer -/
def raw (n : Nat) (x : Int) : Int := A ^ n * x + 11 * S n
def m1 (n : Nat) : Int := A ^ n % 281474976710656
def m2 (n : Nat) : Int := 11 * S n % 281474976710656
end ML
set_option linter.all false
namespace MX
def xs (k n : Nat) : Nat := n ^^^ (n / 2 ^ k)
def F : Nat := 3486784401
def tmp (n : Nat) : Nat := xs 16 (xs 13 n * F % 4294967296)
theorem xx (a b : Nat) : a ^^^ b ^^^ b = a := by rw [Nat.xor_assoc, Nat.xor_self, Nat.xor_zero]
theorem mod_lt (a : Nat) : a % 4294967296 < 2 ^ 32 := Nat.mod_lt _ (by decide)
/-- the rounds -/
def fe (s : Nat) (p : Nat × Nat) : Nat × Nat := (p.2, p.1 ^^^ tmp ((p.2 + 1000003 * s) % 4294967296))
def bk (s : Nat) (p : Nat × Nat) : Nat × Nat := (p.2 ^^^ tmp ((p.1 + 1000003 * s) % 4294967296), p.1)
def ok (p : Nat × Nat) : Prop := p.1 < 2 ^ 32 ∧ p.2 < 2 ^ 32
end MX
set_option Elab.async false
set_option linter.all false
set_option maxRecDepth 100000
set_option maxHeartbeats 4000000
set_option exponentiation.threshold 2000
namespace Pr
open PySem PySem.Spec PyProof.Rows L2
def NonInt (H : Hp) (v : V) : Prop := v = .non ∨ (∃ b, v = .bl b) ∨ (∃ s, v = .str s) ∨ (∃ a xs, v = .ref a ∧ H a = some (.tup xs)) ∨ (∃ a xs, v = .ref a ∧ H a = some (.lst xs)) ∨ ∃ a kvs, v = .ref a ∧ H a = some (.dK kvs)
/-- is the value a number in its bounds -/
abbrev spIs (lo hi : Int) : Sp := fun vs H Q _ => ∃ v, vs = [v] ∧ ((∃ n : Int, v = .int n ∧ Q (.bl (decide (lo ≤ n ∧ n ≤ hi))) H) ∨ (NonInt H v ∧ Q (.bl false) H))
def MapAt (K : PySem.W.Frag) (H : Hp) (a : Addr) (n : Nat) : Prop := SqT K H a [.int (ML.m1 n), .int (ML.m2 n)]
theorem MapAt.ex {K : PySem.W.Frag} {H H' : Hp} {a : Addr} {n : Nat} (e : Rd.Ex H H') (h : MapAt K H a n) : MapAt K H' a n := Rd.ex_t e h
end Pr
set_option Elab.async false
set_option linter.all false
set_option maxRecDepth 100000
set_option maxHeartbeats 4000000
namespace Gx
open PySem PySem.Spec PyProof.Rows L2
def gFld (K : PySem.W.Frag) (to : TE) (f : Str) : TG := fun v σ H Q => to σ H fun x H1 => ∃ a C dx fs, x = .ref a ∧ H1 a = some (.ins C dx fs) ∧ Cls K C ∧ NoAttr K C f ∧ fs.length < 1000 ∧ Q σ (upd H1 a (.ins C dx (putF f v fs)))
end Gx
set_option Elab.async false
set_option linter.all false
set_option maxRecDepth 100000
set_option maxHeartbeats 1000000
namespace Gx
open PySem PySem.Spec PyProof.Rows L2 GenW Builtin Builtin.ObjectAttr
end Gx
set_option Elab.async false
set_option linter.all false
set_option maxRecDepth 100000
set_option maxHeartbeats 1000000
namespace Gx
open PySem PySem.Spec PyProof.Rows L2 GenW
structure MetX (P : Program) (w : World) (K : PySem.W.Frag) (mg : Str → Option Value) (base : Heap) (k : Nat) (C : Addr) (m : Str) (sp : Sp) : Prop where
  ex : ∃ (f : Addr) (fd : FuncData) (ps : List Str), Cls K C ∧ Meth K C m f ∧ FnOk P w K mg base (CX P w) k f fd ps sp ∧ Binds K fd ps []
theorem metX {P : Program} {w : World} {K : PySem.W.Frag} {mg : Str → Option Value} {base : Heap} {m qual : Str} {C : Addr} {st : Stmt} {f : Addr} {fd : FuncData} {N ps : List Str} {k : Nat} {sp : Sp} (c : Cls K C) (me : Meth K C m f) (F : C8.Fun K m qual st f fd) (b : Binds K fd ps [])
    (S : FnScope N ps (C8.fnScope st)) (len : ∀ vs H Q E, sp vs H Q E → vs.length = ps.length)
    (hbody : ∀ (cdv : Value) (A : Around) (outer : List Env) (s : Shared) (H : Hp) (vs : List V) (Q : VK) (E : XK), Room k (A.deeper (envOfC qual (C8.fnScope st) s.heap.objs.size f cdv)) → sp vs H Q E →
      ∃ t, PSs (cxOf (CX P w) P w K mg base N qual (C8.fnScope st) f cdv A outer s H E) (C8.fnBody st) t ∧ t { nx := fun _ H' => Q .non H', rt := Q } (start N vs) H) : MetX P w K mg base (k + 1) C m sp := by
  obtain ⟨oc, od, dV, kV, doc, pm, an, cdv, ct, osl, rfl, lk, hcd⟩ := F.ex
  exact ⟨f, _, ps, c, me, fn_of lk hcd S len (hbody cdv), b⟩
section
variable {X : Cx} {k j : Nat} {C : Addr} {x m : Str} {sp : Sp} {p pos apos : Pos} {e o : Expr} {es : List Expr} {ta : TE} {t : TA} {W : WX} {E : XK} {pl : Sem Bool}
theorem pe_cx0 (c : CalX X.prog X.w X.K X.mg X.base k x sp) (tk : Takes X W) (hW : ∀ cls d σ H, E cls d H → W cls d σ H) (hr : Room j X.A) (hk : k ≤ j) (hg : Gl X x) (hdb : (x == ("__debug__" : Str)) = false := by decide) :
    PE X (.Call (.Name x p) [] [] pos) (tCall sp [] E tNil) := by
  obtain ⟨f, fd, ps, F, hm, kp, b⟩ := c.ex
  exact pe_call0 F (hr.mono hk) hg hm kp b .nil (passes_call tk hW) hdb
theorem pe_mx (c : MetX X.prog X.w X.K X.mg X.base k C m sp) (tk : Takes X W) (hW : ∀ cls d σ H, E cls d H → W cls d σ H) (hr : Room j X.A) (hk : k ≤ j) (he : PE X o ta) (ha : PA X (e :: es) t)
    (hst : starEach (e :: es) X.env = (false, eval e X.env) :: starEach es X.env := by rfl) (hpl : (backTo pos (starEach es X.env)).any (·.1) = false := by rfl)
    (ht : eval (.Call (.Attribute o m apos) (e :: es) [] pos) X.env = (do
      let ov ← eval o X.env
      standAt apos.atName
      let (f, first) ← holding [ov] (getMethod ov m pl)
      callWith pos f first (backTo pos (starEach (e :: es) X.env)) (backToKw pos (keywordEach [] X.env))) := by rfl) :
    PE X (.Call (.Attribute o m apos) (e :: es) [] pos) (tMeth C m sp [] E ta t) := by
  obtain ⟨f, fd, ps, hc, hm, F, b⟩ := c.ex
  exact pe_meth (pl := pl) he hc hm F (hr.mono hk) b .nil (passes_call tk hW) ha hst hpl ht
theorem pe_mx0 (c : MetX X.prog X.w X.K X.mg X.base k C m sp) (tk : Takes X W) (hW : ∀ cls d σ H, E cls d H → W cls d σ H) (hr : Room j X.A) (hk : k ≤ j) (he : PE X o ta)
    (ht : eval (.Call (.Attribute o m apos) [] [] pos) X.env = (do
      let ov ← eval o X.env
      standAt apos.atName
      let (f, first) ← holding [ov] (getMethod ov m pl)
      callWith pos f first (backTo pos (starEach [] X.env)) (backToKw pos (keywordEach [] X.env))) := by rfl) :
    PE X (.Call (.Attribute o m apos) [] [] pos) (tMeth C m sp [] E ta tNil) := by
  obtain ⟨f, fd, ps, hc, hm, F, b⟩ := c.ex
  exact pe_meth0 (pl := pl) he hc hm F (hr.mono hk) b .nil (passes_call tk hW) ht
end
end Gx
set_option Elab.async false
set_option linter.all false
set_option maxRecDepth 100000
set_option maxHeartbeats 1000000
namespace Gx
open PySem PySem.Spec PyProof.Rows L2 GenW
structure IVal (K : PySem.W.Frag) (C : Addr) (f : Str) (v : V) : Prop where
  ex : ∃ u, PySem.W.findIn K (.ref C) f = some (some u) ∧ PySem.W.specialIn K u "__get__" = some none ∧ PySem.W.handedIn u = true ∧ RelV v u
  cp : PySem.W.copiedNames.contains f = false
def tIVal (K : PySem.W.Frag) (ta : TE) (f : Str) : TE := fun σ H Q => ta σ H fun x H1 => ∃ a C dx fs v, x = .ref a ∧ H1 a = some (.ins C dx fs) ∧ Cls K C ∧ IVal K C f v ∧ fs.lookup f = none ∧ Q v H1
theorem pe_ival {X : Cx} {e : Expr} {ta : TE} {f : Str} {pos : Pos} (he : PE X e ta) (hb : attributeBase e f X.env (eval e X.env) = eval e X.env := by rfl) : PE X (.Attribute e f pos) (tIVal X.K ta f) := by
  refine ⟨fun pins s σ H Q I h => attr_of hb (thn (he.run pins s σ H _ I h) fun u s1 got => ?_)⟩
  obtain ⟨x, H1, I1, rx, a, C, dx, fs, v, ex, ea, c, k, l, q⟩ := got
  subst ex
  obtain rfl : u = Value.ref a := rx
  obtain ⟨mA, O, rel, _, _, _⟩ := ins_get I1.hok ea
  obtain ⟨od, J, hl⟩ := O.look
  obtain ⟨w, h1, h2, h3, h4⟩ := k.ex
  have no : mA f = none := by
    have z := rel f
    rw [l] at z
    cases hm : mA f with
    | none => rfl
    | some y => rw [hm] at z; exact z.elim
  refine PySem.W.get_value I1.kIn J (PySem.W.plainGet_of (c.get f)).1 (PySem.W.findObj_cls c.hd h1 h2 h3 k.cp (by rw [hl f, no])) h3 ⟨v, H1, I1.tok _, h4, q⟩
def rTupOf (K : PySem.W.Frag) : List V → Hp → VK → Prop := fun xs H Q => ∃ p ys, xs = [.ref p] ∧ ((SqL K H p ys ∧ ∀ l, H l = none → Q (.ref l) (upd H l (.tup ys))) ∨ (SqT K H p ys ∧ Q (.ref p) H))
theorem call_tupOf {X : Cx} : CallR X (.type "tuple") (rTupOf X.K) := call_tuple_of
def rLstOf (K : PySem.W.Frag) : List V → Hp → VK → Prop := fun xs H Q => ∃ p ys, xs = [.ref p] ∧ (SqL K H p ys ∨ SqT K H p ys) ∧ ∀ l, H l = none → Q (.ref l) (upd H l (.lst ys))
theorem call_lstOf {X : Cx} : CallR X (.type "list") (rLstOf X.K) := call_list_of
section
variable {H : Hp} {Q : VK} {K : PySem.W.Frag} {a b : Addr} {xs zs : List V}
theorem ext (h : H a = some (.lst xs)) (h2 : H b = some (.lst zs)) (hl : xs.length + zs.length ≤ 1000000) (q : ∀ H', Au.ExP a H H' → H' a = some (.lst (xs ++ zs)) → Q .non H') : rExtend (.ref a) [.ref b] H Q :=
  ⟨a, b, xs, zs, rfl, rfl, h, h2, Nat.le_trans hl (Nat.le_of_ble_eq_true rfl), q _ (fun c z h n => by rw [upd_ne n]; exact h) upd_same⟩
theorem frz {ta : TA} {g : TG} {tb : TS} {D : Ends} {σ : L2.St} (h : ta σ H fun vs H1 => ∃ a b xs ys, vs = [.ref a, .ref b] ∧ SqL K H1 a xs ∧ SqL K H1 b ys ∧ ∃ W : Nat → Nat → L2.St → Hp → Prop, (∃ m, W 0 m σ H1) ∧ ∀ i m σ H, W i m σ H →
    ((Itz K a b).stop i H ∧ D.nx σ H) ∨ ((Itz K a b).go i H ∧ ∃ N : L2.St → Hp → Prop, (∀ σ' H', N σ' H' → ∃ m', m' < m ∧ W (i + 1) m' σ' H') ∧ ∀ x H', (Itz K a b).yld i H x H' → g x σ H' fun σ2 H2 => tb { D with nx := N, ct := N, bk := D.nx } σ2 H2)) :
    tFor (iZip K ta) g tb D σ H := h
end
end Gx
set_option Elab.async false
set_option linter.all false
set_option maxRecDepth 100000
set_option maxHeartbeats 1000000
namespace Pr
open PySem PySem.Spec PyProof.Rows L2
/-- all but two objects stand -/
def ExQ (p r : Addr) (H H' : Hp) : Prop := ∀ c o, H c = some o → c ≠ p → c ≠ r → H' c = some o
theorem ExQ.refl {p r : Addr} (H : Hp) : ExQ p r H H := fun _ _ e _ _ => e
abbrev ScrO (C dx sa : Addr) (pl : Nat) : HO := .ins C dx [("s1_script", .ref sa), ("s1_place", .int (pl : Int))]
abbrev DrwO (C dx so : Addr) (n : Nat) : HO := .ins C dx [("s5_source", .ref so), ("s5_used", .int (n : Int))]
abbrev words (ws : List Nat) : List V := ws.map fun (w : Nat) => V.int (w : Int)
/-- a script at its object -/
structure SAt (C : Addr) (H : Hp) (o dx a : Addr) (ws : List Nat) (pl : Nat) : Prop where
  obj : H o = some (ScrO C dx a pl)
  tup : H a = some (.tup (words ws))
  le : pl ≤ ws.length
/-- draws over a script -/
structure DAt (C S : Addr) (H : Hp) (p dx o dy a : Addr) (ws : List Nat) (pl n : Nat) : Prop where
  drw : H p = some (DrwO C dx o n)
  scr : SAt S H o dy a ws pl
theorem DAt.ne {C S p dx o dy a : Addr} {H : Hp} {ws : List Nat} {pl n : Nat} (h : DAt C S H p dx o dy a ws pl n) : p ≠ o ∧ a ≠ p ∧ a ≠ o := by
  refine ⟨ne_of h.drw h.scr.obj (fun z => ?_), ne_of h.scr.tup h.drw (fun z => by cases z), ne_of h.scr.tup h.scr.obj (fun z => by cases z)⟩
  have e : ("s5_source" : Str) = "s1_script" := congrArg (fun o => match o with | HO.ins _ _ ((f, _) :: _) => f | _ => "") z
  exact absurd e (by decide +kernel)
end Pr
set_option Elab.async false
set_option linter.all false
set_option maxRecDepth 100000
set_option maxHeartbeats 1000000
namespace Gx
open PySem PySem.Spec PyProof.Rows L2 GenW
end Gx
set_option Elab.async false
set_option linter.all false
set_option maxRecDepth 100000
set_option maxHeartbeats 1000000
namespace Gx
open PySem PySem.Spec PyProof.Rows L2
section
variable {σ : L2.St} {H : Hp} {Q : VK} {te : TE} {j : Nat} {z : Str}
def rLenS : List V → Hp → VK → Prop := fun xs H Q => ∃ z, xs = [.str z] ∧ z.length ≤ sizeLine ∧ Q (.int (z.length : Nat)) H
theorem call_lenS {X : Cx} : CallR X (.builtin "len") rLenS := call_len_str
end
end Gx
set_option Elab.async false
set_option linter.all false
set_option maxRecDepth 100000
set_option maxHeartbeats 1000000
namespace Gx
open PySem PySem.Spec PyProof.Rows L2
/-- an exception that is kept: at a, of the class cls, its dict at d -/
def xob (a : Addr) (cls : Value) (d : Option Addr) : HO := .ext fun h => ∃ (oe : Obj) (vs : Array Value), h.get? a = some oe ∧ oe.cls = cls ∧ oe.dict = d ∧ oe.data = .fields vs
theorem xob_at {P : Program} {w : World} {H : Hp} {h : Heap} {a : Addr} {cls : Value} {d : Option Addr} (ok : HOk P w H h) (e : H a = some (xob a cls d)) : ∃ (oe : Obj) (vs : Array Value), h.get? a = some oe ∧ oe.cls = cls ∧ oe.dict = d ∧ oe.data = .fields vs := (ok a _ e).1
def rIsK (K : PySem.W.Frag) : List V → Hp → VK → Prop := fun xs H Q => ∃ (a D dd : Addr) (fs : List (Str × V)) (c : V) (cv : Value) (b : Bool), xs = [.ref a, c] ∧ ExcC K D ∧ H a = some (xob a (.ref D) (some dd)) ∧ H dd = some (.xd fs) ∧ (∀ u, RelV c u → u = cv) ∧ PySem.W.kitOne K (.ref D) cv = some b ∧ Q (.bl b) H
theorem call_isK {X : Cx} : CallR X (.builtin "isinstance") (rIsK X.K) := by
  intro pins s σ H xs us Q I r h
  obtain ⟨a, D, dd, fs, c, cv, b, rfl, G, ha, hd, hcv, e, q⟩ := h
  cases r with
  | cons rx rr =>
    cases rr with
    | cons rt rr =>
      cases rr
      cases rx
      obtain rfl := hcv _ rt
      obtain ⟨oe, vs, e1, e2, e3, e4⟩ := xob_at I.hok ha
      obtain ⟨mA, ns, _⟩ := (show ObjOk X.prog X.w H s.heap dd (.xd fs) from I.hok dd _ hd)
      obtain ⟨od, ho, _⟩ := lookIn_ns ns
      have J : PySem.W.InstAt s.heap a oe D (some od) := ⟨e1, e2, by unfold PySem.W.notCls; rw [e4] <;> rfl, by rw [e3]; exact ho⟩
      exact PySem.W.kia_one (kit_exc G) I.kIn J e (fun z => nomatch z) fun tk => ⟨.bl b, H, I.kept (t' := tk) fun _ _ z => z, rfl, q⟩
end Gx
set_option Elab.async false
set_option linter.all false
set_option maxRecDepth 100000
set_option maxHeartbeats 1000000
namespace Gx
open PySem PySem.Spec PyProof.Rows L2
end Gx
set_option Elab.async false
set_option linter.all false
set_option maxRecDepth 100000
set_option maxHeartbeats 1000000
namespace Pr
open PySem PySem.Spec PyProof.Rows L2
/-- a value as a number in its bounds -/
inductive Nm (lo hi : Int) (H : Hp) : V → Option Int → Prop
  | int (n : Int) : Nm lo hi H (.int n) (if lo ≤ n ∧ n ≤ hi then some n else none)
  | non {v : V} (h : NonInt H v) : Nm lo hi H v none
/-- what is refused -/
abbrev Out (lo hi : Int) (H : Hp) (v : V) : Prop := Nm lo hi H v none
theorem NonInt.ex {H H' : Hp} {v : V} (e : Rd.Ex H H') (h : NonInt H v) : NonInt H' v := by
  rcases h with h | h | h | ⟨a, xs, h, k⟩ | ⟨a, xs, h, k⟩ | ⟨a, xs, h, k⟩
  · exact .inl h
  · exact .inr (.inl h)
  · exact .inr (.inr (.inl h))
  · exact .inr (.inr (.inr (.inl ⟨a, xs, h, e _ _ k⟩)))
  · exact .inr (.inr (.inr (.inr (.inl ⟨a, xs, h, e _ _ k⟩))))
  · exact .inr (.inr (.inr (.inr (.inr ⟨a, xs, h, e _ _ k⟩))))
theorem Nm.ex {lo hi : Int} {H H' : Hp} {v : V} {r : Option Int} (e : Rd.Ex H H') (h : Nm lo hi H v r) : Nm lo hi H' v r := by
  cases h with
  | int n => exact .int n
  | non h => exact .non (NonInt.ex e h)
theorem Nm.inv {lo hi : Int} {H : Hp} {v : V} {r : Option Int} (h : Nm lo hi H v r) : (∃ n, v = .int n ∧ r = some n ∧ lo ≤ n ∧ n ≤ hi) ∨ (∃ n, v = .int n ∧ r = none ∧ ¬ (lo ≤ n ∧ n ≤ hi)) ∨ (NonInt H v ∧ r = none) := by
  cases h with
  | int n =>
    by_cases c : lo ≤ n ∧ n ≤ hi
    · exact .inl ⟨n, rfl, if_pos c, c⟩
    · exact .inr (.inl ⟨n, rfl, if_neg c, c⟩)
  | non h => exact .inr (.inr ⟨h, rfl⟩)
/-- exception of the class CE with the value v in its field fl -/
def Xs (CE : Addr) (fl : Str) (v : V) (H : Hp) (E : XK) : Prop := ∀ d H', H d = none → Rd.Ex H H' → H' d = some (.xd [(fl, v)]) → E (.ref CE) (some d) H'
theorem ex_none {H H1 : Hp} {p : Addr} (e : Rd.Ex H H1) (h : H1 p = none) : H p = none := by
  cases hh : H p with
  | none => rfl
  | some o => rw [e p o hh] at h; cases h
theorem Xs.ex {CE : Addr} {fl : Str} {v : V} {H H' : Hp} {E : XK} (e : Rd.Ex H H') (h : Xs CE fl v H E) : Xs CE fl v H' E := fun d H2 hd e2 k => h d H2 (ex_none e hd) (e.trans e2) k
theorem Xs.mk {C : Addr} {fl : Str} {v : V} {H : Hp} {Q : XK} (h : Xs C fl v H Q) :
    [v].length ≤ 1000 ∧ ∀ a, H a = none → Gx.spExc C fl (.ref a :: ([v] ++ [])) (upd H a (exo a C none))
      (fun r H2 => r = .non ∧ ∃ (d : Addr) (fs : List (Str × V)), H2 a = some (exo a C (some d)) ∧ H2 d = some (exd d fs) ∧ H d = none ∧ Q (.ref C) (some d) (upd (del H2 a) d (.xd fs))) (fun _ _ _ => False) := Gx.mkO h
theorem Out.is {lo hi : Int} {H : Hp} {v : V} {Q : VK} {E : XK} (h : Out lo hi H v) (q : Q (.bl false) H) : spIs lo hi ([v] ++ []) H Q E := by
  refine ⟨v, rfl, ?_⟩
  rcases h.inv with ⟨n, _, z, _⟩ | ⟨n, rfl, _, c⟩ | ⟨h', _⟩
  · cases z
  · exact .inl ⟨n, rfl, by rw [decide_eq_false c]; exact q⟩
  · exact .inr ⟨h', q⟩
theorem Nm.is {lo hi : Int} {H : Hp} {v : V} {r : Option Int} {Q : VK} {E : XK} (h : Nm lo hi H v r) (q : Q (.bl r.isSome) H) : spIs lo hi ([v] ++ []) H Q E := by
  refine ⟨v, rfl, ?_⟩
  rcases h.inv with ⟨n, rfl, rfl, c⟩ | ⟨n, rfl, rfl, c⟩ | ⟨h', rfl⟩
  · exact .inl ⟨n, rfl, by rw [decide_eq_true c]; exact q⟩
  · exact .inl ⟨n, rfl, by rw [decide_eq_false c]; exact q⟩
  · exact .inr ⟨h', q⟩
end Pr
namespace Gx
open PySem PySem.Spec PyProof.Rows L2
/-- written objects that stand -/
def Hold (L : List (Addr × HO)) (H : Hp) : Prop := ∀ x ∈ L, H x.1 = some x.2
def Plain (L : List (Addr × HO)) : Prop := ∀ x ∈ L, (∃ xs, x.2 = .tup xs) ∨ ∃ xs, x.2 = .lst xs
section
variable {L : List (Addr × HO)} {H H' : Hp}
theorem Hold.ex (h : Hold L H) (e : Rd.Ex H H') : Hold L H' := fun x hx => e _ _ (h x hx)
/-- an object that was not there then is changed -/
theorem Hold.new {H0 : Hp} (h : Hold L H) (h0 : Hold L H0) {d : Addr} (hd : H0 d = none) (e : Au.ExP d H H') : Hold L H' := fun x hx => e _ _ (h x hx) fun z => by
  have k := h0 x hx
  rw [z, hd] at k
  cases k
theorem Hold.cons {a : Addr} {o : HO} (h : Hold L H) (k : H a = some o) : Hold ((a, o) :: L) H := fun x hx => by
  rcases List.mem_cons.mp hx with rfl | hx
  · exact k
  · exact h x hx
theorem Hold.nil : Hold [] H := fun x hx => by cases hx
theorem Plain.nil : Plain [] := fun x hx => by cases hx
theorem Plain.tup {a : Addr} {xs : List V} (h : Plain L) : Plain ((a, .tup xs) :: L) := fun x hx => by
  rcases List.mem_cons.mp hx with rfl | hx
  · exact .inl ⟨_, rfl⟩
  · exact h x hx
theorem Plain.lst {a : Addr} {xs : List V} (h : Plain L) : Plain ((a, .lst xs) :: L) := fun x hx => by
  rcases List.mem_cons.mp hx with rfl | hx
  · exact .inr ⟨_, rfl⟩
  · exact h x hx
theorem Hold.at {a : Addr} {o : HO} (i : Nat) (h : Hold L H) (hi : L[i]? = some (a, o)) : H a = some o := h (a, o) (List.mem_of_getElem? hi)
end
end Gx
set_option Elab.async false
set_option linter.all false
set_option maxRecDepth 100000
set_option maxHeartbeats 1000000
namespace Sx
open PySem PySem.Spec PyProof.Rows L2
/-- a thing that may be written -/
def Mo : HO → Prop
  | .lst _ => True
  | .ins _ _ _ => True
  | .dK _ => True
  | .dT _ => True
  | .set _ _ => True
  | .xd _ => True
  | _ => False
theorem Mo.tup {xs : List V} : ¬ Mo (.tup xs) := fun h => h
theorem Mo.tbl {ps} : ¬ Mo (.tbl ps) := fun h => h
theorem Mo.ext {ps} : ¬ Mo (.ext ps) := fun h => h
/-- tuples stay -/
def Kp (H H' : Hp) : Prop := ∀ c xs, H c = some (.tup xs) → H' c = some (.tup xs)
theorem Kp.ex {H H' : Hp} (e : Rd.Ex H H') : Kp H H' := fun c xs h => e c _ h
theorem Kp.exn {H H' : Hp} (e : LamX.ExtN H H') : Kp H H' := fun c xs h => e c _ h fun _ z => by cases z
theorem Kp.exp {H H' : Hp} {x : Addr} {o : HO} (e : Au.ExP x H H') (hx : H x = some o) (m : Mo o) : Kp H H' := fun c xs h => e c _ h fun z => by
  rw [z, hx] at h
  cases h
  exact m
/-- what is told of a thing -/
structure Cl where
  P : Hp → HO → Prop
  st : ∀ {H H' : Hp} {o : HO}, Kp H H' → P H o → P H' o
def Is (o : HO) : Cl := ⟨fun _ x => x = o, fun _ h => h⟩
/-- read only; new tuple; new and writable; to be written -/
inductive Fl where | ro | nt | nm | mu
def Fl.mut : Fl → Bool
  | .nm => true
  | .mu => true
  | _ => false
abbrev En := Addr × Cl × Fl
structure Bs where
  H0 : Hp
  M : List Addr
  T : List (Addr × Str)
/-- it was not there at the entry -/
def Fr (B : Bs) (a : Addr) : Prop := ∀ o, B.H0 a = some o → B.T ≠ [] ∧ ∃ ps, o = .tbl ps
def Fl.ok (B : Bs) (a : Addr) : Fl → Prop
  | .ro => True
  | .nt => Fr B a
  | .nm => Fr B a
  | .mu => a ∈ B.M
def Df (e e' : En) : Prop := (e.2.2.mut = false ∧ e'.2.2.mut = false) ∨ e.1 ≠ e'.1
theorem Df.symm {e e' : En} (h : Df e e') : Df e' e := h.elim (fun h => .inl ⟨h.2, h.1⟩) (fun h => .inr (Ne.symm h))
structure Hs (B : Bs) (L : List En) (H : Hp) : Prop where
  fr : ∀ c o, B.H0 c = some o → c ∉ B.M → (B.T ≠ [] → ∀ ps, o ≠ .tbl ps) → H c = some o
  mm : ∀ c ∈ B.M, ∃ o, H c = some o ∧ Mo o
  tb : LamX.Tabs B.T H
  df : L.Pairwise Df
  ok : ∀ e ∈ L, e.2.2.ok B e.1 ∧ ∃ o, H e.1 = some o ∧ e.2.1.P H o ∧ (e.2.2.mut = true → Mo o) ∧ ∀ ps, o ≠ .tbl ps
def W (B : Bs) (L : List En) (G : Hp → Prop) : Prop := ∀ H, Hs B L H → G H
section
variable {B : Bs} {L L' L1 L2 : List En} {H H' H1 : Hp} {p x a : Addr} {o : HO} {φ φ' : Cl} {f : Fl} {G G' : Hp → Prop}
theorem Hs.at (S : Hs B L H) (m : (a, Is o, f) ∈ L) : H a = some o := by
  obtain ⟨_, z, h1, h2, _⟩ := S.ok _ m
  cases h2
  exact h1
theorem Hs.fresh (S : Hs B L H) (n : H p = none) : Fr B p := fun o h => by
  refine Classical.byContradiction fun nc => ?_
  by_cases hm : p ∈ B.M
  · obtain ⟨o', h', _⟩ := S.mm p hm
    rw [n] at h'; cases h'
  · have := S.fr p o h hm fun hT ps z => nc ⟨hT, ps, z⟩
    rw [n] at this; cases this
theorem Hs.ex (S : Hs B L H) (e : Rd.Ex H H') : Hs B L H' where
  fr := fun c o h n t => e _ _ (S.fr c o h n t)
  mm := fun c h => by
    obtain ⟨o, h1, h2⟩ := S.mm c h
    exact ⟨o, e _ _ h1, h2⟩
  tb := S.tb.ext e
  df := S.df
  ok := fun z hz => by
    obtain ⟨h0, o, h1, h2, h3⟩ := S.ok z hz
    exact ⟨h0, o, e _ _ h1, z.2.1.st (.ex e) h2, h3⟩
theorem Hs.exn (S : Hs B L H) (hT : B.T ≠ []) (e : LamX.ExtN H H') (t : LamX.Tabs B.T H') : Hs B L H' where
  fr := fun c o h n t => e _ _ (S.fr c o h n t) (t hT)
  mm := fun c h => by
    obtain ⟨o, h1, h2⟩ := S.mm c h
    exact ⟨o, e _ _ h1 (fun ps z => by subst z; exact h2), h2⟩
  tb := t
  df := S.df
  ok := fun z hz => by
    obtain ⟨h0, o, h1, h2, h3, h4⟩ := S.ok z hz
    exact ⟨h0, o, e _ _ h1 h4, z.2.1.st (.exn e) h2, h3, h4⟩
theorem Hs.ad (S : Hs B L H) (n : H p = none) (e : Rd.Ex H H') (k : H' p = some o) (c : φ.P H' o) (hf : f = .nt ∨ f = .nm ∧ Mo o) (nb : ∀ ps, o ≠ .tbl ps) : Hs B ((p, φ, f) :: L) H' where
  fr := (S.ex e).fr
  mm := (S.ex e).mm
  tb := (S.ex e).tb
  df := List.pairwise_cons.mpr ⟨fun z hz => .inr fun q => (by
    obtain ⟨_, o', h1, _⟩ := S.ok z hz
    simp only at q
    rw [← q, n] at h1
    cases h1), S.df⟩
  ok := fun z hz => by
    rcases List.mem_cons.mp hz with rfl | hz
    · refine ⟨?_, o, k, c, ?_, nb⟩
      · rcases hf with rfl | ⟨rfl, _⟩ <;> exact S.fresh n
      · rcases hf with rfl | ⟨rfl, h⟩
        · intro h; cases h
        · exact fun _ => h
    · exact (S.ex e).ok z hz
theorem Hs.nw (S : Hs B L H) (n : H p = none) (e : Rd.Ex H H') (k : H' p = some o) (hf : f = .nt ∨ f = .nm ∧ Mo o) (nb : ∀ ps, o ≠ .tbl ps) : Hs B ((p, Is o, f) :: L) H' := S.ad n e k rfl hf nb
/-- one thing's row is written anew -/
inductive Upd : List En → Addr → Cl → List En → Prop
  | hd {φ φ' : Cl} {f : Fl} {x : Addr} {L : List En} (h : f.mut = true) : Upd ((x, φ, f) :: L) x φ' ((x, φ', f) :: L)
  | tl {e : En} {L L' : List En} {x : Addr} {φ' : Cl} (h : Upd L x φ' L') : Upd (e :: L) x φ' (e :: L')
theorem Upd.mem {L L' : List En} {x : Addr} {φ' : Cl} (u : Upd L x φ' L') (d : L.Pairwise Df) : (∃ φ f, f.mut = true ∧ (x, φ, f) ∈ L) ∧ (∀ e ∈ L', (e.1 = x ∧ e.2.1 = φ' ∧ e.2.2.mut = true ∧ ∃ φ, (x, φ, e.2.2) ∈ L) ∨ (e ∈ L ∧ e.1 ≠ x)) ∧ L'.map (fun e => (e.1, e.2.2)) = L.map (fun e => (e.1, e.2.2)) := by
  induction u with
  | hd h =>
    refine ⟨⟨_, _, h, List.mem_cons_self⟩, fun e he => ?_, rfl⟩
    rcases List.mem_cons.mp he with rfl | he
    · exact .inl ⟨rfl, rfl, h, _, List.mem_cons_self⟩
    · refine .inr ⟨List.mem_cons_of_mem _ he, fun z => ?_⟩
      rcases (List.pairwise_cons.mp d).1 e he with q | q
      · rw [h] at q; cases q.1
      · exact q z.symm
  | @tl e L L' x φ' u ih =>
    obtain ⟨⟨φ, f, h1, h2⟩, h3, h4⟩ := ih (List.pairwise_cons.mp d).2
    refine ⟨⟨φ, f, h1, List.mem_cons_of_mem _ h2⟩, fun z hz => ?_, by simp only [List.map_cons, h4]⟩
    rcases List.mem_cons.mp hz with rfl | hz
    · refine .inr ⟨List.mem_cons_self, fun q => ?_⟩
      rcases (List.pairwise_cons.mp d).1 _ h2 with w | w
      · rw [h1] at w; cases w.2
      · exact w q
    · rcases h3 z hz with ⟨a, b, c, φ, d⟩ | ⟨a, b⟩
      · exact .inl ⟨a, b, c, φ, List.mem_cons_of_mem _ d⟩
      · exact .inr ⟨List.mem_cons_of_mem _ a, b⟩
theorem df_map {L L' : List En} (h : L'.map (fun e => (e.1, e.2.2)) = L.map (fun e => (e.1, e.2.2))) (d : L.Pairwise Df) : L'.Pairwise Df := by
  have e : ∀ K : List En, K.Pairwise Df ↔ (K.map (fun e => (e.1, e.2.2))).Pairwise (fun p q => (p.2.mut = false ∧ q.2.mut = false) ∨ p.1 ≠ q.1) := fun K => by
    rw [List.pairwise_map]; rfl
  rw [e, h, ← e]
  exact d
theorem Hs.set (S : Hs B L H) (u : Upd L x φ L') (e : Au.ExP x H H') (k : H' x = some o) (c : φ.P H' o) (mo : Mo o) : Hs B L' H' := by
  obtain ⟨⟨ψ, f, h1, h2⟩, h3, h4⟩ := u.mem S.df
  obtain ⟨s0, z, s1, s2, s3, s4⟩ := S.ok _ h2
  have mz := s3 h1
  have kp := Kp.exp e s1 mz
  have nb : ∀ ps, o ≠ .tbl ps := fun ps q => by subst q; exact mo
  refine ⟨fun c o' h n t => e _ _ (S.fr c o' h n t) fun q => ?_, fun c hc => ?_, fun q hq => ?_, df_map h4 S.df, fun v hv => ?_⟩
  · subst q
    cases f with
    | ro => cases h1
    | nt => cases h1
    | nm =>
      obtain ⟨hT, ps, q⟩ := s0 _ h
      exact t hT ps q
    | mu => exact n s0
  · by_cases q : c = x
    · exact ⟨o, q ▸ k, mo⟩
    · obtain ⟨o', h1, h2⟩ := S.mm c hc
      exact ⟨o', e _ _ h1 q, h2⟩
  · obtain ⟨ps, t1, t2, t3⟩ := S.tb q hq
    refine ⟨ps, e _ _ t1 (fun w => by rw [w, s1] at t1; cases t1; exact mz), t2, fun pos cv hcv => ?_⟩
    obtain ⟨c', rfl, hc'⟩ := t3 pos cv hcv
    exact ⟨c', rfl, e _ _ hc' (fun w => by rw [w, s1] at hc'; cases hc'; exact mz)⟩
  · rcases h3 v hv with ⟨rfl, rfl, q3, φ0, q4⟩ | ⟨q1, q2⟩
    · exact ⟨(S.ok _ q4).1, o, k, c, fun _ => mo, nb⟩
    · obtain ⟨w0, o', w1, w2, w3⟩ := S.ok v q1
      exact ⟨w0, o', e _ _ w1 q2, v.2.1.st kp w2, w3⟩
inductive Sel : List En → Addr → Cl → List En → Prop
  | hd {φ : Cl} {f : Fl} {x : Addr} {L : List En} (h : f.mut = true) : Sel ((x, φ, f) :: L) x φ L
  | tl {e : En} {L L' : List En} {x : Addr} {φ : Cl} (h : Sel L x φ L') : Sel (e :: L) x φ (e :: L')
inductive FindR : List En → List En → Prop
  | nil {L : List En} : FindR L []
  | cons {L ps : List En} {x : Addr} {φ : Cl} {f : Fl} (m : (x, φ, f) ∈ L) (h : FindR L ps) : FindR L ((x, φ, .ro) :: ps)
/-- first what is to be written, then what is read -/
inductive Find : List En → List En → Prop
  | ros {L ps : List En} (h : FindR L ps) : Find L ps
  | mu {L L1 ps : List En} {x : Addr} {φ : Cl} (m : Sel L x φ L1) (h : Find L1 ps) : Find L ((x, φ, .mu) :: ps)
theorem Sel.mem {L L' : List En} {x : Addr} {φ : Cl} (u : Sel L x φ L') (d : L.Pairwise Df) : (∃ f, f.mut = true ∧ (x, φ, f) ∈ L) ∧ (∀ e ∈ L', e ∈ L ∧ e.1 ≠ x) ∧ L'.Sublist L := by
  induction u with
  | hd h =>
    refine ⟨⟨_, h, List.mem_cons_self⟩, fun e he => ⟨List.mem_cons_of_mem _ he, fun z => ?_⟩, List.sublist_cons_self _ _⟩
    rcases (List.pairwise_cons.mp d).1 e he with q | q
    · rw [h] at q; cases q.1
    · exact q z.symm
  | @tl e L L' x φ u ih =>
    obtain ⟨⟨f, h1, h2⟩, h3, h4⟩ := ih (List.pairwise_cons.mp d).2
    refine ⟨⟨f, h1, List.mem_cons_of_mem _ h2⟩, fun z hz => ?_, h4.cons_cons _⟩
    rcases List.mem_cons.mp hz with rfl | hz
    · refine ⟨List.mem_cons_self, fun q => ?_⟩
      rcases (List.pairwise_cons.mp d).1 _ h2 with w | w
      · rw [h1] at w; cases w.2
      · exact w q
    · exact ⟨List.mem_cons_of_mem _ (h3 z hz).1, (h3 z hz).2⟩
def mus (L : List En) : List Addr := (L.filter fun e => match e.2.2 with | .mu => true | _ => false).map (·.1)
theorem FindR.mem {L ps : List En} (u : FindR L ps) : (∀ e ∈ ps, e.2.2 = .ro ∧ ∃ f, (e.1, e.2.1, f) ∈ L) ∧ ps.Pairwise Df := by
  induction u with
  | nil => exact ⟨fun e h => (by cases h), .nil⟩
  | @cons ps x φ f m h ih =>
    refine ⟨fun e he => ?_, List.pairwise_cons.mpr ⟨fun e he => .inl ⟨rfl, by rw [(ih.1 e he).1]; rfl⟩, ih.2⟩⟩
    rcases List.mem_cons.mp he with rfl | he
    · exact ⟨rfl, f, m⟩
    · exact ih.1 e he
theorem Find.mem {L ps : List En} (u : Find L ps) (d : L.Pairwise Df) : (∀ e ∈ ps, ∃ f, (e.1, e.2.1, f) ∈ L ∧ (e.2.2 = .ro ∨ (e.2.2 = .mu ∧ f.mut = true))) ∧ ps.Pairwise Df := by
  induction u with
  | ros h =>
    refine ⟨fun e he => ?_, h.mem.2⟩
    obtain ⟨h1, f, h2⟩ := h.mem.1 e he
    exact ⟨f, h2, .inl h1⟩
  | @mu L L1 ps x φ m h ih =>
    obtain ⟨⟨f, m1, m2⟩, m3, m4⟩ := m.mem d
    obtain ⟨h1, h2⟩ := ih (d.sublist m4)
    refine ⟨fun e he => ?_, List.pairwise_cons.mpr ⟨fun e he => ?_, h2⟩⟩
    · rcases List.mem_cons.mp he with rfl | he
      · exact ⟨f, m2, .inr ⟨rfl, m1⟩⟩
      · obtain ⟨g, g1, g2⟩ := h1 e he
        exact ⟨g, (m3 _ g1).1, g2⟩
    · obtain ⟨g, g1, g2⟩ := h1 e he
      exact .inr fun z => (m3 _ g1).2 z.symm
/-- what it leaves -/
def Post (H : Hp) (T : List (Addr × Str)) (pre post : List En) (G : Hp → Prop) : Prop := ∀ H', Hs ⟨H, mus pre, T⟩ post H' → G H'
/-- the caller's list behind the call -/
inductive Rep : List En → List En → List En → Prop
  | nil {L : List En} : Rep L [] L
  | ro {L ps L' : List En} {x : Addr} {φ : Cl} (h : Rep L ps L') : Rep L ((x, φ, .ro) :: ps) L'
  | nt {L ps L' : List En} {x : Addr} {φ : Cl} (h : Rep L ps L') : Rep L ((x, φ, .nt) :: ps) ((x, φ, .nt) :: L')
  | nm {L ps L' : List En} {x : Addr} {φ : Cl} (h : Rep L ps L') : Rep L ((x, φ, .nm) :: ps) ((x, φ, .nm) :: L')
  | mu {L ps L' L1 : List En} {x : Addr} {φ : Cl} (u : Upd L x φ L1) (h : Rep L1 ps L') : Rep L ((x, φ, .mu) :: ps) L'
/-- new -/
def Fl.isN : Fl → Prop
  | .nt => True
  | .nm => True
  | _ => False
theorem Rep.mem {L ps L' : List En} (u : Rep L ps L') : L.Pairwise Df → ps.Pairwise Df → (∀ e ∈ ps, e.2.2.isN → ∀ z ∈ L, e.1 ≠ z.1) →
    (∀ e ∈ L', (e ∈ ps ∧ e.2.2.isN) ∨ (∃ φ, (e.1, φ, e.2.2) ∈ L ∧ (e.1, e.2.1, .mu) ∈ ps ∧ e.2.2.mut = true) ∨ (e ∈ L ∧ ∀ φ, (e.1, φ, .mu) ∉ ps)) ∧ L'.Pairwise Df := by
  induction u with
  | nil => exact fun d _ _ => ⟨fun e he => .inr (.inr ⟨he, fun φ h => (by cases h)⟩), d⟩
  | ro h ih =>
    intro d dp hn
    obtain ⟨h1, h2⟩ := ih d (List.pairwise_cons.mp dp).2 fun e he => hn e (List.mem_cons_of_mem _ he)
    refine ⟨fun e he => ?_, h2⟩
    rcases h1 e he with ⟨a, b⟩ | ⟨φ, a, b, c⟩ | ⟨a, b⟩
    · exact .inl ⟨List.mem_cons_of_mem _ a, b⟩
    · exact .inr (.inl ⟨φ, a, List.mem_cons_of_mem _ b, c⟩)
    · refine .inr (.inr ⟨a, fun φ z => ?_⟩)
      rcases List.mem_cons.mp z with z | z
      · cases z
      · exact b φ z
  | @nt L ps L' x φ h ih =>
    intro d dp hn
    obtain ⟨h1, h2⟩ := ih d (List.pairwise_cons.mp dp).2 fun e he => hn e (List.mem_cons_of_mem _ he)
    refine ⟨fun e he => ?_, List.pairwise_cons.mpr ⟨fun e he => ?_, h2⟩⟩
    · rcases List.mem_cons.mp he with rfl | he
      · exact .inl ⟨List.mem_cons_self, trivial⟩
      rcases h1 e he with ⟨a, b⟩ | ⟨φ, a, b, c⟩ | ⟨a, b⟩
      · exact .inl ⟨List.mem_cons_of_mem _ a, b⟩
      · exact .inr (.inl ⟨φ, a, List.mem_cons_of_mem _ b, c⟩)
      · refine .inr (.inr ⟨a, fun φ z => ?_⟩)
        rcases List.mem_cons.mp z with z | z
        · cases z
        · exact b φ z
    · rcases h1 e he with ⟨a, b⟩ | ⟨φ, a, b⟩ | ⟨a, b⟩
      · exact (List.pairwise_cons.mp dp).1 e a
      · exact .inr fun q => hn _ List.mem_cons_self trivial _ a q
      · exact .inr (hn _ List.mem_cons_self trivial _ a)
  | @nm L ps L' x φ h ih =>
    intro d dp hn
    obtain ⟨h1, h2⟩ := ih d (List.pairwise_cons.mp dp).2 fun e he => hn e (List.mem_cons_of_mem _ he)
    refine ⟨fun e he => ?_, List.pairwise_cons.mpr ⟨fun e he => ?_, h2⟩⟩
    · rcases List.mem_cons.mp he with rfl | he
      · exact .inl ⟨List.mem_cons_self, trivial⟩
      rcases h1 e he with ⟨a, b⟩ | ⟨φ, a, b, c⟩ | ⟨a, b⟩
      · exact .inl ⟨List.mem_cons_of_mem _ a, b⟩
      · exact .inr (.inl ⟨φ, a, List.mem_cons_of_mem _ b, c⟩)
      · refine .inr (.inr ⟨a, fun φ z => ?_⟩)
        rcases List.mem_cons.mp z with z | z
        · cases z
        · exact b φ z
    · rcases h1 e he with ⟨a, b⟩ | ⟨φ, a, b⟩ | ⟨a, b⟩
      · exact (List.pairwise_cons.mp dp).1 e a
      · exact .inr fun q => hn _ List.mem_cons_self trivial _ a q
      · exact .inr (hn _ List.mem_cons_self trivial _ a)
  | @mu L ps L' L1 x φ u h ih =>
    intro d dp hn
    obtain ⟨u1, u2, u3⟩ := u.mem d
    have ads : ∀ z ∈ L1, ∃ y ∈ L, y.1 = z.1 := fun z hz => by
      rcases u2 z hz with ⟨a, _, _, φ0, b⟩ | ⟨a, _⟩
      · exact ⟨_, b, a.symm⟩
      · exact ⟨_, a, rfl⟩
    obtain ⟨h1, h2⟩ := ih (df_map u3 d) (List.pairwise_cons.mp dp).2 fun e he hN z hz => by
      obtain ⟨y, y1, y2⟩ := ads z hz
      rw [← y2]
      exact hn e (List.mem_cons_of_mem _ he) hN y y1
    refine ⟨fun e he => ?_, h2⟩
    rcases h1 e he with ⟨a, b⟩ | ⟨φ', a, b, c⟩ | ⟨a, b⟩
    · exact .inl ⟨List.mem_cons_of_mem _ a, b⟩
    · rcases u2 _ a with ⟨w1, w2, _, φ0, w3⟩ | ⟨w1, w2⟩
      · simp only at w1 w2 w3
        refine .inr (.inl ⟨φ0, ?_, List.mem_cons_of_mem _ b, c⟩)
        rw [w1]
        exact w3
      · exact .inr (.inl ⟨φ', w1, List.mem_cons_of_mem _ b, c⟩)
    · rcases u2 _ a with ⟨w1, w2, w3, φ0, w4⟩ | ⟨w1, w2⟩
      · refine .inr (.inl ⟨φ0, by rw [w1]; exact w4, ?_, w3⟩)
        rw [w1, w2]
        exact List.mem_cons_self
      · refine .inr (.inr ⟨w1, fun ψ z => ?_⟩)
        rcases List.mem_cons.mp z with z | z
        · cases z
          exact w2 rfl
        · exact b ψ z
def Cl.le (φ ψ : Cl) : Prop := ∀ H o, φ.P H o → ψ.P H o
theorem Cl.le.rfl {φ : Cl} : Cl.le φ φ := fun _ _ h => h
/-- a row is taken out -/
inductive Rm : List En → Addr → Cl → Fl → List En → Prop
  | hd {φ : Cl} {f : Fl} {x : Addr} {L : List En} : Rm ((x, φ, f) :: L) x φ f L
  | tl {e : En} {L L' : List En} {x : Addr} {φ : Cl} {f : Fl} (h : Rm L x φ f L') : Rm (e :: L) x φ f (e :: L')
theorem Rm.ex {L L' : List En} {x : Addr} {φ : Cl} {f : Fl} (h : Rm L x φ f L') : ∃ L0 R0, L = L0 ++ (x, φ, f) :: R0 ∧ L' = L0 ++ R0 := by
  induction h with
  | hd => exact ⟨[], _, rfl, rfl⟩
  | @tl e L L' x φ f h ih =>
    obtain ⟨L0, R0, h1, h2⟩ := ih
    exact ⟨e :: L0, R0, by rw [h1]; rfl, by rw [h2]; rfl⟩
inductive Sub : List En → List En → Prop
  | nil {L : List En} : Sub [] L
  | rfl {L : List En} : Sub L L
  | cons {L L1 ps : List En} {x : Addr} {φ ψ : Cl} {f : Fl} (m : Rm L x φ f L1) (h : Cl.le φ ψ) (r : Sub ps L1) : Sub ((x, ψ, f) :: ps) L
theorem Sub.mem {L ps : List En} (u : Sub ps L) : L.Pairwise Df → (∀ e ∈ ps, ∃ φ, (e.1, φ, e.2.2) ∈ L ∧ Cl.le φ e.2.1) ∧ ps.Pairwise Df := by
  induction u with
  | nil => exact fun _ => ⟨fun e h => (by cases h), .nil⟩
  | rfl => exact fun d => ⟨fun e h => ⟨_, h, Cl.le.rfl⟩, d⟩
  | @cons L L1 ps x φ ψ f m h r ih =>
    intro d
    obtain ⟨L0, R0, rfl, rfl⟩ := m.ex
    have d' := (List.pairwise_append.mp d)
    have dm : ∀ e ∈ L0 ++ R0, Df (x, φ, f) e := fun e he => by
      rcases List.mem_append.mp he with he | he
      · exact (d'.2.2 e he _ List.mem_cons_self).symm
      · exact (List.pairwise_cons.mp d'.2.1).1 e he
    have sub : (L0 ++ R0).Sublist (L0 ++ (x, φ, f) :: R0) := (List.Sublist.refl L0).append (List.sublist_cons_self _ _)
    obtain ⟨h1, h2⟩ := ih (d.sublist sub)
    refine ⟨fun e he => ?_, List.pairwise_cons.mpr ⟨fun e he => ?_, h2⟩⟩
    · rcases List.mem_cons.mp he with rfl | he
      · exact ⟨φ, by simp, h⟩
      · obtain ⟨φ', a, b⟩ := h1 e he
        exact ⟨φ', sub.mem a, b⟩
    · obtain ⟨φ', a, _⟩ := h1 e he
      rcases dm _ a with q | q
      · exact .inl q
      · exact .inr q
theorem Hs.sub {ps : List En} (S : Hs B L H) (u : Sub ps L) : Hs B ps H where
  fr := S.fr
  mm := S.mm
  tb := S.tb
  df := (u.mem S.df).2
  ok := fun e he => by
    obtain ⟨φ, h1, h2⟩ := (u.mem S.df).1 e he
    obtain ⟨k0, o, k1, k2, k3⟩ := S.ok _ h1
    exact ⟨k0, o, k1, h2 _ _ k2, k3⟩
end
end Sx
namespace Sx
open PySem PySem.Spec PyProof.Rows L2
theorem Sub.one (e : En) : ∀ (L : List En), Sub L (e :: L)
  | [] => .nil
  | (x, φ, f) :: L => .cons (.tl .hd) Cl.le.rfl (Sub.one e L)
theorem Sub.dr {ps L : List En} {e : En} (h : Sub ps L) : Sub ps (e :: L) := by
  induction h generalizing e with
  | nil => exact .nil
  | rfl => exact Sub.one e _
  | cons m h r ih => exact .cons (.tl m) h ih
end Sx
set_option Elab.async false
set_option linter.all false
set_option maxRecDepth 100000
set_option maxHeartbeats 1000000
namespace Gx
open PySem PySem.Spec PyProof.Rows L2 GenW
structure MakX (P : Program) (w : World) (K : PySem.W.Frag) (mg : Str → Option Value) (base : Heap) (k : Nat) (x : Str) (C : Addr) (sp : Sp) (dvs : List V) : Prop where
  ex : ∃ (f : Addr) (fd : FuncData) (ps : List Str) (ds : List Value), Mk K C f ∧ FnOk P w K mg base (CX P w) k f fd ps sp ∧ mg x = some (.ref C) ∧ Binds K fd ps ds ∧ Vals dvs ds
section
variable {P : Program} {w : World} {K : PySem.W.Frag} {mg : Str → Option Value} {base : Heap}
theorem fnX {x qual : Str} {st : Stmt} {f : Addr} {fd : FuncData} {N ps : List Str} {k : Nat} {sp : Sp} (F : C8.Fun K x qual st f fd) (S : FnScope N ps (C8.fnScope st)) (len : ∀ vs H Q E, sp vs H Q E → vs.length = ps.length)
    (hbody : ∀ (cdv : Value) (A : Around) (outer : List Env) (s : Shared) (H : Hp) (vs : List V) (Q : VK) (E : XK), Room k (A.deeper (envOfC qual (C8.fnScope st) s.heap.objs.size f cdv)) → sp vs H Q E →
      ∃ t, PSs (cxOf (CX P w) P w K mg base N qual (C8.fnScope st) f cdv A outer s H E) (C8.fnBody st) t ∧ t { nx := fun _ H' => Q .non H', rt := Q } (start N vs) H) : FnOk P w K mg base (CX P w) (k + 1) f fd ps sp := by
  obtain ⟨oc, od, dV, kV, doc, pm, an, cdv, ct, osl, rfl, lk, hcd⟩ := F.ex
  exact fn_of lk hcd S len (hbody cdv)
theorem makX {x qual : Str} {C : Addr} {st : Stmt} {f : Addr} {fd : FuncData} {N ps : List Str} {k : Nat} {sp : Sp} (M : Mk K C f) (hm : mg x = some (.ref C)) (F : C8.Fun K "__init__" qual st f fd) (b : Binds K fd ps []) (S : FnScope N ps (C8.fnScope st)) (len : ∀ vs H Q E, sp vs H Q E → vs.length = ps.length)
    (hbody : ∀ (cdv : Value) (A : Around) (outer : List Env) (s : Shared) (H : Hp) (vs : List V) (Q : VK) (E : XK), Room k (A.deeper (envOfC qual (C8.fnScope st) s.heap.objs.size f cdv)) → sp vs H Q E →
      ∃ t, PSs (cxOf (CX P w) P w K mg base N qual (C8.fnScope st) f cdv A outer s H E) (C8.fnBody st) t ∧ t { nx := fun _ H' => Q .non H', rt := Q } (start N vs) H) : MakX P w K mg base (k + 1) x C sp [] :=
  ⟨f, fd, ps, [], M, fnX F S len hbody, hm, b, .nil⟩
end
section
variable {X : Cx} {k j i : Nat} {C : Addr} {x : Str} {sp : Sp} {dvs : List V} {p pos : Pos} {e : Expr} {es : List Expr} {t : TA} {W : WX} {E : XK}
theorem pe_mkx (c : MakX X.prog X.w X.K X.mg X.base k x C sp dvs) (tk : Takes X W) (hW : ∀ cls d σ H, E cls d H → W cls d σ H) (hr : Room j X.A) (hk : k + 1 ≤ j) (hg : Gl X x) (ha : PA X (e :: es) t)
    (hdb : (x == ("__debug__" : Str)) = false := by decide) (he : starEach (e :: es) X.env = (false, eval e X.env) :: starEach es X.env := by rfl) (hpl : (backTo pos (starEach es X.env)).any (·.1) = false := by rfl) :
    PE X (.Call (.Name x p) (e :: es) [] pos) (tMake C sp dvs E t) := by
  obtain ⟨f, fd, ps, ds, M, F, hm, b, d⟩ := c.ex
  exact pe_make M F (hr.mono hk) hg hm b d (passes_call tk hW) ha hdb he hpl
end
structure OwnT (K : PySem.W.Frag) (C : Addr) (nm T : String) : Prop where
  l1 : ∃ fo, PySem.W.findIn K (.type T) (PySem.dunder nm) = some fo
  l2 : ∃ ro, PySem.W.findIn K (.type T) (dunderR nm) = some ro
  sub : PySem.W.subIn K (.type T) (.ref C) = some false
def rOwnX (K : PySem.W.Frag) (C : Addr) (nm : String) (sp : Sp) (E : XK) : V → V → Hp → VK → Prop := fun x y H Q => ∃ (a dx : Addr) (fs : List (Str × V)) (T : String), x = .ref a ∧ TyX K H y (.type T) ∧ OwnT K C nm T ∧ H a = some (.ins C dx fs) ∧ sp ([x, y] ++ []) H (fun v H' => (∃ b, v = .ref b) ∧ Q v H') E
/-- a text times a number -/
def rMulS : R2 := fun x y H Q => ∃ (z : Str) (n : Int), x = .str z ∧ y = .int n ∧ PySem.MulOk z n ∧ Q (.str (Txt.mul z n)) H
theorem op_mulS {X : Cx} : OpR X (binaryOp .Mult) rMulS := by
  intro pins s σ H x y v u Q I rx ry h
  obtain ⟨z, n, rfl, rfl, ok, q⟩ := h
  obtain ⟨t, rfl⟩ := rx
  obtain ⟨t', rfl⟩ := ry
  exact PySem.SB.mul ok fun a k => ⟨.str _, H, I.tok _, ⟨_, rfl⟩, q⟩
end Gx
set_option Elab.async false
set_option linter.all false
set_option maxRecDepth 100000
set_option maxHeartbeats 1000000
namespace Gx
open PySem PySem.Spec PyProof.Rows L2 L2H
end Gx
set_option Elab.async false
set_option linter.all false
set_option maxRecDepth 100000
set_option maxHeartbeats 4000000
set_option exponentiation.threshold 2000
namespace Gx
open PySem PySem.Spec PyProof.Rows L2
end Gx
set_option Elab.async false
set_option linter.all false
set_option maxRecDepth 100000
set_option maxHeartbeats 1000000
namespace Sx
open PySem PySem.Spec PyProof.Rows L2
/-- a promise is being read -/
def Do (p : Prop) : Prop := p
section
variable {B : Bs} {L L' L1 : List En} {D : Ends} {σ : L2.St} {Q : VK} {QB : Bool → Hp → Prop} {QA : List V → Hp → Prop} {t1 t2 : TS} {te ta tb tc : TE} {tr : TA} {t u : TT} {i j : Nat} {v x y : V} {m n : Int} {r r2 : R2} {K : PySem.W.Frag} {G G1 G2 : Hp → Prop} {b : Bool} {p : Prop} {C a dx : Addr} {fs : List (Str × V)} {f : Str} {fl : Fl} {sp : Sp} {E : XK} {g : TG} {xs : List V}
theorem seq (h : W B L fun H => t1 { D with nx := t2 D } σ H) : W B L fun H => tSeq t1 t2 D σ H := h
theorem next (h : W B L fun H => D.nx σ H) : W B L fun H => tNext D σ H := h
theorem nm {Qs : L2.St → Hp → Prop} (h : W B L fun H => Qs (σ.set i (some v)) H) : W B L fun H => gName i v σ H Qs := h
theorem ret (h : W B L fun H => te σ H D.rt) : W B L fun H => tRet te D σ H := h
theorem brk (h : W B L fun H => D.bk σ H) : W B L fun H => tBreak D σ H := h
theorem drop (h : W B L fun H => te σ H fun _ H1 => D.nx σ H1) : W B L fun H => tDrop te D σ H := h
theorem un {g : V → Hp → VK → Prop} (h : W B L fun H => ta σ H fun x H1 => g x H1 Q) : W B L fun H => tUn g ta σ H Q := h
/-- is None, is not None -/
theorem isN {G : V → Hp → Prop} (h : W B L fun H => G (.bl (decide (v = .non))) H) : W B L fun H => V.non = .non ∧ G (.bl (decide (v = .non))) H := fun H S => ⟨rfl, h H S⟩
theorem nil (h : W B L fun H => QA [] H) : W B L fun H => tNil σ H QA := h
theorem cons (h : W B L fun H => ta σ H fun x H1 => tr σ H1 fun xs H2 => QA (x :: xs) H2) : W B L fun H => tCons ta tr σ H QA := h
theorem call {dvs : List V} (h : W B L fun H => tr σ H fun vs H1 => Do (sp (vs ++ dvs) H1 Q E)) : W B L fun H => tCall sp dvs E tr σ H Q := h
theorem tup (h : W B L fun H => tr σ H fun xs H1 => xs.length ≤ sizeLine ∧ Au.NewO H1 (.tup xs) Q) : W B L fun H => tTup tr σ H Q := h
theorem lst (h : W B L fun H => tr σ H fun xs H1 => xs.length ≤ sizeLine ∧ Au.NewO H1 (.lst xs) Q) : W B L fun H => tLst tr σ H Q := h
theorem rep {xs : List V} {k : Int} {fl : Fl} (m : (a, Is (.lst xs), fl) ∈ L) (hk : 0 ≤ k ∧ k < 100) (hl : xs.length ≤ 10) (q : ∀ t, W B ((t, Is (.lst (List.replicate k.toNat xs).flatten), .nm) :: L) fun H => Q (.ref t) H) : W B L fun H => rRep (.ref a) (.int k) H Q :=
  fun H S => Au.rep (S.at m) hk hl fun p H' n e k => q p H' (S.nw n e k (.inr ⟨rfl, trivial⟩) fun ps z => by cases z)
def In (B : Bs) (P : L2.St → List En → Prop) : L2.St → Hp → Prop := fun σ H => ∃ L, P σ L ∧ Hs B L H
theorem sub (s : Sub L' L) (h : W B L' G) : W B L G := fun H S => h H (S.sub s)
theorem frz {g : TG} {tb : TS} (h : W B L fun H => tr σ H fun vs H1 => ∃ a b xs ys, vs = [.ref a, .ref b] ∧ SqL K H1 a xs ∧ SqL K H1 b ys ∧ ∃ W : Nat → Nat → L2.St → Hp → Prop, (∃ m, W 0 m σ H1) ∧ ∀ i m σ H, W i m σ H →
    ((Itz K a b).stop i H ∧ D.nx σ H) ∨ ((Itz K a b).go i H ∧ ∃ N : L2.St → Hp → Prop, (∀ σ' H', N σ' H' → ∃ m', m' < m ∧ W (i + 1) m' σ' H') ∧ ∀ x H', (Itz K a b).yld i H x H' → g x σ H' fun σ2 H2 => tb { D with nx := N, ct := N, bk := D.nx } σ2 H2)) :
    W B L fun H => tFor (iZip K tr) g tb D σ H := h
theorem cut {t u : TS} (Mid : L2.St → List En → Prop) (h1 : W B L fun H => t { D with nx := In B Mid } σ H) (h2 : ∀ σ' L', Mid σ' L' → W B L' fun H => u D σ' H) : W B L fun H => C8.tCut t u D σ H := fun H S =>
  Rd.cut (In B Mid) (h1 H S) fun σ' H' z => by
    obtain ⟨L', p, S'⟩ := z
    exact h2 σ' L' p H' S'
theorem mg {spg : SpG} {cont : List V → Hp → Prop} (h : W B L fun H => ta σ H fun x H1 => ∃ a dx fs, x = .ref a ∧ H1 a = some (.ins C dx fs) ∧ fs.lookup f = none ∧ tr σ H1 fun vs H2 => Do (spg (x :: (vs ++ [])) H2 cont E)) : W B L fun H => tMethG C f spg [] E ta tr σ H cont := h
end
end Sx
set_option Elab.async false
set_option linter.all false
set_option maxRecDepth 100000
set_option maxHeartbeats 1000000
namespace Sx
open PySem PySem.Spec PyProof.Rows L2
section
variable {H0 H : Hp} {T : List (Addr × Str)} {L : List En} {K : PySem.W.Frag} {a : Addr} {xs : List V} {Q : VK}
/-- the first cells and the sum -/
theorem cells {ns : List Int} {k : Int} (hl : ns.length ≤ 63) : ∃ M : List Int, cutV (ns.map V.int) none (some k) ++ [V.int ns.sum] = M.map V.int ∧ M.length ≤ 64 := by
  refine ⟨((ns.drop (HT.sIx (ns.map V.int).length 0 none)).take (HT.sIx (ns.map V.int).length (ns.map V.int).length (some k) - HT.sIx (ns.map V.int).length 0 none)) ++ [ns.sum], ?_, ?_⟩
  · unfold cutV
    rw [List.map_append, List.map_take, List.map_drop]
    rfl
  · have h1 : ((ns.drop (HT.sIx (ns.map V.int).length 0 none)).take (HT.sIx (ns.map V.int).length (ns.map V.int).length (some k) - HT.sIx (ns.map V.int).length 0 none)).length ≤ ns.length := by
      rw [List.length_take, List.length_drop]; omega
    rw [List.length_append]
    simp only [List.length_cons, List.length_nil]
    omega
end
end Sx
set_option Elab.async false
set_option linter.all false
set_option maxRecDepth 100000
set_option maxHeartbeats 1000000
set_option Elab.async false
set_option linter.all false
set_option maxRecDepth 100000
set_option maxHeartbeats 1000000
namespace Sx
open PySem PySem.Spec PyProof.Rows L2
theorem kb_NoneType_int {K : PySem.W.Frag} : PySem.W.kitOne K (.type "NoneType") (.type "int") = some false := by first | rfl | decide +kernel | kernel_rfl
theorem kb_NoneType_bool {K : PySem.W.Frag} : PySem.W.kitOne K (.type "NoneType") (.type "bool") = some false := by first | rfl | decide +kernel | kernel_rfl
theorem kb_NoneType_str {K : PySem.W.Frag} : PySem.W.kitOne K (.type "NoneType") (.type "str") = some false := by first | rfl | decide +kernel | kernel_rfl
theorem kb_NoneType_tuple {K : PySem.W.Frag} : PySem.W.kitOne K (.type "NoneType") (.type "tuple") = some false := by first | rfl | decide +kernel | kernel_rfl
theorem kb_NoneType_list {K : PySem.W.Frag} : PySem.W.kitOne K (.type "NoneType") (.type "list") = some false := by first | rfl | decide +kernel | kernel_rfl
theorem kb_bool_int {K : PySem.W.Frag} : PySem.W.kitOne K (.type "bool") (.type "int") = some true := by first | rfl | decide +kernel | kernel_rfl
theorem kb_bool_bool {K : PySem.W.Frag} : PySem.W.kitOne K (.type "bool") (.type "bool") = some true := by first | rfl | decide +kernel | kernel_rfl
theorem kb_bool_str {K : PySem.W.Frag} : PySem.W.kitOne K (.type "bool") (.type "str") = some false := by first | rfl | decide +kernel | kernel_rfl
theorem kb_bool_tuple {K : PySem.W.Frag} : PySem.W.kitOne K (.type "bool") (.type "tuple") = some false := by first | rfl | decide +kernel | kernel_rfl
theorem kb_bool_list {K : PySem.W.Frag} : PySem.W.kitOne K (.type "bool") (.type "list") = some false := by first | rfl | decide +kernel | kernel_rfl
theorem kb_int_int {K : PySem.W.Frag} : PySem.W.kitOne K (.type "int") (.type "int") = some true := by first | rfl | decide +kernel | kernel_rfl
theorem kb_int_bool {K : PySem.W.Frag} : PySem.W.kitOne K (.type "int") (.type "bool") = some false := by first | rfl | decide +kernel | kernel_rfl
theorem kb_int_str {K : PySem.W.Frag} : PySem.W.kitOne K (.type "int") (.type "str") = some false := by first | rfl | decide +kernel | kernel_rfl
theorem kb_int_tuple {K : PySem.W.Frag} : PySem.W.kitOne K (.type "int") (.type "tuple") = some false := by first | rfl | decide +kernel | kernel_rfl
theorem kb_int_list {K : PySem.W.Frag} : PySem.W.kitOne K (.type "int") (.type "list") = some false := by first | rfl | decide +kernel | kernel_rfl
theorem kb_str_int {K : PySem.W.Frag} : PySem.W.kitOne K (.type "str") (.type "int") = some false := by first | rfl | decide +kernel | kernel_rfl
theorem kb_str_bool {K : PySem.W.Frag} : PySem.W.kitOne K (.type "str") (.type "bool") = some false := by first | rfl | decide +kernel | kernel_rfl
theorem kb_str_str {K : PySem.W.Frag} : PySem.W.kitOne K (.type "str") (.type "str") = some true := by first | rfl | decide +kernel | kernel_rfl
theorem kb_str_tuple {K : PySem.W.Frag} : PySem.W.kitOne K (.type "str") (.type "tuple") = some false := by first | rfl | decide +kernel | kernel_rfl
theorem kb_str_list {K : PySem.W.Frag} : PySem.W.kitOne K (.type "str") (.type "list") = some false := by first | rfl | decide +kernel | kernel_rfl
theorem kb_tuple_int {K : PySem.W.Frag} : PySem.W.kitOne K (.type "tuple") (.type "int") = some false := by first | rfl | decide +kernel | kernel_rfl
theorem kb_tuple_bool {K : PySem.W.Frag} : PySem.W.kitOne K (.type "tuple") (.type "bool") = some false := by first | rfl | decide +kernel | kernel_rfl
theorem kb_tuple_str {K : PySem.W.Frag} : PySem.W.kitOne K (.type "tuple") (.type "str") = some false := by first | rfl | decide +kernel | kernel_rfl
theorem kb_tuple_tuple {K : PySem.W.Frag} : PySem.W.kitOne K (.type "tuple") (.type "tuple") = some true := by first | rfl | decide +kernel | kernel_rfl
theorem kb_tuple_list {K : PySem.W.Frag} : PySem.W.kitOne K (.type "tuple") (.type "list") = some false := by first | rfl | decide +kernel | kernel_rfl
theorem kb_list_int {K : PySem.W.Frag} : PySem.W.kitOne K (.type "list") (.type "int") = some false := by first | rfl | decide +kernel | kernel_rfl
theorem kb_list_bool {K : PySem.W.Frag} : PySem.W.kitOne K (.type "list") (.type "bool") = some false := by first | rfl | decide +kernel | kernel_rfl
theorem kb_list_str {K : PySem.W.Frag} : PySem.W.kitOne K (.type "list") (.type "str") = some false := by first | rfl | decide +kernel | kernel_rfl
theorem kb_list_tuple {K : PySem.W.Frag} : PySem.W.kitOne K (.type "list") (.type "tuple") = some false := by first | rfl | decide +kernel | kernel_rfl
theorem kb_list_list {K : PySem.W.Frag} : PySem.W.kitOne K (.type "list") (.type "list") = some true := by first | rfl | decide +kernel | kernel_rfl
theorem kb_dict_int {K : PySem.W.Frag} : PySem.W.kitOne K (.type "dict") (.type "int") = some false := by first | rfl | decide +kernel | kernel_rfl
theorem kb_dict_bool {K : PySem.W.Frag} : PySem.W.kitOne K (.type "dict") (.type "bool") = some false := by first | rfl | decide +kernel | kernel_rfl
theorem kb_dict_str {K : PySem.W.Frag} : PySem.W.kitOne K (.type "dict") (.type "str") = some false := by first | rfl | decide +kernel | kernel_rfl
theorem kb_dict_tuple {K : PySem.W.Frag} : PySem.W.kitOne K (.type "dict") (.type "tuple") = some false := by first | rfl | decide +kernel | kernel_rfl
theorem kb_dict_list {K : PySem.W.Frag} : PySem.W.kitOne K (.type "dict") (.type "list") = some false := by first | rfl | decide +kernel | kernel_rfl
end Sx
set_option Elab.async false
set_option linter.all false
set_option maxRecDepth 100000
set_option maxHeartbeats 1000000
namespace Sm
open PySem PySem.Spec PyProof.Rows L2
inductive Sm (K : PySem.W.Frag) (H : Hp) : Nat → V → V → Prop
  | int {n : Nat} (i : Int) : Sm K H n (.int i) (.int i)
  | str {n : Nat} (z : Str) : Sm K H n (.str z) (.str z)
  | bl {n : Nat} (b : Bool) : Sm K H n (.bl b) (.bl b)
  | non {n : Nat} : Sm K H n .non .non
  | ref {n : Nat} (a : Addr) : Sm K H n (.ref a) (.ref a)
  | tup {n : Nat} {a b : Addr} {xs ys : List V} (h : SqT K H a xs) (h' : SqT K H b ys) (hl : xs.length = ys.length) (hi : ∀ (i : Nat) (x y : V), xs[i]? = some x → ys[i]? = some y → Sm K H n x y) : Sm K H (n + 1) (.ref a) (.ref b)
  | lst {n : Nat} {a b : Addr} {xs ys : List V} (h : SqL K H a xs) (h' : SqL K H b ys) (hl : xs.length = ys.length) (hi : ∀ (i : Nat) (x y : V), xs[i]? = some x → ys[i]? = some y → Sm K H n x y) : Sm K H (n + 1) (.ref a) (.ref b)
section
variable {X : Cx} {pins : List (Addr × Obj)} {σ : L2.St} {H : Hp} {s : Shared}
theorem at_of {xs : List V} {its : List Value} (r : Vals xs its) {i : Nat} (h : i < its.length) : ∃ x, xs[i]? = some x ∧ RelV x its[i] := by
  induction r generalizing i with
  | nil => exact absurd h (by simp)
  | cons h1 h2 ih =>
    cases i with
    | zero => exact ⟨_, rfl, h1⟩
    | succ i => exact ih (by simpa using h)
theorem allT (n : Nat) : ((List.range n).all fun _ => true) = true := by simp
theorem eqAt (I : Inv X pins σ H s) : ∀ (n : Nat) (x y : V) (v u : Value) (A : Around), Sm X.K H n x y → RelV x v → RelV y u → A.units + n < cLine → SeqAt.EqAt A s v u true := by
  intro n
  induction n with
  | zero =>
    intro x y v u A h rv ru hu
    cases h with
    | int i => obtain ⟨t, rfl⟩ := rv; obtain ⟨t', rfl⟩ := ru; have := SeqAt.EqAt.int_int (A := A) (s := s) i t i t'; rwa [beq_self_eq_true] at this
    | str z => obtain ⟨t, rfl⟩ := rv; obtain ⟨t', rfl⟩ := ru; have := SeqAt.EqAt.str_str (A := A) (s := s) z t z t'; rwa [beq_self_eq_true] at this
    | bl b => cases rv; cases ru; exact .same _
    | non => cases rv; cases ru; exact .same _
    | ref a => cases rv; cases ru; exact .same _
  | succ n ih =>
    intro x y v u A h rv ru hu
    cases h with
    | int i => obtain ⟨t, rfl⟩ := rv; obtain ⟨t', rfl⟩ := ru; have := SeqAt.EqAt.int_int (A := A) (s := s) i t i t'; rwa [beq_self_eq_true] at this
    | str z => obtain ⟨t, rfl⟩ := rv; obtain ⟨t', rfl⟩ := ru; have := SeqAt.EqAt.str_str (A := A) (s := s) z t z t'; rwa [beq_self_eq_true] at this
    | bl b => cases rv; cases ru; exact .same _
    | non => cases rv; cases ru; exact .same _
    | ref a => cases rv; cases ru; exact .same _
    | @tup _ a b xs ys h h' hl hi =>
      cases rv
      cases ru
      by_cases e : a = b
      · subst e; exact .same _
      · obtain ⟨its, r1, p1, _⟩ := I.tuple h
        obtain ⟨its2, r2, p2, _⟩ := I.tuple h'
        have e1 := r1.length
        have e2 := r2.length
        refine .of_refs e ?_
        have := SeqAt.RcAt.tuples (A := A) (e := fun _ => true) p1 p2 (by omega) fun j h1 h2 => ?_
        · rwa [allT, show (its.toArray.size == its2.toArray.size) = true by simp [← e1, ← e2, hl], Bool.and_true] at this
        · rw [List.size_toArray] at h1 h2
          obtain ⟨x, hx, rx⟩ := at_of r1 h1
          obtain ⟨y, hy, ry⟩ := at_of r2 h2
          simp only [List.getElem_toArray]
          exact ih x y _ _ A.in1 (hi j x y hx hy) rx ry (by show A.units + 1 + n < _; omega)
    | @lst _ a b xs ys h h' hl hi =>
      cases rv
      cases ru
      by_cases e : a = b
      · subst e; exact .same _
      · obtain ⟨its, r1, ⟨o, m, ho, hc, _, hd⟩, _⟩ := I.list h
        obtain ⟨its2, r2, ⟨o2, m2, ho2, hc2, _, hd2⟩, _⟩ := I.list h'
        have e1 := r1.length
        have e2 := r2.length
        refine .of_refs e ?_
        have := SeqAt.RcAt.lists (A := A) (e := fun _ => true) (items := its.toArray) (items2 := its2.toArray) ⟨o, ho, hc, m, hd⟩ ⟨o2, ho2, hc2, m2, hd2⟩ (by simp [← e1, ← e2, hl]) (by omega) fun j h1 h2 => ?_
        · rwa [allT] at this
        · rw [List.size_toArray] at h1 h2
          obtain ⟨x, hx, rx⟩ := at_of r1 h1
          obtain ⟨y, hy, ry⟩ := at_of r2 h2
          simp only [List.getElem_toArray]
          exact ih x y _ _ A.in1 (hi j x y hx hy) rx ry (by show A.units + 1 + n < _; omega)
/-- what may stand at the top -/
theorem Sm.up {K : PySem.W.Frag} {H : Hp} : ∀ {n : Nat} {x y : V}, Sm K H n x y → Sm K H (n + 1) x y := fun {n x y} h => by
  induction h with
  | int i => exact .int i
  | str z => exact .str z
  | bl b => exact .bl b
  | non => exact .non
  | ref a => exact .ref a
  | tup h h' hl hi ih => exact .tup h h' hl ih
  | lst h h' hl hi ih => exact .lst h h' hl ih
inductive Top (K : PySem.W.Frag) (H : Hp) : V → V → Prop
  | tup {a b : Addr} {xs ys : List V} (h : SqT K H a xs) (h' : SqT K H b ys) (hl : xs.length = ys.length) (hi : ∀ (i : Nat) (x y : V), xs[i]? = some x → ys[i]? = some y → Sm K H 20 x y) : Top K H (.ref a) (.ref b)
  | lst {a b : Addr} {xs ys : List V} (h : SqL K H a xs) (h' : SqL K H b ys) (hl : xs.length = ys.length) (hi : ∀ (i : Nat) (x y : V), xs[i]? = some x → ys[i]? = some y → Sm K H 20 x y) : Top K H (.ref a) (.ref b)
def rEqS (K : PySem.W.Frag) : R2 := fun x y H Q => rEqD K x y H Q ∨ (Top K H x y ∧ Q (.bl true) H)
def rNeS (K : PySem.W.Frag) : R2 := fun x y H Q => rNeD K x y H Q ∨ (Top K H x y ∧ Q (.bl false) H)
theorem op_eqS (hu : X.A.units + 64 < cLine) : OpR X (compareOp .Eq) (rEqS X.K) := by
  intro pins s σ H x y v u Q I rx ry h
  rcases h with h | ⟨t, q⟩
  · exact op_eqD hu pins s σ H x y v u Q I rx ry h
  · cases t with
    | tup h h' hl hi =>
      cases rx
      cases ry
      obtain ⟨its, r1, p1, _⟩ := I.tuple h
      obtain ⟨its2, r2, p2, _⟩ := I.tuple h'
      have e1 := r1.length
      have e2 := r2.length
      have := SeqAt.RcAt.tuples (A := X.A) (e := fun _ => true) p1 p2 (by omega) fun j h1 h2 => by
        rw [List.size_toArray] at h1 h2
        obtain ⟨x, hx, rx⟩ := at_of r1 h1
        obtain ⟨y, hy, ry⟩ := at_of r2 h2
        simp only [List.getElem_toArray]
        exact eqAt I 20 x y _ _ X.A.in1 (hi j x y hx hy) rx ry (by show X.A.units + 1 + 20 < _; omega)
      rw [allT, show (its.toArray.size == its2.toArray.size) = true by simp [← e1, ← e2, hl], Bool.and_true] at this
      exact this _ _ _ _ ⟨.bl _, H, I, rfl, q⟩
    | lst h h' hl hi =>
      cases rx
      cases ry
      obtain ⟨its, r1, ⟨o, m, ho, hc, _, hd⟩, _⟩ := I.list h
      obtain ⟨its2, r2, ⟨o2, m2, ho2, hc2, _, hd2⟩, _⟩ := I.list h'
      have e1 := r1.length
      have e2 := r2.length
      have := SeqAt.RcAt.lists (A := X.A) (e := fun _ => true) (items := its.toArray) (items2 := its2.toArray) ⟨o, ho, hc, m, hd⟩ ⟨o2, ho2, hc2, m2, hd2⟩ (by simp [← e1, ← e2, hl]) (by omega) fun j h1 h2 => by
        rw [List.size_toArray] at h1 h2
        obtain ⟨x, hx, rx⟩ := at_of r1 h1
        obtain ⟨y, hy, ry⟩ := at_of r2 h2
        simp only [List.getElem_toArray]
        exact eqAt I 20 x y _ _ X.A.in1 (hi j x y hx hy) rx ry (by show X.A.units + 1 + 20 < _; omega)
      rw [allT] at this
      exact this _ _ _ _ ⟨.bl _, H, I, rfl, q⟩
theorem op_neS (hu : X.A.units + 64 < cLine) : OpR X (compareOp .NotEq) (rNeS X.K) := by
  intro pins s σ H x y v u Q I rx ry h
  rcases h with h | ⟨t, q⟩
  · exact op_neD hu pins s σ H x y v u Q I rx ry h
  · cases t with
    | tup h h' hl hi =>
      cases rx
      cases ry
      obtain ⟨its, r1, p1, _⟩ := I.tuple h
      obtain ⟨its2, r2, p2, _⟩ := I.tuple h'
      have e1 := r1.length
      have e2 := r2.length
      have := SeqAt.RcNeAt.tuples (A := X.A) (e := fun _ => true) p1 p2 (by omega) fun j h1 h2 => by
        rw [List.size_toArray] at h1 h2
        obtain ⟨x, hx, rx⟩ := at_of r1 h1
        obtain ⟨y, hy, ry⟩ := at_of r2 h2
        simp only [List.getElem_toArray]
        exact eqAt I 20 x y _ _ X.A.in1 (hi j x y hx hy) rx ry (by show X.A.units + 1 + 20 < _; omega)
      rw [allT, show (its.toArray.size == its2.toArray.size) = true by simp [← e1, ← e2, hl], Bool.and_true] at this
      exact this _ _ _ _ ⟨.bl _, H, I, rfl, q⟩
    | lst h h' hl hi =>
      cases rx
      cases ry
      obtain ⟨its, r1, ⟨o, m, ho, hc, _, hd⟩, _⟩ := I.list h
      obtain ⟨its2, r2, ⟨o2, m2, ho2, hc2, _, hd2⟩, _⟩ := I.list h'
      have e1 := r1.length
      have e2 := r2.length
      have := SeqAt.RcNeAt.lists (A := X.A) (e := fun _ => true) (items := its.toArray) (items2 := its2.toArray) ⟨o, ho, hc, m, hd⟩ ⟨o2, ho2, hc2, m2, hd2⟩ (by simp [← e1, ← e2, hl]) (by omega) fun j h1 h2 => by
        rw [List.size_toArray] at h1 h2
        obtain ⟨x, hx, rx⟩ := at_of r1 h1
        obtain ⟨y, hy, ry⟩ := at_of r2 h2
        simp only [List.getElem_toArray]
        exact eqAt I 20 x y _ _ X.A.in1 (hi j x y hx hy) rx ry (by show X.A.units + 1 + 20 < _; omega)
      rw [allT] at this
      exact this _ _ _ _ ⟨.bl _, H, I, rfl, q⟩
end
end Sm
set_option Elab.async false
set_option linter.all false
set_option maxRecDepth 100000
set_option maxHeartbeats 2000000
namespace Cd
open PySem PySem.Spec PyProof.Rows L2
/-- an object that is a dict with these entries -/
def DicO (P : Program) (w : World) (o : Obj) (kvs : List (Key × V)) : Prop :=
  o.ExactDict ∧ ∃ es ep vs, o.data = .dict es ep ∧ KeysOf (mixKind P w) es ∧ Pairs (mixKind P w) es.toList vs ∧ KV kvs vs ∧ (vs.map (·.1)).Nodup
theorem DicO.at {P : Program} {w : World} {o : Obj} {kvs : List (Key × V)} {h : Heap} {a : Addr} (D : DicO P w o kvs) (e : h.get? a = some o) : ∃ vs, KV kvs vs ∧ h.DictOf (mixKind P w) a vs := by
  obtain ⟨h1, es, ep, vs, h2, h3, h4, h5, h6⟩ := D
  exact ⟨vs, h5, o, es, ep, e, h1, h2, h3, h4, h6⟩
def tDGetC (kvs : List (Key × V)) (ty : TE) : TE := fun σ H Q => ty σ H fun y H1 => ∃ k : Key, y = kV k ∧ Q ((valV kvs k).getD .non) H1
theorem pe_dgetC {X : Cx} {o e : Expr} {apos cpos : Pos} {ty : TE} {A : Addr} {od : Obj} {kvs : List (Key × V)} (ho : PE X o (tC (.ref A))) (hk : X.K.lookup A = some od) (hd : (A == sysModules) = false) (D : DicO X.prog X.w od kvs)
    (he : PE X e ty) (m : M1 X o "get" apos e cpos) : PE X (.Call (.Attribute o "get" apos) [e] [] cpos) (tDGetC kvs ty) := by
  refine ⟨fun pins s σ H Q I h => ?_⟩
  refine wpAny_Call_method m.base m.few m.line PySem.F.plainAttrs_dict PySem.F.slot_dict_get PySem.F.type_dict_get (thn (ho.run pins s σ H (fun x H1 => x = .ref A ∧ tDGetC kvs ty σ H1 Q) I ⟨rfl, h⟩) fun u s1 ⟨x, H1, I1, rx, ex, q1⟩ => ?_)
  subst ex
  obtain rfl : u = Value.ref A := rx
  obtain ⟨_, _, dd0⟩ := D.at (I1.kIn A od hk)
  refine ⟨dd0.typeIs, fun b q => ?_, ?_⟩
  · cases q
    obtain ⟨ob, _, _, h1, h2, _⟩ := dd0
    exact ⟨ob, h1, h2.2.1⟩
  rw [m.trees]
  refine Calls.callWith_builtin rfl (Calls.evalArgs_plain (Calls.spliced_cons (thn (he.run pins s1 σ H1 _ I1 q1) fun iv s2 ⟨y, H2, I2, ry, k, ey, q2⟩ => Calls.spliced_nil ?_)))
  subst ey
  obtain ⟨vs, rel, dd⟩ := D.at (I2.kIn A od hk)
  refine call_meetsIn PySem.F.slot_dict_get dd.typeIs PySem.F.entry_dict_get (PySem.F.args_dict_get_2 _ _) (meets_dict_get (mixKind X.prog X.w) A (kV_is ry) hd) ⟨_, dd.mapOf, ⟨_, H2, I2.tok _, ?_, q2⟩⟩
  exact (rel.val k).getD rfl
theorem pe_dgetT {X : Cx} {o e : Expr} {apos cpos : Pos} {ty : TE} {A : Addr} {kvs : List (Key × V)} (ho : PE X o (tC (.ref A))) (hS : ∃ od, X.K.lookup A = some od ∧ (A == sysModules) = false ∧ ∀ P : Program, DicO P X.w od kvs)
    (he : PE X e ty) (m : M1 X o "get" apos e cpos) : PE X (.Call (.Attribute o "get" apos) [e] [] cpos) (tDGetC kvs ty) := by
  obtain ⟨od, hk, hd, D⟩ := hS
  exact pe_dgetC ho hk hd (D X.prog) he m
/-- entries of texts -/
inductive Ents (w : World) : List DictEntry → List (Key × V) → Prop
  | nil : Ents w [] []
  | cons {x : Str} {t : Tok} {v : V} {u : Value} {hh : Int} {es : List DictEntry} {kvs : List (Key × V)} (e : hh = hashStr w x) (r : RelV v u) (h : Ents w es kvs) : Ents w (⟨hh, .str x t, u⟩ :: es) ((Sum.inr x, v) :: kvs)
theorem Ents.out {P : Program} {w : World} {es : List DictEntry} {kvs : List (Key × V)} (E : Ents w es kvs) : ∃ vs : List (Key × Value), (∀ e ∈ es, ∃ k, (mixKind P w).is k e.key = true ∧ e.hash = (mixKind P w).hash k) ∧ Pairs (mixKind P w) es vs ∧ KV kvs vs ∧ vs.map (·.1) = kvs.map (·.1) := by
  induction E with
  | nil => exact ⟨[], fun e h => (by cases h), .nil, .nil, rfl⟩
  | @cons x t v u hh es kvs e r h ih =>
    obtain ⟨vs, a, b, c, d⟩ := ih
    have k1 : keyIs (Sum.inr x) (Value.str x t) = true := kV_is (P := P) (w := w) (k := Sum.inr x) ⟨t, rfl⟩
    refine ⟨(Sum.inr x, u) :: vs, fun e' h' => ?_, .cons k1 rfl b, .cons ⟨rfl, r⟩ c, by rw [List.map_cons, List.map_cons, d]⟩
    rcases List.mem_cons.mp h' with rfl | h'
    · exact ⟨Sum.inr x, k1, e⟩
    · exact a e' h'
theorem DicO.mk {P : Program} {w : World} {es : Array DictEntry} {ep : Nat} {kvs : List (Key × V)} (E : Ents w es.toList kvs) (nd : (kvs.map (·.1)).Nodup) : DicO P w ⟨.type "dict", none, .dict es ep, #[]⟩ kvs := by
  obtain ⟨vs, a, b, c, d⟩ := E.out (P := P)
  exact ⟨⟨rfl, rfl, rfl⟩, es, ep, vs, rfl, fun e h => a e (Array.mem_toList_iff.mpr h), b, c, by rw [d]; exact nd⟩
end Cd
set_option Elab.async false
set_option linter.all false
set_option maxRecDepth 100000
set_option maxHeartbeats 2000000
namespace Mt
open PySem PySem.Spec PyProof.Rows L2
section
variable {X : Cx}
/-- the cases, at a subject -/
structure PMC (X : Cx) (cs : List MatchCase) (t : V → TS) : Prop where
  run : ∀ (pins : List (Addr × Obj)) (s : Shared) (σ : L2.St) (H : Hp) (D : Ends) (v : V) (u : Value) (first : Bool), Inv X pins σ H s → RelV v u → t v D σ H → wpAny (model X.prog X.w) X.A (matchCases cs X.env u first) (SP X pins D) X.xe s
def tEnd : V → TS := fun _ D σ H => D.nx σ H
/-- a case of one value -/
def tCase (te : TE) (tb : TS) (tr : V → TS) : V → TS := fun v => tIfS (tTest (tOp rEq (tC v) te)) tb (tr v)
theorem pmc_val {value : Expr} {pos : Pos} {body : List Stmt} {rest : List MatchCase} {te : TE} {tb : TS} {tr : V → TS} (he : PE X value te) (hb : PSs X body tb) (hr : PMC X rest tr) : PMC X (⟨.MatchValue value pos, none, body⟩ :: rest) (tCase te tb tr) := by
  refine ⟨fun pins s σ H D v u first I r h => ?_⟩
  refine wpAny_matchCases_cons (wpAny_matchPattern_Value ?_)
  refine thn (he.run pins s σ H _ I h) fun x s1 ⟨y, H1, I1, r1, q1⟩ => ?_
  refine thn (op_eq pins s1 σ H1 v y u x _ I1 r r1 q1) fun c s2 ⟨z, H2, I2, r2, k, e, q2⟩ => ?_
  subst e
  cases r2
  refine wpAny_truthy_bool ?_
  cases k with
  | true => exact wpAny_assignInOrder_none (hb.run pins s2 σ H2 D I2 q2)
  | false => exact hr.run pins s2 σ H2 D v u false I2 r q2
/-- the case of all -/
def tAny (tb : TS) : V → TS := fun _ => tb
theorem pmc_any {pos : Pos} {body : List Stmt} {rest : List MatchCase} {tb : TS} (hb : PSs X body tb) : PMC X (⟨.MatchAs none none pos, none, body⟩ :: rest) (tAny tb) := by
  refine ⟨fun pins s σ H D v u first I r h => ?_⟩
  refine wpAny_matchCases_cons (wpAny_matchPattern_Capture ?_)
  exact wpAny_assignInOrder_none (hb.run pins s σ H D I h)
def tMatch (te : TE) (tc : V → TS) : TS := fun D σ H => te σ H fun v H1 => tc v D σ H1
theorem ps_match {subject : Expr} {cases : List MatchCase} {pos : Pos} {te : TE} {tc : V → TS} (he : PE X subject te) (hc : PMC X cases tc) : PS X (.Match subject cases pos) (tMatch te tc) := by
  refine ⟨fun pins s σ H D I h => wpAny_Match ?_⟩
  refine thn (he.run pins s σ H _ I h) fun u s1 ⟨v, H1, I1, r1, q1⟩ => ?_
  exact hc.run pins s1 σ H1 D v u true I1 r1 q1
end
theorem any {tb : TS} {D : Ends} {σ : L2.St} {H : Hp} {v : V} (h : tb D σ H) : tAny tb v D σ H := h
end Mt
set_option Elab.async false
set_option linter.all false
set_option maxRecDepth 100000
set_option maxHeartbeats 2000000
namespace LamD
open PySem PySem.Spec PyProof.Rows L2 PySem.W
section
variable {X : Cx} {pins : List (Addr × Obj)} {σ : L2.St} {H : Hp} {s : Shared}
abbrev CL (X : Cx) (scope : Scope) : List (Str × Addr) := cloFrom X.env.cells scope.names []
/-- one local name x, captured ones and globals -/
structure LamS1 (sc scope : Scope) (x : Str) : Prop where
  kind : scope.kind = .function
  co : scope.isCoroutine = false
  gen : scope.isGenerator = false
  loc : scope.names.lookup x = some .local
  own : ∀ y ∈ scope.names, (y.2 = .local → y.1 = x) ∧ y.2 ≠ .cell
  free : ∀ y ∈ scope.names, y.2 = .free → sc.names.lookup y.1 = some .cell ∨ sc.names.lookup y.1 = some .free
theorem LamS1.has {scope : Scope} {x : Str} (L : LamS1 X.env.scope scope x) (ok : X.Ok) : ∀ y ∈ scope.names, y.2 = .free → ∃ c, X.env.cells.lookup y.1 = some c := fun y hy q =>
  (L.free y hy q).elim (fun k => ok.has _ (.inl k)) (fun k => ok.has _ (.inr k))
theorem start {A : Around} {outer : List Env} {E : XK} {scope : Scope} {x : Str} {f c' : Addr} {g : Heap} {tk : Nat} {s1 : Shared} {HZ : Hp} {m : Str → Option Value} (I : Inv X pins σ H s) (L : LamS1 X.env.scope scope x) (hx : x ∉ X.N) (e0 : Env0 X.prog X.w X.K X.mg X.base A outer s1 HZ) (hd : A.handled = none)
    (un : Un (frs X.stack) [] H HZ s.heap s1.heap) (hns : g.Ns s1.heap.objs.size m) (kp : ∀ b o, s1.heap.get? b = some o → g.get? b = some o) : Inv (LamX.lamCx X A outer s1 HZ E scope f c') [] σ HZ { s1 with heap := g, toks := tk } := by
  have hfree := L.has I.ok
  have same : ∀ {y c}, (CL X scope).lookup y = some c → X.env.cells.lookup y = some c := fun {y c} q => by
    rcases cloFrom_mem (PySem.mem_of_lookup q) with k | ⟨k1, k2⟩
    · cases k
    · obtain ⟨c1, q1⟩ := hfree _ k1 rfl
      have q1 : X.env.cells.lookup y = some c1 := q1
      have : c = c1 := by rw [k2, q1] <;> rfl
      rw [this]; exact q1
  have there : ∀ {y}, scope.names.lookup y = some .free → ∃ c, (CL X scope).lookup y = some c := fun {y} q => mem_lookup (cloFrom_has (cells := X.env.cells) (acc := []) (show (y, NameKind.free) ∈ scope.names from PySem.mem_of_lookup q))
  have cell : ∀ {c : Addr} {v : Option Value}, H c = none → s.heap.IsCell c v → g.IsCell c v := fun {c v} n ⟨o, ho, hv⟩ => by
    obtain ⟨sl, q⟩ := un.any ho n (by simp)
    exact ⟨_, kp _ _ q, hv⟩
  have none_ : ∀ b : Addr, b ∉ (LamX.lamCx X A outer s1 HZ E scope f c').ex := fun b z => by cases (show b ∈ ([] : List Addr) from z)
  refine ⟨⟨e0.mod, L.kind, rfl, rfl, Nat.le_refl _, fun y z c q1 q2 => I.ok.inj y z c (same q1) (same q2), fun y hy => ?_, fun y c z _ => ?_, fun _ => hd, Around.frames_deeper e0.frames, .inr ⟨rfl, rfl⟩, fun b z => absurd z (none_ b), e0.bs, e0.bsz, fun b _ _ => none_ b,
      fun b z => absurd z (none_ b), e0.funs, e0.frf⟩, rfl, e0.bare, Un.kept kp, ⟨_, hns, fun i y v q1 q2 q3 => ?_⟩, fun y c q => ?_, e0.hok.fresh (Nat.le_refl _), fun y c q => ?_, fun q hq => (by cases (show q ∈ ([] : List (Addr × Obj)) ++ [] from hq)), e0.hok.kept kp, I.len⟩
  · rcases (show scope.names.lookup y = some .cell ∨ scope.names.lookup y = some .free from hy) with hy | hy
    · exact absurd rfl (L.own _ (PySem.mem_of_lookup hy)).2
    · exact there hy
  · cases (show false = true from z)
  · rcases (show Vis scope y from q3) with k | k | k
    · have hxy := (L.own _ (PySem.mem_of_lookup k)).1 rfl
      exact absurd (hxy ▸ List.mem_of_getElem? q1) hx
    · exact absurd rfl (L.own _ (PySem.mem_of_lookup k)).2
    · obtain ⟨m', hn, hl⟩ := I.loc
      have vis : Vis X.env.scope y := (L.free _ (PySem.mem_of_lookup k) rfl).elim (fun k => .inr (.inl k)) (fun k => .inr (.inr k))
      obtain ⟨w', r, q⟩ := hl i y v q1 q2 vis
      obtain ⟨c2, h2⟩ := there k
      refine ⟨w', r, .inr ⟨.inr k, c2, h2, ?_⟩⟩
      have c1 := same h2
      rcases q with ⟨k', _⟩ | ⟨_, c3, e', z⟩
      · rcases L.free _ (PySem.mem_of_lookup k) rfl with k2 | k2 <;> (have := (show X.env.scope.names.lookup y = _ from k2).symm.trans k'; cases this)
      · cases c1.symm.trans e'
        exact cell (I.freeC y _ c1) z
  · obtain ⟨w', z⟩ := I.cell y c (same q)
    exact ⟨w', cell (I.freeC y c (same q)) z⟩
  · obtain ⟨v, o, ho, hv⟩ := I.cell y c (same q)
    exact un.free c o ho (I.freeC y c (same q)) (by simp)
end
end LamD
set_option Elab.async false
set_option linter.all false
set_option maxRecDepth 100000
set_option maxHeartbeats 1000000
namespace Ab
open PySem PySem.Spec PyProof.Rows L2
inductive AV where
  | non | bl (b : Bool) | int (i : Int) | str (s : Str) | ty (n : String) | cls (c : String)
  | raw (a : Addr) | obj (i : Nat) | tup (xs : List AV) | scr (xs : List AV) | exn (c : String) (ns : List Str) (vs : List AV)
inductive Cell where
  | lst (xs : List AV) | ins (c : String) (fs : List (Str × AV)) | dic (kvs : List (Key × AV))
structure Sto where
  n : Nat
  c : Nat → Cell
def Sto.new (s : Sto) (x : Cell) : Sto := ⟨s.n + 1, fun i => if i = s.n then x else s.c i⟩
def Sto.set (s : Sto) (i : Nat) (x : Cell) : Sto := ⟨s.n, fun j => if j = i then x else s.c j⟩
/-- where a store lies -/
structure Wd where
  m : Nat → Addr
  n : Nat
  H : Hp
def Imm : HO → Prop
  | .tup _ => True
  | .xd _ => True
  | .frz _ _ => True
  | .ext _ => True
  | _ => False
structure Ext (w w' : Wd) : Prop where
  n : w.n ≤ w'.n
  m : ∀ i, i < w.n → w'.m i = w.m i
  im : ∀ a o, w.H a = some o → Imm o → w'.H a = some o
theorem Ext.refl (w : Wd) : Ext w w := ⟨Nat.le_refl _, fun _ _ => rfl, fun _ _ h _ => h⟩
theorem imm_xob {a : Addr} {cls : Value} {d : Option Addr} : Imm (Gx.xob a cls d) := trivial
theorem Ext.trans {w w1 w2 : Wd} (a : Ext w w1) (b : Ext w1 w2) : Ext w w2 :=
  ⟨Nat.le_trans a.n b.n, fun i h => (b.m i (Nat.lt_of_lt_of_le h a.n)).trans (a.m i h), fun c o h k => b.im c o (a.im c o h k) k⟩
/-- what is known of the program: its module, its classes' addresses, the tables of code objects, the classes that live -/
structure Wc where
  K : PySem.W.Frag
  κ : String → Addr
  T : List (Addr × Str)
  live : List String
  xlive : List String
/-- and what stays true as it grows -/
structure Wl extends Wc where
  inv : Wd → Prop
  cl : ∀ w w', Ext w w' → inv w → inv w'
instance : Coe Wl Wc := ⟨Wl.toWc⟩
def SqF (K : PySem.W.Frag) (H : Hp) (a : Addr) (xs : List V) : Prop :=
  (∃ o, H a = some (.frz o (.lst xs))) ∨
    ∃ (o : Obj) (its : Array Value) (n : Nat), K.lookup a = some o ∧ o.cls = .type "list" ∧ o.dict = none ∧ o.data = .seq its n ∧ its.size ≤ sizeLine ∧ Vals xs its.toList
theorem SqF.sql {K : PySem.W.Frag} {H : Hp} {a : Addr} {xs : List V} (h : SqF K H a xs) : SqL K H a xs := h.elim (fun h => .inl (.inr h)) .inr
section
variable (W : Wc) (w : Wd)
mutual
inductive Rel : AV → V → Prop
  | non : Rel .non .non
  | bl (b : Bool) : Rel (.bl b) (.bl b)
  | int (i : Int) : Rel (.int i) (.int i)
  | str (s : Str) : Rel (.str s) (.str s)
  | ty (n : String) : Rel (.ty n) (.ty n)
  | cls (c : String) : Rel (.cls c) (.ref (W.κ c))
  | raw (a : Addr) : Rel (.raw a) (.ref a)
  | obj {i : Nat} (h : i < w.n) : Rel (.obj i) (.ref (w.m i))
  | tup {a : Addr} {xs : List AV} {vs : List V} (h : SqT W.K w.H a vs) (r : RelL xs vs) : Rel (.tup xs) (.ref a)
  | scr {a : Addr} {xs : List AV} {vs : List V} (h : SqF W.K w.H a vs) (r : RelL xs vs) : Rel (.scr xs) (.ref a)
  | exn {c : String} {a d : Addr} {ns : List Str} {xs : List AV} {vs : List V} (hc : c ∈ W.xlive) (h : w.H a = some (Gx.xob a (.ref (W.κ c)) (some d)) ) (hd : w.H d = some (.xd (ns.zip vs))) (hl : ns.length = xs.length) (r : RelL xs vs) : Rel (.exn c ns xs) (.ref a)
inductive RelL : List AV → List V → Prop
  | nil : RelL [] []
  | cons {x : AV} {v : V} {xs : List AV} {vs : List V} (h : Rel x v) (r : RelL xs vs) : RelL (x :: xs) (v :: vs)
end
def RelF (fs : List (Str × AV)) (gs : List (Str × V)) : Prop := Paired (fun (p : Str × AV) (q : Str × V) => p.1 = q.1 ∧ Rel W w p.2 q.2) fs gs
def RelK (fs : List (Key × AV)) (gs : List (Key × V)) : Prop := Paired (fun (p : Key × AV) (q : Key × V) => p.1 = q.1 ∧ Rel W w p.2 q.2) fs gs
inductive CRel : Cell → HO → Prop
  | lst {xs : List AV} {vs : List V} (r : RelL W w xs vs) : CRel (.lst xs) (.lst vs)
  | ins {c : String} {dx : Addr} {fs : List (Str × AV)} {gs : List (Str × V)} (hc : c ∈ W.live) (r : RelF W w fs gs) : CRel (.ins c fs) (.ins (W.κ c) dx gs)
  | dic {fs : List (Key × AV)} {gs : List (Key × V)} (r : RelK W w fs gs) : CRel (.dic fs) (.dK gs)
end
section
variable (W : Wl) (w : Wd)
structure Sim (s : Sto) : Prop where
  n : w.n = s.n
  inj : ∀ i j, i < s.n → j < s.n → w.m i = w.m j → i = j
  cell : ∀ i, i < s.n → ∃ o, w.H (w.m i) = some o ∧ CRel W w (s.c i) o
  tab : LamX.Tabs W.T w.H
  inv : W.inv w
end
section
variable (W : Wc) (w : Wd)
abbrev ASt := List (Option AV)
def RO : Option AV → Option V → Prop
  | some x, some v => Rel W w x v
  | none, _ => True
  | _, _ => False
def RSt (σ : ASt) (σc : L2.St) : Prop := Paired (RO W w) σ σc
end
theorem sqt_ext {K : PySem.W.Frag} {w w' : Wd} {a : Addr} {vs : List V} (e : Ext w w') (h : SqT K w.H a vs) : SqT K w'.H a vs := by
  rcases h with (h | ⟨o, h⟩) | h
  · exact .inl (.inl (e.im _ _ h trivial))
  · exact .inl (.inr ⟨o, e.im _ _ h trivial⟩)
  · exact .inr h
theorem sqf_ext {K : PySem.W.Frag} {w w' : Wd} {a : Addr} {vs : List V} (e : Ext w w') (h : SqF K w.H a vs) : SqF K w'.H a vs := by
  rcases h with ⟨o, h⟩ | h
  · exact .inl ⟨o, e.im _ _ h trivial⟩
  · exact .inr h
mutual
theorem Rel.mono {W : Wc} {w w' : Wd} (e : Ext w w') : ∀ {x : AV} {v : V}, Rel W w x v → Rel W w' x v
  | _, _, .non => .non
  | _, _, .bl b => .bl b
  | _, _, .int i => .int i
  | _, _, .str s => .str s
  | _, _, .ty n => .ty n
  | _, _, .cls c => .cls c
  | _, _, .raw a => .raw a
  | _, _, .obj h => by rw [← e.m _ h]; exact .obj (Nat.lt_of_lt_of_le h e.n)
  | _, _, .tup h r => .tup (sqt_ext e h) (RelL.mono e r)
  | _, _, .scr h r => .scr (sqf_ext e h) (RelL.mono e r)
  | _, _, .exn hc h hd hl r => .exn hc (e.im _ _ h imm_xob) (e.im _ _ hd trivial) hl (RelL.mono e r)
theorem RelL.mono {W : Wc} {w w' : Wd} (e : Ext w w') : ∀ {x : List AV} {v : List V}, RelL W w x v → RelL W w' x v
  | _, _, .nil => .nil
  | _, _, .cons h r => .cons (Rel.mono e h) (RelL.mono e r)
end
section
variable {W : Wc} {w w' : Wd} {s s' : Sto}
theorem RelF.mono (e : Ext w w') {fs : List (Str × AV)} {gs : List (Str × V)} (h : RelF W w fs gs) : RelF W w' fs gs := Paired.mapP h fun _ _ z => ⟨z.1, z.2.mono e⟩
theorem RelK.mono (e : Ext w w') {fs : List (Key × AV)} {gs : List (Key × V)} (h : RelK W w fs gs) : RelK W w' fs gs := Paired.mapP h fun _ _ z => ⟨z.1, z.2.mono e⟩
theorem CRel.mono (e : Ext w w') {c : Cell} {o : HO} (h : CRel W w c o) : CRel W w' c o := by
  cases h with
  | lst r => exact .lst (r.mono e)
  | ins hc r => exact .ins hc (r.mono e)
  | dic r => exact .dic (r.mono e)
theorem RO.mono (e : Ext w w') : ∀ {x : Option AV} {v : Option V}, RO W w x v → RO W w' x v
  | some _, some _, h => Rel.mono e h
  | none, _, _ => trivial
  | some _, none, h => h
theorem RSt.mono (e : Ext w w') {σ : ASt} {σc : L2.St} (h : RSt W w σ σc) : RSt W w' σ σc := Paired.mapP h fun _ _ z => z.mono e
theorem CRel.mut {c : Cell} {o : HO} (h : CRel W w c o) : ¬ Imm o ∧ (∀ ps, o ≠ .tbl ps) ∧ ∀ φ, o ≠ .ext φ := by
  cases h <;> exact ⟨fun z => z, fun ps z => (by cases z), fun φ z => (by cases z)⟩
theorem RelL.length : ∀ {xs : List AV} {vs : List V}, RelL W w xs vs → xs.length = vs.length
  | _, _, .nil => rfl
  | _, _, .cons _ r => congrArg (· + 1) (RelL.length r)
theorem RelL.append : ∀ {xs ys : List AV} {vs us : List V}, RelL W w xs vs → RelL W w ys us → RelL W w (xs ++ ys) (vs ++ us)
  | _, _, _, _, .nil, h => h
  | _, _, _, _, .cons h r, k => .cons h (RelL.append r k)
theorem RelL.get : ∀ {xs : List AV} {vs : List V}, RelL W w xs vs → ∀ (i : Nat) (x : AV), xs[i]? = some x → ∃ v, vs[i]? = some v ∧ Rel W w x v
  | _, _, .nil, i, x, e => by simp at e
  | _, _, .cons h r, 0, x, e => by
    simp only [List.getElem?_cons_zero, Option.some.injEq] at e
    subst e
    exact ⟨_, by simp, h⟩
  | _, _, .cons h r, i + 1, x, e => by
    simp only [List.getElem?_cons_succ] at e ⊢
    exact RelL.get r i x e
theorem RelL.getv : ∀ {xs : List AV} {vs : List V}, RelL W w xs vs → ∀ (i : Nat) (v : V), vs[i]? = some v → ∃ x, xs[i]? = some x ∧ Rel W w x v
  | _, _, .nil, i, x, e => by simp at e
  | _, _, .cons h r, 0, x, e => by
    simp only [List.getElem?_cons_zero, Option.some.injEq] at e
    subst e
    exact ⟨_, by simp, h⟩
  | _, _, .cons h r, i + 1, x, e => by
    simp only [List.getElem?_cons_succ] at e ⊢
    exact RelL.getv r i x e
theorem RelL.set : ∀ {xs : List AV} {vs : List V} {x : AV} {v : V}, RelL W w xs vs → Rel W w x v → ∀ i, RelL W w (xs.set i x) (vs.set i v)
  | _, _, _, _, .nil, _, _ => .nil
  | _, _, _, _, .cons h r, k, 0 => .cons k r
  | _, _, _, _, .cons h r, k, i + 1 => .cons h (RelL.set r k i)
theorem RelL.take : ∀ {xs : List AV} {vs : List V}, RelL W w xs vs → ∀ i, RelL W w (xs.take i) (vs.take i)
  | _, _, .nil, i => by simp only [List.take_nil]; exact .nil
  | _, _, .cons h r, 0 => .nil
  | _, _, .cons h r, i + 1 => .cons h (RelL.take r i)
theorem RelL.drop : ∀ {xs : List AV} {vs : List V}, RelL W w xs vs → ∀ i, RelL W w (xs.drop i) (vs.drop i)
  | _, _, .nil, i => by simp only [List.drop_nil]; exact .nil
  | _, _, .cons h r, 0 => .cons h r
  | _, _, .cons h r, i + 1 => RelL.drop r i
theorem RSt.get : ∀ {σ : ASt} {σc : L2.St}, RSt W w σ σc → ∀ (i : Nat) (x : AV), σ[i]? = some (some x) → ∃ v, σc[i]? = some (some v) ∧ Rel W w x v
  | _, _, .nil, i, x, e => by simp at e
  | _, _, .cons h r, 0, x, e => by
    simp only [List.getElem?_cons_zero, Option.some.injEq] at e
    subst e
    revert h
    rename_i oc _ _
    cases oc with
    | none => exact fun h => (show False from h).elim
    | some v => exact fun h => ⟨v, by simp, h⟩
  | _, _, .cons h r, i + 1, x, e => by
    simp only [List.getElem?_cons_succ] at e ⊢
    exact RSt.get r i x e
theorem RSt.set : ∀ {σ : ASt} {σc : L2.St} {x : Option AV} {v : Option V}, RSt W w σ σc → RO W w x v → ∀ i, RSt W w (σ.set i x) (σc.set i v)
  | _, _, _, _, .nil, _, _ => .nil
  | _, _, _, _, .cons h r, k, 0 => .cons k r
  | _, _, _, _, .cons h r, k, i + 1 => .cons h (RSt.set r k i)
theorem RSt.length {σ : ASt} {σc : L2.St} (h : RSt W w σ σc) : σ.length = σc.length := Paired.length h
/-- wipe -/
def wipeA (σ : ASt) : List Nat → ASt
  | [] => σ
  | v :: vs => (wipeA σ vs).set v none
theorem RSt.wipe {σ : ASt} {σc : L2.St} (h : RSt W w σ σc) : ∀ vs : List Nat, RSt W w (wipeA σ vs) (wipe σc vs)
  | [] => h
  | v :: vs => RSt.set (RSt.wipe h vs) (show RO W w none none from trivial) v
end
section
variable {W : Wl} {w w' : Wd} {s s' : Sto}
theorem Ext.grow {H' : Hp} (e : ∀ a o, w.H a = some o → H' a = some o) : Ext w { w with H := H' } := ⟨Nat.le_refl _, fun _ _ => rfl, fun a o h _ => e a o h⟩
theorem Sim.grow {H' : Hp} (S : Sim W w s) (e : ∀ a o, w.H a = some o → H' a = some o) : Sim W { w with H := H' } s :=
  ⟨S.n, S.inj, fun i h => by
    obtain ⟨o, h1, h2⟩ := S.cell i h
    exact ⟨o, e _ _ h1, h2.mono (.grow e)⟩, S.tab.ext e, W.cl _ _ (.grow e) S.inv⟩
theorem grow_upd {H : Hp} {p : Addr} {o : HO} (n : H p = none) : ∀ a u, H a = some u → upd H p o a = some u := fun a u h => by
  rw [upd_ne (ne_of_none h n)]; exact h
/-- a new cell -/
def Wd.new (w : Wd) (p : Addr) (H' : Hp) : Wd := ⟨fun i => if i = w.n then p else w.m i, w.n + 1, H'⟩
theorem Ext.new {p : Addr} {H' : Hp} (e : ∀ a o, w.H a = some o → H' a = some o) : Ext w (w.new p H') :=
  ⟨Nat.le_succ _, fun i h => if_neg (Nat.ne_of_lt h), fun a o h _ => e a o h⟩
theorem Sim.new {p : Addr} {H' : Hp} {x : Cell} {o : HO} (S : Sim W w s) (hp : w.H p = none) (e : ∀ a o, w.H a = some o → H' a = some o) (k : H' p = some o) (r : CRel W (w.new p H') x o) : Sim W (w.new p H') (s.new x) := by
  have sn := S.n
  refine ⟨congrArg (· + 1) S.n, fun i j hi hj q => ?_, fun i hi => ?_, S.tab.ext e, W.cl _ _ (.new e) S.inv⟩
  · have hi : i < s.n + 1 := hi
    have hj : j < s.n + 1 := hj
    have q : (if i = w.n then p else w.m i) = if j = w.n then p else w.m j := q
    have at_ : ∀ i, i < s.n + 1 → ¬ i = w.n → w.m i ≠ p := fun i h1 h2 z => by
      obtain ⟨o, h3, _⟩ := S.cell i (by omega)
      rw [z, hp] at h3
      cases h3
    by_cases h1 : i = w.n
    · by_cases h2 : j = w.n
      · omega
      · rw [if_pos h1, if_neg h2] at q
        exact absurd q.symm (at_ j hj h2)
    · by_cases h2 : j = w.n
      · rw [if_neg h1, if_pos h2] at q
        exact absurd q (at_ i hi h1)
      · rw [if_neg h1, if_neg h2] at q
        exact S.inj i j (by omega) (by omega) q
  · have hi : i < s.n + 1 := hi
    by_cases h : i = s.n
    · subst h
      refine ⟨o, ?_, ?_⟩
      · show H' (if s.n = w.n then p else w.m s.n) = _
        rw [if_pos sn.symm]; exact k
      · show CRel W _ (if s.n = s.n then x else _) o
        rw [if_pos rfl]; exact r
    · obtain ⟨o', h1, h2⟩ := S.cell i (by omega)
      refine ⟨o', ?_, ?_⟩
      · show H' (if i = w.n then p else w.m i) = _
        rw [if_neg (by omega)]; exact e _ _ h1
      · show CRel W _ (if i = s.n then x else s.c i) o'
        rw [if_neg h]; exact h2.mono (.new e)
theorem Rel.new (p : Addr) (H' : Hp) (n : w.n = s.n) : Rel W (w.new p H') (.obj s.n) (.ref p) := by
  have := Rel.obj (W := W) (w := w.new p H') (i := s.n) (by show s.n < w.n + 1; omega)
  have e : (w.new p H').m s.n = p := if_pos n.symm
  rw [e] at this
  exact this
/-- a cell is written -/
theorem Ext.wr {i : Nat} {o : HO} (S : Sim W w s) (hi : i < s.n) : Ext w { w with H := upd w.H (w.m i) o } :=
  ⟨Nat.le_refl _, fun _ _ => rfl, fun a u h k => by
    obtain ⟨o', h1, h2⟩ := S.cell i hi
    have : a ≠ w.m i := fun z => by
      rw [z, h1] at h
      cases h
      exact h2.mut.1 k
    show upd w.H (w.m i) o a = some u
    rw [upd_ne this]; exact h⟩
theorem Sim.wr {i : Nat} {x : Cell} {o : HO} (S : Sim W w s) (hi : i < s.n) (r : CRel W w x o) : Sim W { w with H := upd w.H (w.m i) o } (s.set i x) := by
  have e := Ext.wr (o := o) S hi
  refine ⟨S.n, S.inj, fun j hj => ?_, fun p hp => ?_, W.cl _ _ e S.inv⟩
  · by_cases h : j = i
    · subst h
      exact ⟨o, upd_same, by show CRel W _ (if j = j then x else _) o; rw [if_pos rfl]; exact r.mono e⟩
    · obtain ⟨o', h1, h2⟩ := S.cell j hj
      refine ⟨o', ?_, ?_⟩
      · show upd w.H (w.m i) o (w.m j) = _
        rw [upd_ne fun z => h (S.inj j i hj hi z)]; exact h1
      · show CRel W _ (if j = i then x else s.c j) o'
        rw [if_neg h]; exact h2.mono e
  · obtain ⟨oi, i1, i2⟩ := S.cell i hi
    obtain ⟨ps, t1, t2, t3⟩ := S.tab p hp
    have ne1 : p.1 ≠ w.m i := fun z => by
      rw [z, i1] at t1
      cases t1
      exact i2.mut.2.1 _ rfl
    refine ⟨ps, by show upd w.H (w.m i) o p.1 = _; rw [upd_ne ne1]; exact t1, t2, fun pos cv hcv => ?_⟩
    obtain ⟨c', rfl, hc'⟩ := t3 pos cv hcv
    refine ⟨c', rfl, ?_⟩
    have ne2 : c' ≠ w.m i := fun z => by
      rw [z, i1] at hc'
      cases hc'
      exact i2.mut.2.2 _ rfl
    show upd w.H (w.m i) o c' = _
    rw [upd_ne ne2]; exact hc'
end
inductive Res (α : Type) where
  | ok (a : α) (s : Sto)
  | err (c : String) (ns : List Str) (vs : List AV) (s : Sto)
  | stuck
def Res.bind {α β : Type} : Res α → (α → Sto → Res β) → Res β
  | .ok a s, k => k a s
  | .err c ns vs s, _ => .err c ns vs s
  | .stuck, _ => .stuck
def Res.Post {α : Type} : Res α → (α → Sto → Prop) → (String → List Str → List AV → Sto → Prop) → Prop
  | .ok a s, P, _ => P a s
  | .err c ns vs s, _, R => R c ns vs s
  | .stuck, _, _ => False
@[simp] theorem Res.bind_ok {α β : Type} {a : α} {s : Sto} {k : α → Sto → Res β} : (Res.ok a s).bind k = k a s := rfl
@[simp] theorem Res.bind_err {α β : Type} {c : String} {ns : List Str} {vs : List AV} {s : Sto} {k : α → Sto → Res β} : (Res.err c ns vs s).bind k = .err c ns vs s := rfl
@[simp] theorem Res.bind_stuck {α β : Type} {k : α → Sto → Res β} : (Res.stuck : Res α).bind k = .stuck := rfl
theorem Res.post_bind {α β : Type} {r : Res α} {k : α → Sto → Res β} {P : β → Sto → Prop} {R : String → List Str → List AV → Sto → Prop} : (r.bind k).Post P R ↔ r.Post (fun a s => (k a s).Post P R) R := by
  cases r <;> exact Iff.rfl
theorem Res.Post.mono {α : Type} {r : Res α} {P P' : α → Sto → Prop} {R R' : String → List Str → List AV → Sto → Prop} (h : r.Post P R) (f : ∀ a s, P a s → P' a s) (g : ∀ c ns vs s, R c ns vs s → R' c ns vs s) : r.Post P' R' := by
  cases r with
  | ok a s => exact f _ _ h
  | err c ns vs s => exact g _ _ _ _ h
  | stuck => exact h
inductive SRes where
  | nx (σ : ASt) (s : Sto) | rt (v : AV) (s : Sto) | bk (σ : ASt) (s : Sto) | ct (σ : ASt) (s : Sto)
  | err (c : String) (ns : List Str) (vs : List AV) (σ : ASt) (s : Sto)
  | stuck
abbrev AE := ASt → Sto → Res AV
abbrev AT := ASt → Sto → Res Bool
abbrev AA := ASt → Sto → Res (List AV)
abbrev AS := ASt → Sto → SRes
section
variable (W : Wl)
def ExcD (w : Wd) (c : String) (d : Addr) (ns : List Str) (xs : List AV) : Prop := c ∈ W.xlive ∧ ∃ vs, w.H d = some (.xd (ns.zip vs)) ∧ ns.length = xs.length ∧ RelL W w xs vs
def ErrP (w : Wd) (E : XK) (c : String) (ns : List Str) (vs : List AV) (s : Sto) : Prop := ∀ w' d, Ext w w' → Sim W w' s → ExcD W w' c d ns vs → E (.ref (W.κ c)) (some d) w'.H
def OkP (w : Wd) (Q : VK) (v : AV) (s : Sto) : Prop := ∀ w' vc, Ext w w' → Sim W w' s → Rel W w' v vc → Q vc w'.H
def OkL (w : Wd) (Q : List V → Hp → Prop) (v : List AV) (s : Sto) : Prop := ∀ w' vc, Ext w w' → Sim W w' s → RelL W w' v vc → Q vc w'.H
def OkB (w : Wd) (Q : Bool → Hp → Prop) (b : Bool) (s : Sto) : Prop := ∀ w', Ext w w' → Sim W w' s → Q b w'.H
def DE (E : L2.St → XK) (te : TE) (f : AE) : Prop := ∀ (w : Wd) (s : Sto) (σ : ASt) (σc : L2.St) (Q : VK), Sim W w s → RSt W w σ σc → (f σ s).Post (OkP W w Q) (ErrP W w (E σc)) → te σc w.H Q
def DT (E : L2.St → XK) (tt : TT) (f : AT) : Prop := ∀ (w : Wd) (s : Sto) (σ : ASt) (σc : L2.St) (Q : Bool → Hp → Prop), Sim W w s → RSt W w σ σc → (f σ s).Post (OkB W w Q) (ErrP W w (E σc)) → tt σc w.H Q
def DA (E : L2.St → XK) (ta : TA) (f : AA) : Prop := ∀ (w : Wd) (s : Sto) (σ : ASt) (σc : L2.St) (Q : List V → Hp → Prop), Sim W w s → RSt W w σ σc → (f σ s).Post (OkL W w Q) (ErrP W w (E σc)) → ta σc w.H Q
def SRes.P (r : SRes) (w : Wd) (D : Ends) (E : L2.St → XK) : Prop :=
  match r with
  | .nx σ s => ∀ w' σc, Ext w w' → Sim W w' s → RSt W w' σ σc → D.nx σc w'.H
  | .rt v s => ∀ w' vc, Ext w w' → Sim W w' s → Rel W w' v vc → D.rt vc w'.H
  | .bk σ s => ∀ w' σc, Ext w w' → Sim W w' s → RSt W w' σ σc → D.bk σc w'.H
  | .ct σ s => ∀ w' σc, Ext w w' → Sim W w' s → RSt W w' σ σc → D.ct σc w'.H
  | .err c ns vs σ s => ∀ w' σc d, Ext w w' → Sim W w' s → RSt W w' σ σc → ExcD W w' c d ns vs → E σc (.ref (W.κ c)) (some d) w'.H
  | .stuck => False
def DS (E : L2.St → XK) (ts : TS) (f : AS) : Prop := ∀ (w : Wd) (s : Sto) (σ : ASt) (σc : L2.St) (D : Ends), Sim W w s → RSt W w σ σc → (f σ s).P W w D E → ts D σc w.H
/-- a target -/
def DG (tg : TG) (g : AV → AS) : Prop := ∀ (w : Wd) (s : Sto) (σ : ASt) (σc : L2.St) (x : AV) (v : V) (Q : L2.St → Hp → Prop), Sim W w s → RSt W w σ σc → Rel W w x v → (g x σ s).P W w ⟨Q, fun _ _ => False, fun _ _ => False, fun _ _ => False⟩ (fun _ _ _ _ => False) → tg v σc w.H Q
def DGs (tg : TGs) (g : List AV → AS) : Prop := ∀ (w : Wd) (s : Sto) (σ : ASt) (σc : L2.St) (x : List AV) (v : List V) (Q : L2.St → Hp → Prop), Sim W w s → RSt W w σ σc → RelL W w x v → (g x σ s).P W w ⟨Q, fun _ _ => False, fun _ _ => False, fun _ _ => False⟩ (fun _ _ _ _ => False) → tg v σc w.H Q
/-- an operator, a built-in of arguments -/
def DR (r : R2) (g : AV → AV → Sto → Res AV) : Prop := ∀ (w : Wd) (s : Sto) (x y : AV) (v u : V) (Q : VK), Sim W w s → Rel W w x v → Rel W w y u → (g x y s).Post (OkP W w Q) (fun _ _ _ _ => False) → r v u w.H Q
def DU (r : V → Hp → VK → Prop) (g : AV → Sto → Res AV) : Prop := ∀ (w : Wd) (s : Sto) (x : AV) (v : V) (Q : VK), Sim W w s → Rel W w x v → (g x s).Post (OkP W w Q) (fun _ _ _ _ => False) → r v w.H Q
def DB (r : List V → Hp → VK → Prop) (g : List AV → Sto → Res AV) : Prop := ∀ (w : Wd) (s : Sto) (x : List AV) (v : List V) (Q : VK), Sim W w s → RelL W w x v → (g x s).Post (OkP W w Q) (fun _ _ _ _ => False) → r v w.H Q
/-- a promise -/
def spF (n : Nat) (F : List AV → Sto → Res AV) : Sp := fun vs H Q E => ∃ (w : Wd) (s : Sto) (args : List AV), H = w.H ∧ Sim W w s ∧ RelL W w args vs ∧ args.length = n ∧ (F args s).Post (OkP W w Q) (ErrP W w E)
end
section
variable {W : Wl} {w w' : Wd}
theorem OkP.mono {Q : VK} {v : AV} {s : Sto} (e : Ext w w') (h : OkP W w Q v s) : OkP W w' Q v s := fun w2 vc e2 S r => h w2 vc (e.trans e2) S r
theorem OkL.mono {Q : List V → Hp → Prop} {v : List AV} {s : Sto} (e : Ext w w') (h : OkL W w Q v s) : OkL W w' Q v s := fun w2 vc e2 S r => h w2 vc (e.trans e2) S r
theorem OkB.mono {Q : Bool → Hp → Prop} {v : Bool} {s : Sto} (e : Ext w w') (h : OkB W w Q v s) : OkB W w' Q v s := fun w2 e2 S => h w2 (e.trans e2) S
theorem ErrP.mono {E : XK} {c : String} {ns : List Str} {vs : List AV} {s : Sto} (e : Ext w w') (h : ErrP W w E c ns vs s) : ErrP W w' E c ns vs s := fun w2 d e2 S x => h w2 d (e.trans e2) S x
theorem P.mono {r : SRes} {D : Ends} {E : L2.St → XK} (e : Ext w w') (h : r.P W w D E) : r.P W w' D E := by
  cases r with
  | nx σ s => exact fun w2 σc e2 S x => h w2 σc (e.trans e2) S x
  | rt v s => exact fun w2 σc e2 S x => h w2 σc (e.trans e2) S x
  | bk σ s => exact fun w2 σc e2 S x => h w2 σc (e.trans e2) S x
  | ct σ s => exact fun w2 σc e2 S x => h w2 σc (e.trans e2) S x
  | err c ns vs σ s => exact fun w2 σc d e2 S x y => h w2 σc d (e.trans e2) S x y
  | stuck => exact h
theorem P.imp {r : SRes} {D D' : Ends} {E E' : L2.St → XK} (h : r.P W w D E) (n : ∀ σ H, D.nx σ H → D'.nx σ H) (t : ∀ v H, D.rt v H → D'.rt v H) (b : ∀ σ H, D.bk σ H → D'.bk σ H) (c : ∀ σ H, D.ct σ H → D'.ct σ H) (x : ∀ σ c d H, E σ c d H → E' σ c d H) : r.P W w D' E' := by
  cases r with
  | nx σ s => exact fun w2 σc e2 S x => n _ _ (h w2 σc e2 S x)
  | rt v s => exact fun w2 σc e2 S x => t _ _ (h w2 σc e2 S x)
  | bk σ s => exact fun w2 σc e2 S x => b _ _ (h w2 σc e2 S x)
  | ct σ s => exact fun w2 σc e2 S x => c _ _ (h w2 σc e2 S x)
  | err c ns vs σ s => exact fun w2 σc d e2 S z y => x _ _ _ _ (h w2 σc d e2 S z y)
  | stuck => exact h
theorem post_mono {r : Res AV} {Q : VK} {E : XK} (e : Ext w w') (h : r.Post (OkP W w Q) (ErrP W w E)) : r.Post (OkP W w' Q) (ErrP W w' E) := h.mono (fun _ _ z => z.mono e) fun _ _ _ _ z => z.mono e
end
end Ab
set_option Elab.async false
set_option linter.all false
set_option maxRecDepth 100000
set_option maxHeartbeats 1000000
namespace Ab
open PySem PySem.Spec PyProof.Rows L2
open Classical
def aVar (i : Nat) : AE := fun σ s => match σ[i]? with | some (some v) => .ok v s | _ => .stuck
def aC (v : AV) : AE := fun _ s => .ok v s
def aOp (g : AV → AV → Sto → Res AV) (fa fb : AE) : AE := fun σ s => (fa σ s).bind fun x s1 => (fb σ s1).bind fun y s2 => g x y s2
def aUn (g : AV → Sto → Res AV) (fa : AE) : AE := fun σ s => (fa σ s).bind g
def aNil : AA := fun _ s => .ok [] s
def aCons (fa : AE) (fr : AA) : AA := fun σ s => (fa σ s).bind fun x s1 => (fr σ s1).bind fun xs s2 => .ok (x :: xs) s2
def aCB (g : List AV → Sto → Res AV) (fa : AA) : AE := fun σ s => (fa σ s).bind g
def aAndV (fa fb : AE) : AE := fun σ s => (fa σ s).bind fun x s1 => match x with | .bl true => fb σ s1 | .bl false => .ok (.bl false) s1 | _ => .stuck
def aOrV (fa fb : AE) : AE := fun σ s => (fa σ s).bind fun x s1 => match x with | .bl false => fb σ s1 | .bl true => .ok (.bl true) s1 | _ => .stuck
def aNotV (fa : AE) : AE := fun σ s => (fa σ s).bind fun x s1 => match x with | .bl b => .ok (.bl (!b)) s1 | _ => .stuck
def aTest (fa : AE) : AT := fun σ s => (fa σ s).bind fun x s1 => match x with | .bl b => .ok b s1 | _ => .stuck
def aAnd (t u : AT) : AT := fun σ s => (t σ s).bind fun b s1 => if b = true then u σ s1 else .ok false s1
def aOr (t u : AT) : AT := fun σ s => (t σ s).bind fun b s1 => if b = true then .ok true s1 else u σ s1
def aNot (t : AT) : AT := fun σ s => (t σ s).bind fun b s1 => .ok (!b) s1
def aIf (t : AT) (fa fb : AE) : AE := fun σ s => (t σ s).bind fun b s1 => if b = true then fa σ s1 else fb σ s1
def aChain (r r' : AV → AV → Sto → Res AV) (fa fb fc : AE) : AE := fun σ s => (fa σ s).bind fun x s1 => (fb σ s1).bind fun y s2 => (r x y s2).bind fun z s3 => match z with | .bl true => (fc σ s3).bind fun w s4 => r' y w s4 | .bl false => .ok (.bl false) s3 | _ => .stuck
def aTup (fa : AA) : AE := fun σ s => (fa σ s).bind fun xs s1 => if xs.length ≤ sizeLine then .ok (.tup xs) s1 else .stuck
def newL (xs : List AV) (s : Sto) : Res AV := .ok (.obj s.n) (s.new (.lst xs))
def aLst (fa : AA) : AE := fun σ s => (fa σ s).bind fun xs s1 => if xs.length ≤ sizeLine then newL xs s1 else .stuck
def aCall (n : Nat) (F : List AV → Sto → Res AV) (dvs : List AV) (fa : AA) : AE := fun σ s => (fa σ s).bind fun xs s1 => if (xs ++ dvs).length = n then F (xs ++ dvs) s1 else .stuck
def aNext : AS := fun σ s => .nx σ s
/-- an expression's end, then a statement's work -/
def Res.st {α : Type} : Res α → ASt → (α → Sto → SRes) → SRes
  | .ok a s, _, k => k a s
  | .err c ns vs s, σ, _ => .err c ns vs σ s
  | .stuck, _, _ => .stuck
@[simp] theorem Res.st_ok {α : Type} {a : α} {s : Sto} {σ : ASt} {k : α → Sto → SRes} : (Res.ok a s).st σ k = k a s := rfl
@[simp] theorem Res.st_err {α : Type} {c : String} {ns : List Str} {vs : List AV} {s : Sto} {σ : ASt} {k : α → Sto → SRes} : (Res.err c ns vs s).st σ k = .err c ns vs σ s := rfl
@[simp] theorem Res.st_stuck {α : Type} {σ : ASt} {k : α → Sto → SRes} : (Res.stuck : Res α).st σ k = .stuck := rfl
def SRes.thn : SRes → AS → SRes
  | .nx σ s, f => f σ s
  | .rt v s, _ => .rt v s
  | .bk σ s, _ => .bk σ s
  | .ct σ s, _ => .ct σ s
  | .err c ns vs σ s, _ => .err c ns vs σ s
  | .stuck, _ => .stuck
@[simp] theorem SRes.thn_nx {σ : ASt} {s : Sto} {f : AS} : (SRes.nx σ s).thn f = f σ s := rfl
@[simp] theorem SRes.thn_rt {v : AV} {s : Sto} {f : AS} : (SRes.rt v s).thn f = .rt v s := rfl
@[simp] theorem SRes.thn_bk {σ : ASt} {s : Sto} {f : AS} : (SRes.bk σ s).thn f = .bk σ s := rfl
@[simp] theorem SRes.thn_ct {σ : ASt} {s : Sto} {f : AS} : (SRes.ct σ s).thn f = .ct σ s := rfl
@[simp] theorem SRes.thn_err {c : String} {ns : List Str} {vs : List AV} {σ : ASt} {s : Sto} {f : AS} : (SRes.err c ns vs σ s).thn f = .err c ns vs σ s := rfl
@[simp] theorem SRes.thn_stuck {f : AS} : SRes.stuck.thn f = .stuck := rfl
def aSeq (f g : AS) : AS := fun σ s => (f σ s).thn g
def aBreak : AS := fun σ s => .bk σ s
def aCont : AS := fun σ s => .ct σ s
def aDrop (fa : AE) : AS := fun σ s => (fa σ s).st σ fun _ s1 => .nx σ s1
def aRet (fa : AE) : AS := fun σ s => (fa σ s).st σ fun v s1 => .rt v s1
def aRetN : AS := fun _ s => .rt .non s
def aIfS (t : AT) (f g : AS) : AS := fun σ s => (t σ s).st σ fun b s1 => if b = true then f σ s1 else g σ s1
def aAsg (fa : AE) (g : AV → AS) : AS := fun σ s => (fa σ s).st σ fun v s1 => g v σ s1
def agName (i : Nat) : AV → AS := fun v σ s => .nx (σ.set i (some v)) s
def parK (i j : Nat) (σ : ASt) : List AV → Sto → SRes
  | [v, u], s1 => .nx ((σ.set i (some v)).set j (some u)) s1
  | _, _ => .stuck
def aPar (i j : Nat) (fa : AA) : AS := fun σ s => (fa σ s).st σ (parK i j σ)
def parK3 (i j l : Nat) (σ : ASt) : List AV → Sto → SRes
  | [v, u, w], s1 => .nx (((σ.set i (some v)).set j (some u)).set l (some w)) s1
  | _, _ => .stuck
def aPar3 (i j l : Nat) (fa : AA) : AS := fun σ s => (fa σ s).st σ (parK3 i j l σ)
def agNil : List AV → AS := fun xs σ s => match xs with | [] => .nx σ s | _ => .stuck
def agCons (g : AV → AS) (h : List AV → AS) : List AV → AS := fun xs => match xs with | x :: r => aSeq (g x) (h r) | [] => fun _ _ => .stuck
def agTup (n : Nat) (g : List AV → AS) : AV → AS := fun v σ s => match v with | .tup xs => if xs.length = n then g xs σ s else .stuck | _ => .stuck
def aNever : AS := fun _ _ => .stuck
/-- a def's body -/
def SRes.fn : SRes → Res AV
  | .rt v s1 => .ok v s1
  | .nx _ s1 => .ok .non s1
  | .err c ns vs _ s1 => .err c ns vs s1
  | _ => .stuck
@[simp] theorem SRes.fn_rt {v : AV} {s : Sto} : (SRes.rt v s).fn = .ok v s := rfl
@[simp] theorem SRes.fn_nx {σ : ASt} {s : Sto} : (SRes.nx σ s).fn = .ok .non s := rfl
@[simp] theorem SRes.fn_err {c : String} {ns : List Str} {vs : List AV} {σ : ASt} {s : Sto} : (SRes.err c ns vs σ s).fn = .err c ns vs s := rfl
def aDef (k : Nat) (f : AS) : List AV → Sto → Res AV := fun args s => (f (args.map some ++ List.replicate k none) s).fn
section
variable {W : Wl} {E : L2.St → XK} {ta tb tc : TE} {fa fb fc : AE} {t u : TT} {ft fu : AT} {tr : TA} {fr : AA}
theorem DE.var {i : Nat} : DE W E (tVar i) (aVar i) := fun w s σ σc Q S R h => by
  unfold aVar at h
  split at h
  · rename_i v e
    obtain ⟨vc, h1, h2⟩ := R.get i v e
    exact ⟨vc, h1, h w vc (.refl w) S h2⟩
  · exact h.elim
theorem DE.c {v : AV} {vc : V} (r : ∀ w, Rel W w v vc) : DE W E (tC vc) (aC v) := fun w s σ σc Q S R h => h w vc (.refl w) S (r w)
theorem post_bind_ok {α β : Type} {r : Res α} {k : α → Sto → Res β} {P : β → Sto → Prop} {Er : String → List Str → List AV → Sto → Prop} (h : (r.bind k).Post P Er) : r.Post (fun a s => (k a s).Post P Er) Er := Res.post_bind.mp h
theorem postB_mono {w w' : Wd} {r : Res Bool} {Q : Bool → Hp → Prop} {E : XK} (e : Ext w w') (h : r.Post (OkB W w Q) (ErrP W w E)) : r.Post (OkB W w' Q) (ErrP W w' E) := h.mono (fun _ _ z => z.mono e) fun _ _ _ _ z => z.mono e
theorem DE.op {r : R2} {g : AV → AV → Sto → Res AV} (hr : DR W r g) (ha : DE W E ta fa) (hb : DE W E tb fb) (hg : ∀ x y s c ns vs s', g x y s ≠ .err c ns vs s') : DE W E (tOp r ta tb) (aOp g fa fb) := fun w s σ σc Q S R h => by
  refine ha w s σ σc _ S R ((post_bind_ok h).mono (fun x s1 h1 w1 v e1 S1 r1 => ?_) fun _ _ _ _ z => z)
  refine hb w1 s1 σ σc _ S1 (R.mono e1) ((post_bind_ok h1).mono (fun y s2 h2 w2 u e2 S2 r2 => ?_) fun _ _ _ _ z => z.mono e1)
  refine hr w2 s2 x y v u Q S2 (r1.mono e2) r2 ?_
  cases hh : g x y s2 with
  | ok a s3 =>
    rw [hh] at h2
    exact OkP.mono (e1.trans e2) h2
  | err c ns vs s3 => exact absurd hh (hg _ _ _ _ _ _ _)
  | stuck => rw [hh] at h2; exact h2
theorem DE.un {r : V → Hp → VK → Prop} {g : AV → Sto → Res AV} (hr : DU W r g) (ha : DE W E ta fa) (hg : ∀ x s c ns vs s', g x s ≠ .err c ns vs s') : DE W E (tUn r ta) (aUn g fa) := fun w s σ σc Q S R h => by
  refine ha w s σ σc _ S R ((post_bind_ok h).mono (fun x s1 h1 w1 v e1 S1 r1 => ?_) fun _ _ _ _ z => z)
  refine hr w1 s1 x v Q S1 r1 ?_
  cases hh : g x s1 with
  | ok a s3 =>
    rw [hh] at h1
    exact OkP.mono e1 h1
  | err c ns vs s3 => exact absurd hh (hg _ _ _ _ _ _)
  | stuck => rw [hh] at h1; exact h1
theorem DA.nil : DA W E tNil aNil := fun w s σ σc Q S R h => h w [] (.refl w) S .nil
theorem DA.cons (ha : DE W E ta fa) (hr : DA W E tr fr) : DA W E (tCons ta tr) (aCons fa fr) := fun w s σ σc Q S R h => by
  refine ha w s σ σc _ S R ((post_bind_ok h).mono (fun x s1 h1 w1 v e1 S1 r1 => ?_) fun _ _ _ _ z => z)
  refine hr w1 s1 σ σc _ S1 (R.mono e1) ((post_bind_ok h1).mono (fun y s2 h2 w2 u e2 S2 r2 => ?_) fun _ _ _ _ z => z.mono e1)
  exact h2 w2 _ (e1.trans e2) S2 (.cons (r1.mono e2) r2)
theorem DE.cb {r : List V → Hp → VK → Prop} {g : List AV → Sto → Res AV} (hr : DB W r g) (ha : DA W E tr fr) (hg : ∀ x s c ns vs s', g x s ≠ .err c ns vs s') : DE W E (tCB r tr) (aCB g fr) := fun w s σ σc Q S R h => by
  refine ha w s σ σc _ S R ((post_bind_ok h).mono (fun x s1 h1 w1 v e1 S1 r1 => ?_) fun _ _ _ _ z => z)
  refine hr w1 s1 x v Q S1 r1 ?_
  cases hh : g x s1 with
  | ok a s3 =>
    rw [hh] at h1
    exact OkP.mono e1 h1
  | err c ns vs s3 => exact absurd hh (hg _ _ _ _ _ _)
  | stuck => rw [hh] at h1; exact h1
theorem DE.andV (ha : DE W E ta fa) (hb : DE W E tb fb) : DE W E (tAndV ta tb) (aAndV fa fb) := fun w s σ σc Q S R h => by
  refine ha w s σ σc _ S R ((post_bind_ok h).mono (fun x s1 h1 w1 v e1 S1 r1 => ?_) fun _ _ _ _ z => z)
  cases r1 with
  | bl b =>
    refine ⟨b, rfl, ?_⟩
    cases b with
    | true => exact iteT (hb w1 s1 σ σc _ S1 (R.mono e1) (post_mono e1 h1))
    | false => exact iteF (h1 w1 _ e1 S1 (.bl false))
  | _ => exact (show False from h1).elim
theorem DE.notV (ha : DE W E ta fa) : DE W E (tNotV ta) (aNotV fa) := fun w s σ σc Q S R h => by
  refine ha w s σ σc _ S R ((post_bind_ok h).mono (fun x s1 h1 w1 v e1 S1 r1 => ?_) fun _ _ _ _ z => z)
  cases r1 with
  | bl b => exact ⟨b, rfl, h1 w1 _ e1 S1 (.bl _)⟩
  | _ => exact (show False from h1).elim
theorem DT.test (ha : DE W E ta fa) : DT W E (tTest ta) (aTest fa) := fun w s σ σc Q S R h => by
  refine ha w s σ σc _ S R ((post_bind_ok h).mono (fun x s1 h1 w1 v e1 S1 r1 => ?_) fun _ _ _ _ z => z)
  cases r1 with
  | bl b => exact ⟨b, rfl, h1 w1 e1 S1⟩
  | _ => exact (show False from h1).elim
theorem DT.b (ha : DE W E ta fa) : DT W E (tB ta) (aTest fa) := fun w s σ σc Q S R h => DT.test ha w s σ σc Q S R h
theorem DT.or (ha : DT W E t ft) (hb : DT W E u fu) : DT W E (tOr t u) (aOr ft fu) := fun w s σ σc Q S R h => by
  refine ha w s σ σc _ S R ((post_bind_ok h).mono (fun b s1 h1 w1 e1 S1 => ?_) fun _ _ _ _ z => z)
  cases b with
  | true => exact iteT ((show OkB W w Q true s1 from by rw [if_pos rfl] at h1; exact h1) w1 e1 S1)
  | false => exact iteF (hb w1 s1 σ σc _ S1 (R.mono e1) (postB_mono e1 (by simpa using h1)))
theorem DT.not (ha : DT W E t ft) : DT W E (tNot t) (aNot ft) := fun w s σ σc Q S R h =>
  ha w s σ σc _ S R ((post_bind_ok h).mono (fun b s1 h1 w1 e1 S1 => h1 w1 e1 S1) fun _ _ _ _ z => z)
theorem DE.ifE (ht : DT W E t ft) (ha : DE W E ta fa) (hb : DE W E tb fb) : DE W E (tIf t ta tb) (aIf ft fa fb) := fun w s σ σc Q S R h => by
  refine ht w s σ σc _ S R ((post_bind_ok h).mono (fun b s1 h1 w1 e1 S1 => ?_) fun _ _ _ _ z => z)
  cases b with
  | true => exact iteT (ha w1 s1 σ σc _ S1 (R.mono e1) (post_mono e1 (by simpa using h1)))
  | false => exact iteF (hb w1 s1 σ σc _ S1 (R.mono e1) (post_mono e1 (by simpa using h1)))
theorem DE.chain {r r' : R2} {g g' : AV → AV → Sto → Res AV} (hr : DR W r g) (hr' : DR W r' g') (ha : DE W E ta fa) (hb : DE W E tb fb) (hc : DE W E tc fc) (hg : ∀ x y s c ns vs s', g x y s ≠ .err c ns vs s') (hg' : ∀ x y s c ns vs s', g' x y s ≠ .err c ns vs s') :
    DE W E (tChain r r' ta tb tc) (aChain g g' fa fb fc) := fun w s σ σc Q S R h => by
  refine ha w s σ σc _ S R ((post_bind_ok h).mono (fun x s1 h1 w1 v e1 S1 r1 => ?_) fun _ _ _ _ z => z)
  refine hb w1 s1 σ σc _ S1 (R.mono e1) ((post_bind_ok h1).mono (fun y s2 h2 w2 u e2 S2 r2 => ?_) fun _ _ _ _ z => z.mono e1)
  have h2 := post_bind_ok h2
  refine hr w2 s2 x y v u _ S2 (r1.mono e2) r2 ?_
  cases hh : g x y s2 with
  | err c ns vs s3 => exact absurd hh (hg _ _ _ _ _ _ _)
  | stuck => rw [hh] at h2; exact h2
  | ok z s3 =>
    rw [hh] at h2
    intro w3 zc e3 S3 r3
    have e13 := (e1.trans e2).trans e3
    cases r3 with
    | bl b =>
      refine ⟨b, rfl, ?_⟩
      cases b with
      | false => exact iteF ((show OkP W w Q (.bl false) s3 from h2) w3 _ e13 S3 (.bl false))
      | true =>
        refine iteT (hc w3 s3 σ σc _ S3 (R.mono e13) ((post_bind_ok h2).mono (fun w' s4 h4 w4 uc e4 S4 r4 => ?_) fun _ _ _ _ z => z.mono e13))
        refine hr' w4 s4 y w' u uc Q S4 ((r2.mono e3).mono e4) r4 ?_
        cases hh : g' y w' s4 with
        | err c ns vs s3 => exact absurd hh (hg' _ _ _ _ _ _ _)
        | stuck => rw [hh] at h4; exact h4
        | ok a s5 =>
          rw [hh] at h4
          exact OkP.mono (e13.trans e4) h4
    | _ => exact (show False from h2).elim
theorem DE.tup (ha : DA W E tr fr) : DE W E (tTup tr) (aTup fr) := fun w s σ σc Q S R h => by
  refine ha w s σ σc _ S R ((post_bind_ok h).mono (fun xs s1 h1 w1 vs e1 S1 r1 => ?_) fun _ _ _ _ z => z)
  split at h1
  · rename_i hl
    refine ⟨by rw [← r1.length]; exact hl, fun p hp => ?_⟩
    have g := grow_upd (o := .tup vs) hp
    exact h1 _ _ (e1.trans (.grow g)) (S1.grow g) (.tup (.inl (.inl upd_same)) (r1.mono (.grow g)))
  · exact (show False from h1).elim
theorem newL_ok {w : Wd} {s : Sto} {xs : List AV} {vs : List V} {Q : VK} (S : Sim W w s) (r : RelL W w xs vs) (h : OkP W w Q (.obj s.n) (s.new (.lst xs))) : ∀ p, w.H p = none → Q (.ref p) (upd w.H p (.lst vs)) := fun p hp => by
  have g := grow_upd (o := .lst vs) hp
  exact h (w.new p _) _ (.new g) (S.new hp g upd_same (.lst (r.mono (.new g)))) (Rel.new p _ S.n)
theorem DE.lst (ha : DA W E tr fr) : DE W E (tLst tr) (aLst fr) := fun w s σ σc Q S R h => by
  refine ha w s σ σc _ S R ((post_bind_ok h).mono (fun xs s1 h1 w1 vs e1 S1 r1 => ?_) fun _ _ _ _ z => z)
  split at h1
  · rename_i hl
    exact ⟨by rw [← r1.length]; exact hl, newL_ok S1 r1 (OkP.mono e1 h1)⟩
  · exact (show False from h1).elim
theorem DE.call {n : Nat} {F : List AV → Sto → Res AV} {Ek : XK} {dvs : List AV} {dcs : List V} (hd : ∀ w, RelL W w dvs dcs) (ha : DA W (fun _ => Ek) tr fr) : DE W (fun _ => Ek) (tCall (spF W n F) dcs Ek tr) (aCall n F dvs fr) := fun w s σ σc Q S R h => by
  refine ha w s σ σc _ S R ((post_bind_ok h).mono (fun xs s1 h1 w1 vs e1 S1 r1 => ?_) fun _ _ _ _ z => z)
  split at h1
  · rename_i hl
    exact ⟨w1, s1, _, rfl, S1, r1.append (hd w1), hl, post_mono e1 h1⟩
  · exact (show False from h1).elim
end
section
variable {W : Wl} {E : L2.St → XK} {ta : TE} {fa : AE} {t : TT} {ft : AT} {tr : TA} {fr : AA} {t1 t2 : TS} {f1 f2 : AS} {tg : TG} {g : AV → AS} {tgs : TGs} {gs : List AV → AS}
theorem DS.next : DS W E tNext aNext := fun w s σ σc D S R h => h w σc (.refl w) S R
theorem DS.brk : DS W E tBreak aBreak := fun w s σ σc D S R h => h w σc (.refl w) S R
theorem DS.seq (h1 : DS W E t1 f1) (h2 : DS W E t2 f2) : DS W E (tSeq t1 t2) (aSeq f1 f2) := fun w s σ σc D S R h => by
  refine h1 w s σ σc { D with nx := t2 D } S R ?_
  unfold aSeq at h
  cases e : f1 σ s with
  | nx σ' s' =>
    rw [e] at h
    exact fun w' σc' e' S' R' => h2 w' s' σ' σc' D S' R' (P.mono e' h)
  | rt v s' => rw [e] at h; exact h
  | bk σ' s' => rw [e] at h; exact h
  | ct σ' s' => rw [e] at h; exact h
  | err c ns vs σ' s' => rw [e] at h; exact h
  | stuck => rw [e] at h; exact h
/-- from an expression's end to a statement's -/
theorem exp_post {α : Type} {r : Res α} {w : Wd} {σ : ASt} {σc : L2.St} {D : Ends} {k : α → Sto → SRes} (R : RSt W w σ σc) (h : (r.st σ k).P W w D E) : r.Post (fun v s1 => (k v s1).P W w D E) (ErrP W w (E σc)) := by
  cases r with
  | ok v s1 => exact h
  | err c ns vs s1 => exact fun w' d e' S' x => h w' σc d e' S' (R.mono e') x
  | stuck => exact h
theorem DS.drop (ha : DE W E ta fa) : DS W E (tDrop ta) (aDrop fa) := fun w s σ σc D S R h => by
  refine ha w s σ σc _ S R ((exp_post R h).mono (fun v s1 h1 w1 vc e1 S1 r1 => h1 w1 σc e1 S1 (R.mono e1)) fun _ _ _ _ z => z)
theorem DS.ret (ha : DE W E ta fa) : DS W E (tRet ta) (aRet fa) := fun w s σ σc D S R h => by
  refine ha w s σ σc _ S R ((exp_post R h).mono (fun v s1 h1 w1 vc e1 S1 r1 => h1 w1 vc e1 S1 r1) fun _ _ _ _ z => z)
theorem DS.ifs (ht : DT W E t ft) (h1 : DS W E t1 f1) (h2 : DS W E t2 f2) : DS W E (tIfS t t1 t2) (aIfS ft f1 f2) := fun w s σ σc D S R h => by
  refine ht w s σ σc _ S R ((exp_post R h).mono (fun b s1 hb w1 e1 S1 => ?_) fun _ _ _ _ z => z)
  cases b with
  | true => exact iteT (h1 w1 s1 σ σc D S1 (R.mono e1) (P.mono e1 (by simpa using hb)))
  | false => exact iteF (h2 w1 s1 σ σc D S1 (R.mono e1) (P.mono e1 (by simpa using hb)))
/-- a target ends by going on -/
def Goes (g : AV → AS) : Prop := ∀ x σ s, (∃ σ' s', g x σ s = .nx σ' s') ∨ g x σ s = .stuck
def GoesL (g : List AV → AS) : Prop := ∀ x σ s, (∃ σ' s', g x σ s = .nx σ' s') ∨ g x σ s = .stuck
theorem goes_P {r : SRes} {w : Wd} {D : Ends} (g : (∃ σ' s', r = .nx σ' s') ∨ r = .stuck) (h : r.P W w D E) : r.P W w ⟨D.nx, fun _ _ => False, fun _ _ => False, fun _ _ => False⟩ (fun _ _ _ _ => False) := by
  rcases g with ⟨σ', s', rfl⟩ | rfl
  · exact h
  · exact h
theorem DS.asg (ha : DE W E ta fa) (hg : DG W tg g) (hn : Goes g) : DS W E (tAsg ta tg) (aAsg fa g) := fun w s σ σc D S R h => by
  refine ha w s σ σc _ S R ((exp_post R h).mono (fun v s1 h1 w1 vc e1 S1 r1 => ?_) fun _ _ _ _ z => z)
  exact hg w1 s1 σ σc v vc _ S1 (R.mono e1) r1 (goes_P (hn _ _ _) (P.mono e1 h1))
theorem DG.name {i : Nat} : DG W (gName i) (agName i) := fun w s σ σc x v Q S R r h => h w _ (.refl w) S (R.set (x := some x) (v := some v) r i)
theorem Goes.name {i : Nat} : Goes (agName i) := fun x σ s => .inl ⟨_, _, rfl⟩
theorem DGs.nil : DGs W gNil agNil := fun w s σ σc x v Q S R r h => by
  cases r with
  | nil => exact ⟨rfl, h w σc (.refl w) S R⟩
  | cons => exact (show False from h).elim
theorem GoesL.nil : GoesL agNil := fun x σ s => by
  cases x with
  | nil => exact .inl ⟨_, _, rfl⟩
  | cons => exact .inr rfl
theorem DGs.cons (hg : DG W tg g) (hs : DGs W tgs gs) : DGs W (gCons tg tgs) (agCons g gs) := fun w s σ σc x v Q S R r h => by
  cases r with
  | nil => exact (show False from h).elim
  | @cons x v xs vs h1 h2 =>
    refine ⟨v, vs, rfl, hg w s σ σc x v _ S R h1 ?_⟩
    have h : (aSeq (g x) (gs xs) σ s).P W w _ _ := h
    unfold aSeq at h
    cases e : g x σ s with
    | nx σ' s' =>
      rw [e] at h
      exact fun w' σc' e' S' R' => hs w' s' σ' σc' xs vs Q S' R' (h2.mono e') (P.mono e' h)
    | rt v s' => rw [e] at h; exact h
    | bk σ' s' => rw [e] at h; exact h
    | ct σ' s' => rw [e] at h; exact h
    | err c ns vs σ' s' => rw [e] at h; exact h
    | stuck => rw [e] at h; exact h
theorem GoesL.cons (h1 : Goes g) (h2 : GoesL gs) : GoesL (agCons g gs) := fun x σ s => by
  cases x with
  | nil => exact .inr rfl
  | cons x xs =>
    show (∃ σ' s', (g x σ s).thn (gs xs) = .nx σ' s') ∨ (g x σ s).thn (gs xs) = .stuck
    rcases h1 x σ s with ⟨σ', s', e⟩ | e
    · rw [e]; exact h2 xs σ' s'
    · rw [e]; exact .inr rfl
theorem DG.tup {n : Nat} (hs : DGs W tgs gs) : DG W (gTup W.K n tgs) (agTup n gs) := fun w s σ σc x v Q S R r h => by
  cases r with
  | @tup a xs vs h1 h2 =>
    have h : (if xs.length = n then gs xs σ s else .stuck : SRes).P W w _ _ := h
    split at h
    · rename_i hl
      exact ⟨a, vs, rfl, h1, by rw [← h2.length]; exact hl, hs w s σ σc xs vs Q S R h2 h⟩
    · exact h.elim
  | _ => exact (show False from h).elim
theorem Goes.tup {n : Nat} (h : GoesL gs) : Goes (agTup n gs) := fun x σ s => by
  cases x with
  | tup xs =>
    show (∃ σ' s', (if xs.length = n then gs xs σ s else .stuck : SRes) = .nx σ' s') ∨ _
    by_cases e : xs.length = n
    · rw [if_pos e]
      rcases h xs σ s with h | h
      · exact .inl h
      · exact .inr (by show (if xs.length = n then gs xs σ s else .stuck : SRes) = _; rw [if_pos e]; exact h)
    · exact .inr (if_neg e)
  | _ => exact .inr rfl
theorem DS.par {i j : Nat} (ha : DA W E tr fr) : DS W E (tPar i j tr) (aPar i j fr) := fun w s σ σc D S R h => by
  refine ha w s σ σc _ S R ((exp_post R h).mono (fun xs s1 h1 w1 vs e1 S1 r1 => ?_) fun _ _ _ _ z => z)
  match xs, vs, r1, h1 with
  | [x, y], [v, u], .cons a (.cons b .nil), h => exact ⟨_, _, rfl, h w1 _ e1 S1 (((R.mono e1).set (x := some x) (v := some v) a i).set (x := some y) (v := some u) b j)⟩
theorem DS.never {f : AS} (h : ∀ σ s, f σ s = .stuck) : DS W E tNever f := fun w s σ σc D S R z => by rw [h] at z; exact z.elim
/-- a def's body keeps the def's promise -/
theorem RSt.start {w : Wd} : ∀ {xs : List AV} {vs : List V} {k : Nat}, RelL W w xs vs → RSt W w (xs.map some ++ List.replicate k none) (vs.map some ++ List.replicate k none)
  | _, _, 0, .nil => .nil
  | _, _, k + 1, .nil => .cons trivial (RSt.start (k := k) .nil)
  | _, _, _, .cons h r => .cons h (RSt.start r)
theorem DS.dfn {k n : Nat} {N : List Str} {f : AS} {ts : TS} {H : Hp} {vs : List V} {Q : VK} {Ek : XK} (h : spF W n (aDef k f) vs H Q Ek) (hk : n + k = N.length) (hs : DS W (fun _ => Ek) ts f) : ts { nx := fun _ H' => Q .non H', rt := Q } (L2.start N vs) H := by
  obtain ⟨w, s, args, rfl, S, R, hn, p⟩ := h
  have hv := R.length
  have e : L2.start N vs = vs.map some ++ List.replicate k none := by
    unfold L2.start
    rw [show N.length - vs.length = k from by omega]
  rw [e]
  refine hs w s _ _ _ S (RSt.start R) ?_
  have p : (f (args.map some ++ List.replicate k none) s).fn.Post _ _ := p
  cases e : f (args.map some ++ List.replicate k none) s with
  | nx σ' s' =>
    rw [e] at p
    exact fun w' σc' e' S' R' => p w' _ e' S' .non
  | rt v s' => rw [e] at p; exact p
  | bk σ' s' => rw [e] at p; exact p.elim
  | ct σ' s' => rw [e] at p; exact p.elim
  | err c ns vs σ' s' =>
    rw [e] at p
    exact fun w' σc' d e' S' R' x => p w' d e' S' x
  | stuck => rw [e] at p; exact p
theorem spF.len {n : Nat} {F : List AV → Sto → Res AV} {vs : List V} {H : Hp} {Q : VK} {Ek : XK} (h : spF W n F vs H Q Ek) : vs.length = n := by
  obtain ⟨w, s, args, rfl, S, R, hn, p⟩ := h
  rw [← R.length]; exact hn
end
end Ab
set_option Elab.async false
set_option linter.all false
set_option maxRecDepth 100000
set_option maxHeartbeats 1000000
namespace Ab
open PySem PySem.Spec PyProof.Rows L2
open Classical
noncomputable section
/-- no error comes of it -/
def NE2 (g : AV → AV → Sto → Res AV) : Prop := ∀ x y s c ns vs s', g x y s ≠ .err c ns vs s'
def NE1 (g : AV → Sto → Res AV) : Prop := ∀ x s c ns vs s', g x s ≠ .err c ns vs s'
def NEL (g : List AV → Sto → Res AV) : Prop := ∀ x s c ns vs s', g x s ≠ .err c ns vs s'
section
variable {W : Wl} {w : Wd} {s : Sto}
theorem obj_at {i : Nat} {v : V} (r : Rel W w (.obj i) v) : i < w.n ∧ v = .ref (w.m i) := by
  cases r with
  | obj h => exact ⟨h, rfl⟩
theorem cell_at {i : Nat} {v : V} {x : Cell} (S : Sim W w s) (r : Rel W w (.obj i) v) (e : s.c i = x) : ∃ o, i < s.n ∧ v = .ref (w.m i) ∧ w.H (w.m i) = some o ∧ CRel W w x o := by
  obtain ⟨h, rfl⟩ := obj_at r
  have h : i < s.n := S.n ▸ h
  obtain ⟨o, h1, h2⟩ := S.cell i h
  rw [e] at h2
  exact ⟨o, h, rfl, h1, h2⟩
/-- the items of a list -/
def lstOf (s : Sto) : AV → Option (List AV)
  | .scr xs => some xs
  | .obj i => match s.c i with | .lst xs => some xs | _ => none
  | _ => none
theorem lst_at {x : AV} {v : V} {xs : List AV} (S : Sim W w s) (r : Rel W w x v) (h : lstOf s x = some xs) : ∃ a vs, v = .ref a ∧ SqL W.K w.H a vs ∧ RelL W w xs vs := by
  cases r with
  | scr h1 h2 =>
    cases h
    exact ⟨_, _, rfl, h1.sql, h2⟩
  | @obj i hi =>
    unfold lstOf at h
    simp only at h
    split at h
    · rename_i xs' e
      cases h
      obtain ⟨o, h1, h2, h3, h4⟩ := cell_at S (.obj hi) e
      cases h4 with
      | lst r => exact ⟨_, _, rfl, .inl (.inl h3), r⟩
    · cases h
  | _ => cases h
theorem lstO_at {i : Nat} {v : V} {xs : List AV} (S : Sim W w s) (r : Rel W w (.obj i) v) (h : s.c i = .lst xs) : ∃ vs, i < s.n ∧ v = .ref (w.m i) ∧ w.H (w.m i) = some (.lst vs) ∧ RelL W w xs vs := by
  obtain ⟨o, h1, h2, h3, h4⟩ := cell_at S r h
  cases h4 with
  | lst r => exact ⟨_, h1, h2, h3, r⟩
theorem newT {xs : List AV} {vs : List V} {Q : VK} (S : Sim W w s) (r : RelL W w xs vs) (h : OkP W w Q (.tup xs) s) : ∀ p, w.H p = none → Q (.ref p) (upd w.H p (.tup vs)) := fun p hp => by
  have g := grow_upd (o := .tup vs) hp
  exact h _ _ (.grow g) (S.grow g) (.tup (.inl (.inl upd_same)) (r.mono (.grow g)))
theorem wr_ok {i : Nat} {x : Cell} {o : HO} {G : Hp → Prop} (S : Sim W w s) (hi : i < s.n) (r : CRel W w x o) (h : ∀ w', Ext w w' → Sim W w' (s.set i x) → G w'.H) : G (upd w.H (w.m i) o) := h _ (.wr S hi) (S.wr hi r)
end
theorem OpR.or {X : Cx} {f : Value → Value → Sem Value} {r1 r2 : R2} (h1 : OpR X f r1) (h2 : OpR X f r2) : OpR X f (fun x y H Q => r1 x y H Q ∨ r2 x y H Q) := fun pins s σ H x y v u Q I rx ry h => h.elim (h1 pins s σ H x y v u Q I rx ry) (h2 pins s σ H x y v u Q I rx ry)
theorem CallR.or {X : Cx} {f : Value} {r1 r2 : List V → Hp → VK → Prop} (h1 : CallR X f r1) (h2 : CallR X f r2) : CallR X f (fun xs H Q => r1 xs H Q ∨ r2 xs H Q) := fun pins s σ H xs us Q I r h => h.elim (h1 pins s σ H xs us Q I r) (h2 pins s σ H xs us Q I r)
theorem IxR.or {X : Cx} {r1 r2 : R2} (h1 : IxR X r1) (h2 : IxR X r2) : IxR X (fun x y H Q => r1 x y H Q ∨ r2 x y H Q) := fun va sl pins s σ H x y v u Q I rx ry h z => Or.elim h (fun h => h1 va sl pins s σ H x y v u Q I rx ry h z) (fun h => h2 va sl pins s σ H x y v u Q I rx ry h z)
theorem SlR.or {X : Cx} {r1 r2 : V → Option Int → Option Int → Hp → VK → Prop} (h1 : SlR X r1) (h2 : SlR X r2) : SlR X (fun x l u H Q => r1 x l u H Q ∨ r2 x l u H Q) := fun pins s σ H x v vl vu lo hi sl Q I rx hs pl pu h => h.elim (h1 pins s σ H x v vl vu lo hi sl Q I rx hs pl pu) (h2 pins s σ H x v vl vu lo hi sl Q I rx hs pl pu)
def gI (C : Int → Int → Prop) (g : Int → Int → AV) : AV → AV → Sto → Res AV := fun x y s => match x, y with | .int i, .int j => if C i j then .ok (g i j) s else .stuck | _, _ => .stuck
def gI0 (g : Int → Int → AV) : AV → AV → Sto → Res AV := fun x y s => match x, y with | .int i, .int j => .ok (g i j) s | _, _ => .stuck
@[simp] theorem gI0_int {g : Int → Int → AV} {i j : Int} {s : Sto} : gI0 g (.int i) (.int j) s = .ok (g i j) s := rfl
theorem NE2.i {C : Int → Int → Prop} {g : Int → Int → AV} : NE2 (gI C g) := fun x y s c ns vs s' h => by 
  unfold gI at h
  repeat' split at h
  all_goals first | cases h | (unfold newL at h; cases h)
theorem NE2.i0 {g : Int → Int → AV} : NE2 (gI0 g) := fun x y s c ns vs s' h => by 
  unfold gI0 at h
  repeat' split at h
  all_goals first | cases h | (unfold newL at h; cases h)
theorem DR.i {W : Wl} {C : Int → Int → Prop} {g : Int → Int → AV} {gc : Int → Int → V} (r : ∀ w i j, Rel W w (g i j) (gc i j)) : DR W (rI C gc) (gI C g) := fun w s x y v u Q S rx ry h => by
  cases rx with
  | int i =>
    cases ry with
    | int j =>
      have h : (if C i j then .ok (g i j) s else .stuck : Res AV).Post _ _ := h
      split at h
      · rename_i hc
        exact ⟨i, j, rfl, rfl, hc, h w _ (.refl w) S (r w i j)⟩
      · exact h.elim
    | _ => exact h.elim
  | _ => exact h.elim
theorem DR.i0 {W : Wl} {g : Int → Int → AV} {gc : Int → Int → V} (r : ∀ w i j, Rel W w (g i j) (gc i j)) : DR W (rI0 gc) (gI0 g) := fun w s x y v u Q S rx ry h => by
  cases rx with
  | int i =>
    cases ry with
    | int j => exact ⟨i, j, rfl, rfl, h w _ (.refl w) S (r w i j)⟩
    | _ => exact h.elim
  | _ => exact h.elim
def gMinus := gI0 fun i j => .int (i - j)
def gMod := gI (fun _ j => 0 < j) fun i j => .int (i % j)
def gFdiv := gI CDivW fun i j => .int (i / j)
def gPow := gI CPow fun i j => .int (i ^ j.toNat)
def gXor := gI0 fun i j => .int (Builtin.bitXor i j)
def gOr := gI0 fun i j => .int (Builtin.bitOr i j)
def gAnd := gI0 fun i j => .int (Builtin.bitAnd i j)
def gShl := gI CShl fun i j => .int (i * 2 ^ j.toNat)
def gShr := gI (fun _ j => 0 ≤ j) fun i j => .int (i / 2 ^ j.toNat)
def gLt := gI0 fun i j => .bl (decide (i < j))
def gLe := gI0 fun i j => .bl (decide (i ≤ j))
def gGt := gI0 fun i j => .bl (decide (j < i))
def gGe := gI0 fun i j => .bl (decide (j ≤ i))
section
variable {i j : Int} {s : Sto}
@[simp] theorem gMinus_int : gMinus (.int i) (.int j) s = .ok (.int (i - j)) s := rfl
theorem gMod_int (h : 0 < j) : gMod (.int i) (.int j) s = .ok (.int (i % j)) s := if_pos h
theorem gFdiv_int (h : CDivW i j) : gFdiv (.int i) (.int j) s = .ok (.int (i / j)) s := if_pos h
theorem gPow_int (h : CPow i j) : gPow (.int i) (.int j) s = .ok (.int (i ^ j.toNat)) s := if_pos h
@[simp] theorem gXor_int : gXor (.int i) (.int j) s = .ok (.int (Builtin.bitXor i j)) s := rfl
@[simp] theorem gOr_int : gOr (.int i) (.int j) s = .ok (.int (Builtin.bitOr i j)) s := rfl
@[simp] theorem gAnd_int : gAnd (.int i) (.int j) s = .ok (.int (Builtin.bitAnd i j)) s := rfl
theorem gShl_int (h : CShl i j) : gShl (.int i) (.int j) s = .ok (.int (i * 2 ^ j.toNat)) s := if_pos h
theorem gShr_int (h : 0 ≤ j) : gShr (.int i) (.int j) s = .ok (.int (i / 2 ^ j.toNat)) s := if_pos h
@[simp] theorem gLt_int : gLt (.int i) (.int j) s = .ok (.bl (decide (i < j))) s := rfl
@[simp] theorem gLe_int : gLe (.int i) (.int j) s = .ok (.bl (decide (i ≤ j))) s := rfl
@[simp] theorem gGt_int : gGt (.int i) (.int j) s = .ok (.bl (decide (j < i))) s := rfl
@[simp] theorem gGe_int : gGe (.int i) (.int j) s = .ok (.bl (decide (j ≤ i))) s := rfl
end
def gNeg : AV → Sto → Res AV := fun x s => match x with | .int i => .ok (.int (-i)) s | _ => .stuck
@[simp] theorem gNeg_int {i : Int} {s : Sto} : gNeg (.int i) s = .ok (.int (-i)) s := rfl
theorem NE1.neg : NE1 gNeg := fun x s c ns vs s' h => by 
  unfold gNeg at h
  repeat' split at h
  all_goals first | cases h | (unfold newL at h; cases h)
theorem DU.neg {W : Wl} : DU W (rU fun i => V.int (-i)) gNeg := fun w s x v Q S r h => by
  cases r with
  | int i => exact ⟨i, rfl, h w _ (.refl w) S (.int _)⟩
  | _ => exact h.elim
def rAddU (K : PySem.W.Frag) : R2 := fun x y H Q => rI0 (fun i j => V.int (i + j)) x y H Q ∨ (∃ i j, x = .str i ∧ y = .str j ∧ i.length + j.length ≤ sizeLine ∧ Q (.str (i ++ j)) H) ∨ rCatA K x y H Q ∨ rCat x y H Q
theorem op_addU {X : Cx} : OpR X (binaryOp .Add) (rAddU X.K) := OpR.or op_add (OpR.or op_add_str (OpR.or op_catA op_cat))
def gAdd : AV → AV → Sto → Res AV := fun x y s => match x, y with
  | .int i, .int j => .ok (.int (i + j)) s
  | .str a, .str b => if a.length + b.length ≤ sizeLine then .ok (.str (a ++ b)) s else .stuck
  | .tup a, .tup b => if a.length + b.length ≤ sizeLine then .ok (.tup (a ++ b)) s else .stuck
  | .obj i, .obj j => match s.c i, s.c j with | .lst a, .lst b => if a.length + b.length ≤ sizeLine then newL (a ++ b) s else .stuck | _, _ => .stuck
  | _, _ => .stuck
@[simp] theorem gAdd_int {i j : Int} {s : Sto} : gAdd (.int i) (.int j) s = .ok (.int (i + j)) s := rfl
theorem gAdd_tup {a b : List AV} {s : Sto} (h : a.length + b.length ≤ sizeLine) : gAdd (.tup a) (.tup b) s = .ok (.tup (a ++ b)) s := if_pos h
theorem gAdd_lst {i j : Nat} {a b : List AV} {s : Sto} (e1 : s.c i = .lst a) (e2 : s.c j = .lst b) (h : a.length + b.length ≤ sizeLine) : gAdd (.obj i) (.obj j) s = newL (a ++ b) s := by
  unfold gAdd; simp only [e1, e2]; exact if_pos h
theorem NE2.add : NE2 gAdd := fun x y s c ns vs s' h => by 
  unfold gAdd at h
  repeat' split at h
  all_goals first | cases h | (unfold newL at h; cases h)
theorem DR.add {W : Wl} : DR W (rAddU W.K) gAdd := fun w s x y v u Q S rx ry h => by
  unfold gAdd at h
  split at h
  · cases rx; cases ry
    exact .inl ⟨_, _, rfl, rfl, h w _ (.refl w) S (.int _)⟩
  · split at h
    · rename_i hl
      cases rx; cases ry
      exact .inr (.inl ⟨_, _, rfl, rfl, hl, h w _ (.refl w) S (.str _)⟩)
    · exact h.elim
  · split at h
    · rename_i hl
      cases rx with
      | @tup a xs vs h1 r1 =>
        cases ry with
        | @tup b ys us h2 r2 =>
          have e1 := r1.length
          have e2 := r2.length
          refine .inr (.inr (.inl ⟨a, b, vs, us, rfl, rfl, h1, h2, by rw [← e1, ← e2]; exact hl, fun z => ?_, fun _ z => ?_, fun _ _ => newT S (r1.append r2) h⟩))
          · subst z
            cases r1
            exact h w _ (.refl w) S (.tup h2 r2)
          · subst z
            cases r2
            refine h w _ (.refl w) S ?_
            rw [List.append_nil]
            exact .tup h1 r1
    · exact h.elim
  · split at h
    · rename_i i j a b e1 e2
      split at h
      · rename_i hl
        obtain ⟨vs, i1, i2, i3, i4⟩ := lstO_at S rx e1
        obtain ⟨us, j1, j2, j3, j4⟩ := lstO_at S ry e2
        exact .inr (.inr (.inr ⟨_, _, vs, us, i2, j2, i3, j3, by rw [← i4.length, ← j4.length]; exact hl, newL_ok S (i4.append j4) h⟩))
      · exact h.elim
    · exact h.elim
  · exact h.elim
def rMulU : R2 := fun x y H Q => rI CMulX (fun i j => V.int (i * j)) x y H Q ∨ rRep x y H Q ∨ Gx.rMulS x y H Q
theorem op_mulU {X : Cx} : OpR X (binaryOp .Mult) rMulU := OpR.or op_mulX (OpR.or op_rep Gx.op_mulS)
def gMul : AV → AV → Sto → Res AV := fun x y s => match x, y with
  | .int i, .int j => if CMulX i j then .ok (.int (i * j)) s else .stuck
  | .str a, .int k => if PySem.MulOk a k then .ok (.str (Txt.mul a k)) s else .stuck
  | .obj i, .int k => match s.c i with | .lst a => if -(2 ^ 63) ≤ k ∧ k < 2 ^ 63 ∧ a.length * k.toNat ≤ sizeLine then newL (List.replicate k.toNat a).flatten s else .stuck | _ => .stuck
  | _, _ => .stuck
theorem gMul_int {i j : Int} {s : Sto} (h : CMulX i j) : gMul (.int i) (.int j) s = .ok (.int (i * j)) s := if_pos h
theorem gMul_lst {i : Nat} {a : List AV} {k : Int} {s : Sto} (e : s.c i = .lst a) (h : -(2 ^ 63) ≤ k ∧ k < 2 ^ 63 ∧ a.length * k.toNat ≤ sizeLine) : gMul (.obj i) (.int k) s = newL (List.replicate k.toNat a).flatten s := by
  unfold gMul; simp only [e]; exact if_pos h
theorem NE2.mul : NE2 gMul := fun x y s c ns vs s' h => by 
  unfold gMul at h
  repeat' split at h
  all_goals first | cases h | (unfold newL at h; cases h)
theorem RelL.rep {W : Wl} {w : Wd} {xs : List AV} {vs : List V} (r : RelL W w xs vs) : ∀ k : Nat, RelL W w (List.replicate k xs).flatten (List.replicate k vs).flatten
  | 0 => .nil
  | k + 1 => by
    rw [List.replicate_succ, List.replicate_succ, List.flatten_cons, List.flatten_cons]
    exact r.append (RelL.rep r k)
theorem DR.mul {W : Wl} : DR W rMulU gMul := fun w s x y v u Q S rx ry h => by
  unfold gMul at h
  split at h
  · split at h
    · rename_i hl
      cases rx; cases ry
      exact .inl ⟨_, _, rfl, rfl, hl, h w _ (.refl w) S (.int _)⟩
    · exact h.elim
  · split at h
    · rename_i hl
      cases rx; cases ry
      exact .inr (.inr ⟨_, _, rfl, rfl, hl, h w _ (.refl w) S (.str _)⟩)
    · exact h.elim
  · split at h
    · rename_i i k a e
      split at h
      · rename_i hl
        obtain ⟨vs, i1, i2, i3, i4⟩ := lstO_at S rx e
        cases ry
        exact .inr (.inl ⟨_, _, vs, i2, rfl, i3, hl.1, hl.2.1, by rw [← i4.length]; exact hl.2.2, newL_ok S (i4.rep _) h⟩)
      · exact h.elim
    · exact h.elim
  · exact h.elim
def isNon : AV → Bool
  | .non => true
  | _ => false
theorem isNon_rel {W : Wl} {w : Wd} {x : AV} {v : V} (r : Rel W w x v) : isNon x = decide (v = .non) := by
  cases r <;> simp [isNon]
def gIsN : AV → AV → Sto → Res AV := fun x y s => match y with | .non => .ok (.bl (isNon x)) s | _ => .stuck
def gNotN : AV → AV → Sto → Res AV := fun x y s => match y with | .non => .ok (.bl (!isNon x)) s | _ => .stuck
@[simp] theorem gIsN_non {x : AV} {s : Sto} : gIsN x .non s = .ok (.bl (isNon x)) s := rfl
@[simp] theorem gNotN_non {x : AV} {s : Sto} : gNotN x .non s = .ok (.bl (!isNon x)) s := rfl
theorem NE2.isN : NE2 gIsN := fun x y s c ns vs s' h => by 
  unfold gIsN at h
  repeat' split at h
  all_goals first | cases h | (unfold newL at h; cases h)
theorem DR.isN {W : Wl} : DR W (fun x y H Q => y = .non ∧ Q (.bl (decide (x = .non))) H) gIsN := fun w s x y v u Q S rx ry h => by
  cases ry with
  | non => exact ⟨rfl, h w _ (.refl w) S (by rw [isNon_rel rx]; exact .bl _)⟩
  | _ => exact h.elim
def gIsB : AV → AV → Sto → Res AV := fun x y s => match x, y with | .bl a, .bl b => .ok (.bl (a == b)) s | _, _ => .stuck
def gNotB : AV → AV → Sto → Res AV := fun x y s => match x, y with | .bl a, .bl b => .ok (.bl (!(a == b))) s | _, _ => .stuck
@[simp] theorem gIsB_bl {a b : Bool} {s : Sto} : gIsB (.bl a) (.bl b) s = .ok (.bl (a == b)) s := rfl
@[simp] theorem gNotB_bl {a b : Bool} {s : Sto} : gNotB (.bl a) (.bl b) s = .ok (.bl (!(a == b))) s := rfl
theorem beq_dec (a b : Bool) : (a == b) = decide (a = b) := by cases a <;> cases b <;> rfl
def optL (f : AV → Option PyData) : List AV → Option (List PyData)
  | [] => some []
  | x :: xs => match f x, optL f xs with | some d, some ds => some (d :: ds) | _, _ => none
def dat : Nat → Sto → AV → Option PyData
  | 0, _, _ => none
  | n + 1, s, x => match x with
    | .non => some .none
    | .bl b => some (.bool b)
    | .int i => some (.int i)
    | .str z => some (.str z)
    | .tup xs => (optL (dat n s) xs).map .tuple
    | .scr xs => (optL (dat n s) xs).map .list
    | .obj i => match s.c i with | .lst xs => (optL (dat n s) xs).map .list | _ => none
    | _ => none
section
variable {W : Wl} {w : Wd} {s : Sto}
theorem optL_dp {n : Nat} (ih : ∀ (x : AV) (v : V) (d : PyData), Rel W w x v → dat n s x = some d → Dp W.K w.H v d) : ∀ {xs : List AV} {vs : List V} {ds : List PyData}, RelL W w xs vs → optL (dat n s) xs = some ds → DpAll W.K w.H vs ds
  | _, _, _, .nil, e => by
    cases e
    exact .nil
  | _, _, _, .cons h r, e => by
    unfold optL at e
    split at e
    · rename_i d ds e1 e2
      cases e
      exact .cons (ih _ _ _ h e1) (optL_dp ih r e2)
    · cases e
theorem dat_dp (S : Sim W w s) : ∀ (n : Nat) (x : AV) (v : V) (d : PyData), Rel W w x v → dat n s x = some d → Dp W.K w.H v d
  | 0, _, _, _, _, e => by cases e
  | n + 1, x, v, d, r, e => by
    unfold dat at e
    cases r with
    | non => cases e; exact .non
    | bl b => cases e; exact .bl b
    | int i => cases e; exact .int i
    | str z => cases e; exact .str z
    | ty n => cases e
    | cls c => cases e
    | raw a => cases e
    | @obj i hi =>
      simp only at e
      split at e
      · rename_i xs e1
        obtain ⟨ds, e2, rfl⟩ := Option.map_eq_some_iff.mp e
        obtain ⟨vs, _, h2, h3, h4⟩ := lstO_at S (.obj hi) e1
        exact .lst (.inl (.inl h3)) (optL_dp (dat_dp S n) h4 e2)
      · cases e
    | tup h r =>
      obtain ⟨ds, e2, rfl⟩ := Option.map_eq_some_iff.mp e
      exact .tup h (optL_dp (dat_dp S n) r e2)
    | scr h r =>
      obtain ⟨ds, e2, rfl⟩ := Option.map_eq_some_iff.mp e
      exact .lst h.sql (optL_dp (dat_dp S n) r e2)
    | exn => cases e
end
def scalA : AV → AV → Bool
  | .non, .non => true | .non, .int _ => true | .int _, .non => true | .non, .bl _ => true | .bl _, .non => true | .non, .str _ => true | .str _, .non => true
  | .int _, .int _ => true | .bl _, .bl _ => true | .str _, .str _ => true
  | .int _, .str _ => true | .str _, .int _ => true | .bl _, .str _ => true | .str _, .bl _ => true
  | _, _ => false
def eqA : AV → AV → Bool
  | .non, .non => true
  | .bl a, .bl b => a == b
  | .bl a, .int b => (if a then 1 else 0) == b
  | .int a, .bl b => a == (if b then 1 else 0)
  | .int a, .int b => a == b
  | .str a, .str b => a == b
  | _, _ => false
theorem scalA_rel {W : Wl} {w : Wd} {x y : AV} {v u : V} (rx : Rel W w x v) (ry : Rel W w y u) (h : scalA x y = true) : scal v u = true ∧ eqA x y = decide (v = u) := by
  cases rx <;> cases ry <;> first | (exact absurd h (by decide)) | (cases h; done) | (refine ⟨rfl, ?_⟩; simp [eqA, beq_dec]; try rfl)
def rEqU (K : PySem.W.Frag) : R2 := fun x y H Q => rEq x y H Q ∨ Sm.rEqS K x y H Q
def rNeU (K : PySem.W.Frag) : R2 := fun x y H Q => rNe x y H Q ∨ Sm.rNeS K x y H Q
theorem op_eqU {X : Cx} (hu : X.A.units + 64 < cLine) : OpR X (compareOp .Eq) (rEqU X.K) := OpR.or op_eq (Sm.op_eqS hu)
theorem op_neU {X : Cx} (hu : X.A.units + 64 < cLine) : OpR X (compareOp .NotEq) (rNeU X.K) := OpR.or op_ne (Sm.op_neS hu)
/-- things that are the very same -/
def smA : Nat → AV → Bool
  | _, .non => true
  | _, .bl _ => true
  | _, .int _ => true
  | _, .str _ => true
  | _, .obj _ => true
  | n + 1, .tup xs => xs.all (smA n)
  | _, _ => false
def isTup : AV → Bool
  | .tup _ => true
  | _ => false
section
variable {W : Wl} {w : Wd}
theorem sm_rel : ∀ (n : Nat) (x : AV) (v u : V), Rel W w x v → Rel W w x u → smA n x = true → Sm.Sm W.K w.H n v u := by
  intro n
  induction n with
  | zero =>
    intro x v u r1 r2 h
    cases r1 <;> cases r2 <;> first | exact .non | exact .bl _ | exact .int _ | exact .str _ | exact .ref _ | (cases h; done)
  | succ n ih =>
    intro x v u r1 r2 h
    cases r1 with
    | @tup a xs vs h1 q1 =>
      cases r2 with
      | @tup b _ us h2 q2 =>
        have h : xs.all (smA n) = true := h
        refine .tup h1 h2 (by rw [← q1.length, ← q2.length]) fun i x y hx hy => ?_
        obtain ⟨z, z1, z2⟩ := q1.getv i x hx
        obtain ⟨z', z3, z4⟩ := q2.getv i y hy
        rw [z1] at z3
        cases z3
        exact ih z x y z2 z4 (List.all_eq_true.mp h z (List.mem_of_getElem? z1))
    | _ => cases r2 <;> first | exact .non | exact .bl _ | exact .int _ | exact .str _ | exact .ref _ | (cases h; done)
theorem top_rel {x : AV} {v u : V} (r1 : Rel W w x v) (r2 : Rel W w x u) (h : smA 20 x = true) (ht : isTup x = true) : Sm.Top W.K w.H v u := by
  cases r1 with
  | @tup a xs vs h1 q1 =>
    cases r2 with
    | @tup b _ us h2 q2 =>
      have h : xs.all (smA 19) = true := h
      refine .tup h1 h2 (by rw [← q1.length, ← q2.length]) fun i x y hx hy => ?_
      obtain ⟨z, z1, z2⟩ := q1.getv i x hx
      obtain ⟨z', z3, z4⟩ := q2.getv i y hy
      rw [z1] at z3
      cases z3
      exact Sm.Sm.up (sm_rel 19 z x y z2 z4 (List.all_eq_true.mp h z (List.mem_of_getElem? z1)))
  | _ => cases ht
end
def eqB (x y : AV) (s : Sto) : Option Bool := if scalA x y = true then some (eqA x y) else match dat 12 s x, dat 12 s y with | some d, some e => if SeqAt.shaped d = true ∧ SeqAt.shaped e = true then some (PyData.eqv d e) else none | _, _ => if x = y ∧ smA 20 x = true ∧ isTup x = true then some true else none
def gEq : AV → AV → Sto → Res AV := fun x y s => match eqB x y s with | some b => .ok (.bl b) s | none => .stuck
def gNe : AV → AV → Sto → Res AV := fun x y s => match eqB x y s with | some b => .ok (.bl (!b)) s | none => .stuck
theorem gEq_b {x y : AV} {s : Sto} {b : Bool} (h : eqB x y s = some b) : gEq x y s = .ok (.bl b) s := by unfold gEq; simp only [h]
theorem gNe_b {x y : AV} {s : Sto} {b : Bool} (h : eqB x y s = some b) : gNe x y s = .ok (.bl (!b)) s := by unfold gNe; simp only [h]
theorem eqB_dat {x y : AV} {s : Sto} {d e : PyData} (h0 : scalA x y = false) (h1 : dat 12 s x = some d) (h2 : dat 12 s y = some e) (c1 : SeqAt.shaped d = true) (c2 : SeqAt.shaped e = true) : eqB x y s = some (PyData.eqv d e) := by
  unfold eqB; simp only [h0, h1, h2, c1, c2]; rfl
@[simp] theorem eqB_int {i j : Int} {s : Sto} : eqB (.int i) (.int j) s = some (decide (i = j)) := rfl
@[simp] theorem eqB_str {i j : Str} {s : Sto} : eqB (.str i) (.str j) s = some (decide (i = j)) := rfl
@[simp] theorem eqB_bl {i j : Bool} {s : Sto} : eqB (.bl i) (.bl j) s = some (decide (i = j)) := by
  rw [← beq_dec]; rfl
@[simp] theorem gEq_int {i j : Int} {s : Sto} : gEq (.int i) (.int j) s = .ok (.bl (decide (i = j))) s := gEq_b eqB_int
@[simp] theorem gNe_int {i j : Int} {s : Sto} : gNe (.int i) (.int j) s = .ok (.bl (!decide (i = j))) s := gNe_b eqB_int
@[simp] theorem gEq_str {i j : Str} {s : Sto} : gEq (.str i) (.str j) s = .ok (.bl (decide (i = j))) s := gEq_b eqB_str
@[simp] theorem gNe_str {i j : Str} {s : Sto} : gNe (.str i) (.str j) s = .ok (.bl (!decide (i = j))) s := gNe_b eqB_str
@[simp] theorem gEq_bl {i j : Bool} {s : Sto} : gEq (.bl i) (.bl j) s = .ok (.bl (decide (i = j))) s := gEq_b eqB_bl
@[simp] theorem gNe_bl {i j : Bool} {s : Sto} : gNe (.bl i) (.bl j) s = .ok (.bl (!decide (i = j))) s := gNe_b eqB_bl
theorem NE2.eq : NE2 gEq := fun x y s c ns vs s' h => by 
  unfold gEq at h
  repeat' split at h
  all_goals first | cases h | (unfold newL at h; cases h)
theorem NE2.ne : NE2 gNe := fun x y s c ns vs s' h => by 
  unfold gNe at h
  repeat' split at h
  all_goals first | cases h | (unfold newL at h; cases h)
theorem DR.eq {W : Wl} : DR W (rEqU W.K) gEq := fun w s x y v u Q S rx ry h => by
  unfold gEq at h
  split at h
  · rename_i b e
    unfold eqB at e
    split at e
    · rename_i hs
      obtain ⟨h1, h2⟩ := scalA_rel rx ry hs
      cases e
      refine .inl ⟨h1, ?_⟩
      rw [← h2]
      exact h w _ (.refl w) S (.bl _)
    · split at e
      · rename_i d e' h1 h2
        split at e
        · rename_i hc
          cases e
          exact .inr (.inl ⟨d, e', dat_dp S _ _ _ _ rx h1, dat_dp S _ _ _ _ ry h2, hc.1, hc.2, h w _ (.refl w) S (.bl _)⟩)
        · cases e
      · split at e
        · rename_i hc
          cases e
          obtain ⟨rfl, h1, h2⟩ := hc
          exact .inr (.inr ⟨top_rel rx ry h1 h2, h w _ (.refl w) S (.bl _)⟩)
        · cases e
  · exact h.elim
theorem DR.ne {W : Wl} : DR W (rNeU W.K) gNe := fun w s x y v u Q S rx ry h => by
  unfold gNe at h
  split at h
  · rename_i b e
    unfold eqB at e
    split at e
    · rename_i hs
      obtain ⟨h1, h2⟩ := scalA_rel rx ry hs
      cases e
      refine .inl ⟨h1, ?_⟩
      rw [← h2]
      exact h w _ (.refl w) S (.bl _)
    · split at e
      · rename_i d e' h1 h2
        split at e
        · rename_i hc
          cases e
          exact .inr (.inl ⟨d, e', dat_dp S _ _ _ _ rx h1, dat_dp S _ _ _ _ ry h2, hc.1, hc.2, h w _ (.refl w) S (.bl _)⟩)
        · cases e
      · split at e
        · rename_i hc
          cases e
          obtain ⟨rfl, h1, h2⟩ := hc
          exact .inr (.inr ⟨top_rel rx ry h1 h2, h w _ (.refl w) S (.bl _)⟩)
        · cases e
  · exact h.elim
def seqOf (s : Sto) (x : AV) : Option (List AV) := match x with | .tup xs => some xs | _ => lstOf s x
@[simp] theorem seqOf_tup {s : Sto} {xs : List AV} : seqOf s (.tup xs) = some xs := rfl
@[simp] theorem seqOf_scr {s : Sto} {xs : List AV} : seqOf s (.scr xs) = some xs := rfl
theorem seqOf_obj {s : Sto} {i : Nat} {xs : List AV} (e : s.c i = .lst xs) : seqOf s (.obj i) = some xs := by
  show lstOf s (.obj i) = _
  unfold lstOf; simp only [e]
theorem lstOf_obj {s : Sto} {i : Nat} {xs : List AV} (e : s.c i = .lst xs) : lstOf s (.obj i) = some xs := by
  unfold lstOf; simp only [e]
@[simp] theorem lstOf_scr {s : Sto} {xs : List AV} : lstOf s (.scr xs) = some xs := rfl
theorem seq_at {W : Wl} {w : Wd} {s : Sto} {x : AV} {v : V} {xs : List AV} (S : Sim W w s) (r : Rel W w x v) (h : seqOf s x = some xs) : ∃ a vs, v = .ref a ∧ (SqL W.K w.H a vs ∨ SqT W.K w.H a vs) ∧ RelL W w xs vs := by
  cases r with
  | @tup a xs' vs h1 r1 =>
    cases h
    exact ⟨a, vs, rfl, .inr h1, r1⟩
  | @obj i hi =>
    obtain ⟨a, vs, h1, h2, h3⟩ := lst_at (x := .obj i) S (.obj hi) h
    exact ⟨a, vs, h1, .inl h2, h3⟩
  | @scr a xs' vs h1 r1 =>
    cases h
    exact ⟨a, vs, rfl, .inl h1.sql, r1⟩
  | _ => cases h
def rIxU (K : PySem.W.Frag) : R2 := fun x y H Q => rIxL K x y H Q ∨ rIxT K x y H Q ∨ rIxS x y H Q
theorem ix_U {X : Cx} : IxR X (rIxU X.K) := IxR.or ix_list (IxR.or ix_tup ix_str)
def gIx : AV → AV → Sto → Res AV := fun x y s => match y with
  | .int i => match x with
    | .str z => if z.length ≤ sizeLine then (match atI z.cps.toList i with | some c => .ok (.str ⟨#[c]⟩) s | none => .stuck) else .stuck
    | _ => match seqOf s x with | some xs => (match atI xs i with | some v => .ok v s | none => .stuck) | none => .stuck
  | _ => .stuck
theorem gIx_seq {x : AV} {i : Int} {xs : List AV} {v : AV} {s : Sto} (e : seqOf s x = some xs) (h : atI xs i = some v) : gIx x (.int i) s = .ok v s := by
  unfold gIx
  cases x with
  | str => cases e
  | _ => simp only [e, h]
theorem NE2.ix : NE2 gIx := fun x y s c ns vs s' h => by 
  unfold gIx at h
  repeat' split at h
  all_goals first | cases h | (unfold newL at h; cases h)
theorem atI_rel {W : Wl} {w : Wd} {xs : List AV} {vs : List V} {i : Int} {x : AV} (r : RelL W w xs vs) (e : atI xs i = some x) : ∃ v, atI vs i = some v ∧ Rel W w x v := by
  unfold atI at e ⊢
  rw [← r.length]
  cases h : ixN xs.length i with
  | none => rw [h] at e; cases e
  | some j =>
    rw [h] at e
    exact r.get j x e
theorem DR.ix {W : Wl} : DR W (rIxU W.K) gIx := fun w s x y v u Q S rx ry h => by
  unfold gIx at h
  split at h
  · cases ry
    split at h
    · split at h
      · rename_i hl
        split at h
        · rename_i c e
          cases rx
          exact .inr (.inr ⟨_, _, c, rfl, rfl, hl, e, h w _ (.refl w) S (.str _)⟩)
        · exact h.elim
      · exact h.elim
    · split at h
      · rename_i xs e
        split at h
        · rename_i z e2
          obtain ⟨a, vs, h1, h2, h3⟩ := seq_at S rx e
          obtain ⟨zc, e3, rz⟩ := atI_rel h3 e2
          rcases h2 with h2 | h2
          · exact .inl ⟨a, vs, _, zc, h1, rfl, h2, e3, h w _ (.refl w) S rz⟩
          · exact .inr (.inl ⟨a, vs, _, zc, h1, rfl, h2, e3, h w _ (.refl w) S rz⟩)
        · exact h.elim
      · exact h.elim
  · exact h.elim
/-- a part of a slice -/
abbrev AO := ASt → Sto → Res (Option Int)
def aPart (fa : AE) : AO := fun σ s => (fa σ s).bind fun x s1 => match x with | .int i => .ok (some i) s1 | _ => .stuck
def aNoPart : AO := fun _ s => .ok none s
def OkO (w : Wd) (W : Wl) (Q : Option Int → Hp → Prop) (v : Option Int) (s : Sto) : Prop := ∀ w', Ext w w' → Sim W w' s → Q v w'.H
def DO (W : Wl) (E : L2.St → XK) (tl : TO) (f : AO) : Prop := ∀ (w : Wd) (s : Sto) (σ : ASt) (σc : L2.St) (Q : Option Int → Hp → Prop), Sim W w s → RSt W w σ σc → (f σ s).Post (OkO w W Q) (ErrP W w (E σc)) → tl σc w.H Q
section
variable {W : Wl} {E : L2.St → XK} {ta tb tc : TE} {fa fb fc : AE} {tl th : TO} {fl fh : AO}
theorem DO.no : DO W E tNoPart aNoPart := fun w s σ σc Q S R h => h w (.refl w) S
theorem DO.part (ha : DE W E ta fa) : DO W E (tPart ta) (aPart fa) := fun w s σ σc Q S R h => by
  refine ha w s σ σc _ S R ((post_bind_ok h).mono (fun x s1 h1 w1 v e1 S1 r1 => ?_) fun _ _ _ _ z => z)
  cases r1 with
  | int i => exact ⟨i, rfl, h1 w1 e1 S1⟩
  | _ => exact (show False from h1).elim
def rSlU (K : PySem.W.Frag) : V → Option Int → Option Int → Hp → VK → Prop := fun x l u H Q => rSlL K x l u H Q ∨ rSlA K x l u H Q
theorem sl_U {X : Cx} : SlR X (rSlU X.K) := SlR.or sl_list sl_tupA
def cutA (xs : List AV) (lo hi : Option Int) : List AV := (xs.drop (HT.sIx xs.length 0 lo)).take (HT.sIx xs.length xs.length hi - HT.sIx xs.length 0 lo)
def gSl (x : AV) (lo hi : Option Int) (s : Sto) : Res AV := match x with
  | .tup xs => .ok (.tup (cutA xs lo hi)) s
  | _ => match lstOf s x with | some xs => newL (cutA xs lo hi) s | none => .stuck
@[simp] theorem gSl_tup {xs : List AV} {lo hi : Option Int} {s : Sto} : gSl (.tup xs) lo hi s = .ok (.tup (cutA xs lo hi)) s := rfl
@[simp] theorem gSl_scr {xs : List AV} {lo hi : Option Int} {s : Sto} : gSl (.scr xs) lo hi s = newL (cutA xs lo hi) s := rfl
def aSl (fa : AE) (fl fh : AO) : AE := fun σ s => (fa σ s).bind fun x s1 => (fl σ s1).bind fun l s2 => (fh σ s2).bind fun u s3 => gSl x l u s3
theorem DE.sl (ha : DE W E ta fa) (hl : DO W E tl fl) (hh : DO W E th fh) : DE W E (L2.tSl (rSlU W.K) ta tl th) (aSl fa fl fh) := fun w s σ σc Q S R h => by
  refine ha w s σ σc _ S R ((post_bind_ok h).mono (fun x s1 h1 w1 v e1 S1 r1 => ?_) fun _ _ _ _ z => z)
  refine hl w1 s1 σ σc _ S1 (R.mono e1) ((post_bind_ok h1).mono (fun l s2 h2 w2 e2 S2 => ?_) fun _ _ _ _ z => z.mono e1)
  refine hh w2 s2 σ σc _ S2 (R.mono (e1.trans e2)) ((post_bind_ok h2).mono (fun u s3 h3 w3 e3 S3 => ?_) fun _ _ _ _ z => z.mono (e1.trans e2))
  have r3 := (r1.mono e2).mono e3
  have e03 := (e1.trans e2).trans e3
  unfold gSl at h3
  split at h3
  · rename_i xs
    cases r3 with
    | @tup a _ vs k1 k2 =>
      refine .inr ⟨a, vs, rfl, k1, fun z => ?_, fun _ => ?_⟩
      · have hr : RelL W w3 (cutA xs l u) vs := by
          unfold cutA
          have e := k2.length
          rw [e, z.1, z.2, List.drop_zero, Nat.sub_zero]
          have := k2.take vs.length
          rwa [List.take_length] at this
        exact h3 w3 _ e03 S3 (.tup k1 hr)
      · refine newT S3 ?_ (OkP.mono e03 h3)
        unfold cutA cutV
        rw [k2.length]
        exact (k2.drop _).take _
  · split at h3
    · rename_i xs e
      obtain ⟨a, vs, k1, k2, k3⟩ := lst_at S3 r3 e
      refine .inl ⟨a, vs, k1, k2, newL_ok S3 ?_ (OkP.mono e03 h3)⟩
      unfold cutA cutV
      rw [k3.length]
      exact (k3.drop _).take _
    · exact (show False from h3).elim
def aRev (fa : AE) : AE := fun σ s => (fa σ s).bind fun x s1 => match lstOf s1 x with | some xs => newL xs.reverse s1 | none => .stuck
end
def rLenU (K : PySem.W.Frag) : List V → Hp → VK → Prop := fun xs H Q => Rd.rLenQ K xs H Q ∨ Gx.rLenS xs H Q ∨ ∃ a kvs, xs = [V.ref a] ∧ H a = some (.dK kvs) ∧ Q (.int kvs.length) H
theorem call_lenU {X : Cx} : CallR X (.builtin "len") (rLenU X.K) := CallR.or Rd.call_lenQ (CallR.or Gx.call_lenS call_lenD)
def gLen : List AV → Sto → Res AV := fun xs s => match xs with
  | [.str z] => if z.length ≤ sizeLine then .ok (.int (z.length : Nat)) s else .stuck
  | [x] => match seqOf s x with | some ys => .ok (.int (ys.length : Nat)) s | none => (match x with | .obj i => (match s.c i with | .dic kvs => .ok (.int (kvs.length : Nat)) s | _ => .stuck) | _ => .stuck)
  | _ => .stuck
theorem gLen_seq {x : AV} {ys : List AV} {s : Sto} (e : seqOf s x = some ys) : gLen [x] s = .ok (.int (ys.length : Nat)) s := by
  unfold gLen
  cases x with
  | str => cases e
  | _ => simp only [e]
@[simp] theorem gLen_tup {ys : List AV} {s : Sto} : gLen [.tup ys] s = .ok (.int (ys.length : Nat)) s := rfl
@[simp] theorem gLen_scr {ys : List AV} {s : Sto} : gLen [.scr ys] s = .ok (.int (ys.length : Nat)) s := rfl
theorem NEL.len : NEL gLen := fun x s c ns vs s' h => by 
  unfold gLen at h
  repeat' split at h
  all_goals first | cases h | (unfold newL at h; cases h)
theorem DB.len {W : Wl} : DB W (rLenU W.K) gLen := fun w s x v Q S r h => by
  unfold gLen at h
  split at h
  · split at h
    · rename_i hl
      cases r with
      | cons r1 r2 =>
        cases r1; cases r2
        exact .inr (.inl ⟨_, rfl, hl, h w _ (.refl w) S (.int _)⟩)
    · exact h.elim
  · cases r with
    | cons r1 r2 =>
      cases r2
      split at h
      · rename_i ys e
        obtain ⟨a, vs, h1, h2, h3⟩ := seq_at S r1 e
        subst h1
        exact .inl ⟨a, vs, rfl, h2, by rw [← h3.length]; exact h w _ (.refl w) S (.int _)⟩
      · split at h
        · split at h
          · rename_i kvs e
            obtain ⟨o, h1, h2, h3, h4⟩ := cell_at S r1 e
            subst h2
            cases h4 with
            | dic r => exact .inr (.inr ⟨_, _, rfl, h3, by rw [← Paired.length r]; exact h w _ (.refl w) S (.int _)⟩)
          · exact h.elim
        · exact h.elim
  · exact h.elim
def gMax2 : List AV → Sto → Res AV := fun xs s => match xs with | [.int i, .int j] => .ok (.int (if j > i then j else i)) s | _ => .stuck
def gMin2 : List AV → Sto → Res AV := fun xs s => match xs with | [.int i, .int j] => .ok (.int (if j < i then j else i)) s | _ => .stuck
@[simp] theorem gMax2_int {i j : Int} {s : Sto} : gMax2 [.int i, .int j] s = .ok (.int (if j > i then j else i)) s := rfl
@[simp] theorem gMin2_int {i j : Int} {s : Sto} : gMin2 [.int i, .int j] s = .ok (.int (if j < i then j else i)) s := rfl
def intsOf : List AV → Option (List Int)
  | [] => some []
  | .int i :: r => (intsOf r).map (i :: ·)
  | _ :: _ => none
theorem ints_rel {W : Wl} {w : Wd} : ∀ {xs : List AV} {vs : List V} {ns : List Int}, RelL W w xs vs → intsOf xs = some ns → vs = ns.map V.int
  | _, _, _, .nil, e => by cases e; rfl
  | .int i :: _, _, _, .cons h r, e => by
    cases h
    unfold intsOf at e
    obtain ⟨ms, e1, rfl⟩ := Option.map_eq_some_iff.mp e
    rw [List.map_cons, ints_rel r e1]
theorem intsOf_map : ∀ ns : List Int, intsOf (ns.map AV.int) = some ns
  | [] => rfl
  | n :: ns => by rw [List.map_cons, intsOf, intsOf_map ns]; rfl
def boolsOf : List AV → Option (List Bool)
  | [] => some []
  | .bl i :: r => (boolsOf r).map (i :: ·)
  | _ :: _ => none
theorem bools_rel {W : Wl} {w : Wd} : ∀ {xs : List AV} {vs : List V} {ns : List Bool}, RelL W w xs vs → boolsOf xs = some ns → vs = ns.map V.bl
  | _, _, _, .nil, e => by cases e; rfl
  | .bl i :: _, _, _, .cons h r, e => by
    cases h
    unfold boolsOf at e
    obtain ⟨ms, e1, rfl⟩ := Option.map_eq_some_iff.mp e
    rw [List.map_cons, bools_rel r e1]
theorem boolsOf_map : ∀ ns : List Bool, boolsOf (ns.map AV.bl) = some ns
  | [] => rfl
  | n :: ns => by rw [List.map_cons, boolsOf, boolsOf_map ns]; rfl
def gSum : List AV → Sto → Res AV := fun xs s => match xs with | [x] => (match lstOf s x with | some ys => (match intsOf ys with | some ns => .ok (.int ns.sum) s | none => .stuck) | none => .stuck) | _ => .stuck
def gAll : List AV → Sto → Res AV := fun xs s => match xs with | [x] => (match lstOf s x with | some ys => (match boolsOf ys with | some ns => .ok (.bl (ns.all id)) s | none => .stuck) | none => .stuck) | _ => .stuck
theorem gSum_lst {x : AV} {ns : List Int} {s : Sto} (e : lstOf s x = some (ns.map .int)) : gSum [x] s = .ok (.int ns.sum) s := by
  unfold gSum; simp only [e, intsOf_map]
theorem gAll_lst {x : AV} {ns : List Bool} {s : Sto} (e : lstOf s x = some (ns.map .bl)) : gAll [x] s = .ok (.bl (ns.all id)) s := by
  unfold gAll; simp only [e, boolsOf_map]
theorem NEL.sum : NEL gSum := fun x s c ns vs s' h => by 
  unfold gSum at h
  repeat' split at h
  all_goals first | cases h | (unfold newL at h; cases h)
theorem NEL.all : NEL gAll := fun x s c ns vs s' h => by 
  unfold gAll at h
  repeat' split at h
  all_goals first | cases h | (unfold newL at h; cases h)
theorem DB.sum {W : Wl} : DB W (rSum W.K) gSum := fun w s x v Q S r h => by
  unfold gSum at h
  split at h
  · cases r with
    | cons r1 r2 =>
      cases r2
      split at h
      · rename_i ys e
        split at h
        · rename_i ns e2
          obtain ⟨a, vs, h1, h2, h3⟩ := lst_at S r1 e
          subst h1
          refine ⟨a, ns, rfl, ?_, h w _ (.refl w) S (.int _)⟩
          rw [← ints_rel h3 e2]; exact h2
        · exact h.elim
      · exact h.elim
  · exact h.elim
theorem DB.all {W : Wl} : DB W (rAll W.K) gAll := fun w s x v Q S r h => by
  unfold gAll at h
  split at h
  · cases r with
    | cons r1 r2 =>
      cases r2
      split at h
      · rename_i ys e
        split at h
        · rename_i ns e2
          obtain ⟨a, vs, h1, h2, h3⟩ := lst_at S r1 e
          subst h1
          refine ⟨a, ns, rfl, ?_, h w _ (.refl w) S (.bl _)⟩
          rw [← bools_rel h3 e2]; exact h2
        · exact h.elim
      · exact h.elim
  · exact h.elim
def gTuple : List AV → Sto → Res AV := fun xs s => match xs with | [x] => (match seqOf s x with | some ys => .ok (.tup ys) s | none => .stuck) | _ => .stuck
def gList : List AV → Sto → Res AV := fun xs s => match xs with | [x] => (match seqOf s x with | some ys => newL ys s | none => .stuck) | _ => .stuck
theorem gTuple_seq {x : AV} {ys : List AV} {s : Sto} (e : seqOf s x = some ys) : gTuple [x] s = .ok (.tup ys) s := by
  unfold gTuple; simp only [e]
theorem gList_seq {x : AV} {ys : List AV} {s : Sto} (e : seqOf s x = some ys) : gList [x] s = newL ys s := by
  unfold gList; simp only [e]
theorem NEL.tuple : NEL gTuple := fun x s c ns vs s' h => by 
  unfold gTuple at h
  repeat' split at h
  all_goals first | cases h | (unfold newL at h; cases h)
theorem NEL.list : NEL gList := fun x s c ns vs s' h => by 
  unfold gList at h
  repeat' split at h
  all_goals first | cases h | (unfold newL at h; cases h)
theorem DB.tuple {W : Wl} : DB W (Gx.rTupOf W.K) gTuple := fun w s x v Q S r h => by
  unfold gTuple at h
  split at h
  · cases r with
    | cons r1 r2 =>
      cases r2
      split at h
      · rename_i ys e
        obtain ⟨a, vs, h1, h2, h3⟩ := seq_at S r1 e
        subst h1
        rcases h2 with h2 | h2
        · exact ⟨a, vs, rfl, .inl ⟨h2, newT S h3 h⟩⟩
        · exact ⟨a, vs, rfl, .inr ⟨h2, h w _ (.refl w) S (.tup h2 h3)⟩⟩
      · exact h.elim
  · exact h.elim
theorem DB.list {W : Wl} : DB W (Gx.rLstOf W.K) gList := fun w s x v Q S r h => by
  unfold gList at h
  split at h
  · cases r with
    | cons r1 r2 =>
      cases r2
      split at h
      · rename_i ys e
        obtain ⟨a, vs, h1, h2, h3⟩ := seq_at S r1 e
        subst h1
        exact ⟨a, vs, rfl, h2, newL_ok S h3 h⟩
      · exact h.elim
  · exact h.elim
end
end Ab
set_option Elab.async false
set_option linter.all false
set_option maxRecDepth 100000
set_option maxHeartbeats 1000000
namespace Gx
open PySem PySem.Spec PyProof.Rows L2
end Gx
set_option Elab.async false
set_option linter.all false
set_option maxRecDepth 100000
set_option maxHeartbeats 1000000
namespace Ab
open PySem PySem.Spec PyProof.Rows L2
open Classical
noncomputable section
/-- a fact of each of a list -/
inductive All {α : Type} (P : α → Prop) : List α → Prop
  | nil : All P []
  | cons {a : α} {l : List α} (h : P a) (r : All P l) : All P (a :: l)
theorem All.at {α : Type} {P : α → Prop} : ∀ {l : List α}, All P l → ∀ a ∈ l, P a
  | _, .nil, a, h => by cases h
  | _, .cons h r, a, m => by
    rcases List.mem_cons.mp m with rfl | m
    · exact h
    · exact All.at r a m
def lookA (f : Str) : List (Str × AV) → Option AV
  | [] => none
  | (g, v) :: r => if g = f then some v else lookA f r
def putA (f : Str) (v : AV) : List (Str × AV) → List (Str × AV)
  | [] => [(f, v)]
  | (g, x) :: r => if g = f then (g, v) :: r else (g, x) :: putA f v r
section
variable {W : Wl} {w : Wd} {s : Sto}
theorem look_rel {f : Str} : ∀ {fs : List (Str × AV)} {gs : List (Str × V)}, RelF W w fs gs → (∀ v, lookA f fs = some v → ∃ vc, gs.lookup f = some vc ∧ Rel W w v vc) ∧ (lookA f fs = none → gs.lookup f = none)
  | _, _, .nil => ⟨fun v h => (by cases h), fun _ => rfl⟩
  | (g, x) :: r, (g', y) :: r', .cons h t => by
    obtain ⟨e, hr⟩ := h
    cases (show g = g' from e)
    obtain ⟨t1, t2⟩ := look_rel (f := f) t
    by_cases hg : g = f
    · subst hg
      refine ⟨fun v h => ?_, fun h => ?_⟩
      · have h : (if g = g then some x else _) = some v := h
        rw [if_pos rfl] at h
        cases h
        exact ⟨y, by simp, hr⟩
      · have h : (if g = g then some x else _) = none := h
        rw [if_pos rfl] at h
        cases h
    · have hb : (f == g) = false := beq_eq_false_iff_ne.mpr (Ne.symm hg)
      refine ⟨fun v h => ?_, fun h => ?_⟩
      · have h : (if g = f then some x else lookA f r) = some v := h
        rw [if_neg hg] at h
        obtain ⟨vc, h1, h2⟩ := t1 v h
        exact ⟨vc, by rw [List.lookup_cons, hb]; exact h1, h2⟩
      · have h : (if g = f then some x else lookA f r) = none := h
        rw [if_neg hg] at h
        rw [List.lookup_cons, hb]; exact t2 h
theorem put_rel {f : Str} {x : AV} {v : V} (hx : Rel W w x v) : ∀ {fs : List (Str × AV)} {gs : List (Str × V)}, RelF W w fs gs → RelF W w (putA f x fs) (putF f v gs)
  | _, _, .nil => .cons ⟨rfl, hx⟩ .nil
  | (g, y) :: r, (g', u) :: r', .cons h t => by
    obtain ⟨e, hr⟩ := h
    cases (show g = g' from e)
    show RelF W w (if g = f then (g, x) :: r else (g, y) :: putA f x r) (if g = f then (g, v) :: r' else (g, u) :: putF f v r')
    by_cases hg : g = f
    · rw [if_pos hg, if_pos hg]
      exact .cons ⟨rfl, hx⟩ t
    · rw [if_neg hg, if_neg hg]
      exact .cons ⟨rfl, hr⟩ (put_rel hx t)
end
def insAt (s : Sto) : AV → Option (String × List (Str × AV))
  | .obj i => match s.c i with | .ins c fs => some (c, fs) | _ => none
  | _ => none
theorem insAt_obj {s : Sto} {i : Nat} {c : String} {fs : List (Str × AV)} (e : s.c i = .ins c fs) : insAt s (.obj i) = some (c, fs) := by
  unfold insAt; simp only [e]
theorem ins_at {W : Wl} {w : Wd} {s : Sto} {x : AV} {v : V} {c : String} {fs : List (Str × AV)} (S : Sim W w s) (r : Rel W w x v) (h : insAt s x = some (c, fs)) :
    ∃ i dx gs, x = .obj i ∧ i < s.n ∧ v = .ref (w.m i) ∧ w.H (w.m i) = some (.ins (W.κ c) dx gs) ∧ c ∈ W.live ∧ RelF W w fs gs := by
  cases r with
  | @obj i hi =>
    unfold insAt at h
    simp only at h
    split at h
    · rename_i c' fs' e
      cases h
      obtain ⟨o, h1, h2, h3, h4⟩ := cell_at S (.obj hi) e
      cases h4 with
      | ins hc r => exact ⟨i, _, _, rfl, h1, h2, h3, hc, r⟩
    · cases h
  | _ => cases h
def gFld (cs : List String) (f : Str) (x : AV) (s : Sto) : Res AV := match insAt s x with | some (c, fs) => if c ∈ cs then (match lookA f fs with | some v => .ok v s | none => .stuck) else .stuck | none => .stuck
def aFld (cs : List String) (f : Str) (fa : AE) : AE := aUn (gFld cs f) fa
theorem gFld_obj {cs : List String} {f : Str} {s : Sto} {i : Nat} {c : String} {fs : List (Str × AV)} {v : AV} (e : s.c i = .ins c fs) (h : c ∈ cs) (l : lookA f fs = some v) : gFld cs f (.obj i) s = .ok v s := by
  unfold gFld
  simp only [insAt_obj e, if_pos h, l]
section
variable {W : Wl} {E : L2.St → XK} {ta tb : TE} {fa fb : AE} {tr : TA} {fr : AA}
theorem DE.fld {cs : List String} {f : Str} (hc : All (fun c => Cls W.K (W.κ c) ∧ NoAttr W.K (W.κ c) f) cs) (ha : DE W E ta fa) : DE W E (tFld W.K ta f) (aFld cs f fa) := fun w s σ σc Q S R h => by
  refine ha w s σ σc _ S R ((post_bind_ok h).mono (fun x s1 h1 w1 v e1 S1 r1 => ?_) fun _ _ _ _ z => z)
  unfold gFld at h1
  split at h1
  · rename_i c fs e
    split at h1
    · rename_i hcs
      split at h1
      · rename_i u e2
        obtain ⟨i, dx, gs, rfl, h2, rfl, h3, h4, h5⟩ := ins_at S1 r1 e
        obtain ⟨uc, l, ru⟩ := (look_rel h5).1 u e2
        obtain ⟨k1, k2⟩ := hc.at c hcs
        exact ⟨_, _, dx, gs, uc, rfl, h3, k1, k2, l, h1 w1 _ e1 S1 ru⟩
      · exact (show False from h1).elim
    · exact (show False from h1).elim
  · exact (show False from h1).elim
/-- a class's constant, read of an instance -/
def gIVal (cs : List String) (f : Str) (v : AV) (x : AV) (s : Sto) : Res AV := match insAt s x with | some (c, fs) => if c ∈ cs then (match lookA f fs with | some _ => .stuck | none => .ok v s) else .stuck | none => .stuck
theorem DE.ival {cs : List String} {f : Str} {v : AV} {vc : V} (hv : ∀ w, Rel W w v vc) (hc : All (fun c => Cls W.K (W.κ c) ∧ Gx.IVal W.K (W.κ c) f vc) cs) (ha : DE W E ta fa) : DE W E (Gx.tIVal W.K ta f) (aUn (gIVal cs f v) fa) := fun w s σ σc Q S R h => by
  refine ha w s σ σc _ S R ((post_bind_ok h).mono (fun x s1 h1 w1 v e1 S1 r1 => ?_) fun _ _ _ _ z => z)
  unfold gIVal at h1
  split at h1
  · rename_i c fs e
    split at h1
    · rename_i hcs
      split at h1
      · exact (show False from h1).elim
      · rename_i e2
        obtain ⟨i, dx, gs, rfl, h2, rfl, h3, h4, h5⟩ := ins_at S1 r1 e
        obtain ⟨k1, k2⟩ := hc.at c hcs
        exact ⟨_, _, dx, gs, vc, rfl, h3, k1, k2, (look_rel h5).2 e2, h1 w1 _ e1 S1 (hv w1)⟩
    · exact (show False from h1).elim
  · exact (show False from h1).elim
/-- o.f = e -/
def setF (cs : List String) (f : Str) (x y : AV) (s : Sto) : Option Sto := match x with | .obj i => (match s.c i with | .ins c fs => if c ∈ cs ∧ fs.length < 1000 then some (s.set i (.ins c (putA f y fs))) else none | _ => none) | _ => none
theorem setF_obj {cs : List String} {f : Str} {s : Sto} {i : Nat} {c : String} {fs : List (Str × AV)} {y : AV} (e : s.c i = .ins c fs) (h : c ∈ cs) (l : fs.length < 1000) : setF cs f (.obj i) y s = some (s.set i (.ins c (putA f y fs))) := by
  unfold setF
  simp only [e]
  exact if_pos ⟨h, l⟩
def oNx (σ : ASt) : Option Sto → SRes
  | some s => .nx σ s
  | none => .stuck
@[simp] theorem oNx_some {σ : ASt} {s : Sto} : oNx σ (some s) = .nx σ s := rfl
def aSFld (cs : List String) (f : Str) (fo fe : AE) : AS := fun σ s => (fe σ s).st σ fun y s1 => (fo σ s1).st σ fun x s2 => oNx σ (setF cs f x y s2)
theorem setF_ok {w : Wd} {s s' : Sto} {cs : List String} {f : Str} {x y : AV} {v u : V} (hc : All (fun c => Cls W.K (W.κ c) ∧ NoAttr W.K (W.κ c) f) cs) (S : Sim W w s) (rx : Rel W w x v) (ry : Rel W w y u) (h : setF cs f x y s = some s') :
    ∃ a C dx gs, v = .ref a ∧ w.H a = some (.ins C dx gs) ∧ Cls W.K C ∧ NoAttr W.K C f ∧ gs.length < 1000 ∧ ∃ w', w'.H = upd w.H a (.ins C dx (putF f u gs)) ∧ Ext w w' ∧ Sim W w' s' := by
  unfold setF at h
  split at h
  · rename_i i
    split at h
    · rename_i c fs e
      split at h
      · rename_i hh
        cases h
        obtain ⟨o, h1, h2, h3, h4⟩ := cell_at S rx e
        cases h4 with
        | @ins _ dx _ gs hl r =>
          obtain ⟨k1, k2⟩ := hc.at c hh.1
          refine ⟨_, _, dx, gs, h2, h3, k1, k2, ?_, _, rfl, .wr S h1, S.wr h1 (.ins hl (put_rel ry r))⟩
          rw [← Paired.length r]; exact hh.2
      · cases h
    · cases h
  · cases h
theorem DS.sfld {cs : List String} {f : Str} {to te : TE} {fo fe : AE} (hc : All (fun c => Cls W.K (W.κ c) ∧ NoAttr W.K (W.κ c) f) cs) (ho : DE W E to fo) (he : DE W E te fe) : DS W E (L2.sFld W.K to te f) (aSFld cs f fo fe) := fun w s σ σc D S R h => by
  refine he w s σ σc _ S R ((exp_post R h).mono (fun y s1 h1 w1 u e1 S1 r1 => ?_) fun _ _ _ _ z => z)
  refine ho w1 s1 σ σc _ S1 (R.mono e1) ((exp_post (R.mono e1) (P.mono e1 h1)).mono (fun x s2 h2 w2 v e2 S2 r2 => ?_) fun _ _ _ _ z => z)
  cases e : setF cs f x y s2 with
  | none => rw [e] at h2; exact (show False from h2).elim
  | some s3 =>
    rw [e] at h2
    obtain ⟨a, C, dx, gs, k1, k2, k3, k4, k5, w3, k6, k7, k8⟩ := setF_ok hc S2 r2 (r1.mono e2) e
    refine ⟨a, C, dx, gs, k1, k2, k3, k4, k5, ?_⟩
    rw [← k6]
    exact h2 w3 σc (e2.trans k7) k8 (((R.mono e1).mono e2).mono k7)
def noErr {α : Type} : Res α → Res α
  | .ok a s => .ok a s
  | _ => .stuck
@[simp] theorem noErr_ok {α : Type} {a : α} {s : Sto} : noErr (Res.ok a s) = .ok a s := rfl
theorem noErr_post {α : Type} {r : Res α} {P : α → Sto → Prop} {R R' : String → List Str → List AV → Sto → Prop} (h : (noErr r).Post P R) : r.Post P R' := by
  cases r with
  | ok => exact h
  | err => exact (show False from h).elim
  | stuck => exact h
def clsIs (s : Sto) (x : AV) (c : String) (m : Str) : Bool := match insAt s x with | some (d, fs) => (decide (d = c)) && (lookA m fs).isNone | none => false
theorem clsIs_obj {s : Sto} {i : Nat} {c : String} {m : Str} {fs : List (Str × AV)} (e : s.c i = .ins c fs) (l : lookA m fs = none) : clsIs s (.obj i) c m = true := by
  unfold clsIs
  simp only [insAt_obj e, l]
  simp
theorem cls_is {w : Wd} {s : Sto} {x : AV} {v : V} {c : String} {m : Str} (S : Sim W w s) (r : Rel W w x v) (h : clsIs s x c m = true) : ∃ a dx gs, v = .ref a ∧ w.H a = some (.ins (W.κ c) dx gs) ∧ gs.lookup m = none := by
  unfold clsIs at h
  split at h
  · rename_i d fs e
    rw [Bool.and_eq_true, decide_eq_true_eq, Option.isNone_iff_eq_none] at h
    obtain ⟨rfl, h⟩ := h
    obtain ⟨i, dx, gs, rfl, h2, rfl, h3, h4, h5⟩ := ins_at S r e
    exact ⟨_, dx, gs, rfl, h3, (look_rel h5).2 h⟩
  · cases h
def aMeth (c : String) (m : Str) (n : Nat) (F : List AV → Sto → Res AV) (dvs : List AV) (fa : AE) (fr : AA) : AE := fun σ s => (fa σ s).bind fun x s1 => if clsIs s1 x c m = true then (fr σ s1).bind fun xs s2 => if (x :: (xs ++ dvs)).length = n then F (x :: (xs ++ dvs)) s2 else .stuck else .stuck
theorem DE.meth {c : String} {m : Str} {n : Nat} {F : List AV → Sto → Res AV} {Ek : XK} {dvs : List AV} {dcs : List V} (hd : ∀ w, RelL W w dvs dcs) (ha : DE W (fun _ => Ek) ta fa) (hr : DA W (fun _ => Ek) tr fr) :
    DE W (fun _ => Ek) (tMeth (W.κ c) m (spF W n F) dcs Ek ta tr) (aMeth c m n F dvs fa fr) := fun w s σ σc Q S R h => by
  refine ha w s σ σc _ S R ((post_bind_ok h).mono (fun x s1 h1 w1 v e1 S1 r1 => ?_) fun _ _ _ _ z => z)
  split at h1
  · rename_i hcl
    obtain ⟨a, dx, gs, rfl, k1, k2⟩ := cls_is S1 r1 hcl
    refine ⟨a, dx, gs, rfl, k1, k2, hr w1 s1 σ σc _ S1 (R.mono e1) ((post_bind_ok h1).mono (fun xs s2 h2 w2 vs e2 S2 r2 => ?_) fun _ _ _ _ z => z.mono e1)⟩
    split at h2
    · rename_i hl
      exact ⟨w2, s2, _, rfl, S2, .cons (r1.mono e2) (r2.append (hd w2)), hl, post_mono (e1.trans e2) h2⟩
    · exact (show False from h2).elim
  · exact (show False from h1).elim
def isI (s : Sto) (x : AV) (c : String) : Bool := match insAt s x with | some (d, _) => decide (d = c) | none => false
theorem isI_obj {s : Sto} {i : Nat} {c : String} {fs : List (Str × AV)} (e : s.c i = .ins c fs) : isI s (.obj i) c = true := by
  unfold isI
  simp only [insAt_obj e]
  simp
def aProp (c : String) (F : List AV → Sto → Res AV) (fa : AE) : AE := fun σ s => (fa σ s).bind fun x s1 => if isI s1 x c = true then noErr (F [x] s1) else .stuck
theorem DE.prop {c : String} {F : List AV → Sto → Res AV} (ha : DE W E ta fa) : DE W E (tProp (W.κ c) (spF W 1 F) [] C8.E0 ta) (aProp c F fa) := fun w s σ σc Q S R h => by
  refine ha w s σ σc _ S R ((post_bind_ok h).mono (fun x s1 h1 w1 v e1 S1 r1 => ?_) fun _ _ _ _ z => z)
  split at h1
  · rename_i hcl
    unfold isI at hcl
    split at hcl
    · rename_i d fs e
      cases of_decide_eq_true hcl
      obtain ⟨i, dx, gs, rfl, h2, rfl, h3, h4, h5⟩ := ins_at S1 r1 e
      exact ⟨_, dx, gs, rfl, h3, w1, s1, [.obj i], rfl, S1, .cons r1 .nil, rfl, (noErr_post h1).mono (fun _ _ z => z.mono e1) fun _ _ _ _ z => z⟩
    · cases hcl
  · exact (show False from h1).elim
/-- C(..) -/
def aMake (c : String) (n : Nat) (F : List AV → Sto → Res AV) (dvs : List AV) (fr : AA) : AE := fun σ s => (fr σ s).bind fun xs s1 => if (AV.obj s1.n :: (xs ++ dvs)).length = n then (F (.obj s1.n :: (xs ++ dvs)) (s1.new (.ins c []))).bind fun v s2 => if isNon v = true then .ok (.obj s1.n) s2 else .stuck else .stuck
theorem DE.make {c : String} {n : Nat} {F : List AV → Sto → Res AV} {Ek : XK} {dvs : List AV} {dcs : List V} (hd : ∀ w, RelL W w dvs dcs) (hl : c ∈ W.live) (hr : DA W (fun _ => Ek) tr fr) :
    DE W (fun _ => Ek) (tMake (W.κ c) (spF W n F) dcs Ek tr) (aMake c n F dvs fr) := fun w s σ σc Q S R h => by
  refine hr w s σ σc _ S R ((post_bind_ok h).mono (fun xs s1 h1 w1 vs e1 S1 r1 => ?_) fun _ _ _ _ z => z)
  split at h1
  · rename_i hn
    intro x dx hx hdx ne
    have g : ∀ a u, w1.H a = some u → upd (upd w1.H dx (.own x)) x (.ins (W.κ c) dx []) a = some u := fun a u z => by
      rw [upd_ne (ne_of_none z hx), upd_ne (ne_of_none z hdx)]; exact z
    have e2 : Ext w1 (w1.new x (upd (upd w1.H dx (.own x)) x (.ins (W.κ c) dx []))) := .new g
    have S2 : Sim W (w1.new x (upd (upd w1.H dx (.own x)) x (.ins (W.κ c) dx []))) (s1.new (.ins c [])) := S1.new hx g upd_same (.ins hl .nil)
    refine ⟨w1.new x (upd (upd w1.H dx (.own x)) x (.ins (W.κ c) dx [])), _, _, rfl, S2, .cons (Rel.new x _ S1.n) ((r1.mono e2).append (hd _)), hn, (post_bind_ok h1).mono (fun v s3 h3 w3 vc e3 S3 r3 => ?_) fun _ _ _ _ z => (z.mono e1).mono e2⟩
    split at h3
    · rename_i hv
      rw [isNon_rel r3, decide_eq_true_eq] at hv
      refine ⟨hv, h3 w3 _ (e1.trans (e2.trans e3)) S3 ?_⟩
      exact (Rel.new x _ S1.n).mono e3
    · exact (show False from h3).elim
  · exact (show False from h1).elim
/-- cls(..), the class in a slot -/
def aMakeV (i : Nat) (c : String) (n : Nat) (F : List AV → Sto → Res AV) (fr : AA) : AE := fun σ s => match σ[i]? with | some (some (.cls d)) => if d = c then aMake c n F [] fr σ s else .stuck | _ => .stuck
def isCls (c : String) : AV → Bool
  | .cls d => decide (d = c)
  | _ => false
/-- C.m(..), m static -/
def aSMeth (c : String) (n : Nat) (F : List AV → Sto → Res AV) (fa : AE) (fr : AA) : AE := fun σ s => (fa σ s).bind fun x s1 => if isCls c x = true then (fr σ s1).bind fun xs s2 => if (xs ++ []).length = n then F (xs ++ []) s2 else .stuck else .stuck
/-- C.m(..), m a class method -/
def aCMeth (c : String) (n : Nat) (F : List AV → Sto → Res AV) (fa : AE) (fr : AA) : AE := fun σ s => (fa σ s).bind fun x s1 => if isCls c x = true then (fr σ s1).bind fun xs s2 => if (AV.cls c :: (xs ++ [])).length = n then F (.cls c :: (xs ++ [])) s2 else .stuck else .stuck
def gAppend (x : AV) (ys : List AV) (s : Sto) : Res AV := match x, ys with
  | .obj i, [y] => (match s.c i with | .lst xs => if xs.length < sizeLine then .ok .non (s.set i (.lst (xs ++ [y]))) else .stuck | _ => .stuck)
  | _, _ => .stuck
theorem gAppend_obj {i : Nat} {y : AV} {xs : List AV} {s : Sto} (e : s.c i = .lst xs) (h : xs.length < sizeLine) : gAppend (.obj i) [y] s = .ok .non (s.set i (.lst (xs ++ [y]))) := by
  unfold gAppend; simp only [e]; exact if_pos h
def isSeqL (s : Sto) (x : AV) : Bool := (lstOf s x).isSome
theorem isSeqL_obj {i : Nat} {xs : List AV} {s : Sto} (e : s.c i = .lst xs) : isSeqL s (.obj i) = true := by unfold isSeqL; simp only [lstOf_obj e]; rfl
def aBM (g : AV → List AV → Sto → Res AV) (fa : AE) (fr : AA) : AE := fun σ s => (fa σ s).bind fun x s1 => if isSeqL s1 x = true then (fr σ s1).bind fun ys s2 => g x ys s2 else .stuck
def NEM (g : AV → List AV → Sto → Res AV) : Prop := ∀ x ys s c ns vs s', g x ys s ≠ .err c ns vs s'
def DM (W : Wl) (r : V → List V → Hp → VK → Prop) (g : AV → List AV → Sto → Res AV) : Prop := ∀ (w : Wd) (s : Sto) (x : AV) (ys : List AV) (v : V) (us : List V) (Q : VK), Sim W w s → Rel W w x v → RelL W w ys us → (g x ys s).Post (OkP W w Q) (fun _ _ _ _ => False) → r v us w.H Q
/-- a method of a list -/
theorem DE.bm {r : V → List V → Hp → VK → Prop} {g : AV → List AV → Sto → Res AV} (hr : DM W r g) (hn : NEM g) (ha : DE W E ta fa) (hb : DA W E tr fr) : DE W E (tBM W.K "list" r ta tr) (aBM g fa fr) := fun w s σ σc Q S R h => by
  refine ha w s σ σc _ S R ((post_bind_ok h).mono (fun x s1 h1 w1 v e1 S1 r1 => ?_) fun _ _ _ _ z => z)
  split at h1
  · rename_i hl
    refine ⟨?_, hb w1 s1 σ σc _ S1 (R.mono e1) ((post_bind_ok h1).mono (fun ys s2 h2 w2 us e2 S2 r2 => ?_) fun _ _ _ _ z => z.mono e1)⟩
    · unfold isSeqL at hl
      obtain ⟨xs, e⟩ := Option.isSome_iff_exists.mp hl
      obtain ⟨a, vs, rfl, k2, k3⟩ := lst_at S1 r1 e
      exact .inl ⟨rfl, vs, k2⟩
    · refine hr w2 s2 x ys v us Q S2 (r1.mono e2) r2 ?_
      cases hh : g x ys s2 with
      | ok a s3 => rw [hh] at h2; exact OkP.mono (e1.trans e2) h2
      | err c ns vs s3 => exact absurd hh (hn _ _ _ _ _ _ _)
      | stuck => rw [hh] at h2; exact h2
  · exact (show False from h1).elim
theorem NEM.append : NEM gAppend := fun x y s c ns vs s' h => by 
  unfold gAppend at h
  repeat' split at h
  all_goals first | cases h | (unfold newL at h; cases h)
theorem DM.append : DM W rAppend gAppend := fun w s x ys v us Q S rx ry h => by
  unfold gAppend at h
  split at h
  · split at h
    · rename_i i y _ xs e
      split at h
      · rename_i hl
        obtain ⟨vs, i1, i2, i3, i4⟩ := lstO_at S rx e
        cases ry with
        | @cons _ u _ _ r1 r2 =>
          cases r2
          refine ⟨_, vs, u, i2, rfl, i3, by rw [← i4.length]; exact hl, ?_⟩
          exact wr_ok S i1 (.lst (i4.append (.cons r1 .nil))) fun w' e' S' => h w' .non e' S' .non
      · exact h.elim
    · exact h.elim
  · exact h.elim
/-- x[i] = v, a list -/
def setL (x i y : AV) (s : Sto) : Option Sto := match x, i with | .obj k, .int j => (match s.c k with | .lst xs => (match ixN xs.length j with | some n => some (s.set k (.lst (xs.set n y))) | none => none) | _ => none) | _, _ => none
theorem setL_obj {k : Nat} {j : Int} {n : Nat} {y : AV} {xs : List AV} {s : Sto} (e : s.c k = .lst xs) (h : ixN xs.length j = some n) : setL (.obj k) (.int j) y s = some (s.set k (.lst (xs.set n y))) := by
  unfold setL; simp only [e, h]
def toKey : AV → Option Key
  | .int i => some (.inl i)
  | .str z => some (.inr z)
  | _ => none
theorem key_rel {w : Wd} {x : AV} {v : V} {k : Key} (r : Rel W w x v) (h : toKey x = some k) : v = kV k := by
  cases r <;> cases h <;> rfl
def valA (kvs : List (Key × AV)) (k : Key) : Option AV := match kvs with
  | [] => none
  | (j, v) :: r => if j = k then some v else valA r k
def putKA (kvs : List (Key × AV)) (k : Key) (v : AV) : List (Key × AV) :=
  if (kvs.any fun kv => decide (kv.1 = k)) = true then kvs.map (fun kv => if kv.1 = k then (kv.1, v) else kv) else kvs ++ [(k, v)]
theorem val_rel {w : Wd} {k : Key} : ∀ {fs : List (Key × AV)} {gs : List (Key × V)}, RelK W w fs gs → ∀ v, valA fs k = some v → ∃ vc, valV gs k = some vc ∧ Rel W w v vc
  | _, _, .nil, v, h => by cases h
  | (j, x) :: r, (j', y) :: r', .cons h t, v, e => by
    obtain ⟨ej, hr⟩ := h
    cases (show j = j' from ej)
    have e : (if j = k then some x else valA r k) = some v := e
    by_cases hj : j = k
    · rw [if_pos hj] at e
      cases e
      exact ⟨y, valV_pos hj, hr⟩
    · rw [if_neg hj] at e
      obtain ⟨vc, h1, h2⟩ := val_rel t v e
      exact ⟨vc, by rw [valV_neg hj]; exact h1, h2⟩
theorem any_rel {w : Wd} {k : Key} : ∀ {fs : List (Key × AV)} {gs : List (Key × V)}, RelK W w fs gs → (fs.any fun kv => decide (kv.1 = k)) = (gs.any fun kv => decide (kv.1 = k))
  | _, _, .nil => rfl
  | (j, x) :: r, (j', y) :: r', .cons h t => by
    cases (show j = j' from h.1)
    rw [List.any_cons, List.any_cons, any_rel t]
theorem mapK_rel {w : Wd} {k : Key} {x : AV} {v : V} (hx : Rel W w x v) : ∀ {fs : List (Key × AV)} {gs : List (Key × V)}, RelK W w fs gs → RelK W w (fs.map fun kv => if kv.1 = k then (kv.1, x) else kv) (gs.map fun kv => if kv.1 = k then (kv.1, v) else kv)
  | _, _, .nil => .nil
  | (j, y) :: r, (j', u) :: r', .cons h t => by
    cases (show j = j' from h.1)
    rw [List.map_cons, List.map_cons]
    refine .cons ?_ (mapK_rel hx t)
    by_cases hj : j = k
    · simp only [if_pos hj]
      exact ⟨trivial, hx⟩
    · simp only [if_neg hj]
      exact ⟨trivial, h.2⟩
theorem RelK.append {w : Wd} : ∀ {fs hs : List (Key × AV)} {gs ks : List (Key × V)}, RelK W w fs gs → RelK W w hs ks → RelK W w (fs ++ hs) (gs ++ ks)
  | _, _, _, _, .nil, h => h
  | _, _, _, _, .cons h r, k => .cons h (RelK.append r k)
theorem putK_rel {w : Wd} {k : Key} {x : AV} {v : V} (hx : Rel W w x v) {fs : List (Key × AV)} {gs : List (Key × V)} (r : RelK W w fs gs) : RelK W w (putKA fs k x) (putK gs k v) := by
  unfold putKA putK
  rw [any_rel r]
  split
  · exact mapK_rel hx r
  · exact r.append (.cons ⟨rfl, hx⟩ .nil)
def gDGet (x y : AV) (s : Sto) : Res AV := match x, toKey y with | .obj i, some k => (match s.c i with | .dic kvs => (match valA kvs k with | some v => .ok v s | none => .stuck) | _ => .stuck) | _, _ => .stuck
theorem gDGet_obj {i : Nat} {y v : AV} {k : Key} {kvs : List (Key × AV)} {s : Sto} (e : s.c i = .dic kvs) (hk : toKey y = some k) (h : valA kvs k = some v) : gDGet (.obj i) y s = .ok v s := by
  unfold gDGet; simp only [hk, e, h]
theorem DE.dget (ha : DE W E ta fa) (hb : DE W E tb fb) : DE W E (tDGet ta tb) (aOp gDGet fa fb) := fun w s σ σc Q S R h => by
  refine ha w s σ σc _ S R ((post_bind_ok h).mono (fun x s1 h1 w1 v e1 S1 r1 => ?_) fun _ _ _ _ z => z)
  refine hb w1 s1 σ σc _ S1 (R.mono e1) ((post_bind_ok h1).mono (fun y s2 h2 w2 u e2 S2 r2 => ?_) fun _ _ _ _ z => z.mono e1)
  unfold gDGet at h2
  split at h2
  · rename_i i k hk
    split at h2
    · rename_i kvs e
      split at h2
      · rename_i z ez
        obtain ⟨o, k1, k2, k3, k4⟩ := cell_at S2 (r1.mono e2) e
        cases k4 with
        | dic r =>
          obtain ⟨vc, l, rz⟩ := val_rel r z ez
          exact ⟨_, vc, k2, .inl ⟨_, k, .inl k3, key_rel r2 hk, l.symm⟩, h2 w2 _ (e1.trans e2) S2 rz⟩
      · exact (show False from h2).elim
    · exact (show False from h2).elim
  · exact (show False from h2).elim
/-- d[y] = v -/
def setD (x y z : AV) (s : Sto) : Option Sto := match x, toKey y with | .obj i, some k => (match s.c i with | .dic kvs => if kvs.length < sizeLine then some (s.set i (.dic (putKA kvs k z))) else none | _ => none) | _, _ => none
theorem setD_obj {i : Nat} {y z : AV} {k : Key} {kvs : List (Key × AV)} {s : Sto} (e : s.c i = .dic kvs) (hk : toKey y = some k) (h : kvs.length < sizeLine) : setD (.obj i) y z s = some (s.set i (.dic (putKA kvs k z))) := by
  unfold setD; simp only [hk, e, if_pos h]
theorem setD_ok {w : Wd} {s s' : Sto} {x y z : AV} {v u t : V} (S : Sim W w s) (rx : Rel W w x v) (ry : Rel W w y u) (rz : Rel W w z t) (h : setD x y z s = some s') : ∃ a w', v = .ref a ∧ DPut w.H a u t w'.H ∧ Ext w w' ∧ Sim W w' s' := by
  unfold setD at h
  split at h
  · rename_i i k hk
    split at h
    · rename_i kvs e
      split at h
      · rename_i hl
        cases h
        obtain ⟨o, k1, k2, k3, k4⟩ := cell_at S rx e
        cases k4 with
        | @dic _ gs r =>
          refine ⟨_, { w with H := upd w.H (w.m i) (.dK (putK gs k t)) }, k2, .inl ⟨gs, k, k3, key_rel ry hk, ?_, rfl⟩, .wr S k1, S.wr k1 (.dic (putK_rel rz r))⟩
          rw [← Paired.length r]; exact hl
      · cases h
    · cases h
  · cases h
theorem setL_ok {w : Wd} {s s' : Sto} {x y z : AV} {v u t : V} (S : Sim W w s) (rx : Rel W w x v) (ry : Rel W w y u) (rz : Rel W w z t) (h : setL x y z s = some s') : ∃ p xs k j w', v = .ref p ∧ u = .int k ∧ w.H p = some (.lst xs) ∧ ixN xs.length k = some j ∧ w'.H = upd w.H p (.lst (xs.set j t)) ∧ Ext w w' ∧ Sim W w' s' := by
  unfold setL at h
  split at h
  · rename_i i k
    cases ry
    split at h
    · rename_i xs e
      split at h
      · rename_i n hn
        cases h
        obtain ⟨vs, i1, i2, i3, i4⟩ := lstO_at S rx e
        exact ⟨_, vs, k, n, { w with H := upd w.H (w.m i) (.lst (vs.set n t)) }, i2, rfl, i3, by rw [← i4.length]; exact hn, rfl, .wr S i1, S.wr i1 (.lst (i4.set rz n))⟩
      · cases h
    · cases h
  · cases h
def aDPut (fd fy fv : AE) : AS := fun σ s => (fv σ s).st σ fun z s1 => (fd σ s1).st σ fun x s2 => (fy σ s2).st σ fun y s3 => oNx σ (setD x y z s3)
theorem DS.dput {td ty tv : TE} {fd fy fv : AE} (hd : DE W E td fd) (hy : DE W E ty fy) (hv : DE W E tv fv) : DS W E (sDPut td ty tv) (aDPut fd fy fv) := fun w s σ σc D S R h => by
  refine hv w s σ σc _ S R ((exp_post R h).mono (fun z s1 h1 w1 t e1 S1 r1 => ?_) fun _ _ _ _ z => z)
  refine hd w1 s1 σ σc _ S1 (R.mono e1) ((exp_post (R.mono e1) (P.mono e1 h1)).mono (fun x s2 h2 w2 v e2 S2 r2 => ?_) fun _ _ _ _ z => z)
  refine hy w2 s2 σ σc _ S2 ((R.mono e1).mono e2) ((exp_post ((R.mono e1).mono e2) (P.mono e2 h2)).mono (fun y s3 h3 w3 u e3 S3 r3 => ?_) fun _ _ _ _ z => z)
  cases e : setD x y z s3 with
  | none => rw [e] at h3; exact (show False from h3).elim
  | some s4 =>
    rw [e] at h3
    obtain ⟨a, w4, k1, k2, k3, k4⟩ := setD_ok S3 (r2.mono e3) r3 ((r1.mono e2).mono e3) e
    exact ⟨a, w4.H, k1, k2, h3 w4 σc (e3.trans k3) k4 ((((R.mono e1).mono e2).mono e3).mono k3)⟩
/-- a subscript among targets -/
def agSub (st : AV → AV → AV → Sto → Option Sto) (fo fi : AE) : AV → AS := fun z σ s => match (fo σ s).bind fun x s1 => (fi σ s1).bind fun y s2 => (match st x y z s2 with | some s3 => .ok .non s3 | none => .stuck : Res AV) with | .ok _ s3 => .nx σ s3 | _ => .stuck
theorem agSub_eq {st : AV → AV → AV → Sto → Option Sto} {fo fi : AE} {x y z : AV} {σ : ASt} {s s1 s2 s3 : Sto} (h1 : fo σ s = .ok x s1) (h2 : fi σ s1 = .ok y s2) (h3 : st x y z s2 = some s3) : agSub st fo fi z σ s = .nx σ s3 := by
  unfold agSub; simp only [h1, Res.bind_ok, h2, h3]
theorem Goes.sub {st : AV → AV → AV → Sto → Option Sto} {fo fi : AE} : Goes (agSub st fo fi) := fun z σ s => by
  unfold agSub
  split
  · exact .inl ⟨_, _, rfl⟩
  · exact .inr rfl
theorem DG.sub {tset : TSet} {st : AV → AV → AV → Sto → Option Sto} {to ti : TE} {fo fi : AE} (hs : ∀ (w : Wd) (s s' : Sto) (x y z : AV) (v u t : V) (G : Hp → Prop), Sim W w s → Rel W w x v → Rel W w y u → Rel W w z t → st x y z s = some s' → (∀ w', Ext w w' → Sim W w' s' → G w'.H) → tset v u t w.H G)
    (ho : DE W (fun _ _ _ _ => False) to fo) (hi : DE W (fun _ _ _ _ => False) ti fi) : DG W (gSub to ti tset) (agSub st fo fi) := fun w s σ σc z t Q S R r h => by
  have h : (match (fo σ s).bind fun x s1 => (fi σ s1).bind fun y s2 => (match st x y z s2 with | some s3 => .ok .non s3 | none => .stuck : Res AV) with | .ok _ s3 => .nx σ s3 | _ => .stuck : SRes).P W w _ _ := h
  cases e0 : fo σ s with
  | err => rw [e0] at h; exact (show False from h).elim
  | stuck => rw [e0] at h; exact (show False from h).elim
  | ok x s1 =>
    rw [e0] at h
    refine ho w s σ σc _ S R ?_
    rw [e0]
    intro w1 v e1 S1 r1
    simp only [Res.bind_ok] at h
    cases e2 : fi σ s1 with
    | err => rw [e2] at h; exact (show False from h).elim
    | stuck => rw [e2] at h; exact (show False from h).elim
    | ok y s2 =>
      rw [e2] at h
      refine hi w1 s1 σ σc _ S1 (R.mono e1) ?_
      rw [e2]
      intro w2 u e3 S2 r2
      simp only [Res.bind_ok] at h
      cases e4 : st x y z s2 with
      | none => rw [e4] at h; exact (show False from h).elim
      | some s3 =>
        rw [e4] at h
        exact hs w2 s2 s3 x y z v u t _ S2 (r1.mono e3) r2 ((r.mono e1).mono e3) e4 fun w' e' S' => h w' σc ((e1.trans e3).trans e') S' (((R.mono e1).mono e3).mono e')
theorem DG.subL {to ti : TE} {fo fi : AE} (ho : DE W (fun _ _ _ _ => False) to fo) (hi : DE W (fun _ _ _ _ => False) ti fi) : DG W (gSub to ti rSetL) (agSub setL fo fi) := DG.sub (fun w s s' x y z v u t G S rx ry rz e h => by
  obtain ⟨p, xs, k, j, w', k1, k2, k3, k4, k5, k6, k7⟩ := setL_ok S rx ry rz e
  refine ⟨p, xs, k, j, k1, k2, k3, k4, ?_⟩
  rw [← k5]; exact h w' k6 k7) ho hi
/-- {} and {k: v, ..} -/
def newD (kvs : List (Key × AV)) (s : Sto) : Res AV := .ok (.obj s.n) (s.new (.dic kvs))
def aDNew : AE := fun _ s => newD [] s
theorem DE.dnew : DE W E tDNewK aDNew := fun w s σ σc Q S R h p hp => by
  have g := grow_upd (o := .dK []) hp
  exact h (w.new p _) _ (.new g) (S.new hp g upd_same (.dic .nil)) (Rel.new p _ S.n)
def aPairs : List (AE × AE) → ASt → Sto → Res (List (AV × AV))
  | [], _, s => .ok [] s
  | (fk, fv) :: r, σ, s => (fk σ s).bind fun x s1 => (fv σ s1).bind fun y s2 => (aPairs r σ s2).bind fun ps s3 => .ok ((x, y) :: ps) s3
def keysA : List (AV × AV) → Option (List (Key × AV))
  | [] => some []
  | (x, y) :: r => match toKey x, keysA r with | some k, some ks => some ((k, y) :: ks) | _, _ => none
def mergeA (kvs more : List (Key × AV)) : List (Key × AV) := more.foldl (fun acc kv => putKA acc kv.1 kv.2) kvs
def aDisp (fs : List (AE × AE)) : AE := fun σ s => (aPairs fs σ (s.new (.dic []))).bind fun ps s1 => match s1.c s.n, keysA ps with | .dic [], some kvs => if kvs.length ≤ 15 then .ok (.obj s.n) (s1.set s.n (.dic (mergeA [] kvs))) else .stuck | _, _ => .stuck
inductive DPs (W : Wl) (E : L2.St → XK) : List (TE × TE) → List (AE × AE) → Prop
  | nil : DPs W E [] []
  | cons {tk tv : TE} {fk fv : AE} {ts : List (TE × TE)} {fs : List (AE × AE)} (hk : DE W E tk fk) (hv : DE W E tv fv) (r : DPs W E ts fs) : DPs W E ((tk, tv) :: ts) ((fk, fv) :: fs)
theorem DPs.run {ts : List (TE × TE)} {fs : List (AE × AE)} (d : DPs W E ts fs) : ∀ (w : Wd) (s : Sto) (σ : ASt) (σc : L2.St) (Q : List (V × V) → Hp → Prop), Sim W w s → RSt W w σ σc →
    (aPairs fs σ s).Post (fun ps s' => ∀ w' qs, Ext w w' → Sim W w' s' → Paired (fun (p : AV × AV) (q : V × V) => Rel W w' p.1 q.1 ∧ Rel W w' p.2 q.2) ps qs → Q qs w'.H) (ErrP W w (E σc)) → tPairs ts σc w.H Q := by
  induction d with
  | nil => exact fun w s σ σc Q S R h => h w [] (.refl w) S .nil
  | @cons tk tv fk fv ts fs hk hv r ih =>
    intro w s σ σc Q S R h
    refine hk w s σ σc _ S R ((post_bind_ok h).mono (fun x s1 h1 w1 v e1 S1 r1 => ?_) fun _ _ _ _ z => z)
    refine hv w1 s1 σ σc _ S1 (R.mono e1) ((post_bind_ok h1).mono (fun y s2 h2 w2 u e2 S2 r2 => ?_) fun _ _ _ _ z => z.mono e1)
    refine ih w2 s2 σ σc _ S2 ((R.mono e1).mono e2) ((post_bind_ok h2).mono (fun ps s3 h3 w3 qs e3 S3 r3 => ?_) fun _ _ _ _ z => (z.mono e1).mono e2)
    exact h3 w3 _ ((e1.trans e2).trans e3) S3 (.cons ⟨(r1.mono e2).mono e3, r2.mono e3⟩ r3)
theorem keys_rel {w : Wd} : ∀ {ps : List (AV × AV)} {qs : List (V × V)} {kvs : List (Key × AV)}, Paired (fun (p : AV × AV) (q : V × V) => Rel W w p.1 q.1 ∧ Rel W w p.2 q.2) ps qs → keysA ps = some kvs → ∃ gs : List (Key × V), qs = gs.map (fun kv => (kV kv.1, kv.2)) ∧ RelK W w kvs gs
  | _, _, _, .nil, e => by cases e; exact ⟨[], rfl, .nil⟩
  | (x, y) :: r, (v, u) :: r', _, .cons h t, e => by
    unfold keysA at e
    split at e
    · rename_i k ks e1 e2
      cases e
      obtain ⟨gs, h1, h2⟩ := keys_rel t e2
      refine ⟨(k, u) :: gs, ?_, .cons ⟨rfl, h.2⟩ h2⟩
      rw [List.map_cons, ← h1]
      rw [show v = kV k from key_rel h.1 e1]
    · cases e
theorem merge_rel {w : Wd} : ∀ {more : List (Key × AV)} {moreC : List (Key × V)} {kvs : List (Key × AV)} {gs : List (Key × V)}, RelK W w more moreC → RelK W w kvs gs → RelK W w (mergeA kvs more) (mergeK gs moreC)
  | _, _, _, _, .nil, h => h
  | (k, x) :: r, (k', v) :: r', kvs, gs, .cons h t, h2 => by
    cases (show k = k' from h.1)
    show RelK W w (mergeA (putKA kvs k x) r) (mergeK (putK gs k v) r')
    exact merge_rel t (putK_rel h.2 h2)
theorem DE.disp {ts : List (TE × TE)} {fs : List (AE × AE)} (d : DPs W E ts fs) : DE W E (tDisp ts) (aDisp fs) := fun w s σ σc Q S R h p hp => by
  have g := grow_upd (o := .dK []) hp
  have e0 : Ext w (w.new p (upd w.H p (.dK []))) := .new g
  have S0 : Sim W (w.new p (upd w.H p (.dK []))) (s.new (.dic [])) := S.new hp g upd_same (.dic .nil)
  have r0 : Rel W (w.new p (upd w.H p (.dK []))) (.obj s.n) (.ref p) := Rel.new p _ S.n
  refine d.run (w.new p (upd w.H p (.dK []))) _ σ σc _ S0 (R.mono e0) ((post_bind_ok h).mono (fun ps s1 h1 w1 qs e1 S1 r1 => ?_) fun _ _ _ _ z => z.mono e0)
  split at h1
  · rename_i kvs ec ek
    split at h1
    · rename_i hl
      obtain ⟨gs, q1, q2⟩ := keys_rel r1 ek
      obtain ⟨o, k1, k2, k3, k4⟩ := cell_at S1 (r0.mono e1) ec
      have ep : p = w1.m s.n := by cases k2; rfl
      cases k4 with
      | dic r =>
        cases r
        refine ⟨by rw [ep]; exact k3, gs, q1, by rw [← Paired.length q2]; exact hl, ?_⟩
        have S2 := S1.wr (o := .dK (mergeK [] gs)) k1 (.dic (merge_rel q2 .nil))
        have e2 := Ext.wr (o := .dK (mergeK [] gs)) S1 k1
        have r2 := (r0.mono e1).mono e2
        rw [← ep] at S2 e2
        exact h1 _ _ ((e0.trans e1).trans e2) S2 (by rw [ep] at *; exact r2)
    · exact (show False from h1).elim
  · exact (show False from h1).elim
end
end
end Ab
set_option Elab.async false
set_option linter.all false
set_option maxRecDepth 100000
set_option maxHeartbeats 1000000
namespace Ab
open PySem PySem.Spec PyProof.Rows L2
open Classical
noncomputable section
def ItW (W : Wl) (w0 : Wd) (J : It) (items : List AV) (G : Sto → Prop) : Prop :=
  ∃ (n : Nat) (GC : Hp → Prop) (Y : Nat → Hp → V → Hp → Prop), Walk J n GC Y ∧ n = items.length ∧ (∀ w s, Ext w0 w → Sim W w s → G s → GC w.H) ∧
    ∀ w s i x H', Ext w0 w → Sim W w s → G s → i < n → Y i w.H x H' → ∃ y w', items[i]? = some y ∧ w'.H = H' ∧ Ext w w' ∧ Sim W w' s ∧ Rel W w' y x
abbrev AI := ASt → Sto → Res (List AV × (Sto → Prop))
def DI (W : Wl) (E : L2.St → XK) (wi : TI) (fi : AI) : Prop := ∀ (w : Wd) (s : Sto) (σ : ASt) (σc : L2.St) (R : It → Hp → Prop), Sim W w s → RSt W w σ σc →
  (fi σ s).Post (fun p s' => ∀ w' J, Ext w w' → Sim W w' s' → ItW W w' J p.1 p.2 → R J w'.H) (ErrP W w (E σc)) → wi σc w.H R
/-- x for x in a list, a tuple, a text -/
def signs (z : Str) : List AV := z.cps.toList.map fun c => .str ⟨#[c]⟩
def iterOf (x : AV) (s1 : Sto) : Res (List AV × (Sto → Prop)) := match x with
  | .tup xs => .ok (xs, fun _ => True) s1
  | .scr xs => .ok (xs, fun _ => True) s1
  | .str z => .ok (signs z, fun _ => True) s1
  | _ => match lstOf s1 x with | some xs => .ok (xs, fun s2 => lstOf s2 x = some xs) s1 | none => .stuck
@[simp] theorem iterOf_tup {xs : List AV} {s : Sto} : iterOf (.tup xs) s = .ok (xs, fun _ => True) s := rfl
@[simp] theorem iterOf_scr {xs : List AV} {s : Sto} : iterOf (.scr xs) s = .ok (xs, fun _ => True) s := rfl
@[simp] theorem iterOf_str {z : Str} {s : Sto} : iterOf (.str z) s = .ok (signs z, fun _ => True) s := rfl
def aIter (fa : AE) : AI := fun σ s => (fa σ s).bind iterOf
def iterU (K : PySem.W.Frag) (te : TE) : TI := fun σ H R => iList K te σ H R ∨ iTup K te σ H R ∨ iStr te σ H R
theorem PI.or {X : Cx} {tg e : Expr} {w1 w2 : TI} (h1 : PI X tg e w1) (h2 : PI X tg e w2) : PI X tg e (fun σ H R => w1 σ H R ∨ w2 σ H R) := ⟨fun pins s σ H R I h => h.elim (h1.run pins s σ H R I) (h2.run pins s σ H R I)⟩
theorem itw_list {W : Wl} {w0 : Wd} {s0 : Sto} {x : AV} {a : Addr} {xs : List AV} {vs : List V} (S : Sim W w0 s0) (r : Rel W w0 x (.ref a)) (G : Sto → Prop) (hG : ∀ s, G s → lstOf s x = some xs) : ItW W w0 (Itl W.K a) xs G := by
  refine ⟨xs.length, fun H => ∃ vs, SqL W.K H a vs ∧ vs.length = xs.length, fun i H x H' => H' = H ∧ ∀ ys, SqL W.K H a ys → ys[i]? = some x, ⟨fun i H hi ⟨vs, h1, h2⟩ => ⟨vs, vs[i], h1, by simp⟩, fun H ⟨vs, h1, h2⟩ => ⟨vs, h1, Nat.le_of_eq h2⟩, fun i H x H' hi h y => y⟩, rfl, fun w s e S' g => ?_, fun w s i y H' e S' g hi hy => ?_⟩
  · obtain ⟨a', vs', k1, k2, k3⟩ := lst_at S' (r.mono e) (hG s g)
    cases k1
    exact ⟨vs', k2, k3.length.symm⟩
  · obtain ⟨a', vs', k1, k2, k3⟩ := lst_at S' (r.mono e) (hG s g)
    cases k1
    obtain ⟨rfl, h2⟩ := hy
    obtain ⟨z, z1, z2⟩ := k3.getv i y (h2 vs' k2)
    exact ⟨z, w, z1, rfl, .refl w, S', z2⟩
theorem itw_tup {W : Wl} {w0 : Wd} {a : Addr} {xs : List AV} {vs : List V} (h : SqT W.K w0.H a vs) (r : RelL W w0 xs vs) (G : Sto → Prop) : ItW W w0 (Itt W.K a) xs G := by
  refine ⟨xs.length, fun H => SqT W.K H a vs, fun i H x H' => H' = H ∧ ∀ ys, SqT W.K H a ys → ys[i]? = some x, ⟨fun i H hi h1 => ⟨vs, vs[i]'(by rw [← r.length]; exact hi), h1, by simp⟩, fun H h1 => ⟨vs, h1, Nat.le_of_eq r.length.symm⟩, fun i H x H' hi h y => y⟩, rfl, fun w s e S' g => sqt_ext e h, fun w s i y H' e S' g hi hy => ?_⟩
  obtain ⟨rfl, h2⟩ := hy
  obtain ⟨z, z1, z2⟩ := (r.mono e).getv i y (h2 vs (sqt_ext e h))
  exact ⟨z, w, z1, rfl, .refl w, S', z2⟩
theorem itw_str {W : Wl} {w0 : Wd} {z : Str} (G : Sto → Prop) : ItW W w0 (Its z) (signs z) G := by
  refine ⟨z.cps.size, fun _ => True, _, walk_str, by simp [signs], fun _ _ _ _ _ => trivial, fun w s i y H' e S' g hi hy => ?_⟩
  obtain ⟨rfl, c, h2, rfl⟩ := hy
  refine ⟨.str ⟨#[c]⟩, w, ?_, rfl, .refl w, S', .str _⟩
  unfold signs
  rw [List.getElem?_map, Array.getElem?_toList, h2]
  rfl
section
variable {W : Wl} {E : L2.St → XK} {ta tb : TE} {fa fb : AE} {tr : TA} {fr : AA} {t : TT} {ft : AT} {ts : TS} {fs : AS} {tg : TG} {g : AV → AS} {wi : TI} {fi : AI}
theorem DI.iter (ha : DE W E ta fa) : DI W E (iterU W.K ta) (aIter fa) := fun w s σ σc R S Rs h => by
  cases e : fa σ s with
  | stuck =>
    have : aIter fa σ s = .stuck := by unfold aIter; rw [e]; rfl
    rw [this] at h; exact h.elim
  | err c ns vs s1 =>
    have : aIter fa σ s = .err c ns vs s1 := by unfold aIter; rw [e]; rfl
    rw [this] at h
    exact .inl (ha w s σ σc _ S Rs (by rw [e]; exact h))
  | ok x s1 =>
    have e1 : aIter fa σ s = iterOf x s1 := by unfold aIter; rw [e]; rfl
    rw [e1] at h
    unfold iterOf at h
    split at h
    · refine .inr (.inl (ha w s σ σc _ S Rs ?_))
      rw [e]
      intro w1 v x1 S1 r1
      cases r1 with
      | @tup a _ vs k1 k2 => exact ⟨a, rfl, ⟨vs, k1⟩, h w1 _ x1 S1 (itw_tup k1 k2 _)⟩
    · refine .inl (ha w s σ σc _ S Rs ?_)
      rw [e]
      intro w1 v x1 S1 r1
      cases r1 with
      | @scr a _ vs k1 k2 => exact ⟨a, rfl, ⟨vs, k1.sql⟩, h w1 _ x1 S1 (itw_list (vs := vs) S1 (.scr k1 k2) _ fun _ _ => rfl)⟩
    · refine .inr (.inr (ha w s σ σc _ S Rs ?_))
      rw [e]
      intro w1 v x1 S1 r1
      cases r1 with
      | str => exact ⟨_, rfl, h w1 _ x1 S1 (itw_str _)⟩
    · split at h
      · rename_i xs el
        refine .inl (ha w s σ σc _ S Rs ?_)
        rw [e]
        intro w1 v x1 S1 r1
        obtain ⟨a, vs, rfl, k2, k3⟩ := lst_at S1 r1 el
        exact ⟨a, rfl, ⟨vs, k2⟩, h w1 _ x1 S1 (itw_list (vs := vs) S1 r1 _ fun _ z => z)⟩
      · exact h.elim
/-- ranges -/
def rngA (lo : Int) (n : Nat) : List AV := (List.range n).map fun i => .int (lo + (i : Nat))
def aRng1 (fr : AA) : AI := fun σ s => (fr σ s).bind fun xs s1 => match xs with | [.int j] => if -(2 ^ 62) ≤ j ∧ j < 2 ^ 62 then .ok (rngA 0 j.toNat, fun _ => True) s1 else .stuck | _ => .stuck
def aRng2 (fr : AA) : AI := fun σ s => (fr σ s).bind fun xs s1 => match xs with | [.int i, .int j] => if -(2 ^ 62) ≤ i ∧ i < 2 ^ 62 ∧ -(2 ^ 62) ≤ j ∧ j < 2 ^ 62 then .ok (rngA i (j - i).toNat, fun _ => True) s1 else .stuck | _ => .stuck
def rngC (lo c : Int) (n : Nat) : List AV := (List.range n).map fun i => .int (lo + (i : Nat) * c)
def aRng3 (fr : AA) : AI := fun σ s => (fr σ s).bind fun xs s1 => match xs with | [.int i, .int j, .int c] => if RgC i j c (Builtin.Range.rangeSize i j c).toNat then .ok (rngC i c (Builtin.Range.rangeSize i j c).toNat, fun _ => True) s1 else .stuck | _ => .stuck
theorem itw_rng {w0 : Wd} {lo : Int} {n : Nat} (G : Sto → Prop) : ItW W w0 (Itr lo n) (rngA lo n) G := by
  refine ⟨n, fun _ => True, _, walk_range, by simp [rngA], fun _ _ _ _ _ => trivial, fun w s i y H' e S' g hi hy => ?_⟩
  obtain ⟨rfl, rfl⟩ := hy
  refine ⟨.int (lo + i), w, ?_, rfl, .refl w, S', .int _⟩
  unfold rngA
  rw [List.getElem?_map, List.getElem?_range hi]
  rfl
theorem itw_rngC {w0 : Wd} {lo c : Int} {n : Nat} (G : Sto → Prop) : ItW W w0 (Itc lo c n) (rngC lo c n) G := by
  refine ⟨n, fun _ => True, _, walk_rangeC, by simp [rngC], fun _ _ _ _ _ => trivial, fun w s i y H' e S' g hi hy => ?_⟩
  obtain ⟨rfl, rfl⟩ := hy
  refine ⟨.int (lo + (i : Nat) * c), w, ?_, rfl, .refl w, S', .int _⟩
  unfold rngC
  rw [List.getElem?_map, List.getElem?_range hi]
  rfl
theorem DI.rng1 (ha : DA W E tr fr) : DI W E (iRng1 tr) (aRng1 fr) := fun w s σ σc R S Rs h => by
  refine ha w s σ σc _ S Rs ((post_bind_ok h).mono (fun xs s1 h1 w1 vs e1 S1 r1 => ?_) fun _ _ _ _ z => z)
  split at h1
  · split at h1
    · rename_i hl
      cases r1 with
      | cons r1 r2 =>
        cases r1; cases r2
        exact ⟨_, rfl, hl.1, hl.2, h1 w1 _ e1 S1 (itw_rng _)⟩
    · exact (show False from h1).elim
  · exact (show False from h1).elim
theorem DI.rng3 (ha : DA W E tr fr) : DI W E (iRng3 tr) (aRng3 fr) := fun w s σ σc R S Rs h => by
  refine ha w s σ σc _ S Rs ((post_bind_ok h).mono (fun xs s1 h1 w1 vs e1 S1 r1 => ?_) fun _ _ _ _ z => z)
  split at h1
  · split at h1
    · rename_i hl
      cases r1 with
      | cons r1 r2 =>
        cases r2 with
        | cons r2 r3 =>
          cases r3 with
          | cons r3 r4 =>
            cases r1; cases r2; cases r3; cases r4
            exact ⟨_, _, _, _, rfl, hl, h1 w1 _ e1 S1 (itw_rngC _)⟩
    · exact (show False from h1).elim
  · exact (show False from h1).elim
/-- enumerate -/
def enumA (xs : List AV) : List AV := xs.mapIdx fun i x => .tup [.int (i : Nat), x]
def aEnum (fr : AA) : AI := fun σ s => (fr σ s).bind fun xs s1 => match xs with | [x] => (match lstOf s1 x with | some ys => .ok (enumA ys, fun s2 => lstOf s2 x = some ys) s1 | none => .stuck) | _ => .stuck
theorem DI.enum (ha : DA W E tr fr) : DI W E (iEnum W.K tr) (aEnum fr) := fun w s σ σc R S Rs h => by
  refine ha w s σ σc _ S Rs ((post_bind_ok h).mono (fun xs s1 h1 w1 vs e1 S1 r1 => ?_) fun _ _ _ _ z => z)
  split at h1
  · rename_i x
    split at h1
    · rename_i ys el
      cases r1 with
      | cons r1 r2 =>
        cases r2
        obtain ⟨a, us, rfl, k2, k3⟩ := lst_at S1 r1 el
        refine ⟨a, us, rfl, k2, h1 w1 _ e1 S1 ?_⟩
        refine ⟨ys.length, fun H => ∃ vs, SqL W.K H a vs ∧ vs.length = ys.length, fun i H v H' => ∃ T x, v = .ref T ∧ H T = none ∧ H' = upd H T (.tup [.int (i : Nat), x]) ∧ ∀ xs, SqL W.K H a xs → xs[i]? = some x, ⟨fun i H hi ⟨vs, h1, h2⟩ => ⟨vs, vs[i], h1, by simp⟩, fun H ⟨vs, h1, h2⟩ => ⟨vs, h1, Nat.le_of_eq h2⟩, fun i H x H' hi h y => y⟩, by simp [enumA], fun w s e S' g => ?_, fun w s i y H' e S' g hi hy => ?_⟩
        · obtain ⟨a', vs', z1, z2, z3⟩ := lst_at S' (r1.mono e) g
          cases z1
          exact ⟨vs', z2, z3.length.symm⟩
        · obtain ⟨a', vs', z1, z2, z3⟩ := lst_at S' (r1.mono e) g
          cases z1
          obtain ⟨T, u, rfl, hT, rfl, h2⟩ := hy
          obtain ⟨z, y1, y2⟩ := z3.getv i u (h2 vs' z2)
          have gr := grow_upd (o := .tup [.int (i : Nat), u]) hT
          refine ⟨.tup [.int (i : Nat), z], _, ?_, rfl, .grow gr, S'.grow gr, .tup (.inl (.inl upd_same)) (.cons (.int _) (.cons (y2.mono (.grow gr)) .nil))⟩
          unfold enumA
          rw [List.getElem?_mapIdx, y1]
          rfl
    · exact (show False from h1).elim
  · exact (show False from h1).elim
/-- zip of two lists, or of two tuples -/
def zipA (xs ys : List AV) : List AV := (xs.zip ys).map fun p => .tup [p.1, p.2]
def aZip (fr : AA) : AI := fun σ s => (fr σ s).bind fun xs s1 => match xs with
  | [.tup a, .tup b] => .ok (zipA a b, fun _ => True) s1
  | [x, y] => (match lstOf s1 x, lstOf s1 y with | some a, some b => .ok (zipA a b, fun s2 => lstOf s2 x = some a ∧ lstOf s2 y = some b) s1 | _, _ => .stuck)
  | _ => .stuck
theorem zip_get {xs ys : List AV} {i : Nat} {x y : AV} (h1 : xs[i]? = some x) (h2 : ys[i]? = some y) : (zipA xs ys)[i]? = some (.tup [x, y]) := by
  unfold zipA
  rw [List.getElem?_map, show (xs.zip ys)[i]? = some (x, y) from List.getElem?_zip_eq_some.mpr ⟨h1, h2⟩]
  rfl
theorem DI.zip (ha : DA W E tr fr) : DI W E (RZ.iZipA W.K tr) (aZip fr) := fun w s σ σc R S Rs h => by
  refine ha w s σ σc _ S Rs ((post_bind_ok h).mono (fun xs s1 h1 w1 vs e1 S1 r1 => ?_) fun _ _ _ _ z => z)
  split at h1
  · rename_i xa xb
    cases r1 with
    | cons r1 r2 =>
      cases r2 with
      | cons r2 r3 =>
        cases r3
        cases r1 with
        | @tup a _ vs a1 a2 =>
          cases r2 with
          | @tup b _ us b1 b2 =>
            refine ⟨a, b, vs, us, rfl, .inr ⟨a1, b1, h1 w1 _ e1 S1 ?_⟩⟩
            refine ⟨min vs.length us.length, fun H => SqT W.K H a vs ∧ SqT W.K H b us, YPair (fun i => vs[i]?) (fun i => us[i]?), ?_, ?_, fun w s e S' g => ⟨sqt_ext e a1, sqt_ext e b1⟩, fun w s i y H' e S' g hi hy => ?_⟩
            · refine ⟨fun i _ hi q => ?_, fun _ q => ⟨vs, us, q.1, q.2, by omega⟩, fun i H v H' _ q y => ?_⟩
              · have h1 : i < vs.length := by omega
                have h2 : i < us.length := by omega
                exact ⟨vs, us, vs[i], us[i], q.1, q.2, by simp [h1], by simp [h2]⟩
              · obtain ⟨T, x, z, h1, h2, h3, h4, h5⟩ := y
                exact ⟨T, x, z, h1, h2, h3, h4 vs q.1, h5 us q.2⟩
            · simp [zipA, a2.length, b2.length]
            · obtain ⟨T, x, z, rfl, hT, rfl, h4, h5⟩ := hy
              obtain ⟨x', x1, x2⟩ := (a2.mono e).getv i x h4
              obtain ⟨y', y1, y2⟩ := (b2.mono e).getv i z h5
              have gr := grow_upd (o := .tup [x, z]) hT
              exact ⟨.tup [x', y'], _, zip_get x1 y1, rfl, .grow gr, S'.grow gr, .tup (.inl (.inl upd_same)) (.cons (x2.mono (.grow gr)) (.cons (y2.mono (.grow gr)) .nil))⟩
  · rename_i x y _
    split at h1
    · rename_i xa xb ea eb
      cases r1 with
      | cons r1 r2 =>
        cases r2 with
        | cons r2 r3 =>
          cases r3
          obtain ⟨a, vs, rfl, a2, a3⟩ := lst_at S1 r1 ea
          obtain ⟨b, us, rfl, b2, b3⟩ := lst_at S1 r2 eb
          refine ⟨a, b, vs, us, rfl, .inl ⟨a2, b2, h1 w1 _ e1 S1 ?_⟩⟩
          refine ⟨min xa.length xb.length, fun H => (∃ vs, SqL W.K H a vs ∧ vs.length = xa.length) ∧ ∃ us, SqL W.K H b us ∧ us.length = xb.length, fun i H v H' => ∃ T x y, v = .ref T ∧ H T = none ∧ H' = upd H T (.tup [x, y]) ∧ (∀ xs, SqL W.K H a xs → xs[i]? = some x) ∧ ∀ ys, SqL W.K H b ys → ys[i]? = some y, ?_, ?_, fun w s e S' g => ?_, fun w s i y H' e S' g hi hy => ?_⟩
          · refine ⟨fun i _ hi ⟨⟨vs, q1, q2⟩, us, q3, q4⟩ => ?_, fun _ ⟨⟨vs, q1, q2⟩, us, q3, q4⟩ => ⟨vs, us, q1, q3, by omega⟩, fun i H v H' _ q y => y⟩
            have h1 : i < vs.length := by omega
            have h2 : i < us.length := by omega
            exact ⟨vs, us, vs[i], us[i], q1, q3, by simp [h1], by simp [h2]⟩
          · simp [zipA]
          · obtain ⟨a', vs', z1, z2, z3⟩ := lst_at S' (r1.mono e) g.1
            obtain ⟨b', us', y1, y2, y3⟩ := lst_at S' (r2.mono e) g.2
            cases z1; cases y1
            exact ⟨⟨vs', z2, z3.length.symm⟩, us', y2, y3.length.symm⟩
          · obtain ⟨a', vs', z1, z2, z3⟩ := lst_at S' (r1.mono e) g.1
            obtain ⟨b', us', y1, y2, y3⟩ := lst_at S' (r2.mono e) g.2
            cases z1; cases y1
            obtain ⟨T, x, z, rfl, hT, rfl, h4, h5⟩ := hy
            obtain ⟨x', x1, x2⟩ := z3.getv i x (h4 vs' z2)
            obtain ⟨y', q1, q2⟩ := y3.getv i z (h5 us' y2)
            have gr := grow_upd (o := .tup [x, z]) hT
            exact ⟨.tup [x', y'], _, zip_get x1 q1, rfl, .grow gr, S'.grow gr, .tup (.inl (.inl upd_same)) (.cons (x2.mono (.grow gr)) (.cons (q2.mono (.grow gr)) .nil))⟩
    · exact (show False from h1).elim
  · exact (show False from h1).elim
def SRes.loop : SRes → AS → SRes
  | .nx σ s, k => k σ s
  | .ct σ s, k => k σ s
  | .bk σ s, _ => .nx σ s
  | .rt v s, _ => .rt v s
  | .err c ns vs σ s, _ => .err c ns vs σ s
  | .stuck, _ => .stuck
@[simp] theorem SRes.loop_nx {σ : ASt} {s : Sto} {f : AS} : (SRes.nx σ s).loop f = f σ s := rfl
@[simp] theorem SRes.loop_ct {σ : ASt} {s : Sto} {f : AS} : (SRes.ct σ s).loop f = f σ s := rfl
@[simp] theorem SRes.loop_bk {σ : ASt} {s : Sto} {f : AS} : (SRes.bk σ s).loop f = .nx σ s := rfl
@[simp] theorem SRes.loop_rt {v : AV} {s : Sto} {f : AS} : (SRes.rt v s).loop f = .rt v s := rfl
@[simp] theorem SRes.loop_err {c : String} {ns : List Str} {vs : List AV} {σ : ASt} {s : Sto} {f : AS} : (SRes.err c ns vs σ s).loop f = .err c ns vs σ s := rfl
@[simp] theorem SRes.loop_stuck {f : AS} : SRes.stuck.loop f = .stuck := rfl
theorem P_loop {r : SRes} {k : AS} {w : Wd} {D : Ends} (h : (r.loop k).P W w D E) (N : L2.St → Hp → Prop) (hN : ∀ w' σ σc s, Ext w w' → Sim W w' s → RSt W w' σ σc → (k σ s).P W w D E → N σc w'.H) : r.P W w { D with nx := N, ct := N, bk := D.nx } E := by
  cases r with
  | nx σ s => exact fun w' σc e S R => hN w' σ σc s e S R h
  | ct σ s => exact fun w' σc e S R => hN w' σ σc s e S R h
  | bk σ s => exact h
  | rt v s => exact h
  | err c ns vs σ s => exact h
  | stuck => exact h
def forI (G : Sto → Prop) (g : AV → AS) (b : AS) : List AV → AS
  | [] => fun σ s => if G s then .nx σ s else .stuck
  | x :: r => fun σ s => if G s then (aSeq (g x) b σ s).loop (forI G g b r) else .stuck
theorem forI_nil {G : Sto → Prop} {g : AV → AS} {b : AS} {σ : ASt} {s : Sto} (h : G s) : forI G g b [] σ s = .nx σ s := if_pos h
theorem forI_cons {G : Sto → Prop} {g : AV → AS} {b : AS} {x : AV} {r : List AV} {σ : ASt} {s : Sto} (h : G s) : forI G g b (x :: r) σ s = (aSeq (g x) b σ s).loop (forI G g b r) := if_pos h
def aFor (fi : AI) (g : AV → AS) (b : AS) : AS := fun σ s => (fi σ s).st σ fun p s1 => forI p.2 g b p.1 σ s1
theorem goes_nx {r : SRes} {w : Wd} {D : Ends} {k : AS} (h : (r.thn k).P W w D E) (g : (∃ σ' s', r = .nx σ' s') ∨ r = .stuck) (Q : L2.St → Hp → Prop) (hQ : ∀ w' σ σc s, Ext w w' → Sim W w' s → RSt W w' σ σc → (k σ s).P W w' D E → Q σc w'.H) : r.P W w ⟨Q, fun _ _ => False, fun _ _ => False, fun _ _ => False⟩ (fun _ _ _ _ => False) := by
  rcases g with ⟨σ', s', rfl⟩ | rfl
  · exact fun w' σc e S R => hQ w' σ' σc s' e S R (P.mono e h)
  · exact h
theorem DS.forS (hi : DI W E wi fi) (hg : DG W tg g) (hn : Goes g) (hb : DS W E ts fs) : DS W E (tFor wi tg ts) (aFor fi g fs) := fun w s σ σc D S R h => by
  refine hi w s σ σc _ S R ((exp_post R h).mono (fun p s1 h1 w1 J e1 S1 it => ?_) fun _ _ _ _ z => z)
  obtain ⟨items, G⟩ := p
  obtain ⟨n, GC, Y, wk, hn', hG, hY⟩ := it
  simp only at hn' hG hY h1
  refine for_it wk (fun i σc H => ∃ w' s' σ', H = w'.H ∧ Ext w1 w' ∧ Sim W w' s' ∧ RSt W w' σ' σc ∧ (forI G g fs (items.drop i) σ' s').P W w' D E) ⟨w1, s1, σ, rfl, .refl w1, S1, R.mono e1, by rw [List.drop_zero]; exact P.mono e1 h1⟩ ?_ ?_ ?_
  · rintro i σc' H hi ⟨w', s', σ', rfl, e', S', R', h'⟩
    refine hG w' s' e' S' ?_
    refine Classical.byContradiction fun ng => ?_
    cases hd : items.drop i with
    | nil => rw [hd] at h'; exact (show False from by unfold forI at h'; rw [if_neg ng] at h'; exact h')
    | cons x r => rw [hd] at h'; exact (show False from by unfold forI at h'; rw [if_neg ng] at h'; exact h')
  · rintro i x σc' H H' hi ⟨w', s', σ', rfl, e', S', R', h'⟩ hy
    have hg' : G s' := Classical.byContradiction fun ng => by
      cases hd : items.drop i with
      | nil => rw [hd] at h'; exact (show False from by unfold forI at h'; rw [if_neg ng] at h'; exact h')
      | cons x r => rw [hd] at h'; exact (show False from by unfold forI at h'; rw [if_neg ng] at h'; exact h')
    obtain ⟨y, w2, q1, rfl, e2, S2, r2⟩ := hY w' s' i x H' e' S' hg' hi hy
    have hd : items.drop i = y :: items.drop (i + 1) := by
      obtain ⟨hlt, q⟩ := List.getElem?_eq_some_iff.mp q1
      rw [List.drop_eq_getElem_cons hlt, q]
    rw [hd, forI_cons hg'] at h'
    have R2 := R'.mono e2
    refine hg w2 s' σ' σc' y x _ S2 R2 r2 ?_
    have h2 := P.mono e2 h'
    have h3 := P_loop h2 (fun σc H => ∃ w3 s3 σ3, H = w3.H ∧ Ext w1 w3 ∧ Sim W w3 s3 ∧ RSt W w3 σ3 σc ∧ (forI G g fs (items.drop (i + 1)) σ3 s3).P W w3 D E) (fun w3 σ3 σc3 s3 e3 S3 R3 k3 => ⟨w3, s3, σ3, rfl, (e'.trans e2).trans e3, S3, R3, P.mono e3 k3⟩)
    exact goes_nx h3 (hn y σ' s') _ fun w3 σ3 σc3 s3 e3 S3 R3 k3 => hb w3 s3 σ3 σc3 _ S3 R3 k3
  · rintro σc' H ⟨w', s', σ', rfl, e', S', R', h'⟩
    rw [hn', List.drop_length] at h'
    unfold forI at h'
    split at h'
    · exact h' w' σc' (.refl w') S' R'
    · exact (show False from h').elim
def whileN (c : AT) (b : AS) : Nat → AS
  | 0 => fun _ _ => .stuck
  | k + 1 => fun σ s => (c σ s).st σ fun r s1 => if r = true then (b σ s1).loop (whileN c b k) else .nx σ s1
def aWhile (c : AT) (b : AS) : AS := fun σ s => if h : ∃ k, whileN c b k σ s ≠ .stuck then whileN c b (Classical.choose h) σ s else .stuck
theorem loop_mono {r : SRes} {k1 k2 : AS} (h : ∀ σ s, k1 σ s ≠ .stuck → k2 σ s = k1 σ s) (n : r.loop k1 ≠ .stuck) : r.loop k2 = r.loop k1 := by
  cases r with
  | nx σ s => exact h σ s n
  | ct σ s => exact h σ s n
  | _ => rfl
theorem whileN_succ {c : AT} {b : AS} : ∀ (k : Nat) (σ : ASt) (s : Sto), whileN c b k σ s ≠ .stuck → whileN c b (k + 1) σ s = whileN c b k σ s
  | 0, σ, s, h => absurd rfl h
  | k + 1, σ, s, h => by
    have h' : (c σ s).st σ (fun r s1 => if r = true then (b σ s1).loop (whileN c b k) else .nx σ s1) ≠ .stuck := h
    show (c σ s).st σ (fun r s1 => if r = true then (b σ s1).loop (whileN c b (k + 1)) else .nx σ s1) = (c σ s).st σ (fun r s1 => if r = true then (b σ s1).loop (whileN c b k) else .nx σ s1)
    cases e : c σ s with
    | ok r s1 =>
      rw [e] at h'
      simp only [Res.st_ok] at h' ⊢
      cases r with
      | true =>
        simp only [if_pos] at h' ⊢
        exact loop_mono (whileN_succ k) h'
      | false => rfl
    | err => rfl
    | stuck => rfl
theorem DS.whileS (hc : DT W E t ft) (hb : DS W E ts fs) : DS W E (tWhile t ts) (aWhile ft fs) := fun w s σ σc D S R h => by
  unfold aWhile at h
  split at h
  · rename_i hex
    refine ⟨fun m σc H => ∃ w' s' σ', H = w'.H ∧ Ext w w' ∧ Sim W w' s' ∧ RSt W w' σ' σc ∧ (whileN ft fs m σ' s').P W w' D E, ⟨_, w, s, σ, rfl, .refl w, S, R, h⟩, ?_⟩
    rintro m σc' H ⟨w', s', σ', rfl, e', S', R', h'⟩
    cases m with
    | zero => exact (show False from h').elim
    | succ m =>
      have h' : ((ft σ' s').st σ' fun r s1 => if r = true then (fs σ' s1).loop (whileN ft fs m) else .nx σ' s1).P W w' D E := h'
      refine hc w' s' σ' σc' _ S' R' ((exp_post R' h').mono (fun b s1 hb1 w1 e1 S1 => ?_) fun _ _ _ _ z => z)
      cases b with
      | false => exact iteF ((show (SRes.nx σ' s1).P W w' D E from by simpa using hb1) w1 σc' e1 S1 (R'.mono e1))
      | true =>
        refine iteT ⟨fun σc H => ∃ w3 s3 σ3, H = w3.H ∧ Ext w w3 ∧ Sim W w3 s3 ∧ RSt W w3 σ3 σc ∧ (whileN ft fs m σ3 s3).P W w3 D E, fun σ2 H2 z => ⟨m, Nat.lt_succ_self m, z⟩, ?_⟩
        have h2 : ((fs σ' s1).loop (whileN ft fs m)).P W w1 D E := P.mono e1 (by simpa using hb1)
        exact hb w1 s1 σ' σc' _ S1 (R'.mono e1) (P_loop h2 _ fun w3 σ3 σc3 s3 e3 S3 R3 k3 => ⟨w3, s3, σ3, rfl, (e'.trans e1).trans e3, S3, R3, P.mono e3 k3⟩)
  · exact h.elim
end
end
end Ab
set_option Elab.async false
set_option linter.all false
set_option maxRecDepth 100000
set_option maxHeartbeats 1000000
namespace Ab
open PySem PySem.Spec PyProof.Rows L2
open Classical
noncomputable section
theorem wipe_get (σ : L2.St) (j : Nat) : ∀ vs : List Nat, (wipe σ vs)[j]? = if j ∈ vs ∧ j < σ.length then some none else σ[j]?
  | [] => by simp [wipe]
  | v :: vs => by
    have ih := wipe_get σ j vs
    have hl := wipe_length σ vs
    show ((wipe σ vs).set v none)[j]? = _
    rw [List.getElem?_set, hl, ih]
    by_cases hv : v = j
    · subst hv
      by_cases hj : v < σ.length
      · simp [hj]
      · simp [hj]
    · have : (j ∈ v :: vs) = (j ∈ vs) := by
        simp only [List.mem_cons, eq_iff_iff]
        exact ⟨fun z => z.elim (fun z => absurd z.symm hv) id, .inr⟩
      simp only [if_neg hv, this]
theorem wipe_set {σ : L2.St} {i : Nat} {x : Option V} {vs : List Nat} (h : i ∈ vs) : wipe (σ.set i x) vs = wipe σ vs := by
  refine List.ext_getElem? fun j => ?_
  rw [wipe_get, wipe_get, List.length_set, List.getElem?_set]
  by_cases hij : i = j
  · subst hij
    by_cases hl : i < σ.length
    · simp [h, hl]
    · simp [hl]
  · simp [hij]
theorem wipe_wipe {σ : L2.St} {vs : List Nat} : wipe (wipe σ vs) vs = wipe σ vs := by
  refine List.ext_getElem? fun j => ?_
  rw [wipe_get, wipe_length]
  by_cases h : j ∈ vs ∧ j < σ.length
  · rw [if_pos h, wipe_get, if_pos h]
  · rw [if_neg h]
/-- a target that stores in these slots alone -/
def WT (tg : TG) (vs : List Nat) : Prop := ∀ v σ H (Q Q' : L2.St → Hp → Prop), (∀ σ2 H2, wipe σ2 vs = wipe σ vs → Q σ2 H2 → Q' σ2 H2) → tg v σ H Q → tg v σ H Q'
def WTs (tg : TGs) (vs : List Nat) : Prop := ∀ v σ H (Q Q' : L2.St → Hp → Prop), (∀ σ2 H2, wipe σ2 vs = wipe σ vs → Q σ2 H2 → Q' σ2 H2) → tg v σ H Q → tg v σ H Q'
theorem WT.name {i : Nat} {vs : List Nat} (h : i ∈ vs) : WT (gName i) vs := fun v σ H Q Q' f q => f _ _ (wipe_set h) q
theorem WTs.nil {vs : List Nat} : WTs gNil vs := fun v σ H Q Q' f q => ⟨q.1, f _ _ rfl q.2⟩
theorem WTs.cons {t : TG} {u : TGs} {vs : List Nat} (h1 : WT t vs) (h2 : WTs u vs) : WTs (gCons t u) vs := fun v σ H Q Q' f q => by
  obtain ⟨x, r, e, q⟩ := q
  exact ⟨x, r, e, h1 x σ H _ _ (fun σ2 H2 e2 q2 => h2 r σ2 H2 Q Q' (fun σ3 H3 e3 q3 => f σ3 H3 (e3.trans e2) q3) q2) q⟩
theorem WT.tup {K : PySem.W.Frag} {n : Nat} {u : TGs} {vs : List Nat} (h : WTs u vs) : WT (gTup K n u) vs := fun v σ H Q Q' f q => by
  obtain ⟨a, xs, e, h1, h2, q⟩ := q
  exact ⟨a, xs, e, h1, h2, h xs σ H Q Q' f q⟩
def aYes : AT := fun _ s => .ok true s
theorem DT.yes {W : Wl} {E : L2.St → XK} : DT W E tYes aYes := fun w s σ σc Q S R h => h w (.refl w) S
def lcI (k : Nat) (G : Sto → Prop) (g : AV → AS) (ft : AT) (fe : AE) (σ0 : ASt) : List AV → Sto → Option Sto
  | [] => fun s => if G s then some s else none
  | x :: r => fun s => if G s then (match g x σ0 s with
    | .nx σ2 s2 => (match ft σ2 s2 with
      | .ok true s3 => (match fe σ2 s3 with
        | .ok y s4 => (match s4.c k with | .lst acc => if acc.length < sizeLine then lcI k G g ft fe σ0 r (s4.set k (.lst (acc ++ [y]))) else none | _ => none)
        | _ => none)
      | .ok false s3 => lcI k G g ft fe σ0 r s3
      | _ => none)
    | _ => none) else none
def oObj (k : Nat) : Option Sto → Res AV
  | some s => .ok (.obj k) s
  | none => .stuck
@[simp] theorem oObj_some {k : Nat} {s : Sto} : oObj k (some s) = .ok (.obj k) s := rfl
def aLc (fi : AI) (g : AV → AS) (ft : AT) (fe : AE) (vs : List Nat) : AE := fun σ s => (fi σ s).bind fun p s1 => oObj s1.n (lcI s1.n p.2 g ft fe (wipeA σ vs) p.1 (s1.new (.lst [])))
section
variable {W : Wl} {E : L2.St → XK} {ta tb te : TE} {fa fb fe : AE} {tr : TA} {fr : AA} {t : TT} {ft : AT} {ts : TS} {fs : AS} {tg : TG} {g : AV → AS} {wi : TI} {fi : AI}
theorem lcI_G {k : Nat} {G : Sto → Prop} {σ0 : ASt} {l : List AV} {s s' : Sto} (h : lcI k G g ft fe σ0 l s = some s') : G s := Classical.byContradiction fun ng => by
  cases l with
  | nil => rw [show lcI k G g ft fe σ0 [] s = none from if_neg ng] at h; cases h
  | cons x r =>
    unfold lcI at h
    rw [if_neg ng] at h
    cases h
theorem DE.lc {vs : List Nat} (hi : DI W E wi fi) (hg : DG W tg g) (hn : Goes g) (hw : WT tg vs) (ht : DT W (fun _ _ _ _ => False) t ft) (he : DE W (fun _ _ _ _ => False) te fe) : DE W E (tLc wi tg t te vs) (aLc fi g ft fe vs) := fun w s σ σc Q S R h => by
  refine hi w s σ σc _ S R ((post_bind_ok h).mono (fun p s1 h1 w1 J e1 S1 it => ?_) fun _ _ _ _ z => z)
  obtain ⟨items, G⟩ := p
  obtain ⟨n, GC, Y, wk, hn', hG, hY⟩ := it
  simp only at hn' hG hY h1
  cases el : lcI s1.n G g ft fe (wipeA σ vs) items (s1.new (.lst [])) with
  | none => rw [el] at h1; exact (show False from h1).elim
  | some sf =>
    rw [el] at h1
    have h1 : OkP W w Q (.obj s1.n) sf := h1
    intro D hD
    have gr := grow_upd (o := .lst []) hD
    have e2 : Ext w1 (w1.new D (upd w1.H D (.lst []))) := .new gr
    have S2 : Sim W (w1.new D (upd w1.H D (.lst []))) (s1.new (.lst [])) := S1.new hD gr upd_same (.lst .nil)
    have rD : Rel W (w1.new D (upd w1.H D (.lst []))) (.obj s1.n) (.ref D) := Rel.new D _ S1.n
    refine lc_it wk (fun i H => ∃ w' s', H = w'.H ∧ Ext (w1.new D (upd w1.H D (.lst []))) w' ∧ Sim W w' s' ∧ lcI s1.n G g ft fe (wipeA σ vs) (items.drop i) s' = some sf) ⟨_, _, rfl, .refl _, S2, by rw [List.drop_zero]; exact el⟩ ?_ ?_ ?_
    · rintro i H hi ⟨w', s', rfl, e', S', h'⟩
      exact hG w' s' (e2.trans e') S' (lcI_G h')
    · rintro i x H H' hi ⟨w', s', rfl, e', S', h'⟩ hy
      have hg' := lcI_G h'
      obtain ⟨y, w2, q1, rfl, e3, S3, r3⟩ := hY w' s' i x H' (e2.trans e') S' hg' hi hy
      have hd : items.drop i = y :: items.drop (i + 1) := by
        obtain ⟨hlt, q⟩ := List.getElem?_eq_some_iff.mp q1
        rw [List.drop_eq_getElem_cons hlt, q]
      rw [hd] at h'
      unfold lcI at h'
      rw [if_pos hg'] at h'
      have R3 : RSt W w2 (wipeA σ vs) (wipe σc vs) := ((((R.mono e1).mono e2).mono e').mono e3).wipe vs
      refine hw x (wipe σc vs) w2.H _ _ (fun σ2 H2 ew q => ⟨by rw [ew, wipe_wipe], q⟩) (hg w2 s' (wipeA σ vs) (wipe σc vs) y x _ S3 R3 r3 ?_)
      split at h'
      · rename_i σ2 s2 eg
        rw [eg]
        intro w3 σ3c x3 S4 R4
        refine ht w3 s2 σ2 σ3c _ S4 R4 ?_
        split at h'
        · rename_i s3 et
          rw [et]
          intro w4 x4 S5
          refine iteT (he w4 s3 σ2 σ3c _ S5 (R4.mono x4) ?_)
          split at h'
          · rename_i z s4 ee
            rw [ee]
            intro w5 zc x5 S6 r6
            split at h'
            · rename_i acc ec
              split at h'
              · rename_i hl
                have xx := (((e'.trans e3).trans x3).trans x4).trans x5
                obtain ⟨accc, k1, k2, k3, k4⟩ := lstO_at S6 (rD.mono xx) ec
                have ed : D = w5.m s1.n := by cases k2; rfl
                refine ⟨accc, by rw [ed]; exact k3, by rw [← k4.length]; exact hl, ?_⟩
                exact ⟨{ w5 with H := upd w5.H (w5.m s1.n) (.lst (accc ++ [zc])) }, _, by rw [← ed], xx.trans (.wr S6 k1), S6.wr k1 (.lst (k4.append (.cons r6 .nil))), h'⟩
              · cases h'
            · cases h'
          · cases h'
        · rename_i s3 et
          rw [et]
          intro w4 x4 S5
          exact iteF ⟨w4, s3, rfl, ((e'.trans e3).trans x3).trans x4, S5, h'⟩
        · cases h'
      · cases h'
    · rintro H ⟨w', s', rfl, e', S', h'⟩
      rw [hn', List.drop_length] at h'
      have hg' := lcI_G h'
      have : lcI s1.n G g ft fe (wipeA σ vs) [] s' = some s' := if_pos hg'
      rw [this] at h'
      cases h'
      exact h1 w' _ ((e1.trans e2).trans e') S' (rD.mono e')
def bnames : List String := ["NoneType", "bool", "int", "str", "tuple", "list", "dict"]
def cvl (W : Wl) (n : String) : Value := if n ∈ bnames then .type n else .ref (W.κ n)
structure KitOk (W : Wl) (kit : String → String → Option Bool) : Prop where
  kit : ∀ a b r, (a ∈ bnames ∨ a ∈ W.live ∨ a ∈ W.xlive) → kit a b = some r → PySem.W.kitOne W.K (cvl W a) (cvl W b) = some r
  ins : ∀ c ∈ W.live, c ∉ bnames ∧ C8.InsC W.K (W.κ c)
  exc : ∀ c ∈ W.xlive, c ∉ bnames ∧ ExcC W.K (W.κ c)
def tyN (s : Sto) : AV → Option String
  | .non => some "NoneType"
  | .bl _ => some "bool"
  | .int _ => some "int"
  | .str _ => some "str"
  | .tup _ => some "tuple"
  | .obj i => (match s.c i with | .lst _ => some "list" | .dic _ => some "dict" | .ins c _ => some c)
  | .exn c _ _ => some c
  | _ => none
def clsN : AV → Option String
  | .ty n => some n
  | .cls c => some c
  | _ => none
def clsOk : AV → Bool
  | .ty n => decide (n ∈ bnames)
  | .cls n => decide (n ∉ bnames)
  | _ => false
def gIsi (kit : String → String → Option Bool) : List AV → Sto → Res AV := fun xs s => match xs with
  | [x, c] => (match tyN s x, clsN c with | some a, some b => (match kit a b with | some r => if clsOk c = true then .ok (.bl r) s else .stuck | none => .stuck) | _, _ => .stuck)
  | _ => .stuck
theorem NEL.isi {kit : String → String → Option Bool} : NEL (gIsi kit) := fun x s c ns vs s' h => by 
  unfold gIsi at h
  repeat' split at h
  all_goals first | cases h | (unfold newL at h; cases h)
theorem gIsi_ty {kit : String → String → Option Bool} {x : AV} {a n : String} {r : Bool} {s : Sto} (h1 : tyN s x = some a) (h2 : kit a n = some r) (h3 : n ∈ bnames) : gIsi kit [x, .ty n] s = .ok (.bl r) s := by
  unfold gIsi
  simp only [h1, clsN, h2]
  exact if_pos (decide_eq_true h3)
theorem gIsi_cls {kit : String → String → Option Bool} {x : AV} {a n : String} {r : Bool} {s : Sto} (h1 : tyN s x = some a) (h2 : kit a n = some r) (h3 : n ∉ bnames) : gIsi kit [x, .cls n] s = .ok (.bl r) s := by
  unfold gIsi
  simp only [h1, clsN, h2]
  exact if_pos (decide_eq_true h3)
def rIsiU (K : PySem.W.Frag) : List V → Hp → VK → Prop := fun xs H Q => rIsi K xs H Q ∨ Gx.rIsK K xs H Q
theorem call_isiU {X : Cx} : CallR X (.builtin "isinstance") (rIsiU X.K) := CallR.or call_isi Gx.call_isK
theorem sqt_ty {K : PySem.W.Frag} {H : Hp} {a : Addr} {vs : List V} (h : SqT K H a vs) : TyX K H (.ref a) (.type "tuple") := by
  rcases h with (h | ⟨o, h⟩) | ⟨o, its, n, h1, h2, h3, h4⟩
  · exact .base (.tup h)
  · exact .fTuple h
  · exact .kTuple h1 h2
theorem DB.isi {kit : String → String → Option Bool} (ko : KitOk W kit) : DB W (rIsiU W.K) (gIsi kit) := fun w s xs v Q S r h => by
  unfold gIsi at h
  split at h
  · rename_i x c
    cases r with
    | @cons _ vx _ _ r1 r2 => cases r2 with
      | @cons _ vcl _ _ r2 r3 =>
        cases r3
        split at h
        · rename_i a b ea eb
          split at h
          · rename_i rr ek
            split at h
            · rename_i hc
              have hq := h w (.bl rr) (.refl w) S (.bl _)
              have hcl : ∃ u, ClsV vcl u ∧ u = cvl W b := by
                cases r2 with
                | ty =>
                  cases eb
                  exact ⟨_, .ty _, (if_pos (of_decide_eq_true hc)).symm⟩
                | cls =>
                  cases eb
                  exact ⟨_, .own _, (if_neg (of_decide_eq_true hc)).symm⟩
                | _ => cases hc
              obtain ⟨u, u1, rfl⟩ := hcl
              have base : ∀ {T : Value}, TyX W.K w.H vx T → T = cvl W a → (a ∈ bnames ∨ a ∈ W.live ∨ a ∈ W.xlive) → rIsiU W.K [vx, vcl] w.H Q := fun {T} hT e hm => by
                subst e
                exact .inl ⟨vx, vcl, _, _, rr, rfl, u1, hT, ko.kit a b rr hm ek, hq⟩
              cases r1 with
              | non => cases ea; exact base (.base .non) (if_pos (by decide)).symm (.inl (by decide))
              | bl => cases ea; exact base (.base (.bl _)) (if_pos (by decide)).symm (.inl (by decide))
              | int => cases ea; exact base (.base (.int _)) (if_pos (by decide)).symm (.inl (by decide))
              | str => cases ea; exact base (.base (.str _)) (if_pos (by decide)).symm (.inl (by decide))
              | ty => cases ea
              | cls => cases ea
              | raw => cases ea
              | scr => cases ea
              | tup h1 h2 => cases ea; exact base (sqt_ty h1) (if_pos (by decide)).symm (.inl (by decide))
              | @obj i hi =>
                have ea : (match s.c i with | .lst _ => some "list" | .dic _ => some "dict" | .ins c _ => some c : Option String) = some a := ea
                cases ec : s.c i with
                | lst xs =>
                  rw [ec] at ea
                  cases ea
                  obtain ⟨vs, k1, k2, k3, k4⟩ := lstO_at S (.obj hi) ec
                  exact base (.base (.lst k3)) (if_pos (by decide)).symm (.inl (by decide))
                | dic kvs =>
                  rw [ec] at ea
                  cases ea
                  obtain ⟨o, k1, k2, k3, k4⟩ := cell_at S (.obj hi) ec
                  cases k4
                  exact base (.base (.dK k3)) (if_pos (by decide)).symm (.inl (by decide))
                | ins c fs =>
                  rw [ec] at ea
                  cases ea
                  obtain ⟨o, k1, k2, k3, k4⟩ := cell_at S (.obj hi) ec
                  cases k4 with
                  | ins hl rf =>
                    obtain ⟨n1, ic⟩ := ko.ins _ hl
                    exact base (.base (.ins k3 ic.cl ic.ha ic.hn ic.htk ic.hm)) (if_neg n1).symm (.inr (.inl hl))
              | @exn _ ax d ns xs vs hl hx hd hln rv =>
                cases ea
                obtain ⟨n1, ec⟩ := ko.exc _ hl
                refine .inr ⟨ax, _, d, _, vcl, _, rr, rfl, ec, hx, hd, fun u hu => u1.eq hu, ?_, hq⟩
                have := ko.kit _ b rr (.inr (.inr hl)) ek
                rw [show cvl W _ = .ref (W.κ _) from if_neg n1] at this
                exact this
            · exact h.elim
          · exact h.elim
        · exact h.elim
  · exact h.elim
def gBits (x : AV) (s : Sto) : Res AV := match x with | .int i => .ok (.int (Builtin.Int.intBits i : Nat)) s | _ => .stuck
@[simp] theorem gBits_int {i : Int} {s : Sto} : gBits (.int i) s = .ok (.int (Builtin.Int.intBits i : Nat)) s := rfl
/-- raise C(v) -/
def raiseK (c : String) (fl : Str) (σ : ASt) : List AV → Sto → SRes
  | [v], s => .err c [fl] [v] σ s
  | _, _ => .stuck
def aRaise (c : String) (fl : Str) (fr : AA) : AS := fun σ s => (fr σ s).st σ (raiseK c fl σ)
/-- what is caught -/
abbrev HdA := (String → Option Bool) × Option Nat × AS
def SRes.clr (i : Nat) : SRes → SRes
  | .nx σ s => .nx (σ.set i none) s
  | .bk σ s => .bk (σ.set i none) s
  | .ct σ s => .ct (σ.set i none) s
  | .rt v s => .rt v s
  | _ => .stuck
@[simp] theorem SRes.clr_nx {i : Nat} {σ : ASt} {s : Sto} : (SRes.nx σ s).clr i = .nx (σ.set i none) s := rfl
@[simp] theorem SRes.clr_rt {i : Nat} {v : AV} {s : Sto} : (SRes.rt v s).clr i = .rt v s := rfl
def SRes.noX : SRes → SRes
  | .err _ _ _ _ _ => .stuck
  | r => r
@[simp] theorem SRes.noX_nx {σ : ASt} {s : Sto} : (SRes.nx σ s).noX = .nx σ s := rfl
@[simp] theorem SRes.noX_rt {v : AV} {s : Sto} : (SRes.rt v s).noX = .rt v s := rfl
def aHand (c : String) (ns : List Str) (vs : List AV) (σ : ASt) (s : Sto) : List HdA → SRes
  | [] => .err c ns vs σ s
  | (m, none, f) :: r => (match m c with | some true => (f σ s).noX | some false => aHand c ns vs σ s r | none => .stuck)
  | (m, some i, f) :: r => (match m c with | some true => (f (σ.set i (some (.exn c ns vs))) s).clr i | some false => aHand c ns vs σ s r | none => .stuck)
def aTry (f : AS) (hs : List HdA) : AS := fun σ s => match f σ s with | .err c ns vs σ' s' => aHand c ns vs σ' s' hs | r => r
/-- an error forgets the slots -/
def SRes.forget (n : Nat) : SRes → SRes
  | .err c ns vs _ s => .err c ns vs (List.replicate n none) s
  | r => r
@[simp] theorem SRes.forget_nx {n : Nat} {σ : ASt} {s : Sto} : (SRes.nx σ s).forget n = .nx σ s := rfl
@[simp] theorem SRes.forget_rt {n : Nat} {v : AV} {s : Sto} : (SRes.rt v s).forget n = .rt v s := rfl
@[simp] theorem SRes.forget_err {n : Nat} {c : String} {ns : List Str} {vs : List AV} {σ : ASt} {s : Sto} : (SRes.err c ns vs σ s).forget n = .err c ns vs (List.replicate n none) s := rfl
def aForget (n : Nat) (f : AS) : AS := fun σ s => (f σ s).forget n
theorem rst_none {w : Wd} : ∀ (σc : L2.St), RSt W w (List.replicate σc.length none) σc
  | [] => .nil
  | _ :: σc => .cons trivial (rst_none σc)
theorem DS.forget {n : Nat} {Wx : WX} (h : DS W (fun _ cls d H => ∀ σ : L2.St, σ.length = n → Wx cls d σ H) ts fs) : DS W (fun σ cls d H => Wx cls d σ H) ts (aForget n fs) := fun w s σ σc D S R z => by
  refine h w s σ σc D S R ?_
  have z : ((fs σ s).forget n).P W w D _ := z
  cases e : fs σ s with
  | err c ns vs σ' s' =>
    rw [e] at z
    exact fun w' σc' d e' S' R' x σ2 hl => z w' σ2 d e' S' (by rw [← hl]; exact rst_none σ2) x
  | nx σ' s' => rw [e] at z; exact z
  | rt v s' => rw [e] at z; exact z
  | bk σ' s' => rw [e] at z; exact z
  | ct σ' s' => rw [e] at z; exact z
  | stuck => rw [e] at z; exact z
end
/-- a world that has grown out of one -/
abbrev Wl.at (W : Wl) (w0 : Wd) : Wl := { toWc := W.toWc, inv := fun w => Ext w0 w, cl := fun _ _ e h => h.trans e }
theorem Sim.at {W : Wl} {w : Wd} {s : Sto} (S : Sim W w s) : Sim (W.at w) w s := ⟨S.n, S.inj, S.cell, S.tab, .refl w⟩
theorem KitOk.at {W : Wl} {w0 : Wd} {kit : String → String → Option Bool} (k : KitOk W kit) : KitOk (W.at w0) kit := ⟨k.kit, k.ins, k.exc⟩
theorem relL_ints {W : Wc} {w : Wd} : ∀ ns : List Int, RelL W w (ns.map .int) (ns.map V.int)
  | [] => .nil
  | n :: ns => .cons (.int n) (relL_ints ns)
/-- the law is run -/
def s0 : Sto := ⟨0, fun _ => .lst []⟩
theorem law_run {W : Wl} {N : List Str} {k : Nat} {f : AS} {ts : TS} {H : Hp} {a : Addr} {ns : List Int} {Q : VK} (hinv : ∀ w, W.inv w) (hS : SqF W.K H a (ns.map V.int)) (hT : LamX.Tabs W.T H) (hlaw : ∃ s', aDef k f [.scr (ns.map .int)] s0 = .ok (.bl true) s') (hk : 1 + k = N.length)
    (hs : DS W (fun _ _ _ _ => False) ts f) (hQ : ∀ H', Q (.bl true) H') : ts { nx := fun _ H' => Q .non H', rt := Q } (L2.start N [.ref a]) H := by
  obtain ⟨s', e⟩ := hlaw
  refine DS.dfn (k := k) (n := 1) (Ek := fun _ _ _ => False) ⟨⟨fun _ => 0, 0, H⟩, s0, [.scr (ns.map .int)], rfl, ⟨rfl, fun i j hi => absurd hi (Nat.not_lt_zero i), fun i hi => absurd hi (Nat.not_lt_zero i), hT, hinv _⟩, .cons (.scr hS ?_) .nil, rfl, ?_⟩ hk hs
  · exact relL_ints ns
  · rw [e]
    intro w' vc e' S' r
    cases r
    exact hQ _
end
end Ab
set_option Elab.async false
set_option linter.all false
set_option maxRecDepth 100000
set_option maxHeartbeats 1000000
namespace Ab
open PySem PySem.Spec PyProof.Rows L2
open Classical
noncomputable section
/-- a class's bases, itself first -/
def anc : String → List String
  | "Counter" => ["Counter", "Source"]
  | "Draws" => ["Draws"]
  | "PooledDraws" => ["PooledDraws", "Draws"]
  | "DrawError" => ["DrawError", "ValueError", "Exception"]
  | "BadWord" => ["BadWord", "DrawError", "ValueError", "Exception"]
  | "BadState" => ["BadState", "DrawError", "ValueError", "Exception"]
  | "BadSteps" => ["BadSteps", "DrawError", "ValueError", "Exception"]
  | "BadSeed" => ["BadSeed", "DrawError", "ValueError", "Exception"]
  | "BadNumber" => ["BadNumber", "DrawError", "ValueError", "Exception"]
  | "BadThings" => ["BadThings", "DrawError", "ValueError", "Exception"]
  | "BadSource" => ["BadSource", "DrawError", "ValueError", "Exception"]
  | "BadPolynomial" => ["BadPolynomial", "DrawError", "ValueError", "Exception"]
  | "BadDegree" => ["BadDegree", "DrawError", "ValueError", "Exception"]
  | "BadBits" => ["BadBits", "DrawError", "ValueError", "Exception"]
  | "BadRank" => ["BadRank", "DrawError", "ValueError", "Exception"]
  | "BadStep" => ["BadStep", "DrawError", "ValueError", "Exception"]
  | "BadSplit" => ["BadSplit", "DrawError", "ValueError", "Exception"]
  | "BadTape" => ["BadTape", "DrawError", "ValueError", "Exception"]
  | "BadRange" => ["BadRange", "DrawError", "ValueError", "Exception"]
  | "BadRow" => ["BadRow", "DrawError", "ValueError", "Exception"]
  | "BadWeights" => ["BadWeights", "DrawError", "ValueError", "Exception"]
  | "BadOrder" => ["BadOrder", "DrawError", "ValueError", "Exception"]
  | "BadText" => ["BadText", "DrawError", "ValueError", "Exception"]
  | "Shortage" => ["Shortage", "LookupError"]
  | "Exhausted" => ["Exhausted", "Shortage", "LookupError"]
  | "NoRow" => ["NoRow", "Shortage", "LookupError"]
  | "NoStream" => ["NoStream", "Shortage", "LookupError"]
  | "NothingToUndo" => ["NothingToUndo", "Shortage", "LookupError"]
  | "RunError" => ["RunError", "RuntimeError"]
  | "TooLong" => ["TooLong", "RunError", "RuntimeError"]
  | "Unsteady" => ["Unsteady", "RunError", "RuntimeError"]
  | "Aside" => ["Aside"]
  | "Leaping" => ["Leaping", "Source"]
  | "Linear" => ["Linear", "Source"]
  | "Order" => ["Order"]
  | "Reservoir" => ["Reservoir"]
  | "Session" => ["Session"]
  | "Source" => ["Source"]
  | "Scripted" => ["Scripted", "Source"]
  | "Streams" => ["Streams"]
  | "Recording" => ["Recording", "Source"]
  | "Twisted" => ["Twisted", "Source"]
  | "Table" => ["Table"]
  | "Urn" => ["Urn"]
  | "bool" => ["bool", "int"]
  | c => [c]
def xnames : List String := ["ValueError", "LookupError", "RuntimeError", "Exception", "BaseException", "KeyError", "IndexError", "TypeError"]
def kitP (a b : String) : Option Bool := if a ∈ bnames ∧ b ∈ xnames then none else some (decide (b ∈ anc a))
def kitB (b : String) : String → String → Option Bool := fun a b' => if b' = b then kitP a b' else none
theorem kitB_self {a b : String} : kitB b a b = kitP a b := if_pos rfl
theorem kitE {a b : String} {t : Bool} {va vb : Value} {W : Wl} (h : kitP a b = some t) (ha : cvl W a = va) (hb : cvl W b = vb) (f : PySem.W.kitOne W.K va vb = some t) : ∀ r, kitP a b = some r → PySem.W.kitOne W.K (cvl W a) (cvl W b) = some r := fun r e => by
  rw [h] at e
  cases e
  rw [ha, hb]
  exact f
theorem kitOk_of {W : Wl} {b : String} (h1 : All (fun a => ∀ r, kitP a b = some r → PySem.W.kitOne W.K (cvl W a) (cvl W b) = some r) bnames) (h2 : All (fun a => ∀ r, kitP a b = some r → PySem.W.kitOne W.K (cvl W a) (cvl W b) = some r) W.live) (h3 : All (fun a => ∀ r, kitP a b = some r → PySem.W.kitOne W.K (cvl W a) (cvl W b) = some r) W.xlive)
    (hi : All (fun c => c ∉ bnames ∧ C8.InsC W.K (W.κ c)) W.live) (hx : All (fun c => c ∉ bnames ∧ ExcC W.K (W.κ c)) W.xlive) : KitOk W (kitB b) where
  kit := fun a b' r hm e => by
    unfold kitB at e
    split at e
    · rename_i hb
      subst hb
      rcases hm with hm | hm | hm
      · exact h1.at a hm r e
      · exact h2.at a hm r e
      · exact h3.at a hm r e
    · cases e
  ins := fun c hc => hi.at c hc
  exc := fun c hc => hx.at c hc
def tyB (s : Sto) : AV → Option String
  | .non => some "NoneType"
  | .bl _ => some "bool"
  | .int _ => some "int"
  | .str _ => some "str"
  | .tup _ => some "tuple"
  | .obj i => (match s.c i with | .lst _ => some "list" | .dic _ => some "dict" | .ins _ _ => none)
  | _ => none
def isObj : AV → Bool
  | .obj _ => true
  | _ => false
def ownK : AV → Sto → Res AV := fun v s => if isObj v = true then .ok v s else .stuck
@[simp] theorem ownK_obj {i : Nat} {s : Sto} : ownK (.obj i) s = .ok (.obj i) s := rfl
def gOwn (c : String) (ts : List String) (F : List AV → Sto → Res AV) (x y : AV) (s : Sto) : Res AV := if isI s x c = true then (match tyB s y with | some t => if t ∈ ts then (F [x, y] s).bind ownK else .stuck | none => .stuck) else .stuck
def aOwn (c : String) (ts : List String) (n : Nat) (F : List AV → Sto → Res AV) (fa fb : AE) : AE := fun σ s => (fa σ s).bind fun x s1 => (fb σ s1).bind fun y s2 => gOwn c ts F x y s2
theorem tyB_rel {W : Wl} {w : Wd} {s : Sto} {x : AV} {v : V} {t : String} (S : Sim W w s) (r : Rel W w x v) (h : tyB s x = some t) : TyX W.K w.H v (.type t) := by
  cases r with
  | non => cases h; exact .base .non
  | bl => cases h; exact .base (.bl _)
  | int => cases h; exact .base (.int _)
  | str => cases h; exact .base (.str _)
  | ty => cases h
  | cls => cases h
  | raw => cases h
  | scr => cases h
  | exn => cases h
  | tup h1 h2 => cases h; exact sqt_ty h1
  | @obj i hi =>
    have h : (match s.c i with | .lst _ => some "list" | .dic _ => some "dict" | .ins _ _ => none : Option String) = some t := h
    cases ec : s.c i with
    | lst xs =>
      rw [ec] at h
      cases h
      obtain ⟨vs, k1, k2, k3, k4⟩ := lstO_at S (.obj hi) ec
      exact .base (.lst k3)
    | dic kvs =>
      rw [ec] at h
      cases h
      obtain ⟨o, k1, k2, k3, k4⟩ := cell_at S (.obj hi) ec
      cases k4
      exact .base (.dK k3)
    | ins c fs => rw [ec] at h; cases h
theorem DE.own {W : Wl} {Ek : XK} {ta tb : TE} {fa fb : AE} {c : String} {nm : String} {ts : List String} {F : List AV → Sto → Res AV} {k : Nat} (ht : All (fun t => Gx.OwnT W.K (W.κ c) nm t) ts) (ha : DE W (fun _ => Ek) ta fa) (hb : DE W (fun _ => Ek) tb fb) :
    DE W (fun _ => Ek) (tOp (Gx.rOwnX W.K (W.κ c) nm (spF W 2 F) Ek) ta tb) (aOwn c ts k F fa fb) := fun w s σ σc Q S R h => by
  refine ha w s σ σc _ S R ((post_bind_ok h).mono (fun x s1 h1 w1 v e1 S1 r1 => ?_) fun _ _ _ _ z => z)
  refine hb w1 s1 σ σc _ S1 (R.mono e1) ((post_bind_ok h1).mono (fun y s2 h2 w2 u e2 S2 r2 => ?_) fun _ _ _ _ z => z.mono e1)
  unfold gOwn at h2
  split at h2
  · rename_i hi
    split at h2
    · rename_i t et
      split at h2
      · rename_i htm
        have hx : ∃ fs, insAt s2 x = some (c, fs) := by
          unfold isI at hi
          split at hi
          · rename_i d fs e
            cases of_decide_eq_true hi
            exact ⟨fs, e⟩
          · cases hi
        obtain ⟨fs, hx⟩ := hx
        obtain ⟨i, dx, gs, rfl, k2, rfl, k3, k4, k5⟩ := ins_at S2 (r1.mono e2) hx
        refine ⟨_, dx, gs, t, rfl, tyB_rel S2 r2 et, ht.at t htm, k3, w2, s2, [.obj i, y], rfl, S2, (.cons (r1.mono e2) (.cons r2 .nil)), rfl, ?_⟩
        refine (post_bind_ok h2).mono (fun v' s3 h3 w3 vc e3 S3 r3 => ?_) fun _ _ _ _ z => (z.mono e1).mono e2
        unfold ownK at h3
        split at h3
        · rename_i ho
          cases r3 with
          | obj hj => exact ⟨⟨_, rfl⟩, h3 w3 _ ((e1.trans e2).trans e3) S3 (.obj hj)⟩
          | _ => cases ho
        · exact (show False from h3).elim
      · exact (show False from h2).elim
    · exact (show False from h2).elim
  · exact (show False from h2).elim
/-- a property's promise: no error -/
theorem spF_noErr {W : Wl} {n : Nat} {F : List AV → Sto → Res AV} {vs : List V} {H : Hp} {Q : VK} {E E' : XK} (h : spF W n (fun xs s => noErr (F xs s)) vs H Q E) : spF W n F vs H Q E' := by
  obtain ⟨w, s, args, e, S, R, hn, p⟩ := h
  exact ⟨w, s, args, e, S, R, hn, noErr_post p⟩
end
end Ab
set_option Elab.async false
set_option linter.all false
set_option maxRecDepth 100000
set_option maxHeartbeats 1000000
namespace Ab
open PySem PySem.Spec PyProof.Rows L2
open Classical
mutual
def Cl (n : Nat) : AV → Prop
  | .obj i => i < n
  | .tup xs => ClL n xs
  | .scr xs => ClL n xs
  | .exn _ _ xs => ClL n xs
  | _ => True
def ClL (n : Nat) : List AV → Prop
  | [] => True
  | x :: xs => Cl n x ∧ ClL n xs
end
@[simp] theorem Cl_non {n : Nat} : Cl n .non = True := by simp only [Cl]
@[simp] theorem Cl_bl {n : Nat} {b : Bool} : Cl n (.bl b) = True := by simp only [Cl]
@[simp] theorem Cl_int {n : Nat} {b : Int} : Cl n (.int b) = True := by simp only [Cl]
@[simp] theorem Cl_str {n : Nat} {b : Str} : Cl n (.str b) = True := by simp only [Cl]
@[simp] theorem Cl_cls {n : Nat} {b : String} : Cl n (.cls b) = True := by simp only [Cl]
@[simp] theorem Cl_obj {n i : Nat} : Cl n (.obj i) = (i < n) := by simp only [Cl]
@[simp] theorem Cl_tup {n : Nat} {xs : List AV} : Cl n (.tup xs) = ClL n xs := by simp only [Cl]
@[simp] theorem ClL_nil {n : Nat} : ClL n [] = True := by simp only [ClL]
@[simp] theorem ClL_cons {n : Nat} {x : AV} {xs : List AV} : ClL n (x :: xs) = (Cl n x ∧ ClL n xs) := by simp only [ClL]
theorem ClL_all {n : Nat} : ∀ {xs : List AV}, ClL n xs ↔ ∀ x ∈ xs, Cl n x
  | [] => by simp
  | x :: xs => by simp [ClL_all (xs := xs)]
def ClC (n : Nat) : Cell → Prop
  | .lst xs => ClL n xs
  | .ins _ fs => ∀ p ∈ fs, Cl n p.2
  | .dic kvs => ∀ p ∈ kvs, Cl n p.2
section
variable {W : Wc} {w : Wd}
mutual
theorem Rel.cl {W : Wc} {w : Wd} : ∀ {x : AV} {v : V}, Rel W w x v → Cl w.n x
  | _, _, .non => by simp
  | _, _, .bl b => by simp
  | _, _, .int i => by simp
  | _, _, .str s => by simp
  | _, _, .ty n => by simp only [Cl]
  | _, _, .cls c => by simp
  | _, _, .raw a => by simp only [Cl]
  | _, _, .obj h => by simp only [Cl]; exact h
  | _, _, .tup h r => by simp only [Cl]; exact RelL.cl r
  | _, _, .scr h r => by simp only [Cl]; exact RelL.cl r
  | _, _, .exn hc h hd hl r => by simp only [Cl]; exact RelL.cl r
theorem RelL.cl {W : Wc} {w : Wd} : ∀ {x : List AV} {v : List V}, RelL W w x v → ClL w.n x
  | _, _, .nil => by simp
  | _, _, .cons h r => by simp only [ClL]; exact ⟨Rel.cl h, RelL.cl r⟩
end
mutual
theorem Rel.cut {W : Wc} {w : Wd} {n : Nat} : ∀ {x : AV} {v : V}, Rel W w x v → Cl n x → Rel W { w with n := n } x v
  | _, _, .non, _ => .non
  | _, _, .bl b, _ => .bl b
  | _, _, .int i, _ => .int i
  | _, _, .str s, _ => .str s
  | _, _, .ty n, _ => .ty n
  | _, _, .cls c, _ => .cls c
  | _, _, .raw a, _ => .raw a
  | _, _, .obj h, c => .obj (w := { w with n := n }) (by simp only [Cl] at c; exact c)
  | _, _, .tup h r, c => .tup h (RelL.cut r (by simp only [Cl] at c; exact c))
  | _, _, .scr h r, c => .scr h (RelL.cut r (by simp only [Cl] at c; exact c))
  | _, _, .exn hc h hd hl r, c => .exn hc h hd hl (RelL.cut r (by simp only [Cl] at c; exact c))
theorem RelL.cut {W : Wc} {w : Wd} {n : Nat} : ∀ {x : List AV} {v : List V}, RelL W w x v → ClL n x → RelL W { w with n := n } x v
  | _, _, .nil, _ => .nil
  | _, _, .cons h r, c => .cons (Rel.cut h (by simp only [ClL] at c; exact c.1)) (RelL.cut r (by simp only [ClL] at c; exact c.2))
end
theorem RelF.cl : ∀ {fs : List (Str × AV)} {gs : List (Str × V)}, RelF W w fs gs → ∀ p ∈ fs, Cl w.n p.2
  | _, _, .nil, p, h => by cases h
  | _, _, .cons h r, p, hp => by
    rcases List.mem_cons.mp hp with rfl | hp
    · exact h.2.cl
    · exact RelF.cl r p hp
theorem RelK.cl : ∀ {fs : List (Key × AV)} {gs : List (Key × V)}, RelK W w fs gs → ∀ p ∈ fs, Cl w.n p.2
  | _, _, .nil, p, h => by cases h
  | _, _, .cons h r, p, hp => by
    rcases List.mem_cons.mp hp with rfl | hp
    · exact h.2.cl
    · exact RelK.cl r p hp
theorem RelF.cut {n : Nat} : ∀ {fs : List (Str × AV)} {gs : List (Str × V)}, RelF W w fs gs → (∀ p ∈ fs, Cl n p.2) → RelF W { w with n := n } fs gs
  | _, _, .nil, _ => .nil
  | _, _, .cons h r, c => .cons ⟨h.1, h.2.cut (c _ List.mem_cons_self)⟩ (RelF.cut r fun p hp => c p (List.mem_cons_of_mem _ hp))
theorem RelK.cut {n : Nat} : ∀ {fs : List (Key × AV)} {gs : List (Key × V)}, RelK W w fs gs → (∀ p ∈ fs, Cl n p.2) → RelK W { w with n := n } fs gs
  | _, _, .nil, _ => .nil
  | _, _, .cons h r, c => .cons ⟨h.1, h.2.cut (c _ List.mem_cons_self)⟩ (RelK.cut r fun p hp => c p (List.mem_cons_of_mem _ hp))
theorem CRel.cl {c : Cell} {o : HO} (h : CRel W w c o) : ClC w.n c := by
  cases h with
  | lst r => exact r.cl
  | ins hc r => exact RelF.cl r
  | dic r => exact RelK.cl r
theorem CRel.cut {c : Cell} {o : HO} {n : Nat} (h : CRel W w c o) (k : ClC n c) : CRel W { w with n := n } c o := by
  cases h with
  | lst r => exact .lst (r.cut k)
  | ins hc r => exact .ins hc (RelF.cut r k)
  | dic r => exact .dic (RelK.cut r k)
end
/-- what stood is as it was, or names what stood alone -/
def Clean (s s' : Sto) : Prop := s.n ≤ s'.n ∧ ∀ i, i < s.n → s'.c i = s.c i ∨ ClC s.n (s'.c i)
def Sto.cut (s' s : Sto) : Sto := ⟨s.n, fun i => if i < s.n then s'.c i else s.c i⟩
theorem Clean.refl (s : Sto) : Clean s s := ⟨Nat.le_refl _, fun _ _ => .inl rfl⟩
theorem Clean.new {s t : Sto} {x : Cell} (h : Clean s t) : Clean s (t.new x) := ⟨Nat.le_succ_of_le h.1, fun i hi => by
  show (if i = t.n then x else t.c i) = s.c i ∨ ClC s.n (if i = t.n then x else t.c i)
  rw [if_neg (by have := h.1; omega)]
  exact h.2 i hi⟩
theorem Clean.set {s t : Sto} {i : Nat} {x : Cell} (h : Clean s t) (c : s.n ≤ i ∨ ClC s.n x) : Clean s (t.set i x) := ⟨h.1, fun j hj => by
  show (if j = i then x else t.c j) = s.c j ∨ ClC s.n (if j = i then x else t.c j)
  by_cases e : j = i
  · rw [if_pos e]
    rcases c with c | c
    · omega
    · exact .inr c
  · rw [if_neg e]
    exact h.2 j hj⟩
theorem cut_self (s : Sto) : s.cut s = s := by
  unfold Sto.cut
  simp
theorem cut_new {s t : Sto} {x : Cell} (h : s.n ≤ t.n) : (t.new x).cut s = t.cut s := by
  unfold Sto.cut Sto.new
  simp only [Sto.mk.injEq, true_and]
  funext i
  by_cases hi : i < s.n
  · simp only [if_pos hi]
    rw [if_neg (by omega)]
  · simp only [if_neg hi]
theorem cut_set_old {s t : Sto} {i : Nat} {x : Cell} (h : i < s.n) : (t.set i x).cut s = (t.cut s).set i x := by
  unfold Sto.cut Sto.set
  simp only [Sto.mk.injEq, true_and]
  funext j
  by_cases e : j = i
  · subst e
    simp [h]
  · simp only [if_neg e]
theorem cut_eq {s t : Sto} (h : ∀ i, i < s.n → t.c i = s.c i) : t.cut s = s := by
  unfold Sto.cut
  cases s with
  | mk n c =>
    simp only [Sto.mk.injEq, true_and]
    funext i
    by_cases hi : i < n
    · simp only [if_pos hi]; exact h i hi
    · simp only [if_neg hi]
noncomputable section
def gcR {α : Type} (cl : Nat → α → Prop) (s : Sto) : Res α → Res α
  | .ok v s' => if cl s.n v ∧ Clean s s' then .ok v (s'.cut s) else .ok v s'
  | .err c ns vs s' => if ClL s.n vs ∧ Clean s s' then .err c ns vs (s'.cut s) else .err c ns vs s'
  | .stuck => .stuck
def gcF (F : List AV → Sto → Res AV) : List AV → Sto → Res AV := fun args s => gcR Cl s (F args s)
def gcB (s : Sto) : Res Bool → Res Bool
  | .ok v s' => if Clean s s' then .ok v (s'.cut s) else .ok v s'
  | .err c ns vs s' => .err c ns vs s'
  | .stuck => .stuck
def gcT (f : AT) : AT := fun σ s => gcB s (f σ s)
theorem gcF_eq {F : List AV → Sto → Res AV} {args : List AV} {s s' : Sto} {v : AV} (h : F args s = .ok v s') (hv : Cl s.n v) (hc : Clean s s') : gcF F args s = .ok v (s'.cut s) := by
  unfold gcF gcR
  rw [h]
  exact if_pos ⟨hv, hc⟩
theorem gcF_raw {F : List AV → Sto → Res AV} {args : List AV} {s s' : Sto} {v : AV} (h : F args s = .ok v s') (hv : ¬ Cl s.n v) : gcF F args s = .ok v s' := by
  unfold gcF gcR
  rw [h]
  exact if_neg fun z => hv z.1
theorem gcT_eq {f : AT} {σ : ASt} {s s' : Sto} {b : Bool} (h : f σ s = .ok b s') (hc : Clean s s') : gcT f σ s = .ok b (s'.cut s) := by
  unfold gcT gcB
  rw [h]
  exact if_pos hc
section
variable {W : Wl}
theorem sim_cut {w w' : Wd} {s s' : Sto} (S : Sim W w s) (e : Ext w w') (S' : Sim W w' s') (hc : Clean s s') : Ext w { w' with n := s.n } ∧ Sim W { w' with n := s.n } (s'.cut s) := by
  have en : Ext w { w' with n := s.n } := ⟨Nat.le_of_eq S.n, e.m, e.im⟩
  refine ⟨en, rfl, fun i j hi hj q => S'.inj i j (Nat.lt_of_lt_of_le hi hc.1) (Nat.lt_of_lt_of_le hj hc.1) q, fun i hi => ?_, S'.tab, W.cl _ _ en S.inv⟩
  have hi : i < s.n := hi
  obtain ⟨o, h1, h2⟩ := S'.cell i (Nat.lt_of_lt_of_le hi hc.1)
  have ec : (s'.cut s).c i = s'.c i := if_pos hi
  refine ⟨o, h1, ?_⟩
  rw [ec]
  refine h2.cut ?_
  rcases hc.2 i hi with h | h
  · rw [h]
    obtain ⟨o', k1, k2⟩ := S.cell i hi
    rw [← S.n]
    exact k2.cl
  · exact h
theorem gc_post {w : Wd} {s : Sto} {r : Res AV} {Q : VK} {E : XK} (S : Sim W w s) (h : (gcR Cl s r).Post (OkP W w Q) (ErrP W w E)) : r.Post (OkP W w Q) (ErrP W w E) := by
  cases r with
  | ok v s' =>
    have h : (if Cl s.n v ∧ Clean s s' then .ok v (s'.cut s) else .ok v s' : Res AV).Post (OkP W w Q) (ErrP W w E) := h
    split at h
    · rename_i hc
      intro w' vc e' S' r'
      obtain ⟨k1, k2⟩ := sim_cut S e' S' hc.2
      exact (show OkP W w Q v (s'.cut s) from h) { w' with n := s.n } vc k1 k2 (r'.cut hc.1)
    · exact h
  | err c ns vs s' =>
    have h : (if ClL s.n vs ∧ Clean s s' then .err c ns vs (s'.cut s) else .err c ns vs s' : Res AV).Post (OkP W w Q) (ErrP W w E) := h
    split at h
    · rename_i hc
      intro w' d e' S' x
      obtain ⟨k1, k2⟩ := sim_cut S e' S' hc.2
      obtain ⟨x1, us, x2, x3, x4⟩ := x
      exact (show ErrP W w E c ns vs (s'.cut s) from h) { w' with n := s.n } d k1 k2 ⟨x1, us, x2, x3, x4.cut hc.1⟩
    · exact h
  | stuck => exact h
theorem spF_gc {n : Nat} {F : List AV → Sto → Res AV} {vs : List V} {H : Hp} {Q : VK} {E : XK} (h : spF W n (gcF F) vs H Q E) : spF W n F vs H Q E := by
  obtain ⟨w, s, args, e, S, R, hn, p⟩ := h
  exact ⟨w, s, args, e, S, R, hn, gc_post S p⟩
theorem DT.gc {E : L2.St → XK} {tt : TT} {f : AT} (h : DT W E tt f) : DT W E tt (gcT f) := fun w s σ σc Q S R p => by
  refine h w s σ σc Q S R ?_
  have p : (gcB s (f σ s)).Post (OkB W w Q) (ErrP W w (E σc)) := p
  cases e : f σ s with
  | ok v s' =>
    rw [e] at p
    have p : (if Clean s s' then .ok v (s'.cut s) else .ok v s' : Res Bool).Post (OkB W w Q) (ErrP W w (E σc)) := p
    split at p
    · rename_i hc
      intro w' e' S'
      obtain ⟨k1, k2⟩ := sim_cut S e' S' hc
      exact (show OkB W w Q v (s'.cut s) from p) { w' with n := s.n } k1 k2
    · exact p
  | err c ns vs s' => rw [e] at p; exact p
  | stuck => rw [e] at p; exact p
end
end
end Ab
set_option Elab.async false
set_option linter.all false
set_option maxRecDepth 100000
set_option maxHeartbeats 1000000
namespace Gx
open PySem PySem.Spec PyProof.Rows L2
/-- isinstance(e, (A, B)), e a kept exception -/
def rIsKT (K : PySem.W.Frag) : List V → Hp → VK → Prop := fun xs H Q => ∃ (a D dd tp : Addr) (fs : List (Str × V)) (cs : List V) (us : List Value) (b : Bool), xs = [.ref a, .ref tp] ∧ ExcC K D ∧ H a = some (xob a (.ref D) (some dd)) ∧ H dd = some (.xd fs) ∧ H tp = some (.tup cs) ∧ Paired ClsV cs us ∧ PySem.W.kitAny K (.ref D) us = some b ∧ Q (.bl b) H
theorem call_isKT {X : Cx} : CallR X (.builtin "isinstance") (rIsKT X.K) := by
  intro pins s σ H xs us Q I r h
  obtain ⟨a, D, dd, tp, fs, cs, ws, b, rfl, G, ha, hd, hT, k, e, q⟩ := h
  obtain ⟨u1, u2, rfl, rx, rt⟩ := vals2 r
  cases (show u1 = Value.ref a from rx)
  cases (show u2 = Value.ref tp from rt)
  obtain ⟨oe, vs, e1, e2, e3, e4⟩ := xob_at I.hok ha
  obtain ⟨mA, ns, _⟩ := (show ObjOk X.prog X.w H s.heap dd (.xd fs) from I.hok dd _ hd)
  obtain ⟨od, ho, _⟩ := lookIn_ns ns
  have J : PySem.W.InstAt s.heap a oe D (some od) := ⟨e1, e2, by unfold PySem.W.notCls; rw [e4] <;> rfl, by rw [e3]; exact ho⟩
  obtain ⟨_, its, rv, o, h1, h2, n, h3⟩ := (show ObjOk X.prog X.w H s.heap tp (.tup cs) from I.hok tp _ hT)
  have e5 := ClsV.all k rv
  subst e5
  obtain ⟨oc, odd, dt, sl⟩ := o
  simp only at h2 h3
  subst h2 h3
  exact PySem.W.kia_tup (kit_exc G) I.kIn J h1 e (fun z => nomatch z) fun tk => ⟨.bl b, H, I.kept (t' := tk) fun _ _ z => z, rfl, q⟩
end Gx
namespace Ab
open PySem PySem.Spec PyProof.Rows L2
open Classical
noncomputable section
def rIsiTU (K : PySem.W.Frag) : List V → Hp → VK → Prop := fun xs H Q => rIsiT K xs H Q ∨ Gx.rIsKT K xs H Q
theorem call_isiTU {X : Cx} : CallR X (.builtin "isinstance") (rIsiTU X.K) := CallR.or call_isiT Gx.call_isKT
inductive CL : List AV → List String → Prop
  | nil : CL [] []
  | ty {n : String} {xs : List AV} {bs : List String} (h : n ∈ bnames) (r : CL xs bs) : CL (.ty n :: xs) (n :: bs)
  | cls {n : String} {xs : List AV} {bs : List String} (h : n ∉ bnames) (r : CL xs bs) : CL (.cls n :: xs) (n :: bs)
def kitAnyP (a : String) : List String → Option Bool
  | [] => some false
  | b :: r => match kitP a b with | some true => some true | some false => kitAnyP a r | none => none
def gIsiT (bs : List String) (x : AV) (s : Sto) : Res AV := match tyN s x with | some a => (match kitAnyP a bs with | some r => .ok (.bl r) s | none => .stuck) | none => .stuck
theorem gIsiT_ok {bs : List String} {x : AV} {s : Sto} {a : String} {r : Bool} (h1 : tyN s x = some a) (h2 : kitAnyP a bs = some r) : gIsiT bs x s = .ok (.bl r) s := by
  unfold gIsiT
  simp only [h1, h2]
theorem kitAny_ok {W : Wl} {a : String} (ha : a ∈ bnames ∨ a ∈ W.live ∨ a ∈ W.xlive) : ∀ {bs : List String} {r : Bool}, All (fun b => KitOk W (kitB b)) bs → kitAnyP a bs = some r → PySem.W.kitAny W.K (cvl W a) (bs.map (cvl W)) = some r
  | [], r, _, e => e
  | b :: bs, r, .cons h t, e => by
    unfold kitAnyP at e
    show (match PySem.W.kitOne W.K (cvl W a) (cvl W b) with | some true => some true | some false => PySem.W.kitAny W.K (cvl W a) (bs.map (cvl W)) | none => none) = some r
    cases k : kitP a b with
    | none => rw [k] at e; cases e
    | some v =>
      rw [k] at e
      rw [h.kit a b v ha (by rw [kitB_self]; exact k)]
      cases v with
      | true => exact e
      | false => exact kitAny_ok ha t e
theorem CL.rel {W : Wl} {w : Wd} : ∀ {xs : List AV} {bs : List String} {vs : List V}, CL xs bs → RelL W w xs vs → Paired ClsV vs (bs.map (cvl W))
  | _, _, _, .nil, .nil => .nil
  | _, _, _, .ty h c, .cons r t => by
    cases r
    refine .cons ?_ (CL.rel c t)
    rw [show cvl W _ = .type _ from if_pos h]
    exact .ty _
  | _, _, _, .cls h c, .cons r t => by
    cases r
    refine .cons ?_ (CL.rel c t)
    rw [show cvl W _ = .ref _ from if_neg h]
    exact .own _
theorem DE.isiT {W : Wl} {E : L2.St → XK} {ta : TE} {fa : AE} {tr : TA} {fr : AA} {xs : List AV} {bs : List String} (c : CL xs bs) (ko : All (fun b => KitOk W (kitB b)) bs) (ks : ∃ b, KitOk W (kitB b)) (ha : DE W E ta fa) (hr : DA W E tr fr) (hx : ∀ σ s, fr σ s = .ok xs s) (hn : xs.length ≤ sizeLine) :
    DE W E (tCB (rIsiTU W.K) (tCons ta (tCons (tTup tr) tNil))) (aUn (gIsiT bs) fa) := fun w s σ σc Q S R h => by
  refine ha w s σ σc _ S R ((post_bind_ok h).mono (fun x s1 h1 w1 v e1 S1 r1 => ?_) fun _ _ _ _ z => z)
  refine hr w1 s1 σ σc _ S1 (R.mono e1) ?_
  rw [hx]
  intro w2 vs e2 S2 r2
  refine ⟨by rw [← r2.length]; exact hn, fun p hp => ?_⟩
  have g := grow_upd (o := .tup vs) hp
  have S3 := S2.grow g
  have r3 := (r1.mono e2).mono (Ext.grow g)
  have c3 := c.rel (r2.mono (Ext.grow g))
  have e3 := (e1.trans e2).trans (Ext.grow g)
  generalize hw : ({ w2 with H := upd w2.H p (.tup vs) } : Wd) = w3 at S3 r3 c3 e3
  have hH : upd w2.H p (.tup vs) = w3.H := by rw [← hw]
  have hT : w3.H p = some (.tup vs) := by rw [← hH]; exact upd_same
  show rIsiTU W.K [v, .ref p] (upd w2.H p (.tup vs)) Q
  rw [hH]
  clear hw hH g hp
  unfold gIsiT at h1
  obtain ⟨b0, ko0⟩ := ks
  split at h1
  · rename_i a ea
    split at h1
    · rename_i rr ek
      have hq := (show OkP W w Q (.bl rr) s1 from h1) w3 (.bl rr) e3 S3 (.bl _)
      have base : ∀ {T : Value}, TyX W.K w3.H v T → T = cvl W a → (a ∈ bnames ∨ a ∈ W.live ∨ a ∈ W.xlive) → rIsiTU W.K [v, .ref p] w3.H Q := fun {T} hT' e hm => by
        subst e
        exact .inl ⟨v, p, vs, _, _, rr, rfl, hT, c3, hT', kitAny_ok hm ko ek, hq⟩
      cases r3 with
      | non => cases ea; exact base (.base .non) (if_pos (by decide)).symm (.inl (by decide))
      | bl => cases ea; exact base (.base (.bl _)) (if_pos (by decide)).symm (.inl (by decide))
      | int => cases ea; exact base (.base (.int _)) (if_pos (by decide)).symm (.inl (by decide))
      | str => cases ea; exact base (.base (.str _)) (if_pos (by decide)).symm (.inl (by decide))
      | ty => cases ea
      | cls => cases ea
      | raw => cases ea
      | scr => cases ea
      | tup h1 h2 => cases ea; exact base (sqt_ty h1) (if_pos (by decide)).symm (.inl (by decide))
      | @obj i hi =>
        have ea : (match s1.c i with | .lst _ => some "list" | .dic _ => some "dict" | .ins c _ => some c : Option String) = some a := ea
        cases ec : s1.c i with
        | lst xs =>
          rw [ec] at ea
          cases ea
          obtain ⟨vs, k1, k2, k3, k4⟩ := lstO_at S3 (.obj hi) ec
          exact base (.base (.lst k3)) (if_pos (by decide)).symm (.inl (by decide))
        | dic kvs =>
          rw [ec] at ea
          cases ea
          obtain ⟨o, k1, k2, k3, k4⟩ := cell_at S3 (.obj hi) ec
          cases k4
          exact base (.base (.dK k3)) (if_pos (by decide)).symm (.inl (by decide))
        | ins c fs =>
          rw [ec] at ea
          cases ea
          obtain ⟨o, k1, k2, k3, k4⟩ := cell_at S3 (.obj hi) ec
          cases k4 with
          | ins hl rf =>
            obtain ⟨n1, ic⟩ := ko0.ins _ hl
            exact base (.base (.ins k3 ic.cl ic.ha ic.hn ic.htk ic.hm)) (if_neg n1).symm (.inr (.inl hl))
      | @exn _ ax d ns xs vs' hl hx' hd hln rv =>
        cases ea
        obtain ⟨n1, ec⟩ := ko0.exc _ hl
        refine .inr ⟨ax, _, d, p, _, vs, _, rr, rfl, ec, hx', hd, hT, c3, ?_, hq⟩
        have := kitAny_ok (.inr (.inr hl)) ko ek
        rw [show cvl W _ = .ref (W.κ _) from if_neg n1] at this
        exact this
    · exact (show False from h1).elim
  · exact (show False from h1).elim
end
end Ab
set_option Elab.async false
set_option linter.all false
set_option maxRecDepth 100000
set_option maxHeartbeats 4000000
namespace Gx
open PySem PySem.Spec PyProof.Rows L2
section
variable {P : Program} {w : World} {K : PySem.W.Frag} {mg mb : Str → Option Value} {k : Nat} {fa a : Addr} {cs : List (Addr × Addr)} {fd : FuncData} {x : Str} {sp : Sp} {t : Shared} {vs : List Value} {ns : List Int}
/-- the abstract heap at the law's call: the script and the tables -/
structure Hp0F (P : Program) (w : World) (K : PySem.W.Frag) (cs : List (Addr × Addr)) (a : Addr) (ns : List Int) (h : Heap) (H : Hp) : Prop where
  tab : ∀ p ∈ cs, H p.2 = some (.tbl #[])
  only : ∀ b, H b = none ∨ b ∈ cs.map (·.2) ∨ ∃ o xs, H b = some (.frz o (.lst xs))
  seq : Ab.SqF K H a (ns.map V.int)
  ok : HOk P w H h
  dom : ∀ b, H b ≠ none → b = a ∨ b ∈ cs.map (·.2)
  scr : H a ≠ none → K.lookup a = none
theorem hp0F (KX : K.In t.heap) (hT : ∀ p ∈ cs, t.heap.get? p.2 = some { cls := .none, data := .fields #[] }) (ha : t.heap.get? a = some { cls := .type "list", data := .seq vs.toArray }) (hi : IntsAre vs ns) (hl : ns.length ≤ sizeLine) :
    ∃ H, Hp0F P w K cs a ns t.heap H := by
  have rv := vals_ints hi
  have isT : ∀ b ∈ cs.map (·.2), t.heap.get? b = some { cls := .none, data := .fields #[] } := fun b hb => by
    obtain ⟨p, hp, rfl⟩ := List.mem_map.mp hb
    exact hT p hp
  have aT : a ∉ cs.map (·.2) := fun z => by
    have q := isT a z
    rw [ha] at q
    cases congrArg Obj.data (Option.some.inj q)
  have mem : ∀ p ∈ cs, p.2 ∈ cs.map (·.2) := fun p hp => List.mem_map.mpr ⟨p, hp, rfl⟩
  cases hk : K.lookup a with
  | some o =>
    have e := KX a o hk
    rw [ha] at e
    cases e
    refine ⟨fun b => if b ∈ cs.map (·.2) then some (.tbl #[]) else none, fun p hp => if_pos (mem p hp), fun b => ?_,
      .inr ⟨_, vs.toArray, _, hk, rfl, rfl, rfl, by rw [List.size_toArray, hi.length]; exact hl, by simpa using rv⟩, fun b u z => ?_, fun b z => ?_, fun z => absurd (if_neg aT) z⟩
    · by_cases hb : b ∈ cs.map (·.2)
      · exact .inr (.inl hb)
      · exact .inl (if_neg hb)
    · by_cases hb : b ∈ cs.map (·.2)
      · cases (if_pos hb).symm.trans z
        exact isT b hb
      · cases (if_neg hb).symm.trans z
    · by_cases hb : b ∈ cs.map (·.2)
      · exact .inr hb
      · exact absurd (if_neg hb) z
  | none =>
    refine ⟨fun b => if b = a then some (.frz { cls := .type "list", data := .seq vs.toArray } (.lst (ns.map V.int))) else if b ∈ cs.map (·.2) then some (.tbl #[]) else none,
      fun p hp => ?_, fun b => ?_, .inl ⟨{ cls := .type "list", data := .seq vs.toArray }, if_pos rfl⟩, fun b u z => ?_, fun b z => ?_, fun _ => hk⟩
    · have np : ¬ p.2 = a := fun z => aT (z ▸ mem p hp)
      exact (if_neg np).trans (if_pos (mem p hp))
    · by_cases hb : b = a
      · exact .inr (.inr ⟨_, _, if_pos hb⟩)
      · by_cases hc : b ∈ cs.map (·.2)
        · exact .inr (.inl hc)
        · exact .inl ((if_neg hb).trans (if_neg hc))
    · by_cases hb : b = a
      · cases (if_pos hb).symm.trans z
        subst hb
        exact ⟨ha, by rw [List.length_map]; exact hl, vs, _, rv, ha⟩
      · have z1 := (if_neg hb).symm.trans z
        by_cases hc : b ∈ cs.map (·.2)
        · cases (if_pos hc).symm.trans z1
          exact isT b hc
        · cases (if_neg hc).symm.trans z1
    · by_cases hb : b = a
      · exact .inl hb
      · by_cases hc : b ∈ cs.map (·.2)
        · exact .inr hc
        · exact absurd ((if_neg hb).trans (if_neg hc)) z
theorem callF (KX : K.In t.heap) (hns : t.heap.Ns mainGlobals mg) (hb : t.heap.Ns builtinsNs mb) (hbb : ∀ x : Str, x ≠ "__name__" → mb x = bootBuiltins x) (hlim : t.heap.NoLimit) (hg : t.gens = #[])
    (hT : ∀ p ∈ cs, t.heap.get? p.2 = some { cls := .none, data := .fields #[] }) (nT : ∀ p ∈ cs, K.lookup p.2 = none) (C : ∀ p ∈ cs, PySem.W.CodeHd t.heap p.1 p.2)
    (hbm : ∃ (bm : Addr) (ob : Obj), mg "__builtins__" = some (.ref bm) ∧ bm ≠ builtinsNs ∧ t.heap.get? bm = some ob ∧ ob.cls = .type "module" ∧ ob.dict = some builtinsNs ∧ ob.data = .plain)
    (ha : t.heap.get? a = some { cls := .type "list", data := .seq vs.toArray }) (hi : IntsAre vs ns) (hl : ns.length ≤ sizeLine) (hr : Room k callerA)
    (F : ∀ base : Heap, K.In base → base.Ns mainGlobals mg → (∀ p ∈ cs, LamX.TabB base mg p.1 p.2) → FnG P w K mg base k fa fd [x] sp) (hbind : ∀ (s : Shared) (u : Value), BindsTo s fd ⟨[u], []⟩ [(x, u)])
    (hsp : ∀ H : Hp, (∀ p ∈ cs, H p.2 = some (.tbl #[])) → Ab.SqF K H a (ns.map V.int) → sp [.ref a] H (fun v _ => v = .bl true) C8.E0) :
    codeAny (model P w) callerA (.call (.ref fa) ⟨[.ref a], []⟩) (fun r s' => r = .ok (.ret (.bool true)) ∧ OldK t.heap s'.heap ∧ s'.os = t.os ∧ AllBare s'.gens) t := by
  obtain ⟨H, Z⟩ := hp0F (P := P) (w := w) KX hT ha hi hl
  have see : ∀ {b : Addr} {o : Obj}, t.heap.get? b = some o → H b = none → (hidT t.heap H).get? b = some o := fun e n => hidT_get e n
  -- what is neither a list nor a table is not tracked
  have off : ∀ {b : Addr} {o : Obj}, t.heap.get? b = some o → (∀ ws n, o.data ≠ .seq ws n) → o.data ≠ .fields #[] → H b = none := fun {b o} e h1 h2 => by
    cases q : H b with
    | none => rfl
    | some u =>
      rcases Z.dom b (by rw [q]; simp) with e1 | e1
      · rw [e1, ha] at e
        cases e
        exact (h1 _ _ rfl).elim
      · obtain ⟨p, hp, rfl⟩ := List.mem_map.mp e1
        rw [hT p hp] at e
        cases e
        exact (h2 rfl).elim
  have offD : ∀ {b : Addr} {o : Obj} {es : Array DictEntry} {ep : Nat}, t.heap.get? b = some o → o.data = .dict es ep → H b = none := fun {b o es ep} e d =>
    off e (fun ws n z => by rw [d] at z; cases z) (fun z => by rw [d] at z; cases z)
  have nsOk : ∀ {b : Addr} {m : Str → Option Value}, t.heap.Ns b m → (hidT t.heap H).Ns b m := fun {b m} hh => by
    obtain ⟨o, es, ep, e, d, r⟩ := hh
    exact ⟨o, es, ep, see e (offD e d), d, r⟩
  have kOk : K.In (hidT t.heap H) := fun b o e => by
    refine see (KX b o e) ?_
    cases q : H b with
    | none => rfl
    | some u =>
      rcases Z.dom b (by rw [q]; simp) with e1 | e1
      · subst e1
        rw [Z.scr (by rw [q]; simp)] at e
        cases e
      · obtain ⟨p, hp, rfl⟩ := List.mem_map.mp e1
        rw [nT p hp] at e
        cases e
  have lim : (hidT t.heap H).NoLimit := by
    obtain ⟨mc, h1, h2⟩ := hlim
    exact ⟨mc, nsOk h1, h2⟩
  have hM : L2.Mod K mg (hidT t.heap H) := ⟨kOk, nsOk hns, ⟨mb, nsOk hb, hbb⟩, lim⟩
  have TB : ∀ p ∈ cs, LamX.TabB (hidT t.heap H) mg p.1 p.2 := fun p hp => by
    have hp2 := hT p hp
    refine ⟨?_, ?_, fun z => ?_⟩
    · obtain ⟨o, us, file, tf, flags, tg, inF, text, tt, e1, r1, r2, r3, r4, r5, r6, r7, r8, hne⟩ := C p hp
      refine ⟨o, us, file, tf, flags, tg, inF, text, tt, see e1 (off e1 (fun ws n z => ?_) fun z => ?_), r1, r2, r3, r4, r5, r6, r7, r8, hne⟩
      · rw [r2] at z; cases z
      · rw [r2] at z; cases z; simp at r3
    · obtain ⟨bm, ob, b1, b2, b3, b4, b5, b6⟩ := hbm
      refine ⟨bm, ob, b1, b2, fun q => ?_, fun q => ?_, see b3 (off b3 (fun ws n z => ?_) fun z => ?_), b4, b5, b6⟩
      · obtain ⟨o, es, ep, e, hd, _⟩ := hns
        rw [q, e] at b3; cases b3; rw [hd] at b6; cases b6
      · rw [q, hp2] at b3; cases b3; cases b6
      · rw [b6] at z; cases z
      · rw [b6] at z; cases z
    · obtain ⟨o, es, ep, e, hd, _⟩ := hns
      rw [z, hp2] at e; cases e; cases hd
  have nil : ∀ b : Addr, b ∉ ([] : List Addr) := fun b z => by simp at z
  have e0 : Env0 P w K mg (hidT t.heap H) callerA [] t H := ⟨rfl, hM, fun b o e => of_hidT e, Nat.le_of_eq (hidT_size _ _), trivial, fun b z => absurd z (nil b), Z.ok, .of_eq hg⟩
  have go := (F _ kOk (nsOk hns) TB).run callerA [] t H ⟨[.ref a], []⟩ [.ref a] [.ref a] _ rfl hr e0 (hbind t (.ref a)) (.cons rfl .nil) (hsp H Z.tab Z.seq)
  refine codeAny_mono go fun res s2 hres => ?_
  match res, hres with
  | .ok .next, h => exact h.elim
  | .ok .brk, h => exact h.elim
  | .ok .cont, h => exact h.elim
  | .error e, h => exact (show False from h).elim
  | .ok (.ret u), h =>
    obtain ⟨v, H', os, bare, un, ok2, r', q⟩ := h
    obtain rfl : v = .bl true := q
    obtain rfl : u = Value.bool true := r'
    have same : ∀ b o, b ∉ cs.map (·.2) → t.heap.get? b = some o → s2.heap.get? b = some o := fun b o nb e => by
      rcases Z.only b with z | z | ⟨ob, xs, z⟩
      · exact un.keep b o e z (nil b) (nil b)
      · exact absurd z nb
      · obtain ⟨e1, _⟩ := Z.ok b _ z
        obtain ⟨e2, _⟩ := ok2 b _ (un.frzs b ob _ z)
        rw [e] at e1
        cases e1
        exact e2
    have grown : ∀ p ∈ cs, ∃ more : Array Value, s2.heap.get? p.2 = some { cls := .none, data := .fields more } := fun p hp => by
      obtain ⟨more, z⟩ := un.tbls p.2 #[] (Z.tab p hp)
      exact ⟨_, ok2 p.2 _ z⟩
    refine ⟨rfl, ⟨fun b o e => ?_, fun b o e => ?_⟩, os, bare⟩
    · by_cases hb : b ∈ cs.map (·.2)
      · obtain ⟨p, hp, rfl⟩ := List.mem_map.mp hb
        obtain ⟨more, hm⟩ := grown p hp
        rw [hT p hp] at e
        cases e
        exact .inr (.inl ⟨((C p hp).tab (hT p hp)).isCodeTable, rfl, #[], more, rfl, by rw [Array.empty_append]; exact hm⟩)
      · exact .inl (same b o hb e)
    · by_cases hb : b ∈ cs.map (·.2)
      · obtain ⟨p, hp, rfl⟩ := List.mem_map.mp hb
        obtain ⟨more, hm⟩ := grown p hp
        exact ⟨_, hm⟩
      · exact ⟨o, same b o hb e⟩
end
/-- what is known of the law's promise -/
def LawF (l : PySem.W.OpenLaw) (w : World) (K : PySem.W.Frag) (k : Nat) (x : Str) (mg : Str → Option Value) (fa : Addr) (h : Heap) : Prop :=
  ∃ (fd : FuncData) (cs : List (Addr × Addr)) (sp : Sp), (∀ p ∈ cs, h.get? p.2 = some { cls := .none, data := .fields #[] }) ∧ (∀ p ∈ cs, K.lookup p.2 = none) ∧ (∀ p ∈ cs, PySem.W.CodeHd h p.1 p.2) ∧
    (∀ (s : Shared) (u : Value), BindsTo s fd ⟨[u], []⟩ [(x, u)]) ∧
    (∀ (H : Hp) (a : Addr) (ns : List Int), ns.length ≤ 63 → (∀ z ∈ ns, Builtin.Int.intBits z ≤ 1048576) → (∀ p ∈ cs, H p.2 = some (.tbl #[])) → Ab.SqF K H a (ns.map V.int) → sp [.ref a] H (fun v _ => v = .bl true) C8.E0) ∧
    ∀ base : Heap, K.In base → base.Ns mainGlobals mg → (∀ p ∈ cs, LamX.TabB base mg p.1 p.2) → FnG l.prog w K mg base k fa fd [x] sp
theorem walkF {l : PySem.W.OpenLaw} {k : Nat} {q : Program} {loose : List Str} {XP : (Str → Option Value) → Heap → Prop} {YP : World → Heap → Prop} {d : DefRec} {K : Params → PySem.W.Frag} {x : Str}
    (hn : l.most = some 63) (hdf : d.params.defaults = []) (hr : Room k callerA) (hY : ∀ (w : World) (h : Heap), YP w h → (K w.params).In h)
    (F : ∀ (w : World) (mg : Str → Option Value) (fa : Addr) (h : Heap), YP w h → (K w.params).In h → h.Ns mainGlobals mg → mg d.name = some (.ref fa) → LawF l w (K w.params) k x mg fa h) :
    PySem.W.WalkO q loose XP YP l.row.toRowW d [] (fun f vs => PySem.call f vs) := by
  refine Att.attach_callB hn hdf ?_
  intro w s0 t mg mb fa o pm cd doc a vs ns G Y ho hd hcd hmg hobj hints hlen hbits hg
  have KX := hY w _ Y
  obtain ⟨fd, cs, sp, hT, nT, C, hb, hsp, hF⟩ := F w mg fa _ Y KX G.T.g hmg
  exact callF KX G.T.g G.T.b G.T.builtins G.T.nolimit hg hT nT C G.T.bmain hobj hints (Nat.le_trans hlen (by decide)) hr hF hb fun H hH hS => hsp H a ns hlen hbits hH hS
end Gx
set_option Elab.async false
set_option linter.all false
set_option maxRecDepth 100000
set_option maxHeartbeats 1000000
namespace Ab
open PySem PySem.Spec PyProof.Rows L2
theorem gc0 {F : List AV → Sto → Res AV} {args : List AV} {s : Sto} {v : AV} (h : F args s = .ok v s) (hv : Cl s.n v) : gcF F args s = .ok v s := by
  rw [gcF_eq h hv (.refl s), cut_self]
theorem gc1 {F : List AV → Sto → Res AV} {args : List AV} {s s' : Sto} {v : AV} (h : F args s = .ok v s') (hv : Cl s.n v) (hc : Clean s s') (e : s'.cut s = s) : gcF F args s = .ok v s := by
  rw [gcF_eq h hv hc, e]
theorem gcT0 {f : AT} {σ : ASt} {s s' : Sto} {b : Bool} (h : f σ s = .ok b s') (hc : Clean s s') (e : s'.cut s = s) : gcT f σ s = .ok b s := by
  rw [gcT_eq h hc, e]
@[simp] theorem Sto.new_n {s : Sto} {x : Cell} : (s.new x).n = s.n + 1 := rfl
@[simp] theorem Sto.set_n {s : Sto} {i : Nat} {x : Cell} : (s.set i x).n = s.n := rfl
@[simp] theorem Sto.new_at {s : Sto} {x : Cell} : (s.new x).c s.n = x := if_pos rfl
@[simp] theorem Sto.set_at {s : Sto} {x : Cell} {i : Nat} : (s.set i x).c i = x := if_pos rfl
theorem Sto.set_ne {s : Sto} {x : Cell} {i j : Nat} (h : j ≠ i) : (s.set i x).c j = s.c j := if_neg h
end Ab
namespace Ab
open PySem PySem.Spec PyProof.Rows L2
/-- a small number of things -/
theorem sizeLine_ge {n : Nat} : ((n ≤ sizeLine) = (n ≤ sizeLine)) := rfl
theorem kz : True = True := rfl
@[simp] theorem lookA_hd {f : Str} {v : AV} {r : List (Str × AV)} : lookA f ((f, v) :: r) = some v := if_pos rfl
theorem lookA_tl {f g : Str} {v : AV} {r : List (Str × AV)} (h : g ≠ f) : lookA f ((g, v) :: r) = lookA f r := if_neg h
end Ab
set_option Elab.async false
set_option linter.all false
set_option maxRecDepth 100000
set_option maxHeartbeats 1000000
namespace Ab
open PySem PySem.Spec PyProof.Rows L2
open Classical
structure Dn where
  nx : ASt → Sto → Prop
  rt : AV → Sto → Prop
  bk : ASt → Sto → Prop
  ct : ASt → Sto → Prop
  er : String → List Str → List AV → ASt → Sto → Prop
def SRes.A : SRes → Dn → Prop
  | .nx σ s, D => D.nx σ s
  | .rt v s, D => D.rt v s
  | .bk σ s, D => D.bk σ s
  | .ct σ s, D => D.ct σ s
  | .err c ns vs σ s, D => D.er c ns vs σ s
  | .stuck, _ => False
section
variable {α β : Type} {r r' : Res α} {P : α → Sto → Prop} {R : String → List Str → List AV → Sto → Prop} {q q' : SRes} {D : Dn}
theorem post_ok {a : α} {s : Sto} : (Res.ok a s).Post P R ↔ P a s := Iff.rfl
theorem post_err {c : String} {ns : List Str} {vs : List AV} {s : Sto} : (Res.err c ns vs s : Res α).Post P R ↔ R c ns vs s := Iff.rfl
theorem A_nx {σ : ASt} {s : Sto} : (SRes.nx σ s).A D ↔ D.nx σ s := Iff.rfl
theorem A_rt {v : AV} {s : Sto} : (SRes.rt v s).A D ↔ D.rt v s := Iff.rfl
theorem A_bk {σ : ASt} {s : Sto} : (SRes.bk σ s).A D ↔ D.bk σ s := Iff.rfl
theorem A_ct {σ : ASt} {s : Sto} : (SRes.ct σ s).A D ↔ D.ct σ s := Iff.rfl
theorem A_err {c : String} {ns : List Str} {vs : List AV} {σ : ASt} {s : Sto} : (SRes.err c ns vs σ s).A D ↔ D.er c ns vs σ s := Iff.rfl
theorem A_thn {f : AS} : (q.thn f).A D ↔ q.A ⟨fun σ s => (f σ s).A D, D.rt, D.bk, D.ct, D.er⟩ := by cases q <;> exact Iff.rfl
theorem A_st {σ : ASt} {k : α → Sto → SRes} : (r.st σ k).A D ↔ r.Post (fun a s => (k a s).A D) (fun c ns vs s => D.er c ns vs σ s) := by cases r <;> exact Iff.rfl
theorem A_loop {f : AS} : (q.loop f).A D ↔ q.A ⟨fun σ s => (f σ s).A D, D.rt, D.nx, fun σ s => (f σ s).A D, D.er⟩ := by cases q <;> exact Iff.rfl
theorem post_fn {q : SRes} {P : AV → Sto → Prop} : q.fn.Post P R ↔ q.A ⟨fun _ s => P .non s, P, fun _ _ => False, fun _ _ => False, fun c ns vs _ s => R c ns vs s⟩ := by cases q <;> exact Iff.rfl
theorem A_forget {n : Nat} : (q.forget n).A D ↔ q.A ⟨D.nx, D.rt, D.bk, D.ct, fun c ns vs _ s => D.er c ns vs (List.replicate n none) s⟩ := by cases q <;> exact Iff.rfl
theorem A_clr {i : Nat} : (q.clr i).A D ↔ q.A ⟨fun σ s => D.nx (σ.set i none) s, D.rt, fun σ s => D.bk (σ.set i none) s, fun σ s => D.ct (σ.set i none) s, fun _ _ _ _ _ => False⟩ := by cases q <;> exact Iff.rfl
theorem A_noX : q.noX.A D ↔ q.A ⟨D.nx, D.rt, D.bk, D.ct, fun _ _ _ _ _ => False⟩ := by cases q <;> exact Iff.rfl
theorem A_try {f : AS} {hs : List HdA} {σ : ASt} {s : Sto} : (aTry f hs σ s).A D ↔ (f σ s).A ⟨D.nx, D.rt, D.bk, D.ct, fun c ns vs σ' s' => (aHand c ns vs σ' s' hs).A D⟩ := by
  unfold aTry
  cases f σ s <;> exact Iff.rfl
theorem post_noErr : (noErr r).Post P R ↔ r.Post P (fun _ _ _ _ => False) := by cases r <;> exact Iff.rfl
theorem post_ite {c : Prop} [Decidable c] {a b : Res α} : (if c then a else b).Post P R ↔ (c → a.Post P R) ∧ (¬ c → b.Post P R) := by
  by_cases h : c
  · simp [h]
  · simp [h]
theorem A_ite {c : Prop} [Decidable c] {a b : SRes} : (if c then a else b).A D ↔ (c → a.A D) ∧ (¬ c → b.A D) := by
  by_cases h : c
  · simp [h]
  · simp [h]
end
@[simp] theorem Clean_refl (s : Sto) : Clean s s = True := eq_true (.refl s)
/-- a cell of a store that grew -/
theorem at_new {s : Sto} {x : Cell} {i : Nat} (h : i < s.n) : (s.new x).c i = s.c i := if_neg (Nat.ne_of_lt h)
section
variable {P : AV → Sto → Prop} {R : String → List Str → List AV → Sto → Prop}
theorem post_gcF {F : List AV → Sto → Res AV} {args : List AV} {s : Sto} : (gcF F args s).Post P R ↔ (F args s).Post (fun v s' => if Cl s.n v ∧ Clean s s' then P v (s'.cut s) else P v s') (fun c ns vs s' => if ClL s.n vs ∧ Clean s s' then R c ns vs (s'.cut s) else R c ns vs s') := by
  unfold gcF gcR
  cases F args s with
  | ok v s' =>
    show (if Cl s.n v ∧ Clean s s' then (Res.ok v (s'.cut s) : Res AV) else .ok v s').Post P R ↔ if Cl s.n v ∧ Clean s s' then P v (s'.cut s) else P v s'
    split <;> exact Iff.rfl
  | err c ns vs s' =>
    show (if ClL s.n vs ∧ Clean s s' then (Res.err c ns vs (s'.cut s) : Res AV) else .err c ns vs s').Post P R ↔ if ClL s.n vs ∧ Clean s s' then R c ns vs (s'.cut s) else R c ns vs s'
    split <;> exact Iff.rfl
  | stuck => exact Iff.rfl
theorem post_gcT {f : AT} {P : Bool → Sto → Prop} {σ : ASt} {s : Sto} : (gcT f σ s).Post P R ↔ (f σ s).Post (fun v s' => if Clean s s' then P v (s'.cut s) else P v s') R := by
  unfold gcT gcB
  cases f σ s with
  | ok v s' =>
    show (if Clean s s' then (Res.ok v (s'.cut s) : Res Bool) else .ok v s').Post P R ↔ if Clean s s' then P v (s'.cut s) else P v s'
    split <;> exact Iff.rfl
  | err c ns vs s' => exact Iff.rfl
  | stuck => exact Iff.rfl
/-- what a def returns, as an equation -/
theorem res_ok {r : Res AV} {v : AV} {s : Sto} (h : r.Post (fun v' s' => v' = v ∧ s' = s) (fun _ _ _ _ => False)) : r = .ok v s := by
  cases r with
  | ok v' s' => obtain ⟨rfl, rfl⟩ := h; rfl
  | err => exact h.elim
  | stuck => exact h.elim
end
theorem forI_A {G : Sto → Prop} {g : AV → AS} {b : AS} {D : Dn} (I : Nat → ASt → Sto → Prop) : ∀ (xs : List AV) (k : Nat) {σ : ASt} {s : Sto}, I k σ s →
    (∀ i x σ s, xs[i]? = some x → I (k + i) σ s → G s ∧ (aSeq (g x) b σ s).A ⟨I (k + i + 1), D.rt, D.nx, I (k + i + 1), D.er⟩) → (∀ σ s, I (k + xs.length) σ s → G s ∧ D.nx σ s) → (forI G g b xs σ s).A D
  | [], k, σ, s, h, st, fin => by
    obtain ⟨g, h⟩ := fin σ s h
    rw [forI_nil g]
    exact h
  | x :: xs, k, σ, s, h, st, fin => by
    obtain ⟨g0, h0⟩ := st 0 x σ s rfl h
    rw [forI_cons g0, A_loop]
    have nxt : ∀ σ s, I (k + 1) σ s → (forI G g b xs σ s).A D := fun σ s h => forI_A I xs (k + 1) h (fun i y σ s e hI => by
      have := st (i + 1) y σ s (by simpa using e) (by rw [show k + (i + 1) = k + 1 + i by omega]; exact hI)
      rw [show k + (i + 1) = k + 1 + i by omega] at this
      exact this) (fun σ s hI => fin σ s (by rw [List.length_cons, show k + (xs.length + 1) = k + 1 + xs.length by omega]; exact hI))
    cases e : aSeq (g x) b σ s with
    | nx σ' s' => rw [e] at h0; exact nxt _ _ h0
    | ct σ' s' => rw [e] at h0; exact nxt _ _ h0
    | bk σ' s' => rw [e] at h0; exact h0
    | rt v s' => rw [e] at h0; exact h0
    | err c ns vs σ' s' => rw [e] at h0; exact h0
    | stuck => rw [e] at h0; exact h0
/-- a loop, its turns counted -/
theorem for_A {G : Sto → Prop} {g : AV → AS} {b : AS} {D : Dn} {xs : List AV} {σ : ASt} {s : Sto} (I : Nat → ASt → Sto → Prop) (h : I 0 σ s)
    (st : ∀ i x σ s, xs[i]? = some x → I i σ s → G s ∧ (aSeq (g x) b σ s).A ⟨I (i + 1), D.rt, D.nx, I (i + 1), D.er⟩) (fin : ∀ σ s, I xs.length σ s → G s ∧ D.nx σ s) : (forI G g b xs σ s).A D :=
  forI_A I xs 0 h (fun i x σ s e hI => by rw [Nat.zero_add] at hI ⊢; exact st i x σ s e hI) (fun σ s hI => fin σ s (by rw [Nat.zero_add] at hI; exact hI))
theorem rngA_get {lo : Int} {n i : Nat} {x : AV} (h : (rngA lo n)[i]? = some x) : i < n ∧ x = .int (lo + i) := by
  unfold rngA at h
  rw [List.getElem?_map] at h
  by_cases hi : i < n
  · rw [List.getElem?_range hi] at h
    exact ⟨hi, (Option.some.inj h).symm⟩
  · rw [List.getElem?_eq_none (by rw [List.length_range]; omega)] at h
    cases h
theorem rngA_len {lo : Int} {n : Nat} : (rngA lo n).length = n := by
  unfold rngA
  rw [List.length_map, List.length_range]
theorem enumA_get {xs : List AV} {i : Nat} {x : AV} (h : (enumA xs)[i]? = some x) : ∃ y, xs[i]? = some y ∧ x = .tup [.int i, y] := by
  unfold enumA at h
  rw [List.getElem?_mapIdx] at h
  cases e : xs[i]? with
  | none => rw [e] at h; cases h
  | some y => rw [e] at h; exact ⟨y, rfl, (Option.some.inj h).symm⟩
theorem enumA_len {xs : List AV} : (enumA xs).length = xs.length := by
  unfold enumA
  rw [List.length_mapIdx]
/-- for x in range(n) -/
theorem for_rng {G : Sto → Prop} {g : AV → AS} {b : AS} {D : Dn} {n : Nat} {lo : Int} {σ : ASt} {s : Sto} (I : Nat → ASt → Sto → Prop) (h : I 0 σ s)
    (st : ∀ (i : Nat) σ s, i < n → I i σ s → G s ∧ (aSeq (g (.int (lo + i))) b σ s).A ⟨I (i + 1), D.rt, D.nx, I (i + 1), D.er⟩) (fin : ∀ σ s, I n σ s → G s ∧ D.nx σ s) : (forI G g b (rngA lo n) σ s).A D :=
  for_A I h (fun i x σ s e hI => by
    obtain ⟨hi, rfl⟩ := rngA_get e
    exact st i σ s hi hI) (fun σ s hI => fin σ s (by rw [rngA_len] at hI; exact hI))
/-- [.. for x in ..]: the rows are told one by one -/
theorem lcI_P {k : Nat} {G : Sto → Prop} {g : AV → AS} {ft : AT} {fe : AE} {σ0 : ASt} {P : AV → Sto → Prop} {R : String → List Str → List AV → Sto → Prop} (I : Nat → List AV → Sto → Prop) : ∀ (xs : List AV) (j : Nat) (acc : List AV) {s : Sto}, I j acc s → s.c k = .lst acc → acc.length + xs.length ≤ sizeLine →
    (∀ i x acc s, xs[i]? = some x → I (j + i) acc s → s.c k = .lst acc → G s ∧ (g x σ0 s).A ⟨fun σ2 s2 => (ft σ2 s2).Post (fun b s3 => (b = true → (fe σ2 s3).Post (fun y s4 => s4.c k = .lst acc ∧ I (j + i + 1) (acc ++ [y]) (s4.set k (.lst (acc ++ [y])))) (fun _ _ _ _ => False)) ∧ (b = false → s3.c k = .lst acc ∧ I (j + i + 1) acc s3)) (fun _ _ _ _ => False), fun _ _ => False, fun _ _ => False, fun _ _ => False, fun _ _ _ _ _ => False⟩) →
    (∀ acc s, I (j + xs.length) acc s → s.c k = .lst acc → G s ∧ P (.obj k) s) → (oObj k (lcI k G g ft fe σ0 xs s)).Post P R
  | [], j, acc, s, h, hk, hl, st, fin => by
    obtain ⟨g0, h0⟩ := fin acc s h hk
    rw [show lcI k G g ft fe σ0 [] s = some s from if_pos g0]
    exact h0
  | x :: xs, j, acc, s, h, hk, hl, st, fin => by
    obtain ⟨g0, h0⟩ := st 0 x acc s rfl h hk
    have hl' : acc.length + xs.length + 1 ≤ sizeLine := by simpa [Nat.add_assoc] using hl
    have nxt : ∀ acc' s', acc'.length ≤ acc.length + 1 → I (j + 1) acc' s' → s'.c k = .lst acc' → (oObj k (lcI k G g ft fe σ0 xs s')).Post P R := fun acc' s' hl2 h hk =>
      lcI_P I xs (j + 1) acc' h hk (by omega) (fun i y acc s e hI hk => by
        have := st (i + 1) y acc s (by simpa using e) (by rw [show j + (i + 1) = j + 1 + i by omega]; exact hI) hk
        rw [show j + (i + 1) = j + 1 + i by omega] at this
        exact this) (fun acc s hI hk => fin acc s (by rw [List.length_cons, show j + (xs.length + 1) = j + 1 + xs.length by omega]; exact hI) hk)
    rw [show lcI k G g ft fe σ0 (x :: xs) s = (match g x σ0 s with
      | .nx σ2 s2 => (match ft σ2 s2 with
        | .ok true s3 => (match fe σ2 s3 with
          | .ok y s4 => (match s4.c k with | .lst acc => if acc.length < sizeLine then lcI k G g ft fe σ0 xs (s4.set k (.lst (acc ++ [y]))) else none | _ => none)
          | _ => none)
        | .ok false s3 => lcI k G g ft fe σ0 xs s3
        | _ => none)
      | _ => none) from if_pos g0]
    cases e : g x σ0 s with
    | nx σ2 s2 =>
      rw [e] at h0
      have h0 : (ft σ2 s2).Post _ _ := h0
      cases e2 : ft σ2 s2 with
      | ok b s3 =>
        rw [e2] at h0
        cases b with
        | true =>
          have h1 := h0.1 rfl
          cases e3 : fe σ2 s3 with
          | ok y s4 =>
            rw [e3] at h1
            obtain ⟨k1, k2⟩ := h1
            simp only [e2, e3, k1]
            rw [if_pos (by omega)]
            exact nxt _ _ (by simp) k2 Sto.set_at
          | err => rw [e3] at h1; exact h1.elim
          | stuck => rw [e3] at h1; exact h1.elim
        | false =>
          obtain ⟨k1, k2⟩ := h0.2 rfl
          simp only [e2]
          exact nxt _ _ (Nat.le_succ _) k2 k1
      | err => rw [e2] at h0; exact h0.elim
      | stuck => rw [e2] at h0; exact h0.elim
    | rt => rw [e] at h0; exact h0.elim
    | bk => rw [e] at h0; exact h0.elim
    | ct => rw [e] at h0; exact h0.elim
    | err => rw [e] at h0; exact h0.elim
    | stuck => rw [e] at h0; exact h0.elim
/-- while: the turns that are left -/
theorem whileN_A {c : AT} {b : AS} {D : Dn} (I : Nat → ASt → Sto → Prop) (st : ∀ n σ s, I n σ s → (c σ s).Post (fun r s1 => (r = true → (b σ s1).A ⟨fun σ s => ∃ m, m < n ∧ I m σ s, D.rt, D.nx, fun σ s => ∃ m, m < n ∧ I m σ s, D.er⟩) ∧ (r = false → D.nx σ s1)) (fun c ns vs s => D.er c ns vs σ s)) :
    ∀ (n : Nat) (σ : ASt) (s : Sto), I n σ s → ∃ k, (whileN c b k σ s).A D := fun n => by
  induction n using Nat.strongRecOn with
  | _ n ih =>
    intro σ s h
    have h0 := st n σ s h
    cases e : c σ s with
    | ok r s1 =>
      rw [e] at h0
      cases r with
      | false =>
        refine ⟨1, ?_⟩
        show ((c σ s).st σ fun r s1 => if r = true then (b σ s1).loop (whileN c b 0) else .nx σ s1).A D
        rw [e]
        exact h0.2 rfl
      | true =>
        have h1 := h0.1 rfl
        have big : ∀ (k : Nat), ((b σ s1).loop (whileN c b k)).A D → ∃ k, (whileN c b k σ s).A D := fun k hk => ⟨k + 1, by
          show ((c σ s).st σ fun r s1 => if r = true then (b σ s1).loop (whileN c b k) else .nx σ s1).A D
          rw [e]
          exact hk⟩
        cases e1 : b σ s1 with
        | nx σ' s' =>
          rw [e1] at h1
          obtain ⟨m, hm, hI⟩ := h1
          obtain ⟨k, hk⟩ := ih m hm σ' s' hI
          exact big k (by rw [e1]; exact hk)
        | ct σ' s' =>
          rw [e1] at h1
          obtain ⟨m, hm, hI⟩ := h1
          obtain ⟨k, hk⟩ := ih m hm σ' s' hI
          exact big k (by rw [e1]; exact hk)
        | bk σ' s' => rw [e1] at h1; exact big 0 (by rw [e1]; exact h1)
        | rt v s' => rw [e1] at h1; exact big 0 (by rw [e1]; exact h1)
        | err c ns vs σ' s' => rw [e1] at h1; exact big 0 (by rw [e1]; exact h1)
        | stuck => rw [e1] at h1; exact h1.elim
    | err c' ns vs s1 =>
      rw [e] at h0
      refine ⟨1, ?_⟩
      show ((c σ s).st σ fun r s1 => if r = true then (b σ s1).loop (whileN c b 0) else .nx σ s1).A D
      rw [e]
      exact h0
    | stuck => rw [e] at h0; exact h0.elim
theorem A_ne {q : SRes} {D : Dn} (h : q.A D) : q ≠ .stuck := fun e => by rw [e] at h; exact h
theorem whileN_le {c : AT} {b : AS} {k : Nat} {σ : ASt} {s : Sto} (h : whileN c b k σ s ≠ .stuck) : ∀ m, whileN c b (k + m) σ s = whileN c b k σ s
  | 0 => rfl
  | m + 1 => by
    have ih := whileN_le h m
    rw [← ih, show k + (m + 1) = k + m + 1 from rfl]
    exact whileN_succ _ _ _ (by rw [ih]; exact h)
theorem while_A {c : AT} {b : AS} {D : Dn} {σ : ASt} {s : Sto} (I : Nat → ASt → Sto → Prop) (n : Nat) (h : I n σ s) (st : ∀ n σ s, I n σ s → (c σ s).Post (fun r s1 => (r = true → (b σ s1).A ⟨fun σ s => ∃ m, m < n ∧ I m σ s, D.rt, D.nx, fun σ s => ∃ m, m < n ∧ I m σ s, D.er⟩) ∧ (r = false → D.nx σ s1)) (fun c ns vs s => D.er c ns vs σ s)) :
    (aWhile c b σ s).A D := by
  obtain ⟨k, hk⟩ := whileN_A I st n σ s h
  have hx : ∃ k, whileN c b k σ s ≠ .stuck := ⟨k, A_ne hk⟩
  unfold aWhile
  rw [dif_pos hx]
  have hc := Classical.choose_spec hx
  rcases Nat.le_total (Classical.choose hx) k with hle | hle
  · have := whileN_le hc (k - Classical.choose hx)
    rw [Nat.add_sub_cancel' hle] at this
    rw [← this]
    exact hk
  · have := whileN_le (A_ne hk) (Classical.choose hx - k)
    rw [Nat.add_sub_cancel' hle] at this
    rw [this]
    exact hk
/-- an index in bounds, of a row whose values are alike -/
theorem atI_all {xs : List AV} {i : Int} (h0 : 0 ≤ i) (h1 : i < xs.length) : ∃ x, x ∈ xs ∧ atI xs i = some x := by
  obtain ⟨j, rfl⟩ := Int.eq_ofNat_of_zero_le h0
  have hi : j < xs.length := by omega
  exact ⟨xs[j], List.getElem_mem hi, atI_nat (List.getElem?_eq_getElem hi)⟩
/-- nothing that stood has changed -/
structure Gb (s s' : Sto) : Prop where
  n : s.n ≤ s'.n
  c : ∀ i, i < s.n → s'.c i = s.c i
theorem Gb.refl (s : Sto) : Gb s s := ⟨Nat.le_refl _, fun _ _ => rfl⟩
theorem Gb.trans {s t u : Sto} (a : Gb s t) (b : Gb t u) : Gb s u := ⟨Nat.le_trans a.n b.n, fun i h => (b.c i (Nat.lt_of_lt_of_le h a.n)).trans (a.c i h)⟩
theorem Gb.new {s t : Sto} {x : Cell} (a : Gb s t) : Gb s (t.new x) := a.trans ⟨Nat.le_succ _, fun i h => at_new h⟩
theorem Gb.set {s t : Sto} {i : Nat} {x : Cell} (a : Gb s t) (h : s.n ≤ i) : Gb s (t.set i x) := ⟨a.n, fun j hj => (Sto.set_ne (by omega)).trans (a.c j hj)⟩
theorem Gb.clean {s t : Sto} (a : Gb s t) : Clean s t := ⟨a.n, fun i h => .inl (a.c i h)⟩
theorem Gb.cut {s t : Sto} (a : Gb s t) : t.cut s = s := cut_eq a.c
section
variable {P : AV → Sto → Prop} {R : String → List Str → List AV → Sto → Prop}
theorem gcF_g {F : List AV → Sto → Res AV} {args : List AV} {s : Sto} (h : (F args s).Post (fun v s' => Cl s.n v ∧ Gb s s' ∧ P v s) (fun c ns vs s' => ClL s.n vs ∧ Gb s s' ∧ R c ns vs s)) : (gcF F args s).Post P R :=
  post_gcF.mpr (h.mono (fun v s' z => by rw [if_pos ⟨z.1, z.2.1.clean⟩, z.2.1.cut]; exact z.2.2) fun c ns vs s' z => by rw [if_pos ⟨z.1, z.2.1.clean⟩, z.2.1.cut]; exact z.2.2)
theorem gcT_g {f : AT} {P : Bool → Sto → Prop} {σ : ASt} {s : Sto} (h : (f σ s).Post (fun v s' => Gb s s' ∧ P v s) R) : (gcT f σ s).Post P R :=
  post_gcT.mpr (h.mono (fun v s' z => by rw [if_pos z.1.clean, z.1.cut]; exact z.2) fun _ _ _ _ z => z)
end
/-- nothing that stood has changed, but what is at d -/
structure Gd (d : Nat) (s s' : Sto) : Prop where
  n : s.n ≤ s'.n
  c : ∀ i, i < s.n → i ≠ d → s'.c i = s.c i
theorem Gd.refl (d : Nat) (s : Sto) : Gd d s s := ⟨Nat.le_refl _, fun _ _ _ => rfl⟩
theorem Gd.trans {d : Nat} {s t u : Sto} (a : Gd d s t) (b : Gd d t u) : Gd d s u := ⟨Nat.le_trans a.n b.n, fun i h e => (b.c i (Nat.lt_of_lt_of_le h a.n) e).trans (a.c i h e)⟩
theorem Gd.set {d : Nat} {s t : Sto} {x : Cell} (a : Gd d s t) : Gd d s (t.set d x) := ⟨a.n, fun i h e => (Sto.set_ne e).trans (a.c i h e)⟩
theorem Gd.new {d : Nat} {s t : Sto} {x : Cell} (a : Gd d s t) : Gd d s (t.new x) := ⟨Nat.le_succ_of_le a.n, fun i h e => (at_new (Nat.lt_of_lt_of_le h a.n)).trans (a.c i h e)⟩
theorem Gd.cut {d : Nat} {s t : Sto} (a : Gd d s t) (h : d < s.n) : t.cut s = s.set d (t.c d) := by
  unfold Sto.cut Sto.set
  simp only [Sto.mk.injEq, true_and]
  funext i
  by_cases e : i = d
  · subst e; simp [h]
  · by_cases hi : i < s.n
    · simp [hi, e, a.c i hi e]
    · simp [hi, e]
theorem Gd.clean {d : Nat} {s t : Sto} (a : Gd d s t) (h : ClC s.n (t.c d)) : Clean s t := ⟨a.n, fun i hi => by
  by_cases e : i = d
  · subst e; exact .inr h
  · exact .inl (a.c i hi e)⟩
section
variable {P : AV → Sto → Prop} {R : String → List Str → List AV → Sto → Prop} {d : Nat}
theorem gcF_d {F : List AV → Sto → Res AV} {args : List AV} {s : Sto} (hd : d < s.n) (h : (F args s).Post (fun v s' => Cl s.n v ∧ Gd d s s' ∧ ClC s.n (s'.c d) ∧ P v (s.set d (s'.c d))) (fun c ns vs s' => ClL s.n vs ∧ Gd d s s' ∧ ClC s.n (s'.c d) ∧ R c ns vs (s.set d (s'.c d)))) : (gcF F args s).Post P R :=
  post_gcF.mpr (h.mono (fun v s' z => by rw [if_pos ⟨z.1, z.2.1.clean z.2.2.1⟩, z.2.1.cut hd]; exact z.2.2.2) fun c ns vs s' z => by rw [if_pos ⟨z.1, z.2.1.clean z.2.2.1⟩, z.2.1.cut hd]; exact z.2.2.2)
theorem gcT_d {f : AT} {P : Bool → Sto → Prop} {σ : ASt} {s : Sto} (hd : d < s.n) (h : (f σ s).Post (fun v s' => Gd d s s' ∧ ClC s.n (s'.c d) ∧ P v (s.set d (s'.c d))) R) : (gcT f σ s).Post P R :=
  post_gcT.mpr (h.mono (fun v s' z => by rw [if_pos (z.1.clean z.2.1), z.1.cut hd]; exact z.2.2) fun _ _ _ _ z => z)
end
theorem ok_of_post {r : Res AV} {v : AV} (h : r.Post (fun v' _ => v' = v) (fun _ _ _ _ => False)) : ∃ s', r = .ok v s' := by
  cases r with
  | ok v' s' => cases (show v' = v from h); exact ⟨s', rfl⟩
  | err => exact h.elim
  | stuck => exact h.elim
section
variable {P : AV → Sto → Prop} {R : String → List Str → List AV → Sto → Prop}
theorem post_addL {t : Sto} {i j : Nat} {a b : List AV} (h1 : t.c i = .lst a) (h2 : t.c j = .lst b) (h : a.length + b.length ≤ 1000) (q : P (.obj t.n) (t.new (.lst (a ++ b)))) : (gAdd (.obj i) (.obj j) t).Post P R := by
  rw [gAdd_lst h1 h2 (Nat.le_trans h (by decide))]
  exact q
theorem post_ix {x : AV} {xs : List AV} {i : Int} {s : Sto} (h : seqOf s x = some xs) (h0 : 0 ≤ i) (h1 : i < xs.length) (q : ∀ v, v ∈ xs → P v s) : (gIx x (.int i) s).Post P R := by
  obtain ⟨v, h2, h3⟩ := atI_all h0 h1
  rw [gIx_seq h h3]
  exact q v h2
end
theorem at_old {s : Sto} {x : Cell} {i : Nat} {c : Cell} (h : i < s.n) (e : s.c i = c) : (s.new x).c i = c := (at_new h).trans e
/-- a comprehension, its rows counted -/
theorem lc_P {k : Nat} {G : Sto → Prop} {g : AV → AS} {ft : AT} {fe : AE} {σ0 : ASt} {P : AV → Sto → Prop} {R : String → List Str → List AV → Sto → Prop} {xs : List AV} {s : Sto} (I : Nat → List AV → Sto → Prop) (h : I 0 [] s) (hk : s.c k = .lst []) (hl : xs.length ≤ 1000)
    (st : ∀ i x acc s, xs[i]? = some x → I i acc s → s.c k = .lst acc → G s ∧ (g x σ0 s).A ⟨fun σ2 s2 => (ft σ2 s2).Post (fun b s3 => (b = true → (fe σ2 s3).Post (fun y s4 => s4.c k = .lst acc ∧ I (i + 1) (acc ++ [y]) (s4.set k (.lst (acc ++ [y])))) (fun _ _ _ _ => False)) ∧ (b = false → s3.c k = .lst acc ∧ I (i + 1) acc s3)) (fun _ _ _ _ => False), fun _ _ => False, fun _ _ => False, fun _ _ => False, fun _ _ _ _ _ => False⟩)
    (fin : ∀ acc s, I xs.length acc s → s.c k = .lst acc → G s ∧ P (.obj k) s) : (oObj k (lcI k G g ft fe σ0 xs s)).Post P R :=
  lcI_P I xs 0 [] h hk (Nat.le_trans (show _ ≤ 1000 by simpa using hl) (by decide)) (fun i x acc s e hI hc => by
    rw [Nat.zero_add] at hI ⊢
    exact st i x acc s e hI hc) (fun acc s hI hc => by
    rw [Nat.zero_add] at hI
    exact fin acc s hI hc)
end Ab
set_option Elab.async false
set_option linter.all false
set_option maxRecDepth 100000
set_option maxHeartbeats 1000000
namespace Ab
open PySem PySem.Spec PyProof.Rows L2
open Classical
noncomputable section
def Kb {α β : Type} (k : α → Sto → Res β) (P : β → Sto → Prop) (R : String → List Str → List AV → Sto → Prop) : α → Sto → Prop := fun a s => (k a s).Post P R
def Kst {α : Type} (k : α → Sto → SRes) (D : Dn) : α → Sto → Prop := fun a s => (k a s).A D
def Rst (σ : ASt) (D : Dn) : String → List Str → List AV → Sto → Prop := fun c ns vs s => D.er c ns vs σ s
def Dn.thn (f : AS) (D : Dn) : Dn := ⟨fun σ s => (f σ s).A D, D.rt, D.bk, D.ct, D.er⟩
def Dn.lp (f : AS) (D : Dn) : Dn := ⟨fun σ s => (f σ s).A D, D.rt, D.nx, fun σ s => (f σ s).A D, D.er⟩
def Dn.fn (P : AV → Sto → Prop) (R : String → List Str → List AV → Sto → Prop) : Dn := ⟨fun _ s => P .non s, P, fun _ _ => False, fun _ _ => False, fun c ns vs _ s => R c ns vs s⟩
def Dn.fg (n : Nat) (D : Dn) : Dn := ⟨D.nx, D.rt, D.bk, D.ct, fun c ns vs _ s => D.er c ns vs (List.replicate n none) s⟩
def Dn.cl (i : Nat) (D : Dn) : Dn := ⟨fun σ s => D.nx (σ.set i none) s, D.rt, fun σ s => D.bk (σ.set i none) s, fun σ s => D.ct (σ.set i none) s, fun _ _ _ _ _ => False⟩
def Dn.nX (D : Dn) : Dn := ⟨D.nx, D.rt, D.bk, D.ct, fun _ _ _ _ _ => False⟩
def Dn.tr (hs : List HdA) (D : Dn) : Dn := ⟨D.nx, D.rt, D.bk, D.ct, fun c ns vs σ' s' => (aHand c ns vs σ' s' hs).A D⟩
section
variable {α β : Type} {r r' : Res α} {q q' : SRes} {D : Dn}
theorem k_bind {k : α → Sto → Res β} {P : β → Sto → Prop} {R : String → List Str → List AV → Sto → Prop} : (r.bind k).Post P R ↔ r.Post (Kb k P R) R := Res.post_bind
theorem k_Kb {k : α → Sto → Res β} {P : β → Sto → Prop} {R : String → List Str → List AV → Sto → Prop} {a : α} {s : Sto} : Kb k P R a s ↔ (k a s).Post P R := Iff.rfl
theorem k_st {σ : ASt} {k : α → Sto → SRes} : (r.st σ k).A D ↔ r.Post (Kst k D) (Rst σ D) := A_st
theorem k_Kst {k : α → Sto → SRes} {a : α} {s : Sto} : Kst k D a s ↔ (k a s).A D := Iff.rfl
theorem k_Rst {σ : ASt} {c : String} {ns : List Str} {vs : List AV} {s : Sto} : Rst σ D c ns vs s ↔ D.er c ns vs σ s := Iff.rfl
theorem k_thn {f : AS} : (q.thn f).A D ↔ q.A (D.thn f) := A_thn
theorem k_loop {f : AS} : (q.loop f).A D ↔ q.A (D.lp f) := A_loop
theorem k_fn {P : AV → Sto → Prop} {R : String → List Str → List AV → Sto → Prop} : q.fn.Post P R ↔ q.A (Dn.fn P R) := post_fn
theorem k_forget {n : Nat} : (q.forget n).A D ↔ q.A (D.fg n) := A_forget
theorem k_clr {i : Nat} : (q.clr i).A D ↔ q.A (D.cl i) := A_clr
theorem k_noX : q.noX.A D ↔ q.A D.nX := A_noX
theorem k_try {f : AS} {hs : List HdA} {σ : ASt} {s : Sto} : (aTry f hs σ s).A D ↔ (f σ s).A (D.tr hs) := A_try
theorem k_stuck {P : α → Sto → Prop} {R : String → List Str → List AV → Sto → Prop} : (Res.stuck : Res α).Post P R ↔ False := Iff.rfl
theorem k_Astuck : SRes.stuck.A D ↔ False := Iff.rfl
theorem k_iteS {c : Prop} [Decidable c] {a : Res α} {P : α → Sto → Prop} {R : String → List Str → List AV → Sto → Prop} : (if c then a else Res.stuck).Post P R ↔ c ∧ a.Post P R := by
  by_cases h : c
  · simp [h]
  · simp [h, k_stuck]
theorem k_AiteS {c : Prop} [Decidable c] {a : SRes} : (if c then a else SRes.stuck).A D ↔ c ∧ a.A D := by
  by_cases h : c
  · simp [h]
  · simp [h, k_Astuck]
end
def grd {α : Type} (c : Prop) [Decidable c] (r : Res α) : Res α := if c then r else .stuck
def grdS (c : Prop) [Decidable c] (r : SRes) : SRes := if c then r else .stuck
theorem grd_pos {α : Type} {c : Prop} [Decidable c] {a : Res α} (h : c) : grd c a = a := if_pos h
theorem grdS_pos {c : Prop} [Decidable c] {a : SRes} (h : c) : grdS c a = a := if_pos h
theorem k_grd {α : Type} {c : Prop} [Decidable c] {a : Res α} {P : α → Sto → Prop} {R : String → List Str → List AV → Sto → Prop} : (grd c a).Post P R ↔ c ∧ a.Post P R := k_iteS
theorem k_grdS {c : Prop} [Decidable c] {a : SRes} {D : Dn} : (grdS c a).A D ↔ c ∧ a.A D := k_AiteS
theorem k_ite {α : Type} {c : Prop} [Decidable c] {x y : Res α} {P : α → Sto → Prop} {R : String → List Str → List AV → Sto → Prop} : (if c then x else y).Post P R ↔ (c → x.Post P R) ∧ (¬ c → y.Post P R) := post_ite
theorem k_Aite {c : Prop} [Decidable c] {x y : SRes} {D : Dn} : (if c then x else y).A D ↔ (c → x.A D) ∧ (¬ c → y.A D) := A_ite
theorem d_thn_nx {D : Dn} {f : AS} {σ : ASt} {s : Sto} : (D.thn f).nx σ s ↔ (f σ s).A D := Iff.rfl
theorem d_thn_bk {D : Dn} {f : AS} {σ : ASt} {s : Sto} : (D.thn f).bk σ s ↔ D.bk σ s := Iff.rfl
theorem d_thn_ct {D : Dn} {f : AS} {σ : ASt} {s : Sto} : (D.thn f).ct σ s ↔ D.ct σ s := Iff.rfl
theorem d_thn_rt {D : Dn} {f : AS} {v : AV} {s : Sto} : (D.thn f).rt v s ↔ D.rt v s := Iff.rfl
theorem d_thn_er {D : Dn} {f : AS} {σ : ASt} {s : Sto} {c : String} {ns : List Str} {vs : List AV} : (D.thn f).er c ns vs σ s ↔ D.er c ns vs σ s := Iff.rfl
theorem d_lp_nx {D : Dn} {f : AS} {σ : ASt} {s : Sto} : (D.lp f).nx σ s ↔ (f σ s).A D := Iff.rfl
theorem d_lp_bk {D : Dn} {f : AS} {σ : ASt} {s : Sto} : (D.lp f).bk σ s ↔ D.nx σ s := Iff.rfl
theorem d_lp_ct {D : Dn} {f : AS} {σ : ASt} {s : Sto} : (D.lp f).ct σ s ↔ (f σ s).A D := Iff.rfl
theorem d_lp_rt {D : Dn} {f : AS} {v : AV} {s : Sto} : (D.lp f).rt v s ↔ D.rt v s := Iff.rfl
theorem d_lp_er {D : Dn} {f : AS} {σ : ASt} {s : Sto} {c : String} {ns : List Str} {vs : List AV} : (D.lp f).er c ns vs σ s ↔ D.er c ns vs σ s := Iff.rfl
theorem d_fg_nx {D : Dn} {f : Nat} {σ : ASt} {s : Sto} : (D.fg f).nx σ s ↔ D.nx σ s := Iff.rfl
theorem d_fg_bk {D : Dn} {f : Nat} {σ : ASt} {s : Sto} : (D.fg f).bk σ s ↔ D.bk σ s := Iff.rfl
theorem d_fg_ct {D : Dn} {f : Nat} {σ : ASt} {s : Sto} : (D.fg f).ct σ s ↔ D.ct σ s := Iff.rfl
theorem d_fg_rt {D : Dn} {f : Nat} {v : AV} {s : Sto} : (D.fg f).rt v s ↔ D.rt v s := Iff.rfl
theorem d_fg_er {D : Dn} {f : Nat} {σ : ASt} {s : Sto} {c : String} {ns : List Str} {vs : List AV} : (D.fg f).er c ns vs σ s ↔ D.er c ns vs (List.replicate f none) s := Iff.rfl
theorem d_cl_nx {D : Dn} {f : Nat} {σ : ASt} {s : Sto} : (D.cl f).nx σ s ↔ D.nx (σ.set f none) s := Iff.rfl
theorem d_cl_bk {D : Dn} {f : Nat} {σ : ASt} {s : Sto} : (D.cl f).bk σ s ↔ D.bk (σ.set f none) s := Iff.rfl
theorem d_cl_ct {D : Dn} {f : Nat} {σ : ASt} {s : Sto} : (D.cl f).ct σ s ↔ D.ct (σ.set f none) s := Iff.rfl
theorem d_cl_rt {D : Dn} {f : Nat} {v : AV} {s : Sto} : (D.cl f).rt v s ↔ D.rt v s := Iff.rfl
theorem d_cl_er {D : Dn} {f : Nat} {σ : ASt} {s : Sto} {c : String} {ns : List Str} {vs : List AV} : (D.cl f).er c ns vs σ s ↔ False := Iff.rfl
theorem d_tr_nx {D : Dn} {f : List HdA} {σ : ASt} {s : Sto} : (D.tr f).nx σ s ↔ D.nx σ s := Iff.rfl
theorem d_tr_bk {D : Dn} {f : List HdA} {σ : ASt} {s : Sto} : (D.tr f).bk σ s ↔ D.bk σ s := Iff.rfl
theorem d_tr_ct {D : Dn} {f : List HdA} {σ : ASt} {s : Sto} : (D.tr f).ct σ s ↔ D.ct σ s := Iff.rfl
theorem d_tr_rt {D : Dn} {f : List HdA} {v : AV} {s : Sto} : (D.tr f).rt v s ↔ D.rt v s := Iff.rfl
theorem d_tr_er {D : Dn} {f : List HdA} {σ : ASt} {s : Sto} {c : String} {ns : List Str} {vs : List AV} : (D.tr f).er c ns vs σ s ↔ (aHand c ns vs σ s f).A D := Iff.rfl
theorem d_nX_nx {D : Dn} {σ : ASt} {s : Sto} : D.nX.nx σ s ↔ D.nx σ s := Iff.rfl
theorem d_nX_bk {D : Dn} {σ : ASt} {s : Sto} : D.nX.bk σ s ↔ D.bk σ s := Iff.rfl
theorem d_nX_ct {D : Dn} {σ : ASt} {s : Sto} : D.nX.ct σ s ↔ D.ct σ s := Iff.rfl
theorem d_nX_rt {D : Dn} {v : AV} {s : Sto} : D.nX.rt v s ↔ D.rt v s := Iff.rfl
theorem d_nX_er {D : Dn} {σ : ASt} {s : Sto} {c : String} {ns : List Str} {vs : List AV} : D.nX.er c ns vs σ s ↔ False := Iff.rfl
theorem d_fn_nx {P : AV → Sto → Prop} {R : String → List Str → List AV → Sto → Prop} {σ : ASt} {s : Sto} : (Dn.fn P R).nx σ s ↔ P .non s := Iff.rfl
theorem d_fn_bk {P : AV → Sto → Prop} {R : String → List Str → List AV → Sto → Prop} {σ : ASt} {s : Sto} : (Dn.fn P R).bk σ s ↔ False := Iff.rfl
theorem d_fn_ct {P : AV → Sto → Prop} {R : String → List Str → List AV → Sto → Prop} {σ : ASt} {s : Sto} : (Dn.fn P R).ct σ s ↔ False := Iff.rfl
theorem d_fn_rt {P : AV → Sto → Prop} {R : String → List Str → List AV → Sto → Prop} {v : AV} {s : Sto} : (Dn.fn P R).rt v s ↔ P v s := Iff.rfl
theorem d_fn_er {P : AV → Sto → Prop} {R : String → List Str → List AV → Sto → Prop} {σ : ASt} {s : Sto} {c : String} {ns : List Str} {vs : List AV} : (Dn.fn P R).er c ns vs σ s ↔ R c ns vs s := Iff.rfl
def opK1 (g : AV → AV → Sto → Res AV) (fb : AE) (σ : ASt) : AV → Sto → Res AV := fun x s1 => (fb σ s1).bind (g x)
theorem e_op {fa fb : AE} {σ : ASt} {s : Sto} {g : AV → AV → Sto → Res AV} : aOp g fa fb σ s = (fa σ s).bind (opK1 g fb σ) := rfl
theorem e_opK {fb : AE} {σ : ASt} {s : Sto} {g : AV → AV → Sto → Res AV} {x : AV} : opK1 g fb σ x s = (fb σ s).bind (g x) := rfl
theorem e_un {fa : AE} {σ : ASt} {s : Sto} {g : AV → Sto → Res AV} : aUn g fa σ s = (fa σ s).bind g := rfl
theorem e_cb {fr : AA} {σ : ASt} {s : Sto} {g : List AV → Sto → Res AV} : aCB g fr σ s = (fr σ s).bind g := rfl
theorem e_nil {σ : ASt} {s : Sto} : aNil σ s = .ok [] s := rfl
theorem e_c {v : AV} {σ : ASt} {s : Sto} : aC v σ s = .ok v s := rfl
def consK2 (x : AV) : List AV → Sto → Res (List AV) := fun xs s => .ok (x :: xs) s
def consK1 (fr : AA) (σ : ASt) : AV → Sto → Res (List AV) := fun x s1 => (fr σ s1).bind (consK2 x)
theorem e_cons {fa : AE} {fr : AA} {σ : ASt} {s : Sto} : aCons fa fr σ s = (fa σ s).bind (consK1 fr σ) := rfl
theorem e_consK {fr : AA} {σ : ASt} {s : Sto} {x : AV} : consK1 fr σ x s = (fr σ s).bind (consK2 x) := rfl
theorem e_consK2 {x : AV} {xs : List AV} {s : Sto} : consK2 x xs s = .ok (x :: xs) s := rfl
def andK (fb : AE) (σ : ASt) : AV → Sto → Res AV := fun x s1 => match x with | .bl true => fb σ s1 | .bl false => .ok (.bl false) s1 | _ => .stuck
def orK (fb : AE) (σ : ASt) : AV → Sto → Res AV := fun x s1 => match x with | .bl false => fb σ s1 | .bl true => .ok (.bl true) s1 | _ => .stuck
theorem e_and {fa fb : AE} {σ : ASt} {s : Sto} : aAndV fa fb σ s = (fa σ s).bind (andK fb σ) := rfl
theorem e_or {fa fb : AE} {σ : ASt} {s : Sto} : aOrV fa fb σ s = (fa σ s).bind (orK fb σ) := rfl
theorem e_andK {fb : AE} {σ : ASt} {s : Sto} {b : Bool} : andK fb σ (.bl b) s = if b = true then fb σ s else .ok (.bl false) s := by cases b <;> rfl
theorem e_orK {fb : AE} {σ : ASt} {s : Sto} {b : Bool} : orK fb σ (.bl b) s = if b = true then .ok (.bl true) s else fb σ s := by cases b <;> rfl
def notK  : AV → Sto → Res AV := fun x s1 => match x with | .bl b => .ok (.bl (!b)) s1 | _ => .stuck
theorem e_not {fa : AE} {σ : ASt} {s : Sto} : aNotV fa σ s = (fa σ s).bind notK := rfl
theorem e_notK {b : Bool} {s : Sto} : notK (.bl b) s = .ok (.bl (!b)) s := rfl
def testK  : AV → Sto → Res Bool := fun x s1 => match x with | .bl b => .ok b s1 | _ => .stuck
theorem e_test {fa : AE} {σ : ASt} {s : Sto} : aTest fa σ s = (fa σ s).bind testK := rfl
theorem e_testK {b : Bool} {s : Sto} : testK (.bl b) s = .ok b s := rfl
def tandK (u : AT) (σ : ASt) : Bool → Sto → Res Bool := fun b s1 => if b = true then u σ s1 else .ok false s1
def torK (u : AT) (σ : ASt) : Bool → Sto → Res Bool := fun b s1 => if b = true then .ok true s1 else u σ s1
def tnotK  : Bool → Sto → Res Bool := fun b s1 => .ok (!b) s1
theorem e_tand {t u : AT} {σ : ASt} {s : Sto} : aAnd t u σ s = (t σ s).bind (tandK u σ) := rfl
theorem e_tandK {u : AT} {σ : ASt} {s : Sto} {b : Bool} : tandK u σ b s = if b = true then u σ s else .ok false s := rfl
theorem e_tor {t u : AT} {σ : ASt} {s : Sto} : aOr t u σ s = (t σ s).bind (torK u σ) := rfl
theorem e_torK {u : AT} {σ : ASt} {s : Sto} {b : Bool} : torK u σ b s = if b = true then .ok true s else u σ s := rfl
theorem e_tnot {t : AT} {σ : ASt} {s : Sto} : aNot t σ s = (t σ s).bind tnotK := rfl
theorem e_tnotK {b : Bool} {s : Sto} : tnotK b s = .ok (!b) s := rfl
theorem e_yes {σ : ASt} {s : Sto} : aYes σ s = .ok true s := rfl
def ifK (fa fb : AE) (σ : ASt) : Bool → Sto → Res AV := fun b s1 => if b = true then fa σ s1 else fb σ s1
theorem e_if {fa fb : AE} {t : AT} {σ : ASt} {s : Sto} : aIf t fa fb σ s = (t σ s).bind (ifK fa fb σ) := rfl
theorem e_ifK {fa fb : AE} {σ : ASt} {s : Sto} {b : Bool} : ifK fa fb σ b s = if b = true then fa σ s else fb σ s := rfl
def chK3 (r' : AV → AV → Sto → Res AV) (fc : AE) (σ : ASt) (y : AV) : AV → Sto → Res AV := fun z s3 => match z with | .bl true => (fc σ s3).bind (r' y) | .bl false => .ok (.bl false) s3 | _ => .stuck
def chK2 (r r' : AV → AV → Sto → Res AV) (fc : AE) (σ : ASt) (x : AV) : AV → Sto → Res AV := fun y s2 => (r x y s2).bind (chK3 r' fc σ y)
def chK1 (r r' : AV → AV → Sto → Res AV) (fb fc : AE) (σ : ASt) : AV → Sto → Res AV := fun x s1 => (fb σ s1).bind (chK2 r r' fc σ x)
theorem e_ch {fa fb fc : AE} {σ : ASt} {s : Sto} {r r' : AV → AV → Sto → Res AV} : aChain r r' fa fb fc σ s = (fa σ s).bind (chK1 r r' fb fc σ) := rfl
theorem e_chK1 {fb fc : AE} {σ : ASt} {s : Sto} {r r' : AV → AV → Sto → Res AV} {x : AV} : chK1 r r' fb fc σ x s = (fb σ s).bind (chK2 r r' fc σ x) := rfl
theorem e_chK2 {fc : AE} {σ : ASt} {s : Sto} {r r' : AV → AV → Sto → Res AV} {x y : AV} : chK2 r r' fc σ x y s = (r x y s).bind (chK3 r' fc σ y) := rfl
theorem e_chK3 {fc : AE} {σ : ASt} {s : Sto} {r' : AV → AV → Sto → Res AV} {y : AV} {b : Bool} : chK3 r' fc σ y (.bl b) s = if b = true then (fc σ s).bind (r' y) else .ok (.bl false) s := by cases b <;> rfl
def tupK  : List AV → Sto → Res AV := fun xs s1 => if xs.length ≤ sizeLine then .ok (.tup xs) s1 else .stuck
def lstK  : List AV → Sto → Res AV := fun xs s1 => if xs.length ≤ sizeLine then newL xs s1 else .stuck
theorem e_tup {fr : AA} {σ : ASt} {s : Sto} : aTup fr σ s = (fr σ s).bind tupK := rfl
theorem e_tupK {xs : List AV} {s : Sto} : tupK xs s = grd (xs.length ≤ sizeLine) (.ok (.tup xs) s) := rfl
theorem e_lst {fr : AA} {σ : ASt} {s : Sto} : aLst fr σ s = (fr σ s).bind lstK := rfl
theorem e_lstK {xs : List AV} {s : Sto} : lstK xs s = grd (xs.length ≤ sizeLine) (newL xs s) := rfl
theorem e_newL {xs : List AV} {s : Sto} : newL xs s = .ok (.obj s.n) (s.new (.lst xs)) := rfl
def callK (n : Nat) (F : List AV → Sto → Res AV) (dvs : List AV) : List AV → Sto → Res AV := fun xs s1 => if (xs ++ dvs).length = n then F (xs ++ dvs) s1 else .stuck
theorem e_call {fr : AA} {σ : ASt} {s : Sto} {n : Nat} {F : List AV → Sto → Res AV} {dvs : List AV} : aCall n F dvs fr σ s = (fr σ s).bind (callK n F dvs) := rfl
theorem e_callK {n : Nat} {F : List AV → Sto → Res AV} {dvs : List AV} {xs : List AV} {s : Sto} : callK n F dvs xs s = grd ((xs ++ dvs).length = n) (F (xs ++ dvs) s) := rfl
def methK2 (n : Nat) (F : List AV → Sto → Res AV) (dvs : List AV) (x : AV) : List AV → Sto → Res AV := fun xs s2 => if (x :: (xs ++ dvs)).length = n then F (x :: (xs ++ dvs)) s2 else .stuck
def methK (c : String) (m : Str) (n : Nat) (F : List AV → Sto → Res AV) (dvs : List AV) (fr : AA) (σ : ASt) : AV → Sto → Res AV := fun x s1 => if clsIs s1 x c m = true then (fr σ s1).bind (methK2 n F dvs x) else .stuck
theorem e_meth {fa : AE} {fr : AA} {σ : ASt} {s : Sto} {n : Nat} {F : List AV → Sto → Res AV} {dvs : List AV} {c : String} {m : Str} : aMeth c m n F dvs fa fr σ s = (fa σ s).bind (methK c m n F dvs fr σ) := rfl
theorem e_methK {fr : AA} {σ : ASt} {s : Sto} {n : Nat} {F : List AV → Sto → Res AV} {dvs : List AV} {c : String} {m : Str} {x : AV} : methK c m n F dvs fr σ x s = grd (clsIs s x c m = true) ((fr σ s).bind (methK2 n F dvs x)) := rfl
theorem e_methK2 {n : Nat} {F : List AV → Sto → Res AV} {dvs : List AV} {x : AV} {xs : List AV} {s : Sto} : methK2 n F dvs x xs s = grd ((x :: (xs ++ dvs)).length = n) (F (x :: (xs ++ dvs)) s) := rfl
def propK (c : String) (F : List AV → Sto → Res AV) : AV → Sto → Res AV := fun x s1 => if isI s1 x c = true then noErr (F [x] s1) else .stuck
theorem e_prop {fa : AE} {σ : ASt} {s : Sto} {F : List AV → Sto → Res AV} {c : String} : aProp c F fa σ s = (fa σ s).bind (propK c F) := rfl
theorem e_propK {F : List AV → Sto → Res AV} {c : String} {x : AV} {s : Sto} : propK c F x s = grd (isI s x c = true) (noErr (F [x] s)) := rfl
def makeK2 (o : Nat) : AV → Sto → Res AV := fun v s2 => if isNon v = true then .ok (.obj o) s2 else .stuck
def makeK (c : String) (n : Nat) (F : List AV → Sto → Res AV) (dvs : List AV) : List AV → Sto → Res AV := fun xs s1 => if (AV.obj s1.n :: (xs ++ dvs)).length = n then (F (.obj s1.n :: (xs ++ dvs)) (s1.new (.ins c []))).bind (makeK2 s1.n) else .stuck
theorem e_make {fr : AA} {σ : ASt} {s : Sto} {n : Nat} {F : List AV → Sto → Res AV} {dvs : List AV} {c : String} : aMake c n F dvs fr σ s = (fr σ s).bind (makeK c n F dvs) := rfl
theorem e_makeK {n : Nat} {F : List AV → Sto → Res AV} {dvs : List AV} {c : String} {xs : List AV} {s : Sto} : makeK c n F dvs xs s = grd ((AV.obj s.n :: (xs ++ dvs)).length = n) ((F (.obj s.n :: (xs ++ dvs)) (s.new (.ins c []))).bind (makeK2 s.n)) := rfl
theorem e_makeK2 {o : Nat} {s : Sto} : makeK2 o .non s = .ok (.obj o) s := rfl
theorem e_makeV {fr : AA} {σ : ASt} {s : Sto} {n : Nat} {F : List AV → Sto → Res AV} {c : String} {i : Nat} {d : String} : aMakeV i c n F fr σ s = match σ[i]? with | some (some (.cls d)) => if d = c then aMake c n F [] fr σ s else .stuck | _ => .stuck := rfl
def smK2 (n : Nat) (F : List AV → Sto → Res AV) : List AV → Sto → Res AV := fun xs s2 => if (xs ++ []).length = n then F (xs ++ []) s2 else .stuck
def smK (c : String) (n : Nat) (F : List AV → Sto → Res AV) (fr : AA) (σ : ASt) : AV → Sto → Res AV := fun x s1 => if isCls c x = true then (fr σ s1).bind (smK2 n F) else .stuck
theorem e_sm {fa : AE} {fr : AA} {σ : ASt} {s : Sto} {n : Nat} {F : List AV → Sto → Res AV} {c : String} : aSMeth c n F fa fr σ s = (fa σ s).bind (smK c n F fr σ) := rfl
theorem e_smK {fr : AA} {σ : ASt} {s : Sto} {n : Nat} {F : List AV → Sto → Res AV} {c : String} {x : AV} : smK c n F fr σ x s = grd (isCls c x = true) ((fr σ s).bind (smK2 n F)) := rfl
theorem e_smK2 {n : Nat} {F : List AV → Sto → Res AV} {xs : List AV} {s : Sto} : smK2 n F xs s = grd ((xs ++ []).length = n) (F (xs ++ []) s) := rfl
def cmK2 (c : String) (n : Nat) (F : List AV → Sto → Res AV) : List AV → Sto → Res AV := fun xs s2 => if (AV.cls c :: (xs ++ [])).length = n then F (.cls c :: (xs ++ [])) s2 else .stuck
def cmK (c : String) (n : Nat) (F : List AV → Sto → Res AV) (fr : AA) (σ : ASt) : AV → Sto → Res AV := fun x s1 => if isCls c x = true then (fr σ s1).bind (cmK2 c n F) else .stuck
theorem e_cm {fa : AE} {fr : AA} {σ : ASt} {s : Sto} {n : Nat} {F : List AV → Sto → Res AV} {c : String} : aCMeth c n F fa fr σ s = (fa σ s).bind (cmK c n F fr σ) := rfl
theorem e_cmK {fr : AA} {σ : ASt} {s : Sto} {n : Nat} {F : List AV → Sto → Res AV} {c : String} {x : AV} : cmK c n F fr σ x s = grd (isCls c x = true) ((fr σ s).bind (cmK2 c n F)) := rfl
theorem e_cmK2 {n : Nat} {F : List AV → Sto → Res AV} {c : String} {xs : List AV} {s : Sto} : cmK2 c n F xs s = grd ((AV.cls c :: (xs ++ [])).length = n) (F (.cls c :: (xs ++ [])) s) := rfl
def slK3 (x : AV) (l : Option Int) : Option Int → Sto → Res AV := fun u s3 => gSl x l u s3
def slK2 (fh : AO) (σ : ASt) (x : AV) : Option Int → Sto → Res AV := fun l s2 => (fh σ s2).bind (slK3 x l)
def slK1 (fl fh : AO) (σ : ASt) : AV → Sto → Res AV := fun x s1 => (fl σ s1).bind (slK2 fh σ x)
theorem e_sl {fa : AE} {σ : ASt} {s : Sto} {fl fh : AO} : aSl fa fl fh σ s = (fa σ s).bind (slK1 fl fh σ) := rfl
theorem e_slK1 {σ : ASt} {s : Sto} {fl fh : AO} {x : AV} : slK1 fl fh σ x s = (fl σ s).bind (slK2 fh σ x) := rfl
theorem e_slK2 {σ : ASt} {s : Sto} {fh : AO} {x : AV} {l : Option Int} : slK2 fh σ x l s = (fh σ s).bind (slK3 x l) := rfl
theorem e_slK3 {s : Sto} {x : AV} {l h : Option Int} : slK3 x l h s = gSl x l h s := rfl
def partK  : AV → Sto → Res (Option Int) := fun x s1 => match x with | .int i => .ok (some i) s1 | _ => .stuck
theorem e_part {fa : AE} {σ : ASt} {s : Sto} : aPart fa σ s = (fa σ s).bind partK := rfl
theorem e_partK {i : Int} {s : Sto} : partK (.int i) s = .ok (some i) s := rfl
theorem e_nopart {σ : ASt} {s : Sto} : aNoPart σ s = .ok none s := rfl
def revK  : AV → Sto → Res AV := fun x s1 => match lstOf s1 x with | some xs => newL xs.reverse s1 | none => .stuck
theorem e_rev {fa : AE} {σ : ASt} {s : Sto} : aRev fa σ s = (fa σ s).bind revK := rfl
def bmK (g : AV → List AV → Sto → Res AV) (fr : AA) (σ : ASt) : AV → Sto → Res AV := fun x s1 => if isSeqL s1 x = true then (fr σ s1).bind (g x) else .stuck
theorem e_bm {fa : AE} {fr : AA} {σ : ASt} {s : Sto} {g : AV → List AV → Sto → Res AV} : aBM g fa fr σ s = (fa σ s).bind (bmK g fr σ) := rfl
theorem e_bmK {fr : AA} {σ : ASt} {s : Sto} {g : AV → List AV → Sto → Res AV} {x : AV} : bmK g fr σ x s = grd (isSeqL s x = true) ((fr σ s).bind (g x)) := rfl
def prK3 (x y : AV) : List (AV × AV) → Sto → Res (List (AV × AV)) := fun ps s3 => .ok ((x, y) :: ps) s3
def prK2 (r : List (AE × AE)) (σ : ASt) (x : AV) : AV → Sto → Res (List (AV × AV)) := fun y s2 => (aPairs r σ s2).bind (prK3 x y)
def prK1 (fv : AE) (r : List (AE × AE)) (σ : ASt) : AV → Sto → Res (List (AV × AV)) := fun x s1 => (fv σ s1).bind (prK2 r σ x)
def dispK (n : Nat) : List (AV × AV) → Sto → Res AV := fun ps s1 => match s1.c n, keysA ps with | .dic [], some kvs => if kvs.length ≤ 15 then .ok (.obj n) (s1.set n (.dic (mergeA [] kvs))) else .stuck | _, _ => .stuck
theorem e_pr {fa fb : AE} {σ : ASt} {s : Sto} {r : List (AE × AE)} : aPairs ((fa, fb) :: r) σ s = (fa σ s).bind (prK1 fb r σ) := rfl
theorem e_pr0 {σ : ASt} {s : Sto} : aPairs [] σ s = .ok [] s := rfl
theorem e_prK1 {fb : AE} {σ : ASt} {s : Sto} {r : List (AE × AE)} {x : AV} : prK1 fb r σ x s = (fb σ s).bind (prK2 r σ x) := rfl
theorem e_prK2 {σ : ASt} {s : Sto} {r : List (AE × AE)} {x y : AV} : prK2 r σ x y s = (aPairs r σ s).bind (prK3 x y) := rfl
theorem e_prK3 {s : Sto} {x y : AV} {ps : List (AV × AV)} : prK3 x y ps s = .ok ((x, y) :: ps) s := rfl
theorem e_disp {σ : ASt} {s : Sto} {fs : List (AE × AE)} : aDisp fs σ s = (aPairs fs σ (s.new (.dic []))).bind (dispK s.n) := rfl
theorem e_dispK {s1 : Sto} {n : Nat} {ps : List (AV × AV)} {kvs : List (Key × AV)} (h : s1.c n = .dic []) (k : keysA ps = some kvs) (l : kvs.length ≤ 15) : dispK n ps s1 = .ok (.obj n) (s1.set n (.dic (mergeA [] kvs))) := by unfold dispK; simp only [h, k, if_pos l]
theorem e_dnew {σ : ASt} {s : Sto} : aDNew σ s = .ok (.obj s.n) (s.new (.dic [])) := rfl
def ownK1 (c : String) (ts : List String) (F : List AV → Sto → Res AV) (fb : AE) (σ : ASt) : AV → Sto → Res AV := fun x s1 => (fb σ s1).bind (gOwn c ts F x)
theorem e_own {fa fb : AE} {σ : ASt} {s : Sto} {n : Nat} {F : List AV → Sto → Res AV} {c : String} {ts : List String} : aOwn c ts n F fa fb σ s = (fa σ s).bind (ownK1 c ts F fb σ) := rfl
theorem e_ownK {fb : AE} {σ : ASt} {s : Sto} {F : List AV → Sto → Res AV} {c : String} {ts : List String} {x : AV} : ownK1 c ts F fb σ x s = (fb σ s).bind (gOwn c ts F x) := rfl
def lcK (g : AV → AS) (ft : AT) (fe : AE) (vs : List Nat) (σ : ASt) : List AV × (Sto → Prop) → Sto → Res AV := fun p s1 => oObj s1.n (lcI s1.n p.2 g ft fe (wipeA σ vs) p.1 (s1.new (.lst [])))
theorem e_lc {fa : AE} {t : AT} {σ : ASt} {s : Sto} {fi : AI} {g : AV → AS} {vs : List Nat} : aLc fi g t fa vs σ s = (fi σ s).bind (lcK g t fa vs σ) := rfl
theorem e_lcK {fa : AE} {t : AT} {σ : ASt} {s : Sto} {g : AV → AS} {vs : List Nat} {xs : List AV} {G : Sto → Prop} : lcK g t fa vs σ (xs, G) s = oObj s.n (lcI s.n G g t fa (wipeA σ vs) xs (s.new (.lst []))) := rfl
theorem e_iter {fa : AE} {σ : ASt} {s : Sto} : aIter fa σ s = (fa σ s).bind iterOf := rfl
def rng1K  : List AV → Sto → Res (List AV × (Sto → Prop)) := fun xs s1 => match xs with | [.int j] => if -(2 ^ 62) ≤ j ∧ j < 2 ^ 62 then .ok (rngA 0 j.toNat, fun _ => True) s1 else .stuck | _ => .stuck
def rng2K  : List AV → Sto → Res (List AV × (Sto → Prop)) := fun xs s1 => match xs with | [.int i, .int j] => if -(2 ^ 62) ≤ i ∧ i < 2 ^ 62 ∧ -(2 ^ 62) ≤ j ∧ j < 2 ^ 62 then .ok (rngA i (j - i).toNat, fun _ => True) s1 else .stuck | _ => .stuck
theorem e_rng1 {fr : AA} {σ : ASt} {s : Sto} : aRng1 fr σ s = (fr σ s).bind rng1K := rfl
theorem e_rng1K {j : Int} {s : Sto} : rng1K [.int j] s = grd (-(2 ^ 62) ≤ j ∧ j < 2 ^ 62) (.ok (rngA 0 j.toNat, fun _ => True) s) := rfl
theorem e_rng2 {fr : AA} {σ : ASt} {s : Sto} : aRng2 fr σ s = (fr σ s).bind rng2K := rfl
theorem e_rng2K {i j : Int} {s : Sto} : rng2K [.int i, .int j] s = grd (-(2 ^ 62) ≤ i ∧ i < 2 ^ 62 ∧ -(2 ^ 62) ≤ j ∧ j < 2 ^ 62) (.ok (rngA i (j - i).toNat, fun _ => True) s) := rfl
def enumK  : List AV → Sto → Res (List AV × (Sto → Prop)) := fun xs s1 => match xs with | [x] => (match lstOf s1 x with | some ys => .ok (enumA ys, fun s2 => lstOf s2 x = some ys) s1 | none => .stuck) | _ => .stuck
theorem e_enum {fr : AA} {σ : ASt} {s : Sto} : aEnum fr σ s = (fr σ s).bind enumK := rfl
theorem e_enumK {x : AV} {ys : List AV} {s : Sto} (h : lstOf s x = some ys) : enumK [x] s = .ok (enumA ys, fun s2 => lstOf s2 x = some ys) s := by unfold enumK; simp only [h]
theorem iterOf_l {i : Nat} {ys : List AV} {s : Sto} (h : lstOf s (.obj i) = some ys) : iterOf (.obj i) s = .ok (ys, fun s2 => lstOf s2 (.obj i) = some ys) s := by
  show (match lstOf s (.obj i) with | some xs => (.ok (xs, fun s2 => lstOf s2 (.obj i) = some xs) s : Res (List AV × (Sto → Prop))) | none => .stuck) = _
  rw [h]
def dropK (σ : ASt) : AV → Sto → SRes := fun _ s1 => .nx σ s1
theorem s_drop {fa : AE} {σ : ASt} {s : Sto} : aDrop fa σ s = (fa σ s).st σ (dropK σ) := rfl
theorem s_dropK {σ : ASt} {s : Sto} {v : AV} : dropK σ v s = .nx σ s := rfl
def retK  : AV → Sto → SRes := fun v s1 => .rt v s1
theorem s_ret {fa : AE} {σ : ASt} {s : Sto} : aRet fa σ s = (fa σ s).st σ retK := rfl
theorem s_retK {v : AV} {s : Sto} : retK v s = .rt v s := rfl
theorem s_retN {σ : ASt} {s : Sto} : aRetN σ s = .rt .non s := rfl
theorem s_next {σ : ASt} {s : Sto} : aNext σ s = .nx σ s := rfl
theorem s_break {σ : ASt} {s : Sto} : aBreak σ s = .bk σ s := rfl
theorem s_cont {σ : ASt} {s : Sto} : aCont σ s = .ct σ s := rfl
theorem s_seq {f1 f2 : AS} {σ : ASt} {s : Sto} : aSeq f1 f2 σ s = (f1 σ s).thn f2 := rfl
def ifSK (f g : AS) (σ : ASt) : Bool → Sto → SRes := fun b s1 => if b = true then f σ s1 else g σ s1
theorem s_if {t : AT} {f1 f2 : AS} {σ : ASt} {s : Sto} : aIfS t f1 f2 σ s = (t σ s).st σ (ifSK f1 f2 σ) := rfl
theorem s_ifK {f1 f2 : AS} {σ : ASt} {s : Sto} {b : Bool} : ifSK f1 f2 σ b s = if b = true then f1 σ s else f2 σ s := rfl
def asgK (g : AV → AS) (σ : ASt) : AV → Sto → SRes := fun v s1 => g v σ s1
theorem s_asg {fa : AE} {σ : ASt} {s : Sto} {g : AV → AS} : aAsg fa g σ s = (fa σ s).st σ (asgK g σ) := rfl
theorem s_asgK {σ : ASt} {s : Sto} {g : AV → AS} {v : AV} : asgK g σ v s = g v σ s := rfl
theorem s_name {σ : ASt} {s : Sto} {i : Nat} {v : AV} : agName i v σ s = .nx (σ.set i (some v)) s := rfl
theorem s_par {fr : AA} {σ : ASt} {s : Sto} {i j : Nat} : aPar i j fr σ s = (fr σ s).st σ (parK i j σ) := rfl
theorem s_parK {σ : ASt} {s : Sto} {i j : Nat} {v u : AV} : parK i j σ [v, u] s = .nx ((σ.set i (some v)).set j (some u)) s := rfl
theorem s_par3 {fr : AA} {σ : ASt} {s : Sto} {i j l : Nat} : aPar3 i j l fr σ s = (fr σ s).st σ (parK3 i j l σ) := rfl
theorem s_parK3 {σ : ASt} {s : Sto} {i j l : Nat} {v u w : AV} : parK3 i j l σ [v, u, w] s = .nx (((σ.set i (some v)).set j (some u)).set l (some w)) s := rfl
theorem s_gnil {σ : ASt} {s : Sto} : agNil [] σ s = .nx σ s := rfl
theorem s_gcons {σ : ASt} {s : Sto} {g : AV → AS} {h : List AV → AS} {x : AV} {r : List AV} : agCons g h (x :: r) σ s = (g x σ s).thn (h r) := rfl
theorem s_gtup {σ : ASt} {s : Sto} {n : Nat} {g : List AV → AS} {xs : List AV} : agTup n g (.tup xs) σ s = grdS (xs.length = n) (g xs σ s) := rfl
def forK (g : AV → AS) (b : AS) (σ : ASt) : List AV × (Sto → Prop) → Sto → SRes := fun p s1 => forI p.2 g b p.1 σ s1
theorem s_for {f1 : AS} {σ : ASt} {s : Sto} {fi : AI} {g : AV → AS} : aFor fi g f1 σ s = (fi σ s).st σ (forK g f1 σ) := rfl
theorem s_forK {f1 : AS} {σ : ASt} {s : Sto} {g : AV → AS} {xs : List AV} {G : Sto → Prop} : forK g f1 σ (xs, G) s = forI G g f1 xs σ s := rfl
theorem s_raise {fr : AA} {σ : ASt} {s : Sto} {c : String} {fl : Str} : aRaise c fl fr σ s = (fr σ s).st σ (raiseK c fl σ) := rfl
theorem s_raiseK {σ : ASt} {s : Sto} {c : String} {fl : Str} {v : AV} : raiseK c fl σ [v] s = .err c [fl] [v] σ s := rfl
def sfK2 (cs : List String) (f : Str) (σ : ASt) (y : AV) : AV → Sto → SRes := fun x s2 => oNx σ (setF cs f x y s2)
def sfK1 (cs : List String) (f : Str) (fo : AE) (σ : ASt) : AV → Sto → SRes := fun y s1 => (fo σ s1).st σ (sfK2 cs f σ y)
theorem s_sf {fa fb : AE} {σ : ASt} {s : Sto} {cs : List String} {f : Str} : aSFld cs f fa fb σ s = (fb σ s).st σ (sfK1 cs f fa σ) := rfl
theorem s_sfK1 {fa : AE} {σ : ASt} {s : Sto} {cs : List String} {f : Str} {y : AV} : sfK1 cs f fa σ y s = (fa σ s).st σ (sfK2 cs f σ y) := rfl
theorem s_sfK2 {σ : ASt} {s : Sto} {cs : List String} {f : Str} {x y : AV} : sfK2 cs f σ y x s = oNx σ (setF cs f x y s) := rfl
def dpK3 (σ : ASt) (z x : AV) : AV → Sto → SRes := fun y s3 => oNx σ (setD x y z s3)
def dpK2 (fy : AE) (σ : ASt) (z : AV) : AV → Sto → SRes := fun x s2 => (fy σ s2).st σ (dpK3 σ z x)
def dpK1 (fd fy : AE) (σ : ASt) : AV → Sto → SRes := fun z s1 => (fd σ s1).st σ (dpK2 fy σ z)
theorem s_dp {fa fb fc : AE} {σ : ASt} {s : Sto} : aDPut fa fb fc σ s = (fc σ s).st σ (dpK1 fa fb σ) := rfl
theorem s_dpK1 {fa fb : AE} {σ : ASt} {s : Sto} {z : AV} : dpK1 fa fb σ z s = (fa σ s).st σ (dpK2 fb σ z) := rfl
theorem s_dpK2 {fb : AE} {σ : ASt} {s : Sto} {x z : AV} : dpK2 fb σ z x s = (fb σ s).st σ (dpK3 σ z x) := rfl
theorem s_dpK3 {σ : ASt} {s : Sto} {x y z : AV} : dpK3 σ z x y s = oNx σ (setD x y z s) := rfl
theorem s_forget {f1 : AS} {σ : ASt} {s : Sto} {n : Nat} : aForget n f1 σ s = (f1 σ s).forget n := rfl
theorem s_def {k : Nat} {f : AS} {args : List AV} {s : Sto} : aDef k f args s = (f (args.map some ++ List.replicate k none) s).fn := rfl
theorem s_fld {fa : AE} {σ : ASt} {s : Sto} {cs : List String} {f : Str} : aFld cs f fa σ s = (fa σ s).bind (gFld cs f) := rfl
end
end Ab
set_option Elab.async false
set_option linter.all false
set_option maxRecDepth 100000
set_option maxHeartbeats 1000000
namespace Ab
open PySem PySem.Spec PyProof.Rows L2
open Classical
theorem u65 {k : Nat} {A : Around} (r : Room k A) : A.units + 65 < cLine := by have := r.un; omega
noncomputable section
section
variable {W : Wl} {E : L2.St → XK} {ta tb to tv te : TE} {fa fb fo fv : AE} {tr : TA} {fr : AA}
theorem setF_okC {w : Wd} {s s' : Sto} {c : String} {f : Str} {x y : AV} {v u : V} (S : Sim W w s) (rx : Rel W w x v) (ry : Rel W w y u) (h : setF [c] f x y s = some s') :
    ∃ a dx gs, v = .ref a ∧ w.H a = some (.ins (W.κ c) dx gs) ∧ gs.length < 1000 ∧ ∃ w', w'.H = upd w.H a (.ins (W.κ c) dx (putF f u gs)) ∧ Ext w w' ∧ Sim W w' s' := by
  unfold setF at h
  split at h
  · rename_i i
    split at h
    · rename_i c' fs e
      split at h
      · rename_i hh
        cases h
        obtain ⟨o, h1, h2, h3, h4⟩ := cell_at S rx e
        cases List.mem_singleton.mp hh.1
        cases h4 with
        | @ins _ dx _ gs hl r =>
          refine ⟨_, dx, gs, h2, h3, ?_, _, rfl, .wr S h1, S.wr h1 (.ins hl (put_rel ry r))⟩
          rw [← Paired.length r]; exact hh.2
      · cases h
    · cases h
  · cases h
def faug3 (c : String) (f : Str) (σ : ASt) (x : AV) : AV → Sto → SRes := fun z s3 => oNx σ (setF [c] f x z s3)
def faug2 (c : String) (f : Str) (g : AV → AV → Sto → Res AV) (σ : ASt) (x v : AV) : AV → Sto → SRes := fun y s2 => (g v y s2).st σ (faug3 c f σ x)
def faug1 (cs : List String) (f : Str) (g : AV → AV → Sto → Res AV) (fv : AE) (σ : ASt) : AV → Sto → SRes := fun x s1 => match insAt s1 x with | some (c, fs) => if c ∈ cs then (match lookA f fs with | some v => (fv σ s1).st σ (faug2 c f g σ x v) | none => .stuck) else .stuck | none => .stuck
def aFAug (cs : List String) (f : Str) (g : AV → AV → Sto → Res AV) (fo fv : AE) : AS := fun σ s => (fo σ s).st σ (faug1 cs f g fv σ)
theorem faug1_obj {cs : List String} {f : Str} {g : AV → AV → Sto → Res AV} {fv : AE} {σ : ASt} {s : Sto} {i : Nat} {c : String} {fs : List (Str × AV)} {v : AV} (e : s.c i = .ins c fs) (h : c ∈ cs) (l : lookA f fs = some v) : faug1 cs f g fv σ (.obj i) s = (fv σ s).st σ (faug2 c f g σ (.obj i) v) := by
  unfold faug1
  simp only [insAt_obj e, if_pos h, l]
theorem DS.faug {cs : List String} {f : Str} {r : R2} {g : AV → AV → Sto → Res AV} (hc : All (fun c => Cls W.K (W.κ c) ∧ NoAttr W.K (W.κ c) f) cs) (hr : DR W r g) (hg : NE2 g) (ho : DE W E to fo) (hv : DE W E tv fv) : DS W E (sFldAug W.K to tv r f) (aFAug cs f g fo fv) := fun w s σ σc D S R h => by
  refine ho w s σ σc _ S R ((exp_post R h).mono (fun x s1 h1 w1 xc e1 S1 r1 => ?_) fun _ _ _ _ z => z)
  unfold faug1 at h1
  split at h1
  · rename_i c fs e
    split at h1
    · rename_i hcs
      split at h1
      · rename_i v e2
        obtain ⟨i, dx, gs, rfl, h2, rfl, h3, h4, h5⟩ := ins_at S1 r1 e
        obtain ⟨uc, l, ru⟩ := (look_rel h5).1 v e2
        obtain ⟨k1, k2⟩ := hc.at c hcs
        refine ⟨_, _, dx, gs, uc, rfl, h3, k1, k2, l, hv w1 s1 σ σc _ S1 (R.mono e1) ((exp_post (R.mono e1) (P.mono e1 h1)).mono (fun y s2 q2 w2 yc x2 S2 r2 => ?_) fun _ _ _ _ z => z)⟩
        have q2 : ((g v y s2).st σ (faug3 c f σ (.obj i))).P W w1 D E := q2
        refine hr w2 s2 v y uc yc _ S2 (ru.mono x2) r2 ?_
        cases hh : g v y s2 with
        | err c ns vs s3 => exact absurd hh (hg _ _ _ _ _ _ _)
        | stuck => rw [hh] at q2; exact q2.elim
        | ok z s3 =>
          rw [hh] at q2
          have q2 : (oNx σ (setF [c] f (.obj i) z s3)).P W w1 D E := q2
          intro w3 zc x3 S3 r3
          cases es : setF [c] f (.obj i) z s3 with
          | none => rw [es] at q2; exact (show False from q2).elim
          | some s4 =>
            rw [es] at q2
            have e13 := x2.trans x3
            obtain ⟨a, dx', gs', m1, m2, m5, w4, m6, m7, m8⟩ := setF_okC S3 (r1.mono e13) r3 es
            cases m1
            refine ⟨dx', gs', m2, m5, ?_⟩
            rw [← m6]
            exact q2 w4 σc (e13.trans m7) m8 (((R.mono e1).mono e13).mono m7)
      · exact h1.elim
    · exact h1.elim
  · exact h1.elim
def kgetN (kvs : List (Key × AV)) (x : AV) (s : Sto) : Res AV := match toKey x with | some k => .ok ((valA kvs k).getD .non) s | none => .stuck
end
def gMulT : AV → AV → Sto → Res AV := fun x y s => match x, y with
  | .tup a, .int k => if a ≠ [] ∧ 2 ≤ k ∧ k ≤ 1000 ∧ a.length ≤ 1000 then .ok (.tup (List.replicate k.toNat a).flatten) s else .stuck
  | x, y => gMul x y s
@[simp] theorem gMulT_int {i j : Int} {s : Sto} : gMulT (.int i) (.int j) s = gMul (.int i) (.int j) s := rfl
@[simp] theorem gMulT_str {i : Str} {j : Int} {s : Sto} : gMulT (.str i) (.int j) s = gMul (.str i) (.int j) s := rfl
@[simp] theorem gMulT_obj {i : Nat} {j : Int} {s : Sto} : gMulT (.obj i) (.int j) s = gMul (.obj i) (.int j) s := rfl
def idxD (d : PyData) : List PyData → Option Nat
  | [] => none
  | z :: r => if PyData.eqv z d = true then some 0 else (idxD d r).map (· + 1)
theorem idxD_at {d : PyData} : ∀ {ds : List PyData} {j : Nat}, idxD d ds = some j → ∃ z, ds[j]? = some z ∧ PyData.eqv z d = true ∧ ∀ (m : Nat) (z' : PyData), m < j → ds[m]? = some z' → PyData.eqv z' d = false
  | z :: r, j, h => by
    unfold idxD at h
    split at h
    · rename_i hz
      cases h
      exact ⟨z, rfl, hz, fun m z' hm => absurd hm (Nat.not_lt_zero m)⟩
    · rename_i hz
      obtain ⟨i, e, rfl⟩ := Option.map_eq_some_iff.mp h
      obtain ⟨y, y1, y2, y3⟩ := idxD_at e
      refine ⟨y, by simpa using y1, y2, fun m z' hm hz' => ?_⟩
      cases m with
      | zero => cases hz'; exact Bool.eq_false_iff.mpr hz
      | succ m => exact y3 m z' (by omega) (by simpa using hz')
def gIndex (x : AV) (xs : List AV) (s : Sto) : Res AV := match xs with | [y] => (match dat 12 s x, dat 12 s y with | some (.list ds), some d => if SeqAt.shaped (.list ds) = true ∧ SeqAt.shaped d = true then (match idxD d ds with | some j => .ok (.int (j : Nat)) s | none => .stuck) else .stuck | _, _ => .stuck) | _ => .stuck
theorem gIndex_dat {x y : AV} {s : Sto} {d : PyData} {ds : List PyData} {j : Nat} (h1 : dat 12 s x = some (.list ds)) (h2 : dat 12 s y = some d) (h : SeqAt.shaped (.list ds) = true ∧ SeqAt.shaped d = true) (e : idxD d ds = some j) : gIndex x [y] s = .ok (.int (j : Nat)) s := by
  unfold gIndex; simp only [h1, h2, e]; exact if_pos h
theorem NEM.index : NEM gIndex := fun x y s c ns vs s' h => by 
  unfold gIndex at h
  repeat' split at h
  all_goals first | cases h | (unfold newL at h; cases h)
theorem DM.index {W : Wl} : DM W (rIndexD W.K) gIndex := fun w s x ys v us Q S rx ry h => by
  unfold gIndex at h
  split at h
  · rename_i y
    cases ry with
    | cons r1 r2 =>
      cases r2
      split at h
      · rename_i ds d h1 h2
        split at h
        · rename_i hc
          split at h
          · rename_i j e
            obtain ⟨z, z1, z2, z3⟩ := idxD_at e
            have dp := dat_dp S _ _ _ _ rx h1
            have hv : ∃ a, v = .ref a := by
              cases dp with
              | lst => exact ⟨_, rfl⟩
            obtain ⟨a, rfl⟩ := hv
            exact ⟨a, _, d, ds, j, z, rfl, rfl, dp, dat_dp S _ _ _ _ r1 h2, hc.1, hc.2, z1, z2, z3, h w _ (.refl w) S (.int _)⟩
          · exact h.elim
        · exact h.elim
      · exact h.elim
  · exact h.elim
end
end Ab
namespace Ab
open PySem PySem.Spec PyProof.Rows L2
open Classical
noncomputable section
section
variable {W : Wl} {E : L2.St → XK} {ta : TE} {fa : AE}
theorem kgetN_ok {kvs : List (Key × AV)} {x : AV} {k : Key} {s : Sto} (h : toKey x = some k) : kgetN kvs x s = .ok ((valA kvs k).getD .non) s := by
  unfold kgetN; simp only [h]
theorem valN_rel {w : Wd} {k : Key} : ∀ {fs : List (Key × AV)} {gs : List (Key × V)}, RelK W.toWc w fs gs → valA fs k = none → valV gs k = none
  | _, _, .nil, _ => rfl
  | (j, x) :: r, (j', y) :: r', .cons h t, e => by
    obtain ⟨ej, hr⟩ := h
    cases (show j = j' from ej)
    have e : (if j = k then some x else valA r k) = none := e
    by_cases hj : j = k
    · rw [if_pos hj] at e; cases e
    · rw [if_neg hj] at e
      rw [valV_neg hj]; exact valN_rel t e
theorem DE.dgetN {kvs : List (Key × AV)} {gs : List (Key × V)} (r : ∀ w, RelK W.toWc w kvs gs) (ha : DE W E ta fa) : DE W E (Cd.tDGetC gs ta) (aUn (kgetN kvs) fa) := fun w s σ σc Q S R h => by
  refine ha w s σ σc _ S R ((post_bind_ok h).mono (fun x s1 h1 w1 v e1 S1 r1 => ?_) fun _ _ _ _ z => z)
  unfold kgetN at h1
  split at h1
  · rename_i k hk
    refine ⟨k, key_rel r1 hk, ?_⟩
    cases ez : valA kvs k with
    | some z =>
      rw [ez] at h1
      obtain ⟨vc, l, rz⟩ := val_rel (r w1) z ez
      rw [l]
      exact h1 w1 _ e1 S1 rz
    | none =>
      rw [ez] at h1
      rw [valN_rel (r w1) ez]
      exact h1 w1 _ e1 S1 .non
  · exact (show False from h1).elim
end
end
end Ab
namespace Gx
open PySem PySem.Spec PyProof.Rows L2
end Gx
namespace Ab
open PySem PySem.Spec PyProof.Rows L2
open Classical
end Ab
namespace Ab
open PySem PySem.Spec PyProof.Rows L2
open Classical
noncomputable section
theorem gIVal_at {cs : List String} {f : Str} {v x : AV} {s : Sto} {d : String} {fs : List (Str × AV)} (h : insAt s x = some (d, fs)) (hd : d ∈ cs) (l : lookA f fs = none) : gIVal cs f v x s = .ok v s := by
  unfold gIVal
  simp only [h, if_pos hd, l]
end
end Ab
set_option Elab.async false
set_option linter.all false
set_option maxRecDepth 100000
set_option maxHeartbeats 1000000
namespace Gx
open PySem PySem.Spec PyProof.Rows L2 GenW
end Gx
namespace Ab
open PySem PySem.Spec PyProof.Rows L2
open Classical
noncomputable section
def SRes.hd (y : Option AV) : SRes → SRes
  | .nx σ s => .nx (y :: σ) s
  | .bk σ s => .bk (y :: σ) s
  | .ct σ s => .ct (y :: σ) s
  | .err c ns vs σ s => .err c ns vs (y :: σ) s
  | .rt _ _ => .stuck
  | .stuck => .stuck
def aPl (f : AS) : AS := fun σ s => match σ with
  | some (.tup ys) :: σ' => (f σ' s).hd (some (.tup ys))
  | _ => .stuck
@[simp] theorem aPl_at {f : AS} {ys : List AV} {σ : ASt} {s : Sto} : aPl f (some (.tup ys) :: σ) s = (f σ s).hd (some (.tup ys)) := rfl
def SRes.PG (W : Wl) (r : SRes) (w : Wd) (D : GEnds) (E : XK) : Prop := match r with
  | .nx σ s => ∃ ys σ0, σ = some (.tup ys) :: σ0 ∧ ∀ w' σc ysc, Ext w w' → Sim W w' s → RSt W.toWc w' σ0 σc → RelL W.toWc w' ys ysc → D.nx ysc σc w'.H
  | .bk σ s => ∃ ys σ0, σ = some (.tup ys) :: σ0 ∧ ∀ w' σc ysc, Ext w w' → Sim W w' s → RSt W.toWc w' σ0 σc → RelL W.toWc w' ys ysc → D.bk ysc σc w'.H
  | .ct σ s => ∃ ys σ0, σ = some (.tup ys) :: σ0 ∧ ∀ w' σc ysc, Ext w w' → Sim W w' s → RSt W.toWc w' σ0 σc → RelL W.toWc w' ys ysc → D.ct ysc σc w'.H
  | .err c ns vs σ s => ErrP W w E c ns vs s
  | .rt _ _ => False
  | .stuck => False
theorem SRes.PG.mono {W : Wl} {r : SRes} {w w2 : Wd} {D : GEnds} {E : XK} (e : Ext w w2) (h : r.PG W w D E) : r.PG W w2 D E := by
  cases r with
  | nx σ s => obtain ⟨ys, σ0, rfl, k⟩ := h; exact ⟨ys, σ0, rfl, fun w' σc ysc e' => k w' σc ysc (e.trans e')⟩
  | bk σ s => obtain ⟨ys, σ0, rfl, k⟩ := h; exact ⟨ys, σ0, rfl, fun w' σc ysc e' => k w' σc ysc (e.trans e')⟩
  | ct σ s => obtain ⟨ys, σ0, rfl, k⟩ := h; exact ⟨ys, σ0, rfl, fun w' σc ysc e' => k w' σc ysc (e.trans e')⟩
  | err c ns vs σ s => exact fun w' d e' => h w' d (e.trans e')
  | rt v s => exact h
  | stuck => exact h
def Frm (f : AS) : Prop := ∀ σ s, f σ s = .stuck ∨ ∃ ys σ0, σ = some (AV.tup ys) :: σ0
theorem frm_match {k : List AV → ASt → SRes} {σ : ASt} : (match σ with | some (.tup ys) :: σ' => k ys σ' | _ => .stuck : SRes) = .stuck ∨ ∃ ys σ0, σ = some (AV.tup ys) :: σ0 := by
  match σ with
  | some (.tup ys) :: σ' => exact .inr ⟨_, _, rfl⟩
  | [] => exact .inl rfl
  | none :: _ => exact .inl rfl
  | some (.non) :: _ => exact .inl rfl
  | some (.bl _) :: _ => exact .inl rfl
  | some (.int _) :: _ => exact .inl rfl
  | some (.str _) :: _ => exact .inl rfl
  | some (.ty _) :: _ => exact .inl rfl
  | some (.cls _) :: _ => exact .inl rfl
  | some (.obj _) :: _ => exact .inl rfl
  | some (.raw _) :: _ => exact .inl rfl
  | some (.scr _) :: _ => exact .inl rfl
  | some (.exn _ _ _) :: _ => exact .inl rfl
theorem Frm.pl {f : AS} : Frm (aPl f) := fun σ s => frm_match
theorem Frm.seq {f g : AS} (h : Frm f) : Frm (aSeq f g) := fun σ s => by
  rcases h σ s with e | e
  · left; unfold aSeq; rw [e]; rfl
  · exact .inr e
structure DGn (W : Wl) (E : XK) (tg : TGn) (f : AS) : Prop where
  frm : Frm f
  run : ∀ (w : Wd) (s : Sto) (σ : ASt) (σc : L2.St) (ys : List AV) (ysc : List V) (D : GEnds), Sim W w s → RSt W.toWc w σ σc → RelL W.toWc w ys ysc → (f (some (.tup ys) :: σ) s).PG W w D E → tg D ysc σc w.H
section
variable {W : Wl} {E : XK} {ts : TS} {f g : AS} {te : TE} {fe : AE} {tg ug : TGn}
theorem DGn.pl (hs : DS W (fun _ => E) ts f) : DGn W E (tPlain ts) (aPl f) := ⟨Frm.pl, fun w s σ σc ys ysc D S R Y h => by
  refine hs w s σ σc (D.at ysc) S R ?_
  have h : ((f σ s).hd (some (.tup ys))).PG W w D E := h
  cases e : f σ s with
  | nx σ' s' =>
    rw [e] at h
    obtain ⟨ys', σ0, e2, k⟩ := h
    cases e2
    exact fun w' σc' e' S' R' => k w' σc' ysc e' S' R' (Y.mono e')
  | bk σ' s' =>
    rw [e] at h
    obtain ⟨ys', σ0, e2, k⟩ := h
    cases e2
    exact fun w' σc' e' S' R' => k w' σc' ysc e' S' R' (Y.mono e')
  | ct σ' s' =>
    rw [e] at h
    obtain ⟨ys', σ0, e2, k⟩ := h
    cases e2
    exact fun w' σc' e' S' R' => k w' σc' ysc e' S' R' (Y.mono e')
  | rt v s' => rw [e] at h; exact (show False from h).elim
  | err c ns vs σ' s' => rw [e] at h; exact fun w' σc' d e' S' R' x => h w' d e' S' x
  | stuck => rw [e] at h; exact (show False from h).elim⟩
theorem DGn.nil : DGn W E (tPlain fun D σ H => D.nx σ H) (aPl aNext) := DGn.pl DS.next
theorem DGn.seq (hf : DGn W E tg f) (hg : DGn W E ug g) : DGn W E (tGThen tg ug) (aSeq f g) := ⟨hf.frm.seq, fun w s σ σc ys ysc D S R Y h => by
  refine hf.run w s σ σc ys ysc _ S R Y ?_
  have h : ((f (some (.tup ys) :: σ) s).thn g).PG W w D E := h
  cases e : f (some (.tup ys) :: σ) s with
  | nx σ' s' =>
    rw [e] at h
    have h : (g σ' s').PG W w D E := h
    rcases hg.frm σ' s' with e2 | ⟨ys', σ0, rfl⟩
    · rw [e2] at h; exact (show False from h).elim
    · exact ⟨ys', σ0, rfl, fun w' σc' ysc' e' S' R' Y' => hg.run w' s' σ0 σc' ys' ysc' D S' R' Y' (h.mono e')⟩
  | bk σ' s' => rw [e] at h; exact h
  | ct σ' s' => rw [e] at h; exact h
  | rt v s' => rw [e] at h; exact h
  | err c ns vs σ' s' => rw [e] at h; exact h
  | stuck => rw [e] at h; exact h⟩
/-- a generator's promise -/
def spGF (W : Wl) (n : Nat) (F : List AV → Sto → Res AV) : SpG := fun vs H cont E => ∃ (w : Wd) (s : Sto) (args : List AV), H = w.H ∧ Sim W w s ∧ RelL W.toWc w args vs ∧ args.length = n ∧
  (F args s).Post (fun v s' => ∃ ys, v = .tup ys ∧ ∀ w' ysc, Ext w w' → Sim W w' s' → RelL W.toWc w' ys ysc → cont ysc w'.H) (ErrP W w E)
theorem spGF.len {n : Nat} {F : List AV → Sto → Res AV} {vs : List V} {H : Hp} {Q : List V → Hp → Prop} {E : XK} (h : spGF W n F vs H Q E) : vs.length = n := by
  obtain ⟨w, s, args, rfl, S, R, hn, p⟩ := h
  rw [← R.length]; exact hn
def toL (r : Res AV) : Res AV := r.bind fun v s => match v with | .tup ys => newL ys s | _ => .stuck
@[simp] theorem toL_ok {ys : List AV} {s : Sto} : toL (.ok (.tup ys) s) = newL ys s := rfl
@[simp] theorem toL_err {c : String} {ns : List Str} {vs : List AV} {s : Sto} : toL (.err c ns vs s) = .err c ns vs s := rfl
variable {ta : TE} {tr : TA} {fa : AE} {fr : AA}
end
end
end Ab
namespace Ab
open PySem PySem.Spec PyProof.Rows L2
open Classical
end Ab
namespace Ab
open PySem PySem.Spec PyProof.Rows L2
open Classical
end Ab
namespace Gx
open PySem PySem.Spec PyProof.Rows L2
theorem nodup_le {α : Type} [DecidableEq α] : ∀ {l m : List α}, l.Nodup → (∀ x ∈ l, x ∈ m) → l.length ≤ m.length
  | [], m, _, _ => Nat.zero_le _
  | x :: l, m, h, s => by
    obtain ⟨h1, h2⟩ := List.nodup_cons.mp h
    have hx := s x List.mem_cons_self
    have := nodup_le (l := l) (m := m.erase x) h2 fun y hy => (List.mem_erase_of_ne (fun e => h1 (by rw [← e]; exact hy))).mpr (s y (List.mem_cons_of_mem _ hy))
    rw [List.length_erase_of_mem hx] at this
    have := List.length_pos_of_mem hx
    rw [List.length_cons]
    omega
section
variable {X : Cx}
def tLenSetT (K : PySem.W.Frag) (ta : TE) : TE := fun σ H Q => ta σ H fun x H1 => ∃ (l : Addr) (ks : List (Addr × List Int)), x = V.ref l ∧ SqL K H1 l (ks.map fun p => V.ref p.1) ∧ (∀ p ∈ ks, SqT K H1 p.1 (p.2.map V.int)) ∧ ks.length < 64 ∧ (ks.map (·.2)).Nodup ∧ Q (.int ks.length) H1
theorem pe_lenSetT {a : Expr} {ta : TE} {p p2 q pos : Pos} (hc : X.calm = true) (hu : X.A.units + 64 < cLine) (hg : Gl X "len") (hm : X.mg "len" = none) (hg2 : Gl X "set") (hm2 : X.mg "set" = none) (ha : PE X a ta)
    (na : starEach [a] X.env = (false, eval a X.env) :: starEach [] X.env := by rfl) : PE X (.Call (.Name "len" p) [.Call (.Name "set" p2) [a] [] q] [] pos) (tLenSetT X.K ta) := by
  refine ⟨fun pins s σ H Q I h => ?_⟩
  refine Call_ (ld_blt I hg hm PySem.boot_len ?_)
  refine PyProof.Rows.callWith_builtin1 (PyProof.Rows.args_cons ?_ rfl) rfl rfl
  refine Call_ (ld_blt I hg2 hm2 PyProof.Rows.boot_set ?_)
  refine PyProof.Rows.callWith_type1 (PyProof.Rows.args_cons (thn (ha.run pins s σ H _ I h) fun v s1 ⟨x, H1, I1, r1, q1⟩ => PyProof.Rows.args_nil ?_) na) na rfl
  obtain ⟨l, ks, rfl, hl, hk, hf, hnd, q1⟩ := q1
  cases r1
  obtain ⟨its, rv, pl, hz⟩ := I1.list hl
  refine call_set_tups (P := X.prog) (w := X.w) ks (I1.ok.hd hc) pl.isList (by simpa using refs_of_vals rv) (fun p hp => I1.isT (hk p hp)) hf (by omega) fun h' tk L es ep t R g k => ?_
  refine PyProof.Rows.args_nil ?_
  obtain ⟨o, ho, hex, hd⟩ := R.ob
  have I2 : Inv X pins σ H1 { s1 with heap := h', toks := tk } := I1.kept fun b o e => k b o e
  have sz : es.size = L.length := SetTR.size (s := { s1 with heap := h', toks := tk }) R
  have ln : L.length = ks.length := by
    refine Nat.le_antisymm ?_ ?_
    · have := g.len
      omega
    · have := nodup_le hnd (m := L.map (·.2)) fun x hx => by
        obtain ⟨p, hp, rfl⟩ := List.mem_map.mp hx
        exact g.all p (by rw [List.take_length]; exact hp)
      rw [List.length_map, List.length_map] at this
      exact this
  refine call_len_set ho hex hd (SetTR.fits (s := { s1 with heap := h', toks := tk }) R) (by omega) ⟨.int ks.length, H1, I2.tok _, ⟨_, by rw [sz, ln]⟩, q1⟩
end
end Gx
namespace Ab
open PySem PySem.Spec PyProof.Rows L2
open Classical
noncomputable section
def Rows (xs : List AV) : Prop := ∃ rows : List (List Int), xs = rows.map (fun r => AV.tup (r.map AV.int)) ∧ rows.Nodup ∧ rows.length < 64
def gLenSet (x : AV) (s : Sto) : Res AV := match lstOf s x with | some xs => if Rows xs then .ok (.int xs.length) s else .stuck | none => .stuck
theorem gLenSet_ok {x : AV} {s : Sto} {rows : List (List Int)} (h : lstOf s x = some (rows.map fun r => AV.tup (r.map AV.int))) (nd : rows.Nodup) (hl : rows.length < 64) : gLenSet x s = .ok (.int rows.length) s := by
  unfold gLenSet
  simp only [h]
  rw [if_pos ⟨rows, rfl, nd, hl⟩, List.length_map]
section
variable {W : Wl} {E : L2.St → XK} {ta : TE} {fa : AE}
theorem relL_intsV {w : Wd} : ∀ {r : List Int} {us : List V}, RelL W.toWc w (r.map AV.int) us → us = r.map V.int
  | [], _, .nil => rfl
  | n :: r, _, .cons h t => by
    cases h
    rw [relL_intsV t]
    rfl
theorem relL_rows {w : Wd} : ∀ {rows : List (List Int)} {vs : List V}, RelL W.toWc w (rows.map fun r => AV.tup (r.map AV.int)) vs → ∃ ks : List (Addr × List Int), vs = ks.map (fun p => V.ref p.1) ∧ ks.map (·.2) = rows ∧ ∀ p ∈ ks, SqT W.K w.H p.1 (p.2.map V.int)
  | [], _, .nil => ⟨[], rfl, rfl, fun p hp => by cases hp⟩
  | r :: rows, _, .cons h t => by
    obtain ⟨ks, h1, h2, h3⟩ := relL_rows t
    cases h with
    | @tup a _ us hq rr =>
      refine ⟨(a, r) :: ks, by rw [h1]; rfl, by rw [← h2]; rfl, fun p hp => ?_⟩
      rcases List.mem_cons.mp hp with rfl | hp
      · rw [← relL_intsV rr]; exact hq
      · exact h3 p hp
theorem DE.lenSet (ha : DE W E ta fa) : DE W E (Gx.tLenSetT W.K ta) (aUn gLenSet fa) := fun w s σ σc Q S R h => by
  refine ha w s σ σc _ S R ((post_bind_ok h).mono (fun x s1 h1 w1 v e1 S1 r1 => ?_) fun _ _ _ _ z => z)
  unfold gLenSet at h1
  split at h1
  · rename_i xs ex
    split at h1
    · rename_i hR
      obtain ⟨rows, rfl, nd, hl⟩ := hR
      obtain ⟨a, vs, rfl, k2, k3⟩ := lst_at S1 r1 ex
      obtain ⟨ks, rfl, e2, hk⟩ := relL_rows k3
      have hlen : ks.length = rows.length := by rw [← e2, List.length_map]
      refine ⟨a, ks, rfl, k2, hk, by omega, by rw [e2]; exact nd, ?_⟩
      have h1 : OkP W w Q (.int ((rows.map fun r => AV.tup (r.map AV.int)).length : Nat)) s1 := h1
      rw [List.length_map, ← hlen] at h1
      exact h1 w1 _ e1 S1 (.int _)
    · exact (show False from h1).elim
  · exact (show False from h1).elim
end
end
end Ab
namespace Ab
open PySem PySem.Spec PyProof.Rows L2 GenW
/-- int of a whole number or of True, False -/
def gIntOf : List AV → Sto → Res AV := fun xs s => match xs with | [.int i] => .ok (.int i) s | [.bl b] => .ok (.int (if b then 1 else 0)) s | _ => .stuck
@[simp] theorem gIntOf_int {i : Int} {s : Sto} : gIntOf [.int i] s = .ok (.int i) s := rfl
@[simp] theorem gIntOf_bl {b : Bool} {s : Sto} : gIntOf [.bl b] s = .ok (.int (if b then 1 else 0)) s := rfl
end Ab
set_option Elab.async false
set_option linter.all false
set_option maxRecDepth 100000
set_option maxHeartbeats 1000000
set_option Elab.async false
set_option linter.all false
set_option maxRecDepth 100000
set_option maxHeartbeats 1000000
namespace Ab
open PySem PySem.Spec PyProof.Rows L2
open Classical
noncomputable section
section
variable {W : Wl} {E : L2.St → XK} {ta te : TE} {fa fe : AE} {t1 t2 : TA} {f1 f2 : AA}
theorem RelL.at {w : Wd} {xs : List AV} {vs : List V} (h : RelL W w xs vs) : ∀ i : Nat, (xs[i]? = none ∧ vs[i]? = none) ∨ ∃ x v, xs[i]? = some x ∧ vs[i]? = some v ∧ Rel W w x v := by
  induction xs generalizing vs with
  | nil => cases h; exact fun i => .inl ⟨rfl, rfl⟩
  | cons x xs ih =>
    cases h with
    | cons h t =>
      intro i
      cases i with
      | zero => exact .inr ⟨_, _, rfl, rfl, h⟩
      | succ i => exact ih t i
end
end
end Ab
set_option Elab.async false
set_option linter.all false
set_option maxRecDepth 100000
set_option maxHeartbeats 1000000
namespace Gx
open PySem PySem.Spec PyProof.Rows L2 GenW
end Gx
namespace Ab
open PySem PySem.Spec PyProof.Rows L2 GenW
open Classical
end Ab
set_option Elab.async false
set_option linter.all false
set_option maxRecDepth 100000
set_option maxHeartbeats 1000000
namespace PySem
theorem newE_any {v : Value} {o : Obj} {HH : Heap → Prop} (B : Begins v o HH) :
    Meets (Builtin.«enumerate.__new__» ⟨[.type "enumerate", v], []⟩) (fun _ R s => HH s.heap ∧
      R (.ok (.ret (.ref (s.heap.push o).objs.size))) { s with heap := (s.heap.push o).push { cls := .type "enumerate", data := .fields #[.none, .bool false, .ref s.heap.objs.size, rawInt 0, .none, .none] } }) :=
  .of_wp fun P w A R st => fun ⟨g1, g2⟩ => by
    obtain ⟨hp, a1, a2, a3, a4⟩ := st
    have hsub := sub_enumerate
    have go : ∀ {A' : Around} {E Q : Value → Shared → Prop}, Q (.ref hp.objs.size) ⟨hp.push o, a1, a2, a3, a4⟩ → wpAny (model P w) A' (pyIter v) Q E ⟨hp, a1, a2, a3, a4⟩ := fun q => B.iter P w _ _ ⟨hp, a1, a2, a3, a4⟩ _ g1 q
    wp_walk using go
    refine wpAny_stack_any fun _ => wpAny_pure ?_
    split
    · rename_i c _ _ _ _ _
      cases (c == Value.type "enumerate")
      all_goals wp_walk using go
      all_goals exact ⟨_, rfl, g2⟩
    · wp_walk using go
      exact ⟨_, rfl, g2⟩
end PySem
namespace Gx
open PySem PySem.Spec PyProof.Rows L2
/-- the tuple at a, its items in new pairs -/
def ItE (K : PySem.W.Frag) (a : Addr) : It :=
  ⟨fun i H => ∃ (xs : List V) (x : V), SqT K H a xs ∧ xs[i]? = some x, fun i H v H' => ∃ T x, v = .ref T ∧ H T = none ∧ H' = upd H T (.tup [.int (i : Nat), x]) ∧ ∀ xs, SqT K H a xs → xs[i]? = some x, fun i H => ∃ xs : List V, SqT K H a xs ∧ xs.length ≤ i⟩
theorem turnE {P : Program} {w : World} {K : PySem.W.Frag} {es : List Expr} {n : Nat} {ps : Pos} (a e it : Addr) :
    Turn P w K (.Tuple es n ps) (ItE K a) [e, it] e (fun i h => (∃ old, IsEnum h e it ((i : Nat) : Int) old) ∧ h.IsTupleIter it a i ∧ e ≠ it ∧ e ≠ a ∧ a ≠ it) where
  mem := List.mem_cons_self
  obj := fun i h st b hb => by
    obtain ⟨⟨old, k1⟩, ⟨o, k2, _, k3⟩, _⟩ := st
    simp only [List.mem_cons, List.not_mem_nil, or_false] at hb
    rcases hb with rfl | rfl
    · exact ⟨_, k1, fun v q => nomatch q⟩
    · exact ⟨o, k2, fun v q => by rw [k3] at q; cases q⟩
  keep := fun i h h' ⟨⟨old, k1⟩, k2, k3⟩ k => ⟨⟨old, k e List.mem_cons_self _ k1⟩, k2.at fun o q => k it (.tail _ List.mem_cons_self) o q, k3⟩
  item := by
    rintro X rfl rfl rfl hc i pins s σ H E I hf ⟨⟨old, k1⟩, k2, n1, n2, n3⟩ ⟨xs, x, hq, hx⟩
    obtain ⟨its, rv, p, hz⟩ := I.tuple hq
    have p : s.heap.IsTuple a its.toArray := p
    obtain ⟨u, hu, ru⟩ := rv.get hx
    have le : e < s.heap.objs.size := Heap.lt_size k1
    have li : it < s.heap.objs.size := by obtain ⟨_, q, _⟩ := k2; exact Heap.lt_size q
    have il : i < its.toArray.size := by
      have := (List.getElem?_eq_some_iff.mp hu).1
      simpa using this
    refine wpAny_pyNext_enum_itemD (Draws.tuple (prog := X.prog) (w := X.w) (A := X.A.in1) (show X.A.in1.handled = none from I.ok.hd hc) it a n3 its.toArray) k1 ⟨k2, p⟩ il n1 (by simp [n1, n2]) fun y h' tk hy ho ⟨hit', _⟩ hT hsz hk => ?_
    have hy : u = y := by
      have hy : its.toArray[i]? = some y := hy
      rw [List.getElem?_toArray, hu] at hy
      exact Option.some.inj hy
    subst hy
    refine ⟨_, rfl, wpAny_letOwnedTupleGo_enum (s := { s with heap := h', toks := tk + 1 }) ho fun h'' he' sb => ?_⟩
    have hT2 : h''.get? s.heap.objs.size = some { cls := .type "tuple", data := .seq #[.int i tk, u] } := (sb.2 _ (Nat.ne_of_gt le)).trans hT
    have new : ObjOk X.prog X.w (upd H s.heap.objs.size (.tup [.int (i : Nat), x])) h'' s.heap.objs.size (.tup [.int (i : Nat), x]) :=
      ⟨show 2 ≤ sizeLine by decide, [.int i tk, u], .cons ⟨_, rfl⟩ (.cons ru .nil), ⟨_, hT2, rfl, _, rfl⟩⟩
    have I1 : Inv X pins σ (upd H s.heap.objs.size (.tup [.int (i : Nat), x])) { s with heap := h'', toks := tk + 1 } :=
      I.turnedNew (t' := tk + 1) (ch := [e, it]) (fun b ob hb q => (sb.2 b fun z => hb (by simp [z])).trans (hk b ob (fun z => hb (by simp [z])) (fun z => hb (by simp [z])) q)) hf (Nat.le_refl _) new
    refine ⟨.ref s.heap.objs.size, _, I1, rfl, ⟨_, x, rfl, I.hok.fresh (Nat.le_refl _), rfl, fun ys hy => by rw [I.tuple_inj hy hq]; exact hx⟩, ⟨⟨u, ?_⟩, hit'.at fun o q => (sb.2 it (Ne.symm n1)).trans q, n1, n2, n3⟩, fun b hb => ?_⟩
    · rw [show ((i + 1 : Nat) : Int) = (i : Int) + 1 by omega]
      exact he'
    · have hb' : b < s.heap.objs.size := by
        simp only [List.mem_cons, List.not_mem_nil, or_false] at hb
        rcases hb with rfl | rfl
        · exact le
        · exact li
      rw [upd_ne (Nat.ne_of_lt hb')]
      exact (hf b hb).1
  done := by
    rintro X rfl rfl rfl hc i pins s σ H E I hf ⟨⟨old, k1⟩, k2, n1, n2, n3⟩ ⟨xs, hq, hx⟩
    obtain ⟨its, rv, p, hz⟩ := I.tuple hq
    have p : s.heap.IsTuple a its.toArray := p
    obtain ⟨f0, f1, f2, f3, f4, f5⟩ := hf it (.tail _ List.mem_cons_self)
    have hl := rv.length
    have hne : its.toArray[i]? = none := by simp; omega
    exact endE (I.ok.hd hc) k1 k2 p hne fun h' eb => ⟨rfl, I.turned (t' := s.toks) (fun b o hb q => eb b o hb q) f0 f1 f3 f4 f5⟩
  self := fun A i s Q E ⟨⟨_, k1⟩, _⟩ h => wpAny_pyIter_enum k1 h
where
  endE {P : Program} {w : World} {A : Around} {E : Value → Shared → Prop} {s : Shared} {e it l : Addr} {i : Nat} {items : Array Value} {old : Value} {Q : Option Value → Shared → Prop} (hh : A.handled = none)
    (he : IsEnum s.heap e it i old) (hit : s.heap.IsTupleIter it l i) (hl : s.heap.IsTuple l items) (hx : items[i]? = none) (hQ : ∀ h', Heap.ExtBut it s.heap h' → Q none { s with heap := h' }) :
    wpAny (model P w) A (pyNext (.ref e)) Q E s := by
    unfold pyNext
    refine wpAny_bind (wpAny_attempt (wpAny_callSpecial?_slot (name := Str.ofString "__next__") ⟨_, he, rfl⟩ F.slot_enumerate_next (wpAny_call_entry F.slot_enumerate_next ⟨_, he, rfl⟩ F.entry_enumerate_next ?_ (F.args_enumerate_next_1 _))))
    show wpAny _ _ (field (.ref e) 2 >>= _) _ _ _
    refine wpAny_bind (wpAny_field he rfl (x := .ref it) rfl ?_)
    refine wpAny_bind (wpAny_nextOf_tuple_end hh hit hl hx fun h' x k1 ⟨o, k2, k3⟩ => ?_)
    exact wpAny_bind (wpAny_isInstance (T := "StopIteration") (b := true) ⟨o, k2, k3⟩ isSubtype_stop (wpAny_pure (hQ _ k1)))
def iEnT (K : PySem.W.Frag) (ta : TA) : TI := fun σ H R => ta σ H fun vs H1 => ∃ a xs, vs = [.ref a] ∧ SqT K H1 a xs ∧ R (ItE K a) H1
theorem pi_enT {X : Cx} {e : Expr} {ta : TA} {p pos tp : Pos} {es : List Expr} {n : Nat} (hg : Gl X "enumerate") (hm : X.mg "enumerate" = none) (ha : PA X [e] ta) (hs : starEach [e] X.env = [(false, eval e X.env)] := by rfl) :
    PI X (.Tuple es n tp) (.Call (.Name "enumerate" p) [e] [] pos) (iEnT X.K ta) := ⟨fun pins s σ H R I h => by
  refine Call_ (ld_blt I hg hm boot_enumerate (PyProof.Rows.callWith_type1 (thn (ha.run pos pins s σ H _ I h) fun us s1 ⟨vs, H1, I1, r1, a, xs, ex, hq, q⟩ => ?_) hs rfl))
  subst ex
  cases r1 with
  | cons r rr =>
    cases rr
    cases r
    obtain ⟨its, rv, p', hz⟩ := I1.tuple hq
    have p' : s1.heap.IsTuple a its.toArray := p'
    have la : a < s1.heap.objs.size := by obtain ⟨o, q, _⟩ := id p'; exact Heap.lt_size q
    refine callType_new F.called_enumerate (by decide) (F.typeCall_enumerate_1 _) (F.newCall_enumerate_1 _) (fun obj => F.args_object_init_2 obj _) F.entry_enumerate_new (newE_any (begins_tuple a its.toArray)) ⟨p', ?_⟩
    obtain ⟨o, ho⟩ : ∃ o : Obj, o = { cls := .type "tuple_iterator", data := .fields #[.ref a, .int 0 0] } := ⟨_, rfl⟩
    rw [← ho]
    have of : o.isFreed = false := by rw [ho]; rfl
    have sz : (s1.heap.push o).objs.size = s1.heap.objs.size + 1 := Heap.size_push ..
    show _ ∧ _
    rw [sz]
    have he : IsEnum ((s1.heap.push o).push { cls := .type "enumerate", data := .fields #[.none, .bool false, .ref s1.heap.objs.size, rawInt 0, .none, .none] }) (s1.heap.objs.size + 1) s1.heap.objs.size 0 .none := by
      have := Heap.get?_push_size (s1.heap.push o) (o := { cls := .type "enumerate", data := .fields #[.none, .bool false, .ref s1.heap.objs.size, rawInt 0, .none, .none] }) rfl
      rw [sz] at this; exact this
    refine ⟨⟨_, he, rfl⟩, wpAny_pyIter_enum he ?_⟩
    have kk : ∀ b ob, s1.heap.get? b = some ob → ((s1.heap.push o).push { cls := .type "enumerate", data := .fields #[.none, .bool false, .ref s1.heap.objs.size, rawInt 0, .none, .none] }).get? b = some ob := fun b ob q => Heap.get?_push_of_some _ (Heap.get?_push_of_some _ q)
    have hti : ((s1.heap.push o).push { cls := .type "enumerate", data := .fields #[.none, .bool false, .ref s1.heap.objs.size, rawInt 0, .none, .none] }).IsTupleIter s1.heap.objs.size a 0 := ⟨o, Heap.get?_push_of_some _ (Heap.get?_push_size _ of), by rw [ho]; first | done | rfl, by rw [ho]; first | done | rfl⟩
    refine ⟨s1.heap.objs.size + 1, [s1.heap.objs.size + 1, s1.heap.objs.size], _, _, H1, rfl, I1.kept (t' := s1.toks) kk, turnE a (s1.heap.objs.size + 1) s1.heap.objs.size, ⟨⟨.none, he⟩, hti, Nat.succ_ne_self _, Nat.ne_of_gt (Nat.lt_succ_of_lt la), Nat.ne_of_lt la⟩, fun b hb => ?_, q⟩
    have hle : s1.heap.objs.size ≤ b := by
      simp only [List.mem_cons, List.not_mem_nil, or_false] at hb
      rcases hb with rfl | rfl
      · exact Nat.le_succ _
      · exact Nat.le_refl _
    exact I1.fpOk hle (I1.hok.fresh hle)⟩
end Gx
set_option Elab.async false
set_option linter.all false
set_option maxRecDepth 100000
set_option maxHeartbeats 4000000
namespace Gx
open PySem PySem.Spec PyProof.Rows L2
end Gx
set_option Elab.async false
set_option linter.all false
set_option maxRecDepth 100000
set_option maxHeartbeats 4000000
set_option exponentiation.threshold 2000
namespace Gx
open PySem PySem.Spec PyProof.Rows L2
mutual
inductive DpE (K : PySem.W.Frag) (H : Hp) : V → PyData → Prop
  | non : DpE K H .non .none
  | bl (b : Bool) : DpE K H (.bl b) (.bool b)
  | int (i : Int) : DpE K H (.int i) (.int i)
  | str (x : Str) : DpE K H (.str x) (.str x)
  | lst {a : Addr} {xs : List V} {ds : List PyData} : SqL K H a xs → DpEA K H xs ds → DpE K H (.ref a) (.list ds)
  | tup {a : Addr} {xs : List V} {ds : List PyData} : SqT K H a xs → DpEA K H xs ds → DpE K H (.ref a) (.tuple ds)
  | dic {a : Addr} : H a = some (.dK []) → DpE K H (.ref a) (.dict [])
inductive DpEA (K : PySem.W.Frag) (H : Hp) : List V → List PyData → Prop
  | nil : DpEA K H [] []
  | cons {v : V} {vs : List V} {d : PyData} {ds : List PyData} : DpE K H v d → DpEA K H vs ds → DpEA K H (v :: vs) (d :: ds)
end
section
variable {X : Cx} {pins : List (Addr × Obj)} {σ : L2.St} {H : Hp} {s : Shared}
/-- what is told of a value: how it is read, and its text -/
def TxE (P : Program) (w : World) (h : Heap) (u : Value) (d : PyData) : Prop := ∃ as bs, Reads h u d as ∧ ReadAtMost h d.depth bs ∧ ReprK P w bs h d.depth u d.shown
def TxA (P : Program) (w : World) (h : Heap) (us : List Value) (ds : List PyData) : Prop := ∃ as bs, ReadsAll h us ds as ∧ ReadAtMost h (PyData.depthAll ds) bs ∧ ReprAllK P w bs h (PyData.depthAll ds) us (PyData.shownAll ds)
theorem dic_obj (I : Inv X pins σ H s) {a : Addr} (h : H a = some (.dK [])) : (a == sysModules) = false ∧ ∃ o n, s.heap.get? a = some o ∧ o.cls = .type "dict" ∧ o.data = .dict #[] n := by
  obtain ⟨_, hs, vs, kv, o, es, ep, h1, h2, h3, _, h5, _⟩ := dk_of I.hok h
  cases kv
  refine ⟨hs, o, ep, h1, h2.1, ?_⟩
  have : es.toList = [] := by
    generalize es.toList = l at h5
    cases h5
    rfl
  rw [h3, Array.toList_eq_nil_iff.mp this]
mutual
theorem txE (I : Inv X pins σ H s) : ∀ (d : PyData) (v : V) (u : Value), DpE X.K H v d → RelV v u → d.showable = true → d.shown.length ≤ sizeLine → TxE X.prog X.w s.heap u d
  | .none, _, _, h, r, _, _ => by
    cases h; cases r
    exact ⟨_, [], .none, (fun _ k => nomatch k), by simp only [PyData.shown]; exact .of_is ReprIs.none _ _ _⟩
  | .bool b, _, _, h, r, _, _ => by
    cases h; cases r
    exact ⟨_, [], .bool b, (fun _ k => nomatch k), by simp only [PyData.shown]; exact .of_is (ReprIs.bool b) _ _ _⟩
  | .int i, _, _, h, r, hs, _ => by
    cases h
    obtain ⟨t, rfl⟩ := r
    exact ⟨_, [], .int i t, (fun _ k => nomatch k), by simp only [PyData.shown]; exact .of_is (ReprIs.int t (by simpa only [PyData.showable, decide_eq_true_eq] using hs)) _ _ _⟩
  | .str x, _, _, h, r, _, hz => by
    cases h
    obtain ⟨t, rfl⟩ := r
    exact ⟨_, [], .str x t, (fun _ k => nomatch k), by simp only [PyData.shown]; exact .of_is (ReprIs.str x t (by simpa only [PyData.shown] using hz)) _ _ _⟩
  | .list ds, _, _, h, r, hs, hz => by
    cases h with
    | lst h1 h2 =>
      cases r
      obtain ⟨its, rv, ⟨o, n, ho, hc, _, hd⟩, _⟩ := I.list h1
      have hz : (listText (PyData.shownAll ds)).length ≤ sizeLine := by simpa only [PyData.shown] using hz
      obtain ⟨as, bs, r, hb, hk⟩ := txA I ds _ its h2 rv (by simpa only [PyData.showable] using hs) fun t ht => Nat.le_trans (listText_mem_le ht) hz
      have rd := Reads.list ho hc hd r
      have na := not_mem_of_deeper rd (by simp only [PyData.depth]; omega) hb
      refine ⟨_, _ :: bs, rd, ReadAtMost.cons rd (Nat.le_refl _) fun b hm => ?_, ?_⟩
      · obtain ⟨d', as', r', hd'⟩ := hb b hm
        exact ⟨d', as', r', by simp only [PyData.depth]; omega⟩
      · simp only [PyData.depth, PyData.shown]
        cases its with
        | nil =>
          cases r
          simp only [PyData.shownAll, listText_nil]
          exact ReprK.listEmpty ho hc hd
        | cons x l => exact ReprK.list ho hc hd na (by simpa using hk.length_eq) fun i y e => hk.item i y (by simpa using e)
  | .tuple ds, _, _, h, r, hs, hz => by
    cases h with
    | tup h1 h2 =>
      cases r
      obtain ⟨its, rv, ⟨o, ho, hc, n, hd⟩, _⟩ := I.tuple h1
      have hz : (tupleText (PyData.shownAll ds)).length ≤ sizeLine := by simpa only [PyData.shown] using hz
      obtain ⟨as, bs, r, hb, hk⟩ := txA I ds _ its h2 rv (by simpa only [PyData.showable] using hs) fun t ht => Nat.le_trans (tupleText_mem_le ht) hz
      have rd := Reads.tuple ho hc hd r
      have na := not_mem_of_deeper rd (by simp only [PyData.depth]; omega) hb
      refine ⟨_, _ :: bs, rd, ReadAtMost.cons rd (Nat.le_refl _) fun b hm => ?_, ?_⟩
      · obtain ⟨d', as', r', hd'⟩ := hb b hm
        exact ⟨d', as', r', by simp only [PyData.depth]; omega⟩
      · simp only [PyData.depth, PyData.shown]
        exact ReprK.tuple ho hc hd na hk
  | .dict kvs, _, _, h, r, hs, hz => by
    cases h with
    | dic h1 =>
      cases r
      obtain ⟨hm, o, n, ho, hc, hd⟩ := dic_obj I h1
      have rd : Reads s.heap (.ref _) (.dict []) _ := Reads.dict (as := []) (bs := []) ho hc hd .nil .nil
      refine ⟨_, [_], rd, ReadAtMost.cons rd (Nat.le_refl _) (fun b k => nomatch k), ?_⟩
      simp only [PyData.depth, PyData.depthKv, PyData.shown, PyData.shownKv]
      exact ReprK.dict (as := []) ho hc hd hm (fun k => nomatch k) .nil
theorem txA (I : Inv X pins σ H s) : ∀ (ds : List PyData) (vs : List V) (us : List Value), DpEA X.K H vs ds → Vals vs us → PyData.showableAll ds = true → (∀ t ∈ PyData.shownAll ds, t.length ≤ sizeLine) → TxA X.prog X.w s.heap us ds
  | [], _, _, h, r, _, _ => by
    cases h; cases r
    exact ⟨_, [], .nil, (fun _ k => nomatch k), by simp only [PyData.shownAll]; exact .nil⟩
  | d :: ds, _, _, h, r, hs, hz => by
    cases h with
    | cons h1 h2 =>
      cases r with
      | cons r1 r2 =>
        simp only [PyData.showableAll, Bool.and_eq_true] at hs
        simp only [PyData.shownAll, List.mem_cons, forall_eq_or_imp] at hz
        obtain ⟨as, bs, q1, q2, q3⟩ := txE I d _ _ h1 r1 hs.1 hz.1
        obtain ⟨at_, bt, p1, p2, p3⟩ := txA I ds _ _ h2 r2 hs.2 hz.2
        refine ⟨_, bs ++ bt, .cons q1 p1, fun b hm => ?_, ?_⟩
        · simp only [PyData.depthAll]
          rcases List.mem_append.mp hm with k | k
          · obtain ⟨e, f, g1, g2⟩ := q2 b k
            exact ⟨e, f, g1, Nat.le_trans g2 (Nat.le_max_left _ _)⟩
          · obtain ⟨e, f, g1, g2⟩ := p2 b k
            exact ⟨e, f, g1, Nat.le_trans g2 (Nat.le_max_right _ _)⟩
        · simp only [PyData.depthAll, PyData.shownAll]
          exact .cons ((q3.more fun b k => List.mem_append_left _ k).level_le (Nat.le_max_left _ _)) (p3.more_le (fun b k => List.mem_append_right _ k) (Nat.le_max_right _ _))
end
/-- a list's or a tuple's text, by the call of repr -/
theorem showsE (I : Inv X pins σ H s) : ∀ (d : PyData) (a : Addr), DpE X.K H (.ref a) d → d.showable = true → d.shown.length ≤ sizeLine → ∃ T idr, ShowsBy X.prog X.w s.heap a d T idr := by
  intro d a h hs hz
  cases h with
  | @lst _ xs ds h1 h2 =>
    obtain ⟨its, rv, ⟨o, n, ho, hc, _, hd⟩, _⟩ := I.list h1
    have hz : (listText (PyData.shownAll ds)).length ≤ sizeLine := by simpa only [PyData.shown] using hz
    obtain ⟨as, bs, r, hb, hk⟩ := txA I ds _ its h2 rv (by simpa only [PyData.showable] using hs) fun t ht => Nat.le_trans (listText_mem_le ht) hz
    have rd := Reads.list ho hc hd r
    have na := not_mem_of_deeper rd (by simp only [PyData.depth]; omega) hb
    refine ⟨"list", "list.__repr__", F.slot_list_repr.toG, F.slot_list_str, F.slot_list_format, fun t k => ⟨o, k _ _ ho, hc⟩, fun A E t Q hg hu k0 q => ?_⟩
    simp only [PyData.depth] at hu
    simp only [PyData.shown] at q
    cases its with
    | nil =>
      cases r
      simp only [PyData.shownAll, listText_nil] at q
      exact call_list_repr_empty ⟨o, k0 _ _ ho, hc⟩ (k0 _ _ ho) hd (q t.heap _ _ fun _ _ e => e)
    | cons x l => exact call_list_reprK ho hc hd na (by simpa using hk.length_eq) (fun i y e => hk.item i y (by simpa using e)) hg (fun b _ => Clear.nil b) hu k0 q hz
  | @tup _ xs ds h1 h2 =>
    obtain ⟨its, rv, ⟨o, ho, hc, n, hd⟩, _⟩ := I.tuple h1
    have hz : (tupleText (PyData.shownAll ds)).length ≤ sizeLine := by simpa only [PyData.shown] using hz
    obtain ⟨as, bs, r, hb, hk⟩ := txA I ds _ its h2 rv (by simpa only [PyData.showable] using hs) fun t ht => Nat.le_trans (tupleText_mem_le ht) hz
    have rd := Reads.tuple ho hc hd r
    have na := not_mem_of_deeper rd (by simp only [PyData.depth]; omega) hb
    refine ⟨"tuple", "tuple.__repr__", F.slot_tuple_repr, F.slot_tuple_str, F.slot_tuple_format, fun t k => ⟨o, k _ _ ho, hc⟩, fun A E t Q hg hu k0 q => ?_⟩
    simp only [PyData.depth] at hu
    simp only [PyData.shown] at q
    exact call_tuple_reprK ho hc hd na hk hg (fun b _ => Clear.nil b) hu k0 q hz
  | dic h1 =>
    obtain ⟨hm, o, n, ho, hc, hd⟩ := dic_obj I h1
    refine ⟨"dict", "dict.__repr__", F.slot_dict_repr, F.slot_dict_str, F.slot_dict_format, fun t k => ⟨o, k _ _ ho, hc⟩, fun A E t Q hg hu k0 q => ?_⟩
    simp only [PyData.depth, PyData.depthKv] at hu
    simp only [PyData.shown, PyData.shownKv] at q
    exact call_dict_reprK (as := []) ho hc hd hm (fun k => nomatch k) .nil hg (fun b _ => Clear.nil b) hu k0 q (by simpa only [PyData.shown, PyData.shownKv] using hz)
end
def rReprE (K : PySem.W.Frag) : List V → Hp → VK → Prop := fun xs H Q => ∃ (x : V) (d : PyData), xs = [x] ∧ DpE K H x d ∧ d.showable = true ∧ d.depth ≤ 60 ∧ d.shown.length ≤ sizeLine ∧ Q (.str d.shown) H
theorem call_reprE {X : Cx} (hg : X.A.guards = some []) (hu : X.A.units + 64 < cLine) : CallR X (.builtin "repr") (rReprE X.K) := by
  intro pins s σ H xs us Q I r h
  obtain ⟨x, d, rfl, hd, hs, hp, hz, q⟩ := h
  obtain ⟨u, rfl, ru⟩ := vals1 r
  have big : ∀ a : Addr, DpE X.K H (.ref a) d → wpAny (model X.prog X.w) X.A (call (.builtin "repr") [.ref a]) (fun v s1 => ∃ x H1, Inv X pins σ H1 s1 ∧ RelV x v ∧ Q x H1) X.xe s := fun a ha => by
    obtain ⟨T, idr, S⟩ := showsE I d a ha hs hz
    exact call_repr_slot (by omega) (S.typeIs s fun _ _ e => e) S.slotRepr (S.call X.A.in1 X.xe s _ hg (by show X.A.units + 1 + d.depth < cLine; omega) (fun _ _ e => e) fun h' u tk hk => ⟨_, _, rfl, .str _, H, I.kept (t' := tk) hk, ⟨_, rfl⟩, q⟩)
  cases hd with
  | non =>
    cases ru
    exact PySem.P.repr_of_none ⟨.str _, H, I.tok _, ⟨_, rfl⟩, q⟩
  | bl b =>
    cases ru
    exact PySem.P.repr_of_bool ⟨.str _, H, I.tok _, ⟨_, rfl⟩, q⟩
  | int i =>
    obtain ⟨t, rfl⟩ := ru
    exact PySem.P.repr_of_int (of_decide_eq_true (by simpa [PyData.showable] using hs)) ⟨.str _, H, I.tok _, ⟨_, rfl⟩, q⟩
  | str z =>
    obtain ⟨t, rfl⟩ := ru
    exact PySem.P.repr_of_str (hsz := hz) ⟨.str _, H, I.tok _, ⟨_, rfl⟩, q⟩
  | lst h1 h2 =>
    cases ru
    exact big _ (.lst h1 h2)
  | tup h1 h2 =>
    cases ru
    exact big _ (.tup h1 h2)
  | dic h1 =>
    cases ru
    exact big _ (.dic h1)
end Gx
set_option Elab.async false
set_option linter.all false
set_option maxRecDepth 100000
set_option maxHeartbeats 4000000
set_option exponentiation.threshold 2000
namespace Gx
open PySem PySem.Spec PyProof.Rows L2
mutual
def SmE : PyData → Prop
  | .none => True
  | .bool _ => True
  | .int i => i.natAbs < 2 ^ 600
  | .str z => (PyData.str z).showable = true ∧ (PyData.str z).shown.length + 2 ≤ 612
  | .list xs => SmEAll xs
  | .tuple xs => SmEAll xs
  | .dict xs => xs = []
def SmEAll : List PyData → Prop
  | [] => True
  | x :: xs => SmE x ∧ SmEAll xs
end
mutual
theorem smE_show : ∀ d : PyData, SmE d → d.showable = true
  | .none, _ => by simp only [PyData.showable]
  | .bool _, _ => by simp only [PyData.showable]
  | .int i, h => by
    simp only [PyData.showable, decide_eq_true_eq]
    exact Nat.lt_trans (log_lt (by decide) (show i.natAbs < 2 ^ 600 from by simpa only [SmE] using h)) (by decide)
  | .str z, h => (show (PyData.str z).showable = true ∧ _ from by simpa only [SmE] using h).1
  | .list xs, h => by
    simp only [PyData.showable]
    exact smE_showAll xs (by simpa only [SmE] using h)
  | .tuple xs, h => by
    simp only [PyData.showable]
    exact smE_showAll xs (by simpa only [SmE] using h)
  | .dict xs, h => by
    have h : xs = [] := by simpa only [SmE] using h
    subst h
    simp only [PyData.showable, PyData.showableKv]
theorem smE_showAll : ∀ xs : List PyData, SmEAll xs → PyData.showableAll xs = true
  | [], _ => by simp only [PyData.showableAll]
  | x :: xs, h => by
    simp only [SmEAll] at h
    simp only [PyData.showableAll, Bool.and_eq_true]
    exact ⟨smE_show x h.1, smE_showAll xs h.2⟩
end
mutual
theorem smE_len : ∀ d : PyData, SmE d → d.shown.length + 2 ≤ 612 * nodes d
  | .none, _ => by simp only [nodes, PyData.shown]; decide
  | .bool b, _ => by cases b <;> simp only [nodes, PyData.shown] <;> decide
  | .int i, h => by
    have z : (toString i).length ≤ 601 := int_text_length_le (by decide) (log_lt (by decide) (show i.natAbs < 2 ^ 600 from by simpa only [SmE] using h))
    have e : (PyData.shown (.int i)).length = (toString i).length := by simp only [PyData.shown]; exact PySem.ofString_length _
    rw [e]
    simp only [nodes]
    omega
  | .str z, h => by
    have h2 : (PyData.str z).shown.length + 2 ≤ 612 := (show _ ∧ _ from by simpa only [SmE] using h).2
    simp only [nodes]
    omega
  | .list xs, h => by
    simp only [PyData.shown, nodes]
    have a := listText_len_le (PyData.shownAll xs)
    have b := smE_lenAll xs (by simpa only [SmE] using h)
    omega
  | .tuple xs, h => by
    simp only [PyData.shown, nodes]
    have a := tupleText_len_le (PyData.shownAll xs)
    have b := smE_lenAll xs (by simpa only [SmE] using h)
    omega
  | .dict xs, h => by
    have h : xs = [] := by simpa only [SmE] using h
    subst h
    simp only [PyData.shown, PyData.shownKv, nodes]
    exact Nat.le_of_ble_eq_true (by decide +kernel)
theorem smE_lenAll : ∀ xs : List PyData, SmEAll xs → ((PyData.shownAll xs).map (·.length)).sum + 2 * (PyData.shownAll xs).length ≤ 612 * nodesAll xs
  | [], _ => by simp [PyData.shownAll, nodesAll]
  | x :: xs, h => by
    simp only [SmEAll] at h
    have a := smE_len x h.1
    have b := smE_lenAll xs h.2
    simp only [PyData.shownAll, nodesAll, List.map_cons, List.sum_cons, List.length_cons]
    omega
end
theorem okdE {d : PyData} (h : SmE d) (hd : d.depth ≤ 60) (hn : nodes d ≤ 20000) : Okd d := ⟨smE_show d h, hd, by
  have := smE_len d h
  have e : sizeLine = 16777216 := sizeLine_eq
  omega⟩
end Gx
set_option Elab.async false
set_option linter.all false
set_option maxRecDepth 100000
set_option maxHeartbeats 1000000
namespace Ab
open PySem PySem.Spec PyProof.Rows L2
open Classical
noncomputable section
section
variable {W : Wl} {E : L2.St → XK} {tr : TA} {fr : AA}
def enumUK : List AV → Sto → Res (List AV × (Sto → Prop)) := fun xs s1 => match xs with
  | [.tup ys] => .ok (enumA ys, fun _ => True) s1
  | xs => enumK xs s1
theorem enumUK_of {xs : List AV} {s1 : Sto} (c : ¬ ∃ ys, xs = [.tup ys]) : enumUK xs s1 = enumK xs s1 := by
  unfold enumUK
  split
  · exact absurd ⟨_, rfl⟩ c
  · rfl
def aEnumU (fr : AA) : AI := fun σ s => (fr σ s).bind enumUK
def enU (K : PySem.W.Frag) (ta : TA) : TI := fun σ H R => iEnum K ta σ H R ∨ Gx.iEnT K ta σ H R
theorem itw_enT {w0 : Wd} {a : Addr} {xs : List AV} {vs : List V} (h : SqT W.K w0.H a vs) (r : RelL W w0 xs vs) (G : Sto → Prop) : ItW W w0 (Gx.ItE W.K a) (enumA xs) G := by
  have hl := r.length
  refine ⟨xs.length, fun H => ∃ e, SqT W.K H a vs ∧ e = vs.length, fun i H v H' => ∃ T x, v = .ref T ∧ H T = none ∧ H' = upd H T (.tup [.int (i : Nat), x]) ∧ vs[i]? = some x, ⟨fun i H hi ⟨_, h1, h2⟩ => ⟨vs, vs[i], h1, by simp⟩, fun H ⟨_, h1, h2⟩ => ⟨vs, h1, Nat.le_of_eq hl.symm⟩, fun i H x H' hi ⟨_, h1, _⟩ ⟨T, x', y1, y2, y3, y4⟩ => ⟨T, x', y1, y2, y3, y4 vs h1⟩⟩, by simp [enumA], fun w s e S' g => ⟨_, sqt_ext e h, rfl⟩, fun w s i y H' e S' g hi hy => ?_⟩
  obtain ⟨T, u, rfl, hT, rfl, h2⟩ := hy
  obtain ⟨z, y1, y2⟩ := (r.mono e).getv i u h2
  have gr := grow_upd (o := .tup [.int (i : Nat), u]) hT
  refine ⟨.tup [.int (i : Nat), z], _, ?_, rfl, .grow gr, S'.grow gr, .tup (.inl (.inl upd_same)) (.cons (.int _) (.cons (y2.mono (.grow gr)) .nil))⟩
  unfold enumA
  rw [List.getElem?_mapIdx, y1]
  rfl
theorem DI.enumU (ha : DA W E tr fr) : DI W E (enU W.K tr) (aEnumU fr) := fun w s σ σc R S Rs h => by
  cases e : fr σ s with
  | stuck =>
    have : aEnumU fr σ s = .stuck := by unfold aEnumU; rw [e]; rfl
    rw [this] at h; exact h.elim
  | err c ns vs s1 =>
    have : aEnumU fr σ s = .err c ns vs s1 := by unfold aEnumU; rw [e]; rfl
    rw [this] at h
    exact .inl (ha w s σ σc _ S Rs (by rw [e]; exact h))
  | ok xs s1 =>
    have e1 : aEnumU fr σ s = enumUK xs s1 := by unfold aEnumU; rw [e]; rfl
    rw [e1] at h
    by_cases c : ∃ ys, xs = [.tup ys]
    · obtain ⟨ys, rfl⟩ := c
      refine .inr (ha w s σ σc _ S Rs ?_)
      rw [e]
      intro w1 v x1 S1 r1
      cases r1 with
      | cons r1 r2 =>
        cases r2
        cases r1 with
        | @tup a _ vs k1 k2 => exact ⟨a, vs, rfl, k1, h w1 _ x1 S1 (itw_enT k1 k2 _)⟩
    · have e2 : aEnum fr σ s = enumUK xs s1 := by
        rw [e_enum, e, Res.bind_ok, enumUK_of c]
      rw [← e2] at h
      exact .inl (DI.enum ha w s σ σc R S Rs h)
theorem e_enumU {σ : ASt} {s : Sto} : aEnumU fr σ s = (fr σ s).bind enumUK := rfl
theorem e_enumUT {ys : List AV} {s : Sto} : enumUK [.tup ys] s = .ok (enumA ys, fun _ => True) s := rfl
theorem e_enumUL {x : AV} {ys : List AV} {s : Sto} (h : lstOf s x = some ys) : enumUK [x] s = .ok (enumA ys, fun s2 => lstOf s2 x = some ys) s := by
  rw [enumUK_of (by rintro ⟨zs, e⟩; cases e; cases h), e_enumK h]
def gMulV : AV → AV → Sto → Res AV := fun x y s => match x, y with
  | .tup a, .int k => if a ≠ [] ∧ -1000 ≤ k ∧ k ≤ 1000 ∧ a.length ≤ 1000 then .ok (.tup (List.replicate k.toNat a).flatten) s else .stuck
  | x, y => gMul x y s
@[simp] theorem gMulV_int {i j : Int} {s : Sto} : gMulV (.int i) (.int j) s = gMul (.int i) (.int j) s := rfl
@[simp] theorem gMulV_str {i : Str} {j : Int} {s : Sto} : gMulV (.str i) (.int j) s = gMul (.str i) (.int j) s := rfl
@[simp] theorem gMulV_obj {i : Nat} {j : Int} {s : Sto} : gMulV (.obj i) (.int j) s = gMul (.obj i) (.int j) s := rfl
def datE : Nat → Sto → AV → Option PyData
  | 0, _, _ => none
  | n + 1, s, x => match x with
    | .non => some .none
    | .bl b => some (.bool b)
    | .int i => some (.int i)
    | .str z => some (.str z)
    | .tup xs => (optL (datE n s) xs).map .tuple
    | .scr xs => (optL (datE n s) xs).map .list
    | .obj i => match s.c i with | .lst xs => (optL (datE n s) xs).map .list | .dic [] => some (.dict []) | _ => none
    | _ => none
section
variable {w : Wd} {s : Sto}
theorem optL_dpE {n : Nat} (ih : ∀ (x : AV) (v : V) (d : PyData), Rel W w x v → datE n s x = some d → Gx.DpE W.K w.H v d) : ∀ {xs : List AV} {vs : List V} {ds : List PyData}, RelL W w xs vs → optL (datE n s) xs = some ds → Gx.DpEA W.K w.H vs ds
  | _, _, _, .nil, e => by
    cases e
    exact .nil
  | _, _, _, .cons h r, e => by
    unfold optL at e
    split at e
    · rename_i d ds e1 e2
      cases e
      exact .cons (ih _ _ _ h e1) (optL_dpE ih r e2)
    · cases e
theorem datE_dp (S : Sim W w s) : ∀ (n : Nat) (x : AV) (v : V) (d : PyData), Rel W w x v → datE n s x = some d → Gx.DpE W.K w.H v d
  | 0, _, _, _, _, e => by cases e
  | n + 1, x, v, d, r, e => by
    cases r with
    | non => cases e; exact .non
    | bl b => cases e; exact .bl b
    | int i => cases e; exact .int i
    | str z => cases e; exact .str z
    | ty => cases e
    | cls => cases e
    | raw => cases e
    | exn => cases e
    | @tup a xs vs h1 h2 =>
      have e : (optL (datE n s) xs).map PyData.tuple = some d := e
      cases k : optL (datE n s) xs with
      | none => rw [k] at e; cases e
      | some ds =>
        rw [k] at e
        cases e
        exact .tup h1 (optL_dpE (datE_dp S n) h2 k)
    | @scr a xs vs h1 h2 =>
      have e : (optL (datE n s) xs).map PyData.list = some d := e
      cases k : optL (datE n s) xs with
      | none => rw [k] at e; cases e
      | some ds =>
        rw [k] at e
        cases e
        exact .lst h1.sql (optL_dpE (datE_dp S n) h2 k)
    | @obj i hi =>
      have e : (match s.c i with | .lst xs => (optL (datE n s) xs).map .list | .dic [] => some (.dict []) | _ => none) = some d := e
      obtain ⟨o, k1, k2⟩ := S.cell i (S.n ▸ hi)
      split at e
      · rename_i xs ec
        rw [ec] at k2
        cases k2 with
        | lst k3 =>
          cases k : optL (datE n s) xs with
          | none => rw [k] at e; cases e
          | some ds =>
            rw [k] at e
            cases e
            exact .lst (.inl (.inl k1)) (optL_dpE (datE_dp S n) k3 k)
      · rename_i ec
        rw [ec] at k2
        cases e
        cases k2 with
        | dic k3 =>
          cases k3
          exact .dic k1
      · cases e
end
def gReprE : List AV → Sto → Res AV := fun xs s => match xs with | [x] => (match datE 12 s x with | some d => if d.showable = true ∧ d.depth ≤ 60 ∧ d.shown.length ≤ sizeLine then .ok (.str d.shown) s else .stuck | none => .stuck) | _ => .stuck
theorem gReprE_dat {x : AV} {s : Sto} {d : PyData} (e : datE 12 s x = some d) (h : d.showable = true ∧ d.depth ≤ 60 ∧ d.shown.length ≤ sizeLine) : gReprE [x] s = .ok (.str d.shown) s := by
  unfold gReprE; simp only [e]; exact if_pos h
theorem NEL.reprE : NEL gReprE := fun x s c ns vs s' h => by 
  unfold gReprE at h
  repeat' split at h
  all_goals first | cases h | (unfold newL at h; cases h)
theorem DB.reprE {W : Wl} : DB W (Gx.rReprE W.K) gReprE := fun w s x v Q S r h => by
  unfold gReprE at h
  split at h
  · cases r with
    | cons r1 r2 =>
      cases r2
      split at h
      · rename_i d e
        split at h
        · rename_i hc
          exact ⟨_, d, rfl, datE_dp S _ _ _ _ r1 e, hc.1, hc.2.1, hc.2.2, h w _ (.refl w) S (.str _)⟩
        · exact h.elim
      · exact h.elim
  · exact h.elim
end
end
end Ab
set_option Elab.async false
set_option linter.all false
set_option maxRecDepth 100000
set_option maxHeartbeats 1000000
namespace Gx
open PySem PySem.Spec PyProof.Rows L2
end Gx
set_option Elab.async false
set_option linter.all false
set_option maxRecDepth 100000
set_option maxHeartbeats 1000000
namespace Ab
open PySem PySem.Spec PyProof.Rows L2
open Classical
end Ab
set_option Elab.async false
set_option linter.all false
set_option maxRecDepth 100000
set_option maxHeartbeats 4000000
namespace Gx
open PySem PySem.Spec PyProof.Rows L2
end Gx
set_option Elab.async false
set_option linter.all false
set_option maxRecDepth 100000
set_option maxHeartbeats 2000000
namespace Mt
open PySem PySem.Spec PyProof.Rows L2
section
variable {X : Cx}
/-- a case of two values -/
def tCase2 (t1 t2 : TE) (tb : TS) (tr : V → TS) : V → TS := fun v => tIfS (tTest (tOp rEq (tC v) t1)) tb (tIfS (tTest (tOp rEq (tC v) t2)) tb (tr v))
theorem pmc_val2 {v1 v2 : Expr} {p1 p2 pos : Pos} {body : List Stmt} {rest : List MatchCase} {t1 t2 : TE} {tb : TS} {tr : V → TS} (h1 : PE X v1 t1) (h2 : PE X v2 t2) (hb : PSs X body tb) (hr : PMC X rest tr) : PMC X (⟨.MatchOr [.MatchValue v1 p1, .MatchValue v2 p2] pos, none, body⟩ :: rest) (tCase2 t1 t2 tb tr) := by
  refine ⟨fun pins s σ H D v u first I r h => ?_⟩
  refine wpAny_matchCases_cons (wpAny_matchPattern_Or (wpAny_matchFirst_cons (wpAny_matchPattern_Value ?_)))
  refine thn (h1.run pins s σ H _ I h) fun x s1 ⟨y, H1, I1, r1, q1⟩ => ?_
  refine thn (op_eq pins s1 σ H1 v y u x _ I1 r r1 q1) fun c s2 ⟨z, H2, I2, r2, k, e, q2⟩ => ?_
  subst e
  cases r2
  refine wpAny_truthy_bool ?_
  cases k with
  | true => exact wpAny_assignInOrder_none (hb.run pins s2 σ H2 D I2 q2)
  | false =>
    refine wpAny_matchFirst_cons (wpAny_matchPattern_Value ?_)
    refine thn (h2.run pins s2 σ H2 _ I2 q2) fun x s3 ⟨y, H3, I3, r3, q3⟩ => ?_
    refine thn (op_eq pins s3 σ H3 v y u x _ I3 r r3 q3) fun c s4 ⟨z, H4, I4, r4, k, e, q4⟩ => ?_
    subst e
    cases r4
    refine wpAny_truthy_bool ?_
    cases k with
    | true => exact wpAny_assignInOrder_none (hb.run pins s4 σ H4 D I4 q4)
    | false => exact wpAny_matchFirst_nil (hr.run pins s4 σ H4 D v u false I4 r q4)
end
end Mt
namespace Ab
open PySem PySem.Spec PyProof.Rows L2
section
def aMNil : AV → AS := fun _ => aNext
def aMAny (f : AS) : AV → AS := fun _ => f
def aMCase (k : Str) (fb : AS) (fr : AV → AS) : AV → AS := fun x σ s => match x with | .str y => if y = k then fb σ s else fr (.str y) σ s | _ => .stuck
def aMCase2 (k l : Str) (fb : AS) (fr : AV → AS) : AV → AS := aMCase k fb (aMCase l fb fr)
def aMatch (fa : AE) (fc : AV → AS) : AS := fun σ s => (fa σ s).st σ fun x s1 => fc x σ s1
variable {W : Wl} {E : L2.St → XK}
def DMt (W : Wl) (E : L2.St → XK) (tc : V → TS) (fc : AV → AS) : Prop := ∀ (w : Wd) (s : Sto) (σ : ASt) (σc : L2.St) (D : Ends) (x : AV) (v : V), Sim W w s → RSt W w σ σc → Rel W w x v → (fc x σ s).P W w D E → tc v D σc w.H
theorem DMt.nil : DMt W E Mt.tEnd aMNil := fun w s σ σc D x v S R r h => h w σc (.refl w) S R
theorem DMt.any {tb : TS} {fb : AS} (hb : DS W E tb fb) : DMt W E (Mt.tAny tb) (aMAny fb) := fun w s σ σc D x v S R r h => hb w s σ σc D S R h
theorem DMt.case {k : Str} {tb : TS} {fb : AS} {tr : V → TS} {fr : AV → AS} (hb : DS W E tb fb) (hr : DMt W E tr fr) : DMt W E (Mt.tCase (tC (.str k)) tb tr) (aMCase k fb fr) := fun w s σ σc D x v S R r h => by
  unfold aMCase at h
  cases r with
  | str y =>
    by_cases e : y = k
    · simp only [if_pos e] at h
      refine ⟨rfl, decide (V.str y = V.str k), rfl, ?_⟩
      rw [decide_eq_true (congrArg V.str e)]
      exact hb w s σ σc D S R h
    · simp only [if_neg e] at h
      refine ⟨rfl, decide (V.str y = V.str k), rfl, ?_⟩
      rw [decide_eq_false (fun c => e (V.str.inj c))]
      exact hr w s σ σc D _ _ S R (.str y) h
  | _ => exact h.elim
theorem DMt.case2 {k l : Str} {tb : TS} {fb : AS} {tr : V → TS} {fr : AV → AS} (hb : DS W E tb fb) (hr : DMt W E tr fr) : DMt W E (Mt.tCase2 (tC (.str k)) (tC (.str l)) tb tr) (aMCase2 k l fb fr) := fun w s σ σc D x v S R r h =>
  DMt.case (tr := Mt.tCase (tC (.str l)) tb tr) hb (DMt.case hb hr) w s σ σc D x v S R r h
theorem DS.match {ta : TE} {fa : AE} {tc : V → TS} {fc : AV → AS} (ha : DE W E ta fa) (hc : DMt W E tc fc) : DS W E (Mt.tMatch ta tc) (aMatch fa fc) := fun w s σ σc D S R h =>
  ha w s σ σc _ S R ((exp_post R h).mono (fun v s1 h1 w1 vc e1 S1 r1 => hc w1 s1 σ σc D v vc S1 (R.mono e1) r1 (P.mono e1 h1)) fun _ _ _ _ z => z)
end
section
noncomputable def gMulB : AV → AV → Sto → Res AV := fun x y s => match x, y with
  | .tup [a], .int k => if 2 ≤ k ∧ k ≤ 100000 then .ok (.tup (List.replicate k.toNat [a]).flatten) s else gMulV (.tup [a]) (.int k) s
  | x, y => gMulV x y s
@[simp] theorem gMulB_int {i j : Int} {s : Sto} : gMulB (.int i) (.int j) s = gMul (.int i) (.int j) s := rfl
@[simp] theorem gMulB_str {i : Str} {j : Int} {s : Sto} : gMulB (.str i) (.int j) s = gMul (.str i) (.int j) s := rfl
@[simp] theorem gMulB_obj {i : Nat} {j : Int} {s : Sto} : gMulB (.obj i) (.int j) s = gMul (.obj i) (.int j) s := rfl
end
section
variable {k l : Str} {fb : AS} {fr : AV → AS} {y : Str} {x : AV} {σ : ASt} {s : Sto} {fa : AE} {fc : AV → AS}
theorem e_match : aMatch fa fc σ s = (fa σ s).st σ fun x s1 => fc x σ s1 := rfl
theorem e_mcase : aMCase k fb fr (.str y) σ s = if y = k then fb σ s else fr (.str y) σ s := rfl
theorem e_mcase2 : aMCase2 k l fb fr (.str y) σ s = if y = k then fb σ s else if y = l then fb σ s else fr (.str y) σ s := rfl
theorem e_many : aMAny fb x σ s = fb σ s := rfl
theorem e_mnil : aMNil x σ s = .nx σ s := rfl
end
end Ab
set_option Elab.async false
set_option linter.all false
set_option maxRecDepth 100000
set_option maxHeartbeats 1000000
namespace Sm
open PySem PySem.Spec PyProof.Rows L2
def rEq0 (K : PySem.W.Frag) : R2 := fun x y H Q => ∃ a b xs, x = .ref a ∧ y = .ref b ∧ SqT K H a xs ∧ SqT K H b [] ∧ xs ≠ [] ∧ Q (.bl false) H
section
variable {X : Cx}
theorem op_eq0 (hu : X.A.units + 64 < cLine) : OpR X (compareOp .Eq) (rEq0 X.K) := by
  intro pins s σ H x y v u Q I rx ry h
  obtain ⟨a, b, xs, rfl, rfl, h, h', hn, q⟩ := h
  cases rx
  cases ry
  obtain ⟨its, r1, p1, _⟩ := I.tuple h
  obtain ⟨its2, r2, p2, _⟩ := I.tuple h'
  have e1 := r1.length
  have e2 : its2 = [] := List.eq_nil_of_length_eq_zero r2.length.symm
  subst e2
  have := SeqAt.RcAt.tuples (A := X.A) (e := fun _ => true) p1 p2 (by omega) fun j h1 h2 => absurd h2 (by simp)
  have sz : (its.toArray.size == ([] : List Value).toArray.size) = false := by
    rw [beq_eq_false_iff_ne, List.size_toArray, ← e1]
    exact fun c => hn (List.eq_nil_of_length_eq_zero c)
  rw [sz, Bool.and_false] at this
  exact this _ _ _ _ ⟨.bl _, H, I, rfl, q⟩
end
end Sm
set_option Elab.async false
set_option linter.all false
set_option maxRecDepth 100000
set_option maxHeartbeats 1000000
namespace Ab
open PySem PySem.Spec PyProof.Rows L2
open Classical
noncomputable section
/-- a tuple == () -/
def gEq0 : AV → AV → Sto → Res AV := fun x y s => match x, y with
  | .tup (_ :: _), .tup [] => .ok (.bl false) s
  | x, y => gEq x y s
@[simp] theorem gEq0_tup {a : AV} {l : List AV} {s : Sto} : gEq0 (.tup (a :: l)) (.tup []) s = .ok (.bl false) s := rfl
theorem NE2.eq0 : NE2 gEq0 := fun x y s c ns vs s' h => by
  unfold gEq0 at h
  split at h
  · cases h
  · exact NE2.eq _ _ _ _ _ _ _ h
def rEqZ (K : PySem.W.Frag) : R2 := fun x y H Q => Sm.rEq0 K x y H Q ∨ rEqU K x y H Q
theorem op_eqZ {X : Cx} (hu : X.A.units + 64 < cLine) : OpR X (compareOp .Eq) (rEqZ X.K) := OpR.or (Sm.op_eq0 hu) (op_eqU hu)
theorem DR.eq0 {W : Wl} : DR W (rEqZ W.K) gEq0 := fun w s x y v u Q S rx ry h => by
  unfold gEq0 at h
  split at h
  · rename_i a l
    cases rx with
    | @tup a' xs vs h1 r1 =>
      cases ry with
      | @tup b' ys us h2 r2 =>
        cases r2
        exact .inl ⟨_, _, vs, rfl, rfl, h1, h2, (by rintro rfl; cases r1), h w _ (.refl w) S (.bl false)⟩
  · exact .inr (DR.eq w s x y v u Q S rx ry h)
def aListRg1 (fa : AE) : AE := fun σ s => (fa σ s).bind fun x s1 => match x with | .int n => if RgOk 0 n then newL (rngA 0 (n - 0).toNat) s1 else .stuck | _ => .stuck
section
variable {W : Wl} {E : L2.St → XK} {ta tb : TE} {fa fb : AE}
theorem rngA_rel {w : Wd} (m n : Int) : RelL W w (rngA m (n - m).toNat) (rgV m n) := by
  unfold rngA rgV
  generalize List.range (n - m).toNat = l
  induction l with
  | nil => exact .nil
  | cons a l ih => exact .cons (.int _) ih
theorem DE.listRg1 (ha : DE W E ta fa) : DE W E (tLstRg (tRg1 ta)) (aListRg1 fa) := fun w s σ σc Q S R h => by
  refine ha w s σ σc _ S R ((post_bind_ok h).mono (fun x s1 h1 w1 v e1 S1 r1 => ?_) fun _ _ _ _ z => z)
  split at h1
  · rename_i n
    split at h1
    · rename_i hl
      cases r1
      exact ⟨n, rfl, hl, newL_ok S1 (rngA_rel 0 n) (OkP.mono e1 h1)⟩
    · exact (show False from h1).elim
  · exact (show False from h1).elim
end
section
variable {σ : ASt} {s s1 : Sto} {fa : AE} {n : Int}
theorem listRg1_ok {m : Nat} (h : fa σ s = .ok (.int (m : Nat)) s1) (hm : m ≤ 16777216) : aListRg1 fa σ s = .ok (.obj s1.n) (s1.new (.lst (rngA 0 m))) := by
  unfold aListRg1
  rw [h]
  show (if RgOk 0 ((m : Nat) : Int) then newL (rngA 0 (((m : Nat) : Int) - 0).toNat) s1 else .stuck) = _
  rw [if_pos (show RgOk 0 ((m : Nat) : Int) from ⟨by omega, by omega, by omega, by omega, by omega⟩), show (((m : Nat) : Int) - 0).toNat = m by omega]
  rfl
end
end
end Ab
set_option Elab.async false
set_option linter.all false
set_option maxRecDepth 100000
set_option maxHeartbeats 1000000
set_option Elab.async false
set_option linter.all false
set_option maxRecDepth 100000
set_option maxHeartbeats 1000000
namespace Gx
open PySem PySem.Spec PyProof.Rows L2 PySem.HandSPX
end Gx
set_option Elab.async false
set_option linter.all false
set_option maxRecDepth 100000
set_option maxHeartbeats 1000000
namespace Ab
open PySem PySem.Spec PyProof.Rows L2
open Classical
noncomputable section
theorem valO_rel {W : Wl} {w : Wd} {k : Key} {fs : List (Key × AV)} {gs : List (Key × V)} (r : RelK W w fs gs) : (valV gs k).isSome = (valA fs k).isSome := by
  cases e : valA fs k with
  | none => rw [valN_rel r e]; rfl
  | some x =>
    obtain ⟨v, h, _⟩ := val_rel r x e
    rw [h]; rfl
/-- y in d -/
def gDIn (neg : Bool) (y x : AV) (s : Sto) : Res AV := match x, toKey y with | .obj i, some k => (match s.c i with | .dic kvs => .ok (.bl (if neg then !(valA kvs k).isSome else (valA kvs k).isSome)) s | _ => .stuck) | _, _ => .stuck
theorem gDIn_obj {neg : Bool} {i : Nat} {y : AV} {k : Key} {kvs : List (Key × AV)} {s : Sto} (e : s.c i = .dic kvs) (hk : toKey y = some k) : gDIn neg y (.obj i) s = .ok (.bl (if neg then !(valA kvs k).isSome else (valA kvs k).isSome)) s := by
  unfold gDIn; simp only [hk, e]
section
variable {W : Wl} {E : L2.St → XK} {ta tb td : TE} {fa fb fd : AE}
theorem DE.din (ha : DE W E ta fa) (hb : DE W E tb fb) : DE W E (tDIn ta tb) (aOp (gDIn false) fa fb) := fun w s σ σc Q S R h => by
  refine ha w s σ σc _ S R ((post_bind_ok h).mono (fun y s1 h1 w1 v e1 S1 r1 => ?_) fun _ _ _ _ z => z)
  refine hb w1 s1 σ σc _ S1 (R.mono e1) ((post_bind_ok h1).mono (fun x s2 h2 w2 u e2 S2 r2 => ?_) fun _ _ _ _ z => z.mono e1)
  unfold gDIn at h2
  split at h2
  · rename_i i k hk
    split at h2
    · rename_i kvs e
      obtain ⟨o, k1, k2, k3, k4⟩ := cell_at S2 r2 e
      cases k4 with
      | dic r =>
        refine ⟨_, _, k2, .inl ⟨_, k, .inl k3, key_rel (r1.mono e2) hk, rfl⟩, ?_⟩
        rw [valO_rel r]
        exact h2 w2 _ (e1.trans e2) S2 (.bl _)
    · exact (show False from h2).elim
  · exact (show False from h2).elim
/-- d.get(y, z) -/
def isDic (s : Sto) (x : AV) : Prop := ∃ i kvs, x = .obj i ∧ s.c i = .dic kvs
def gGet2 (x y z : AV) (s : Sto) : Res AV := match x, toKey y with | .obj i, some k => (match s.c i with | .dic kvs => .ok ((valA kvs k).getD z) s | _ => .stuck) | _, _ => .stuck
def aGet2 (fd fa fb : AE) : AE := fun σ s => (fd σ s).bind fun x s1 => if isDic s1 x then (fa σ s1).bind fun y s2 => (fb σ s2).bind fun z s3 => gGet2 x y z s3 else .stuck
def get2K (fa fb : AE) (σ : ASt) : AV → Sto → Res AV := fun x s1 => if isDic s1 x then (fa σ s1).bind fun y s2 => (fb σ s2).bind fun z s3 => gGet2 x y z s3 else .stuck
theorem e_get2 {σ : ASt} {s : Sto} : aGet2 fd fa fb σ s = (fd σ s).bind (get2K fa fb σ) := rfl
end
theorem ints_relE {W : Wc} {w : Wd} (ns : List Int) : RelL W w (ns.map .int) (ns.map V.int) := by
  induction ns with
  | nil => exact .nil
  | cons n ns ih => exact .cons (.int _) ih
/-- sorted(..) of a list of ints -/
def srt (ns : List Int) : List Int := ns.mergeSort (fun a b => decide (a ≤ b))
theorem srt_perm (ns : List Int) : (srt ns).Perm ns := List.mergeSort_perm _ _
theorem srt_ord (ns : List Int) : (srt ns).Pairwise (· ≤ ·) := by
  have := List.pairwise_mergeSort (le := fun a b : Int => decide (a ≤ b)) (fun a b c h1 h2 => by simp at *; omega) (fun a b => by simp; omega) ns
  exact this.imp fun h => by simpa using h
theorem ord_uniq : ∀ {l m : List Int}, l.Perm m → l.Pairwise (· ≤ ·) → m.Pairwise (· ≤ ·) → l = m
  | [], m, p, _, _ => (List.perm_nil.mp p.symm).symm
  | a :: l, [], p, _, _ => absurd (List.perm_nil.mp p) (by simp)
  | a :: l, b :: m, p, h1, h2 => by
    rw [List.pairwise_cons] at h1 h2
    have ha : a ∈ b :: m := p.subset List.mem_cons_self
    have hb : b ∈ a :: l := p.symm.subset List.mem_cons_self
    have e : a = b := by
      rcases List.mem_cons.mp ha with e | ha
      · exact e
      · rcases List.mem_cons.mp hb with e | hb
        · exact e.symm
        · exact Int.le_antisymm (h1.1 _ hb) (h2.1 _ ha)
    subst e
    rw [ord_uniq (p.cons_inv) h1.2 h2.2]
theorem srt_uniq {ns l : List Int} (p : l.Perm ns) (h : l.Pairwise (· ≤ ·)) : l = srt ns := ord_uniq (p.trans (srt_perm ns).symm) h (srt_ord ns)
def augSK (g : AV → AV → Sto → Res AV) (σ : ASt) (o i x y : AV) (s : Sto) : SRes := (g x y s).st σ fun z s2 => oNx σ (setL o i z s2)
def getLN (o i : AV) (s : Sto) : Option AV := match o, i with | .obj j, .int k => (match s.c j with | .lst xs => if 0 ≤ k ∧ k < 2 ^ 63 then xs[k.toNat]? else none | _ => none) | _, _ => none
def augS2 (g : AV → AV → Sto → Res AV) (fe : AE) (σ : ASt) (o i : AV) (s : Sto) : SRes := match getLN o i s with | some x => (fe σ s).st σ (augSK g σ o i x) | none => .stuck
def augS1 (g : AV → AV → Sto → Res AV) (fi fe : AE) (σ : ASt) (o : AV) (s : Sto) : SRes := (fi σ s).st σ (augS2 g fe σ o)
def aAugS (g : AV → AV → Sto → Res AV) (fo fi fe : AE) : AS := fun σ s => (fo σ s).st σ (augS1 g fi fe σ)
theorem s_augS {g : AV → AV → Sto → Res AV} {fo fi fe : AE} {σ : ASt} {s : Sto} : aAugS g fo fi fe σ s = (fo σ s).st σ (augS1 g fi fe σ) := rfl
theorem s_augS1 {g : AV → AV → Sto → Res AV} {fi fe : AE} {σ : ASt} {s : Sto} {o : AV} : augS1 g fi fe σ o s = (fi σ s).st σ (augS2 g fe σ o) := rfl
/-- lists of the very same things are equal -/
def gEqS : AV → AV → Sto → Res AV := fun x y s => match lstOf s x, lstOf s y with
  | some xs, some ys => if xs = ys ∧ xs.all (smA 19) = true then .ok (.bl true) s else gEq x y s
  | _, _ => gEq x y s
@[simp] theorem gEqS_int {i j : Int} {s : Sto} : gEqS (.int i) (.int j) s = .ok (.bl (decide (i = j))) s := gEq_int
@[simp] theorem gEqS_str {i j : Str} {s : Sto} : gEqS (.str i) (.str j) s = .ok (.bl (decide (i = j))) s := gEq_str
@[simp] theorem gEqS_bl {i j : Bool} {s : Sto} : gEqS (.bl i) (.bl j) s = .ok (.bl (decide (i = j))) s := gEq_bl
@[simp] theorem gEqS_tup {i : List AV} {j : AV} {s : Sto} : gEqS (.tup i) j s = gEq (.tup i) j s := rfl
def gMulW : AV → AV → Sto → Res AV := fun x y s => match x, y with
  | .tup [a], .int k => if 1000 < k ∧ k ≤ 100000 then .ok (.tup (List.replicate k.toNat [a]).flatten) s else gMulV (.tup [a]) (.int k) s
  | x, y => gMulV x y s
@[simp] theorem gMulW_int {i j : Int} {s : Sto} : gMulW (.int i) (.int j) s = gMul (.int i) (.int j) s := rfl
@[simp] theorem gMulW_str {i : Str} {j : Int} {s : Sto} : gMulW (.str i) (.int j) s = gMul (.str i) (.int j) s := rfl
@[simp] theorem gMulW_obj {i : Nat} {j : Int} {s : Sto} : gMulW (.obj i) (.int j) s = gMul (.obj i) (.int j) s := rfl
end
end Ab
namespace Gx
open PySem PySem.Spec PyProof.Rows L2
theorem same_len {l m : List Int} (h1 : l.Nodup) (h2 : m.Nodup) (h : ∀ k, k ∈ l ↔ k ∈ m) : l.length = m.length :=
  Nat.le_antisymm (nodup_le h1 fun x hx => (h x).mp hx) (nodup_le h2 fun x hx => (h x).mpr hx)
end Gx
namespace Ab
open PySem PySem.Spec PyProof.Rows L2
open Classical
end Ab
namespace Gx
open PySem PySem.Spec PyProof.Rows L2
end Gx
namespace Ab
open PySem PySem.Spec PyProof.Rows L2
open Classical
end Ab
namespace Gx
open PySem PySem.Spec PyProof.Rows L2
end Gx
namespace Ab
open PySem PySem.Spec PyProof.Rows L2
open Classical
noncomputable section
def aMethS (c : String) (m : Str) (F : List AV → Sto → Res AV) (fa : AE) (fr : AA) : AE := fun σ s => (fa σ s).bind fun x s1 => if clsIs s1 x c m = true then (fr σ s1).bind fun xs s2 => if xs.length ≤ sizeLine then F [x, .tup xs] s2 else .stuck else .stuck
section
variable {c : String} {m : Str} {F : List AV → Sto → Res AV} {fa : AE} {fr : AA} {σ : ASt} {s : Sto} {x : AV} {xs : List AV}
def mSK2 (F : List AV → Sto → Res AV) (x : AV) : List AV → Sto → Res AV := fun xs s2 => if xs.length ≤ sizeLine then F [x, .tup xs] s2 else .stuck
def mSK1 (c : String) (m : Str) (F : List AV → Sto → Res AV) (fr : AA) (σ : ASt) : AV → Sto → Res AV := fun x s1 => if clsIs s1 x c m = true then (fr σ s1).bind (mSK2 F x) else .stuck
theorem e_methS : aMethS c m F fa fr σ s = (fa σ s).bind (mSK1 c m F fr σ) := rfl
theorem e_methS1 : mSK1 c m F fr σ x s = grd (clsIs s x c m = true) ((fr σ s).bind (mSK2 F x)) := rfl
theorem e_methS2 : mSK2 F x xs s = grd (xs.length ≤ sizeLine) (F [x, .tup xs] s) := rfl
end
end
end Ab
namespace Ab
open PySem PySem.Spec PyProof.Rows L2
open Classical
noncomputable section
def lcIX (k : Nat) (G : Sto → Prop) (g : AV → AS) (ft : AT) (fe : AE) (σ0 : ASt) : List AV → Sto → Res AV
  | [] => fun s => if G s then .ok (.obj k) s else .stuck
  | x :: r => fun s => if G s then (match g x σ0 s with
    | .nx σ2 s2 => (match ft σ2 s2 with
      | .ok true s3 => (match fe σ2 s3 with
        | .ok y s4 => (match s4.c k with | .lst acc => if acc.length < sizeLine then lcIX k G g ft fe σ0 r (s4.set k (.lst (acc ++ [y]))) else .stuck | _ => .stuck)
        | .err c ns vs s4 => .err c ns vs s4
        | .stuck => .stuck)
      | .ok false s3 => lcIX k G g ft fe σ0 r s3
      | .err c ns vs s3 => .err c ns vs s3
      | .stuck => .stuck)
    | _ => .stuck) else .stuck
def aLcX (fi : AI) (g : AV → AS) (ft : AT) (fe : AE) (vs : List Nat) : AE := fun σ s => (fi σ s).bind fun p s1 => lcIX s1.n p.2 g ft fe (wipeA σ vs) p.1 (s1.new (.lst []))
section
variable {σ : ASt} {s : Sto} {fi : AI} {g : AV → AS} {ft : AT} {fe : AE} {vs : List Nat}
def lcXK (g : AV → AS) (ft : AT) (fe : AE) (vs : List Nat) (σ : ASt) : List AV × (Sto → Prop) → Sto → Res AV := fun p s1 => lcIX s1.n p.2 g ft fe (wipeA σ vs) p.1 (s1.new (.lst []))
theorem e_lcX : aLcX fi g ft fe vs σ s = (fi σ s).bind (lcXK g ft fe vs σ) := rfl
theorem e_lcXK {xs : List AV} {G : Sto → Prop} : lcXK g ft fe vs σ (xs, G) s = lcIX s.n G g ft fe (wipeA σ vs) xs (s.new (.lst [])) := rfl
end
end
end Ab
set_option Elab.async false
set_option linter.all false
set_option maxRecDepth 100000
set_option maxHeartbeats 2000000
namespace SrtO
open PySem PyProof.Rows Srt PySem.Spec
section
variable {prog : Program} {w : World} {A : Around} {E : Value → Shared → Prop} {s : Shared}
/-- what a tuple holds is gathered into a new list -/
theorem gather_tup {t : Addr} {vs : List Value} {Q : List Value → Shared → Prop} (ht : IsTup s.heap t vs.toArray) (hsz : vs.length ≤ sizeLine)
    (h : Q vs { s with heap := (s.heap.push (seqObj "list" #[] 0)).update s.heap.objs.size (Obj.mapSeq (· ++ vs.toArray)) }) : wpAny (model prog w) A (collect (.ref t)) Q E s := by
  obtain ⟨o, eo, co, n, dO⟩ := ht
  obtain ⟨a, ha⟩ : ∃ a, a = s.heap.objs.size := ⟨_, rfl⟩
  have fresh : (s.heap.push (seqObj "list" #[] 0)).get? a = some (seqObj "list" #[] 0) := by rw [ha]; exact Heap.get?_push_size _ rfl
  have stays : (s.heap.push (seqObj "list" #[] 0)).get? t = some o := Heap.get?_push_of_some _ eo
  have room : (#[] ++ vs.toArray : Array Value).size ≤ sizeLine + 1 := by simp only [Array.size_append, List.size_toArray, List.length_nil]; omega
  rw [← ha] at h
  unfold collect
  refine wpAny_bind (wpAny_runValue (codeAny_builtin entry_proto_collect' ?_))
  show wpAny _ _ (do again (.builtin "list.__iadd__" ⟨[← newList [], .ref t], []⟩)) _ _ s
  refine wpAny_bind (wpAny_newList (wpAny_pure ⟨Code.quiet_builtin _ (by decide +kernel), codeAny_builtin entry_list_iadd' ?_⟩))
  rw [← ha]
  show wpAny _ _ (Builtin.List.listExtendWith (.ref a) (.ref t) (.ref a)) _ _ { s with heap := s.heap.push (seqObj "list" #[] 0) }
  unfold Builtin.List.listExtendWith
  refine wpAny_bind (wpAny_typeOf (T := "tuple") ⟨o, stays, co⟩ ?_)
  rw [if_pos (by simp)]
  refine wpAny_bind (listItems_at stays dO ?_)
  refine wpAny_bind (listItems_at (xs := #[]) (n := 0) fresh rfl ?_)
  rw [if_neg (by simp)]
  refine wpAny_bind (listUpdate_at (xs := #[]) (n := 0) fresh rfl ?_ (Nat.zero_le _) room)
  refine wpAny_pure ?_
  show wpAny (model prog w) A (do
      let o ← load a
      match o.data with
      | .seq xs _ => pure xs.toList
      | _ => unsupported "internal:collect") Q E _
  refine wpAny_bind (wpAny_load (get?_update_seq fresh _) ?_)
  show wpAny _ A (pure (#[] ++ vs.toArray : Array Value).toList) Q E _
  have e : (#[] ++ vs.toArray : Array Value).toList = vs := by simp
  rw [e]
  exact wpAny_pure h
/-- sorted(t), t a tuple -/
theorem order_tup {t : Addr} {vs : List Value} {lt2 : Value → Value → Bool} {Q : Value → Shared → Prop} (O : Swo lt2) (ht : IsTup s.heap t vs.toArray) (hz : vs.length ≤ sizeLine)
    (hS : 2 ≤ vs.length → ∀ (k : Heap) (a : Addr), k.get? a = some (seqObj "list" vs.toArray 0) → SortableO prog w A.in1.in1 { s with heap := k } a vs lt2)
    (h : ∀ out : List Value, Srtd lt2 out → Stb lt2 out vs → Q (.ref (s.heap.objs.size + 1)) { s with heap := sortedAll s.heap vs out.toArray }) :
    wpAny (model prog w) A (call (.builtin "sorted") [.ref t]) Q E s := by
  refine Calls.call_function_entry kind_sorted plain_sorted entry_sorted (args_sorted1 _) ?_
  unfold Builtin.«sorted»
  refine wpAny_bind (m := checkCount "sorted" 1 1 _) (wpAny_pure (wpAny_bind (gather_tup ht hz (wpAny_bind (wpAny_newList ?_ hz)))))
  obtain ⟨g, hg⟩ : ∃ g, g = (s.heap.push (seqObj "list" #[] 0)).update s.heap.objs.size (Obj.mapSeq (· ++ vs.toArray)) := ⟨_, rfl⟩
  have n1 : g.objs.size = s.heap.objs.size + 1 := by rw [hg, Heap.size_update, size_push']
  have at1 : (g.push (seqObj "list" vs.toArray 0)).get? (s.heap.objs.size + 1) = some (seqObj "list" vs.toArray 0) := by
    rw [← n1]
    exact Heap.get?_push_size _ rfl
  have all : sortedAll s.heap vs = fun out => sortedHeap (g.push (seqObj "list" vs.toArray 0)) (s.heap.objs.size + 1) vs out := by
    funext out
    rw [hg]
    rfl
  rw [all] at h
  rw [← hg]
  show wpAny _ _ _ _ _ { s with heap := g.push (seqObj "list" vs.toArray 0) }
  rw [n1]
  exact wpAny_bind (wpAny_holding (wpAny_call_entry slot_list_sort ⟨_, at1, rfl⟩ entry_list_sort (list_sort_ord O at1 hz (fun h2 => hS h2 _ _ at1) fun out k1 k2 => ⟨_, rfl, wpAny_pure ⟨_, rfl, h out k1 k2⟩⟩) (args_list_sort _)))
end
end SrtO
namespace Gx
open PySem PySem.Spec PyProof.Rows L2
def rSortedT (K : PySem.W.Frag) : List V → Hp → VK → Prop := fun vs H Q => ∃ (a : Addr) (ns : List Int), vs = [V.ref a] ∧ SqT K H a (ns.map V.int) ∧
  ∀ (ms : List Int) (p : Addr), ms.Perm ns → ms.Pairwise (· ≤ ·) → H p = none → Q (.ref p) (upd H p (.lst (ms.map V.int)))
theorem cr_sortedT {X : Cx} : CallR X (.builtin "sorted") (rSortedT X.K) := by
  intro pins s σ H vs us Q I r h
  obtain ⟨a, ns, rfl, hs, q⟩ := h
  obtain ⟨its, rv, hl, hz⟩ := I.tuple hs
  rw [Vals.ref1 r]
  have hi := rv.ints
  refine SrtO.order_tup SrtO.swo_int hl (by rw [← rv.length]; exact hz) (fun h2 _ _ _ => SrtO.ints_sortable hi h2) fun out h1 h2 => ?_
  obtain ⟨k1, k2, k3⟩ := SrtO.ints_out hi h1 h2
  obtain ⟨ep, at_⟩ := PyProof.Rows.sortedAll_at s.heap its out.toArray
  have room : ((out.map SrtO.iv).map V.int).length ≤ sizeLine := by
    rw [List.length_map] at hz
    rw [List.length_map, k2.length_eq]
    exact hz
  have fr := I.hok.fresh (Nat.le_succ s.heap.objs.size)
  exact ⟨.ref _, upd H (s.heap.objs.size + 1) (.lst ((out.map SrtO.iv).map V.int)), I.laid (t' := s.toks) (fun _ _ => PyProof.Rows.sortedAll_old) (Nat.le_succ _) ⟨room, out, ep, vals_of_ints k1, at_⟩, rfl, q _ _ k2 k3 fr⟩
end Gx
set_option Elab.async false
set_option linter.all false
set_option maxRecDepth 100000
set_option maxHeartbeats 1000000
namespace Ab
open PySem PySem.Spec PyProof.Rows L2
open Classical
noncomputable section
/-- a, a - 1, .. b + 1 -/
def dnV (a b : Int) : List V := (List.range (a - b).toNat).map fun i => V.int (a - (i : Nat))
def dnA (a : Int) (n : Nat) : List AV := (List.range n).map fun i => AV.int (a - (i : Nat))
def tLstDn (ta : TA) : TE := fun σ H Q => ta σ H fun vs H1 => ∃ i j : Int, vs = [.int i, .int j, .int (-1)] ∧ RgOk j i ∧ ∀ q, H1 q = none → Q (.ref q) (upd H1 q (.lst (dnV i j)))
theorem vals_dn {a b : Int} {acc : Array Value} (h : ItemsOf (fun i v => ∃ t, v = .int (a + i * (-1)) t) acc (a - b).toNat) : Vals (dnV a b) acc.toList := by
  have e : acc.toList.length = (a - b).toNat := by rw [Array.length_toList]; exact h.1
  unfold dnV
  rw [← e]
  refine vals_of_get acc.toList _ fun j u hj => ?_
  obtain ⟨t, rfl⟩ := h.2 j u (by rw [← hj, Array.getElem?_toList])
  exact ⟨t, congrArg (Value.int · t) (by omega)⟩
theorem pe_listDn {X : Cx} {a b c : Expr} {ta : TA} {p p1 pos pos1 : Pos} (hc : X.calm = true) (hg : Gl X "list") (hm : X.mg "list" = none) (hg1 : Gl X "range") (hm1 : X.mg "range" = none) (ha : PA X [a, b, c] ta)
    (hs : starEach [a, b, c] X.env = (false, eval a X.env) :: starEach [b, c] X.env := by rfl) (hpl : (backTo pos1 (starEach [b, c] X.env)).any (·.1) = false := by rfl)
    (na : starEach [.Call (.Name "range" p1) [a, b, c] [] pos1] X.env = (false, eval (.Call (.Name "range" p1) [a, b, c] [] pos1) X.env) :: starEach [] X.env := by rfl) :
    PE X (.Call (.Name "list" p) [.Call (.Name "range" p1) [a, b, c] [] pos1] [] pos) (tLstDn ta) := by
  refine ⟨fun pins s σ H Q I h => ?_⟩
  refine Call_ (ld_blt I hg hm boot_list (PyProof.Rows.callWith_type1 (args_cons ?_ na) na))
  refine Call_ (ld_blt I hg1 hm1 boot_range (PyProof.Rows.callWith_type1 (thn (ha.run pos1 pins s σ H _ I h) fun us s1 ⟨vs, H1, I1, r1, q1⟩ => ?_) hs hpl))
  obtain ⟨i, j, e, ok, q⟩ := q1
  subst e
  cases r1 with
  | cons r rr =>
    cases rr with
    | cons r' rr =>
      cases rr with
      | cons r'' rr =>
        cases rr
        obtain ⟨t, rfl⟩ := r
        obtain ⟨t', rfl⟩ := r'
        obtain ⟨t'', rfl⟩ := r''
        refine call_range_3 (by decide) ?_ (.inl (PyProof.noPylong_small (by decide)))
        refine args_nil ?_
        obtain ⟨b1, b2, b3, b4, b5⟩ := ok
        have I2 : Inv X pins σ H1 { s1 with heap := s1.heap.push { cls := .type "range", data := .fields #[.int i t, .int j t', .int (-1) t''] } } := I1.kept (t' := s1.toks) fun b o e => Heap.get?_push_of_some _ e
        obtain ⟨s2, hs2⟩ : ∃ z : Shared, z = { s1 with heap := s1.heap.push { cls := .type "range", data := .fields #[.int i t, .int j t', .int (-1) t''] } } := ⟨_, rfl⟩
        have hr : IsRange s2.heap s1.heap.objs.size i j (-1) t t' t'' := by rw [hs2]; exact IsRange.new _ _ _ _ _ _ _
        rw [← hs2] at I2 ⊢
        refine call_list_range (n := (i - j).toNat) (I2.ok.hd hc) hr (PySem.W.small_down b3 b4 b1 b2) (PySem.W.rangeSize_downNat i j) b5 fun h' tk acc c' hk e' hi => ?_
        refine ⟨.ref s2.heap.objs.size, upd H1 s2.heap.objs.size (.lst (dnV i j)), I2.laid hk (Nat.le_refl _) (show ObjOk X.prog X.w _ _ _ (.lst (dnV i j)) from ⟨?_, acc.toList, c', vals_dn hi, ?_⟩), rfl, q _ (I2.hok.fresh (Nat.le_refl _))⟩
        · unfold dnV; rw [List.length_map, List.length_range, sizeLine_eq]; omega
        · rw [Array.toArray_toList]; exact e'
def aListDn (fa : AA) : AE := fun σ s => (fa σ s).bind fun x s1 => match x with | [.int i, .int j, .int c] => if c = -1 ∧ RgOk j i then newL (dnA i (i - j).toNat) s1 else .stuck | _ => .stuck
section
variable {W : Wl} {E : L2.St → XK} {ta : TA} {fa : AA}
theorem dnA_rel {w : Wd} (m n : Int) : RelL W w (dnA m (m - n).toNat) (dnV m n) := by
  unfold dnA dnV
  generalize List.range (m - n).toNat = l
  induction l with
  | nil => exact .nil
  | cons a l ih => exact .cons (.int _) ih
theorem DE.listDn (ha : DA W E ta fa) : DE W E (tLstDn ta) (aListDn fa) := fun w s σ σc Q S R h => by
  refine ha w s σ σc _ S R ((post_bind_ok h).mono (fun xs s1 h1 w1 vs e1 S1 r1 => ?_) fun _ _ _ _ z => z)
  split at h1
  · rename_i i j c
    split at h1
    · rename_i hl
      obtain ⟨rfl, hl⟩ := hl
      cases r1 with
      | cons r r1 => cases r1 with
        | cons r' r1 => cases r1 with
          | cons r'' r1 =>
            cases r1
            cases r
            cases r'
            cases r''
            exact ⟨i, j, rfl, hl, newL_ok S1 (dnA_rel i j) (OkP.mono e1 h1)⟩
    · exact (show False from h1).elim
  · exact (show False from h1).elim
end
section
variable {σ : ASt} {s s1 : Sto} {fa : AA}
theorem listDn_ok {m k : Nat} (h : fa σ s = .ok [.int (m : Nat), .int (k : Nat), .int (-1)] s1) (hm : m ≤ 16777216) (hk : k ≤ 16777216) : aListDn fa σ s = .ok (.obj s1.n) (s1.new (.lst (dnA m (m - k)))) := by
  unfold aListDn
  rw [h]
  show (if (-1 : Int) = -1 ∧ RgOk ((k : Nat) : Int) ((m : Nat) : Int) then newL (dnA ((m : Nat) : Int) (((m : Nat) : Int) - ((k : Nat) : Int)).toNat) s1 else .stuck) = _
  rw [if_pos ⟨rfl, (show RgOk ((k : Nat) : Int) ((m : Nat) : Int) from ⟨by omega, by omega, by omega, by omega, by omega⟩)⟩, show (((m : Nat) : Int) - ((k : Nat) : Int)).toNat = m - k by omega]
  rfl
end
def rExtendT (K : PySem.W.Frag) : V → List V → Hp → VK → Prop := fun x vs H Q => ∃ l b xs zs, x = .ref l ∧ vs = [.ref b] ∧ H l = some (.lst xs) ∧ SqT K H b zs ∧ xs.length + zs.length ≤ sizeLine ∧ Q .non (upd H l (.lst (xs ++ zs)))
theorem extend_tup (l : Addr) (items : Array Value) (n : Nat) (b : Addr) (items2 : Array Value) (hlong : ¬(!items.isEmpty && Builtin.List.listTooLong (items.size + items2.size)) = true) (hs1 : items.size ≤ sizeLine) (hs2 : items.size + items2.size ≤ sizeLine) :
    Meets (Builtin.«list.extend» ⟨[.ref l, .ref b], []⟩) (fun _ R s => s.heap.get? l = some { cls := .type "list", data := .seq items n } ∧ IsTup s.heap b items2 ∧ R (.ok (.ret Value.none)) { s with heap := s.heap.update l (Obj.mapSeq fun x => x ++ items2) }) := fun prog w A R s h => by
  obtain ⟨hl, ⟨o, ho, hc, m, hd⟩, h⟩ := h
  show wpAny _ A.in1 (Builtin.List.listExtendWith (.ref l) (.ref b) .none) _ _ s
  unfold Builtin.List.listExtendWith
  refine wpAny_bind (wpAny_typeOf ⟨o, ho, hc⟩ ?_)
  have h1 : (Builtin.List.listSameRef (.ref l) (.ref b) || Value.type "tuple" == Value.type "list" || Value.type "tuple" == Value.type "tuple") = true := by simp
  simp only [h1, if_true]
  refine wpAny_bind ?_
  unfold Builtin.List.listItems
  refine wpAny_bind (wpAny_seqItems ho hd (wpAny_pure ?_))
  refine wpAny_bind ?_
  refine wpAny_bind (wpAny_seqItems hl rfl (wpAny_pure ?_))
  rw [if_neg hlong]
  show wpAny _ A.in1 (updateSeq l (· ++ items2) >>= fun _ => ret .none) _ _ s
  refine wpAny_bind (wpAny_updateSeq hl rfl ?_ (hz := hs1) (_hz' := by rw [Array.size_append]; exact Nat.le_succ_of_le hs2))
  exact wpAny_pure h
theorem mt_extendT {X : Cx} : MtM X "list.extend" (rExtendT X.K) := by
  intro pins s σ H x vs v us Q I rx rv h
  obtain ⟨l, b, xs, zs, rfl, rfl, hH, hB, hz, q⟩ := h
  cases rx
  obtain ⟨u, rfl, ru⟩ := rv.one
  cases ru
  obtain ⟨z, its, n, r, hl, e⟩ := I.lstM hH
  obtain ⟨its2, r2, e2, z2⟩ := I.tuple hB
  have hl2 := r2.length
  have hsz : its.toArray.size + its2.toArray.size ≤ sizeLine := by rw [List.size_toArray, List.size_toArray]; omega
  have hlong : ¬ (!its.toArray.isEmpty && Builtin.List.listTooLong (its.toArray.size + its2.toArray.size)) = true := by
    rw [notLongL hsz, Bool.and_false]
    exact Bool.false_ne_true
  refine call_meets F.slot_list_extend ⟨_, e, rfl⟩ F.entry_list_extend (F.args_list_extend_2 _ _)
    (extend_tup l its.toArray n b its2.toArray hlong (by rw [List.size_toArray]; omega) hsz) ⟨e, e2, ?_⟩
  refine ⟨.non, _, I.lset (its' := its ++ its2) hH e (by simp) (r.append r2) ?_, rfl, q⟩
  rw [List.length_append]
  omega
def gExtendT (x : AV) (ys : List AV) (s : Sto) : Res AV := match x, ys with
  | .obj i, [.tup zs] => (match s.c i with | .lst xs => if xs.length + zs.length ≤ sizeLine then .ok .non (s.set i (.lst (xs ++ zs))) else .stuck | _ => .stuck)
  | _, _ => .stuck
theorem gExtendT_obj {i : Nat} {xs zs : List AV} {s : Sto} (e : s.c i = .lst xs) (h : xs.length + zs.length ≤ sizeLine) : gExtendT (.obj i) [.tup zs] s = .ok .non (s.set i (.lst (xs ++ zs))) := by
  unfold gExtendT; simp only [e]; exact if_pos h
theorem NEM.extendT : NEM gExtendT := fun x y s c ns vs s' h => by 
  unfold gExtendT at h
  repeat' split at h
  all_goals first | cases h | (unfold newL at h; cases h)
theorem DM.extendT {W : Wl} : DM W (rExtendT W.K) gExtendT := fun w s x ys v us Q S rx ry h => by
  unfold gExtendT at h
  split at h
  · split at h
    · rename_i i zs _ _ xs e
      split at h
      · rename_i hl
        obtain ⟨vs, i1, i2, i3, i4⟩ := lstO_at S rx e
        cases ry with
        | @cons _ u _ _ r1 r2 =>
          cases r2
          cases r1 with
          | @tup a' _ us h1 r1 =>
          refine ⟨_, _, vs, us, i2, rfl, i3, h1, by rw [← i4.length, ← r1.length]; exact hl, ?_⟩
          exact wr_ok S i1 (.lst (i4.append r1)) fun w' e' S' => h w' .non e' S' .non
      · exact h.elim
    · exact h.elim
  · exact h.elim
def gSortedT : List AV → Sto → Res AV := fun xs s => match xs with | [.tup ys] => (match intsOf ys with | some ns => newL ((srt ns).map .int) s | none => .stuck) | _ => .stuck
theorem gSortedT_ok {ns : List Int} {s : Sto} : gSortedT [.tup (ns.map .int)] s = newL ((srt ns).map .int) s := by
  unfold gSortedT; simp only [intsOf_map]
theorem NEL.sortedT : NEL gSortedT := fun x s c ns vs s' h => by 
  unfold gSortedT at h
  repeat' split at h
  all_goals first | cases h | (unfold newL at h; cases h)
theorem DB.sortedT {W : Wl} : DB W (Gx.rSortedT W.K) gSortedT := fun w s x v Q S r h => by
  unfold gSortedT at h
  split at h
  · rename_i ys
    cases r with
    | cons r1 r2 =>
      cases r2
      split at h
      · rename_i ns e2
        cases r1 with
        | @tup a _ vs h2 h3 =>
        have hv := ints_rel h3 e2
        subst hv
        refine ⟨a, ns, rfl, h2, fun l p pm po hp => ?_⟩
        cases srt_uniq pm po
        exact newL_ok S (ints_relE _) h p hp
      · exact h.elim
  · exact h.elim
end
end Ab
set_option Elab.async false
set_option linter.all false
set_option maxRecDepth 100000
set_option maxHeartbeats 4000000
set_option exponentiation.threshold 3000
namespace Pf
open PySem PySem.Spec PyProof.Rows L2 Ab
noncomputable section
def KV_SIZES : List (Key × AV) := [(.inr "bits", .int 2), (.inr "below", .int 2), (.inr "between", .int 3), (.inr "choice", .int 2), (.inr "coin", .int 3), (.inr "fraction", .int 2)]
theorem RK_SIZES {W : Wc} (w : Wd) : RelK W w KV_SIZES ([(.inr "bits", .int 2), (.inr "below", .int 2), (.inr "between", .int 3), (.inr "choice", .int 2), (.inr "coin", .int 3), (.inr "fraction", .int 2)] : List (Key × V)) := (.cons ⟨rfl, .int _⟩ (.cons ⟨rfl, .int _⟩ (.cons ⟨rfl, .int _⟩ (.cons ⟨rfl, .int _⟩ (.cons ⟨rfl, .int _⟩ (.cons ⟨rfl, .int _⟩ .nil))))))
def B_is_integer : AS := (aRet (aAndV (aCB (gIsi (kitB "int")) (aCons (aVar 0) (aCons (aC (.ty "int")) aNil))) (aNotV (aCB (gIsi (kitB "bool")) (aCons (aVar 0) (aCons (aC (.ty "bool")) aNil))))))
def F_is_integer : List AV → Sto → Res AV := gcF (aDef 0 B_is_integer)
def B_need_source : AS := (aIfS (aOr (aNot (aTest (aCB (gIsi (kitB "Source")) (aCons (aVar 0) (aCons (aC (.cls "Source")) aNil))))) (aTest (aOp gEq (aUn (gIVal ["Scripted"] "KIND" (.str "script")) (aVar 0)) (aC (.str "none"))))) aNever aNext)
def F_need_source : List AV → Sto → Res AV := gcF (aDef 0 B_need_source)
def B_script_after : AS := (aSeq (aIfS (aTest (aOp gGt (aOp gAdd (aVar 1) (aVar 2)) (aCB gLen (aCons (aVar 0) aNil)))) aNever aNext)
  (aRet (aOp gAdd (aVar 1) (aVar 2))))
def F_script_after : List AV → Sto → Res AV := gcF (aDef 0 B_script_after)
def B_Scripted_left : AS := (aRet (aOp gMinus (aCB gLen (aCons (aFld ["Scripted"] "s1_script" (aVar 0)) aNil)) (aFld ["Scripted"] "s1_place" (aVar 0))))
def F_Scripted_left : List AV → Sto → Res AV := gcF (aDef 0 B_Scripted_left)
def B_s5_digits : AS := (aSeq (aAsg (aC (.int 0)) (agName 1))
  (aSeq (aWhile (aTest (aOp gGt (aVar 0) (aC (.int 0)))) (aPar 0 1 (aCons (aOp gFdiv (aVar 0) (aC (.int 2))) (aCons (aOp gAdd (aVar 1) (aC (.int 1))) aNil))))
  (aRet (aVar 1))))
def F_s5_digits : List AV → Sto → Res AV := gcF (aDef 1 B_s5_digits)
def B_need_step : AS := (aSeq (aIfS (aOr (aNot (aTest (aCB (gIsi (kitB "tuple")) (aCons (aVar 0) (aCons (aC (.ty "tuple")) aNil))))) (aOr (aTest (aOp gEq0 (aVar 0) (aTup aNil))) (aNot (aTest (aCB (gIsi (kitB "str")) (aCons (aOp gIx (aVar 0) (aC (.int 0))) (aCons (aC (.ty "str")) aNil))))))) aNever aNext)
  (aIfS (gcT (aTest (aOp gNe (aUn (kgetN KV_SIZES) (aOp gIx (aVar 0) (aC (.int 0)))) (aCB gLen (aCons (aVar 0) aNil))))) aNever aNext))
def F_need_step : List AV → Sto → Res AV := gcF (aDef 0 B_need_step)
def B_s6_is_integer : AS := (aRet (aAndV (aCB (gIsi (kitB "int")) (aCons (aVar 0) (aCons (aC (.ty "int")) aNil))) (aAndV (aNotV (aCB (gIsi (kitB "bool")) (aCons (aVar 0) (aCons (aC (.ty "bool")) aNil)))) (aChain gLe gLe (aVar 1) (aVar 0) (aVar 2)))))
def F_s6_is_integer : List AV → Sto → Res AV := gcF (aDef 0 B_s6_is_integer)
def B_need_things : AS := (aIfS (aOr (aNot (aTest (aUn (gIsiT ["list", "tuple"]) (aVar 0)))) (aTest (aOp gGt (aCB gLen (aCons (aVar 0) aNil)) (aC (.int 1000))))) aNever aNext)
def F_need_things : List AV → Sto → Res AV := gcF (aDef 0 B_need_things)
def B_s6_exchange : AS := (aAsg (aTup (aCons (aOp gIx (aVar 0) (aVar 2)) (aCons (aOp gIx (aVar 0) (aVar 1)) aNil))) (agTup 2 (agCons (agSub setL (aVar 0) (aVar 1)) (agCons (agSub setL (aVar 0) (aVar 2)) agNil))))
def F_s6_exchange : List AV → Sto → Res AV := gcF (aDef 0 B_s6_exchange)
def B__law_mixed : AS := (aSeq (aAsg (aOp gAdd (aOp gAdd (aOp gMod (aVar 0) (aOp gIx (aLst (aCons (aC (.int 1000000007)) (aCons (aC (.int 998244353)) (aCons (aC (.int 2147483629)) (aCons (aC (.int 1000000009)) aNil))))) (aOp gMod (aVar 1) (aC (.int 4))))) (aOp gMul (aC (.int 7919)) (aVar 1))) (aC (.int 13))) (agName 2))
  (aRet (aOp gMod (aOp gMul (aOp gMod (aOp gMul (aVar 2) (aVar 2)) (aC (.int 2147483647))) (aC (.int 48271))) (aC (.int 2147483647)))))
def F__law_mixed : List AV → Sto → Res AV := gcF (aDef 1 B__law_mixed)
def B__law_draw : AS := (aRet (aDisp [((aC (.str "left")), (aIf (aTest (aOp gGe (aVar 0) (aOp gPow (aC (.int 10)) (aC (.int 18))))) (aVar 0) (aC (.int 0)))), ((aC (.str "cell")), (aVar 0)), ((aC (.str "turns")), (aOp gMul (aC (.int 1000)) (aVar 1)))]))
def F__law_draw : List AV → Sto → Res AV := gcF (aDef 0 B__law_draw)
def B__law_binary : AS := (aSeq (aAsg (aC (.int 0)) (agName 1))
  (aSeq (aWhile (aTest (aOp gGt (aVar 0) (aC (.int 0)))) (aPar 0 1 (aCons (aOp gFdiv (aVar 0) (aC (.int 2))) (aCons (aOp gAdd (aVar 1) (aC (.int 1))) aNil))))
  (aRet (aVar 1))))
def F__law_binary : List AV → Sto → Res AV := gcF (aDef 1 B__law_binary)
def B__law_moved : AS := (aSeq (aAsg (aCB gList (aCons (aVar 0) aNil)) (agName 2))
  (aSeq (aFor (aEnumU (aCons (aVar 1) aNil)) (agTup 2 (agCons (agName 3) (agCons (agName 4) agNil))) (aSeq (aAsg (aOp gMinus (aOp gMinus (aCB gLen (aCons (aVar 2) aNil)) (aC (.int 1))) (aVar 3)) (agName 5))
  (aSeq (aAsg (aOp gIx (aVar 2) (aVar 5)) (agName 6))
  (aSeq (aAsg (aOp gIx (aVar 2) (aVar 4)) (agSub setL (aVar 2) (aVar 5)))
  (aAsg (aVar 6) (agSub setL (aVar 2) (aVar 4)))))))
  (aRet (aVar 2))))
def F__law_moved : List AV → Sto → Res AV := gcF (aDef 5 B__law_moved)
def B_is_word : AS := (aRet (aAndV (aCall 1 F_is_integer [] (aCons (aVar 0) aNil)) (aChain gLe gLt (aC (.int 0)) (aVar 0) (aC (.int 4294967296)))))
def F_is_word : List AV → Sto → Res AV := gcF (aDef 0 B_is_word)
def B_Scripted_next_word : AS := (aSeq (aAsg (aCall 3 F_script_after [] (aCons (aFld ["Scripted"] "s1_script" (aVar 0)) (aCons (aFld ["Scripted"] "s1_place" (aVar 0)) (aCons (aC (.int 1)) aNil)))) (agName 1))
  (aSeq (aSFld ["Scripted"] "s1_place" (aVar 0) (aVar 1))
  (aRet (aOp gIx (aFld ["Scripted"] "s1_script" (aVar 0)) (aOp gMinus (aVar 1) (aC (.int 1)))))))
def F_Scripted_next_word : List AV → Sto → Res AV := gcF (aDef 1 B_Scripted_next_word)
def B_s5_need : AS := (aIfS (gcT (aOr (aNot (aTest (aCall 1 F_is_integer [] (aCons (aVar 0) aNil)))) (aNot (aTest (aChain gLe gLe (aVar 1) (aVar 0) (aVar 2)))))) aNever aNext)
def F_s5_need : List AV → Sto → Res AV := gcF (aDef 0 B_s5_need)
def B_Draws___init__ : AS := (aSeq (aDrop (aCall 1 F_need_source [] (aCons (aVar 1) aNil)))
  (aSeq (aSFld ["Draws"] "s5_source" (aVar 0) (aVar 1))
  (aSFld ["Draws"] "s5_used" (aVar 0) (aC (.int 0)))))
def F_Draws___init__ : List AV → Sto → Res AV := gcF (aDef 0 B_Draws___init__)
def B_s5_is_integer : AS := (aRet (aAndV (aCall 1 F_is_integer [] (aCons (aVar 0) aNil)) (aChain gLe gLe (aVar 1) (aVar 0) (aVar 2))))
def F_s5_is_integer : List AV → Sto → Res AV := gcF (aDef 0 B_s5_is_integer)
def B_s5_bits_for : AS := (aMatch (aOp gIx (aVar 0) (aC (.int 0))) (aMCase2 "bits" "fraction" aNever (aMCase "below" (aRet (aCall 1 F_s5_digits [] (aCons (aOp gMinus (aOp gIx (aVar 0) (aC (.int 1))) (aC (.int 1))) aNil))) (aMCase "between" aNever (aMAny aNever)))))
def F_s5_bits_for : List AV → Sto → Res AV := gcF (aDef 0 B_s5_bits_for)
def B_need_order : AS := (aSeq (aIfS (aOr (aNot (aTest (aCB (gIsi (kitB "tuple")) (aCons (aVar 0) (aCons (aC (.ty "tuple")) aNil))))) (aTest (aOp gGt (aCB gLen (aCons (aVar 0) aNil)) (aC (.int 1000))))) aNever aNext)
  (aSeq (aAsg aDNew (agName 1))
  (aFor (aEnumU (aCons (aVar 0) aNil)) (agTup 2 (agCons (agName 2) (agCons (agName 3) agNil))) (aSeq (aIfS (gcT (aOr (aNot (aTest (aCall 3 F_s6_is_integer [] (aCons (aVar 3) (aCons (aC (.int 0)) (aCons (aOp gMinus (aCB gLen (aCons (aVar 0) aNil)) (aC (.int 1))) aNil)))))) (aTest (aOp (gDIn false) (aVar 3) (aVar 1))))) aNever aNext)
  (aDPut (aVar 1) (aVar 3) (aC (.bl true)))))))
def F_need_order : List AV → Sto → Res AV := gcF (aDef 3 B_need_order)
def B_order_by : AS := (aSeq (aIfS (aOr (aNot (aTest (aUn (gIsiT ["list", "tuple"]) (aVar 0)))) (aTest (aOp gGe (aCB gLen (aCons (aVar 0) aNil)) (aC (.int 1000))))) aNever aNext)
  (aSeq (aFor (aEnumU (aCons (aVar 0) aNil)) (agTup 2 (agCons (agName 1) (agCons (agName 2) agNil))) (aIfS (gcT (aNot (aTest (aCall 3 F_s6_is_integer [] (aCons (aVar 2) (aCons (aC (.int 0)) (aCons (aOp gMinus (aCB gLen (aCons (aVar 0) aNil)) (aVar 1)) aNil))))))) aNever aNext))
  (aSeq (aAsg (aListRg1 (aOp gAdd (aCB gLen (aCons (aVar 0) aNil)) (aC (.int 1)))) (agName 3))
  (aSeq (aFor (aEnumU (aCons (aVar 0) aNil)) (agTup 2 (agCons (agName 1) (agCons (agName 2) agNil))) (aDrop (aCall 3 F_s6_exchange [] (aCons (aVar 3) (aCons (aOp gMinus (aCB gLen (aCons (aVar 0) aNil)) (aVar 1)) (aCons (aVar 2) aNil))))))
  (aRet (aCB gTuple (aCons (aVar 3) aNil)))))))
def F_order_by : List AV → Sto → Res AV := gcF (aDef 3 B_order_by)
def B__law_digit : AS := (aSeq (aIfS (aTest (aOp gEq (aOp gDGet (aVar 0) (aC (.str "left"))) (aC (.int 0)))) (aFor (aRng1 (aCons (aC (.int 4)) aNil)) (agName 2) (aSeq (aDPut (aVar 0) (aC (.str "turns")) (aOp gAdd (aOp gDGet (aVar 0) (aC (.str "turns"))) (aC (.int 1))))
  (aDPut (aVar 0) (aC (.str "left")) (aOp gAdd (aOp gMul (aOp gDGet (aVar 0) (aC (.str "left"))) (aC (.int 2147483647))) (aCall 2 F__law_mixed [] (aCons (aOp gDGet (aVar 0) (aC (.str "cell"))) (aCons (aOp gDGet (aVar 0) (aC (.str "turns"))) aNil))))))) aNext)
  (aSeq (aAsg (aOp gMod (aOp gDGet (aVar 0) (aC (.str "left"))) (aVar 1)) (agName 3))
  (aSeq (aDPut (aVar 0) (aC (.str "left")) (aOp gFdiv (aOp gDGet (aVar 0) (aC (.str "left"))) (aVar 1)))
  (aRet (aVar 3)))))
def F__law_digit : List AV → Sto → Res AV := gcF (aDef 2 B__law_digit)
def B_is_script : AS := (aRet (aAndV (aCB (gIsi (kitB "tuple")) (aCons (aVar 0) (aCons (aC (.ty "tuple")) aNil))) (aAndV (aOp gLe (aCB gLen (aCons (aVar 0) aNil)) (aC (.int 10000))) (aCB gAll (aCons (aLc (aIter (aVar 0)) (agName 1) aYes (aCall 1 F_is_word [] (aCons (aVar 1) aNil)) [1]) aNil)))))
def F_is_script : List AV → Sto → Res AV := gcF (aDef 1 B_is_script)
def B_words_for : AS := (aSeq (aDrop (aCall 3 F_s5_need [] (aCons (aVar 0) (aCons (aC (.int 0)) (aCons (aC (.int 512)) aNil)))))
  (aRet (aOp gFdiv (aOp gMinus (aOp gAdd (aVar 0) (aC (.int 32))) (aC (.int 1))) (aC (.int 32)))))
def F_words_for : List AV → Sto → Res AV := gcF (aDef 0 B_words_for)
def B_Draws_s5_word : AS := (aSeq (aAsg (aMeth "Scripted" "next_word" 1 F_Scripted_next_word [] (aFld ["Draws"] "s5_source" (aVar 0)) aNil) (agName 1))
  (aSeq (aFAug ["Draws"] "s5_used" (gI0 fun i j => .int (i + j)) (aVar 0) (aC (.int 1)))
  (aRet (aVar 1))))
def F_Draws_s5_word : List AV → Sto → Res AV := gcF (aDef 1 B_Draws_s5_word)
def B_s5_need_draw : AS := (aSeq (aDrop (aCall 1 F_need_step [] (aCons (aVar 0) aNil)))
  (aMatch (aOp gIx (aVar 0) (aC (.int 0))) (aMCase2 "bits" "fraction" aNever (aMCase "below" (aDrop (aCall 3 F_s5_need [] (aCons (aOp gIx (aVar 0) (aC (.int 1))) (aCons (aC (.int 1)) (aCons (aC (.int 115792089237316195423570985008687907853269984665640564039457584007913129639936)) aNil))))) (aMCase "between" aNever (aMCase "coin" aNever (aMAny aNever)))))))
def F_s5_need_draw : List AV → Sto → Res AV := gcF (aDef 0 B_s5_need_draw)
def B_s5_number_for : AS := (aSeq (aPar 2 3 (aCons (aOp gIx (aVar 0) (aC (.int 0))) (aCons (aOp gIx (aVar 0) (aC (.int 1))) aNil)))
  (aSeq (aIfS (aTest (aOp gEq (aVar 2) (aC (.str "bits")))) (aRet (aIf (aTest (aCall 3 F_s5_is_integer [] (aCons (aVar 1) (aCons (aC (.int 0)) (aCons (aOp gMinus (aOp gShl (aC (.int 1)) (aVar 3)) (aC (.int 1))) aNil))))) (aVar 1) (aC (.non)))) aNext)
  (aSeq (aIfS (aTest (aOp gEq (aVar 2) (aC (.str "below")))) (aRet (aIf (aTest (aCall 3 F_s5_is_integer [] (aCons (aVar 1) (aCons (aC (.int 0)) (aCons (aOp gMinus (aVar 3) (aC (.int 1))) aNil))))) (aVar 1) (aC (.non)))) aNext)
  (aSeq aNever
  (aSeq aNever
  (aSeq aNever
  aNever))))))
def F_s5_number_for : List AV → Sto → Res AV := gcF (aDef 2 B_s5_number_for)
def B_row_of : AS := (aSeq (aDrop (aCall 1 F_need_order [] (aCons (aVar 0) aNil)))
  (aSeq (aPar 1 2 (aCons (aListRg1 (aCB gLen (aCons (aVar 0) aNil))) (aCons (aLst aNil) aNil)))
  (aSeq (aFor (aRng3 (aCons (aOp gMinus (aCB gLen (aCons (aVar 0) aNil)) (aC (.int 1))) (aCons (aC (.int 0)) (aCons (aUn gNeg (aC (.int 1))) aNil)))) (agName 3) (aSeq (aAsg (aBM gIndex (aVar 1) (aCons (aOp gIx (aVar 0) (aVar 3)) aNil)) (agName 4))
  (aSeq (aDrop (aBM gAppend (aVar 2) (aCons (aVar 4) aNil)))
  (aDrop (aCall 3 F_s6_exchange [] (aCons (aVar 1) (aCons (aVar 3) (aCons (aVar 4) aNil))))))))
  (aRet (aCB gTuple (aCons (aVar 2) aNil))))))
def F_row_of : List AV → Sto → Res AV := gcF (aDef 4 B_row_of)
def B__law_number : AS := (aSeq (aAsg (aC (.int 0)) (agName 2))
  (aSeq (aFor (aRng1 (aCons (aOp gAdd (aC (.int 1)) (aOp gFdiv (aCall 1 F__law_binary [] (aCons (aVar 1) aNil)) (aC (.int 32)))) aNil)) (agName 3) (aAsg (aOp gAdd (aOp gMul (aVar 2) (aC (.int 4294967296))) (aCall 2 F__law_digit [] (aCons (aVar 0) (aCons (aC (.int 4294967296)) aNil)))) (agName 2)))
  (aRet (aOp gMod (aVar 2) (aVar 1)))))
def F__law_number : List AV → Sto → Res AV := gcF (aDef 2 B__law_number)
def B__law_row : AS := (aSeq (aAsg (aLst aNil) (agName 3))
  (aSeq (aWhile (aTest (aOp gGe (aVar 2) (aC (.int 32)))) (aSeq (aDrop (aBM gAppend (aVar 3) (aCons (aOp gMod (aVar 1) (aC (.int 4294967296))) aNil)))
  (aPar 1 2 (aCons (aOp gFdiv (aVar 1) (aC (.int 4294967296))) (aCons (aOp gMinus (aVar 2) (aC (.int 32))) aNil)))))
  (aSeq (aIfS (aTest (aOp gGt (aVar 2) (aC (.int 0)))) (aSeq (aAsg (aOp gShl (aC (.int 1)) (aOp gMinus (aC (.int 32)) (aVar 2))) (agName 4))
  (aDrop (aBM gAppend (aVar 3) (aCons (aOp gAdd (aOp gMul (aVar 1) (aVar 4)) (aCall 2 F__law_digit [] (aCons (aVar 0) (aCons (aVar 4) aNil)))) aNil)))) aNext)
  (aRet (aVar 3)))))
def F__law_row : List AV → Sto → Res AV := gcF (aDef 2 B__law_row)
def B_need_script_state : AS := (aSeq (aIfS (gcT (aOr (aNot (aTest (aCB (gIsi (kitB "tuple")) (aCons (aVar 0) (aCons (aC (.ty "tuple")) aNil))))) (aOr (aTest (aOp gNe (aCB gLen (aCons (aVar 0) aNil)) (aC (.int 2)))) (aOr (aNot (aTest (aCall 1 F_is_script [] (aCons (aOp gIx (aVar 0) (aC (.int 0))) aNil)))) (aNot (aTest (aCall 1 F_is_integer [] (aCons (aOp gIx (aVar 0) (aC (.int 1))) aNil)))))))) aNever aNext)
  (aIfS (aNot (aTest (aChain gLe gLe (aC (.int 0)) (aOp gIx (aVar 0) (aC (.int 1))) (aCB gLen (aCons (aOp gIx (aVar 0) (aC (.int 0))) aNil))))) aNever aNext))
def F_need_script_state : List AV → Sto → Res AV := gcF (aDef 0 B_need_script_state)
def B_Draws_s5_bits : AS := (aSeq (aAsg (aTup (aCons (aC (.int 0)) (aCons (aC (.int 0)) aNil))) (agTup 2 (agCons (agName 2) (agCons (agName 3) agNil))))
  (aSeq (aWhile (aTest (aOp gLt (aVar 3) (aVar 1))) (aSeq (aPar 4 5 (aCons (aMeth "Draws" "s5_word" 1 F_Draws_s5_word [] (aVar 0) aNil) (aCons (aOp gMinus (aVar 1) (aVar 3)) aNil)))
  (aSeq (aIfS (aTest (aOp gLt (aVar 5) (aC (.int 32)))) (aAsg (aOp gShr (aVar 4) (aOp gMinus (aC (.int 32)) (aVar 5))) (agName 4)) aNext)
  (aPar 2 3 (aCons (aOp gAdd (aVar 2) (aOp gShl (aVar 4) (aVar 3))) (aCons (aOp gAdd (aVar 3) (aC (.int 32))) aNil))))))
  (aRet (aVar 2))))
def F_Draws_s5_bits : List AV → Sto → Res AV := gcF (aDef 4 B_Draws_s5_bits)
def B_row_for : AS := (aSeq (aDrop (aCall 1 F_s5_need_draw [] (aCons (aVar 0) aNil)))
  (aSeq (aPar 2 3 (aCons (aCall 2 F_s5_number_for [] (aCons (aVar 0) (aCons (aVar 1) aNil))) (aCons (aCall 1 F_s5_bits_for [] (aCons (aVar 0) aNil)) aNil)))
  (aSeq (aIfS (aTest (aOp gIsN (aVar 2) (aC (.non)))) aNever aNext)
  (aSeq (aAsg (aLst aNil) (agName 4))
  (aSeq (aFor (aRng1 (aCons (aCall 1 F_words_for [] (aCons (aVar 3) aNil)) aNil)) (agName 5) (aSeq (aAsg (aOp gMinus (aVar 3) (aOp gMul (aC (.int 32)) (aVar 5))) (agName 6))
  (aSeq (aAsg (aOp gMod (aOp gShr (aVar 2) (aOp gMul (aC (.int 32)) (aVar 5))) (aC (.int 4294967296))) (agName 7))
  (aDrop (aBM gAppend (aVar 4) (aCons (aIf (aTest (aOp gLt (aVar 6) (aC (.int 32)))) (aOp gShl (aVar 7) (aOp gMinus (aC (.int 32)) (aVar 6))) (aVar 7)) aNil))))))
  (aRet (aCB gTuple (aCons (aVar 4) aNil))))))))
def F_row_for : List AV → Sto → Res AV := gcF (aDef 6 B_row_for)
def B_need_draws : AS := (aIfS (aNot (aTest (aCB (gIsi (kitB "Draws")) (aCons (aVar 0) (aCons (aC (.cls "Draws")) aNil))))) aNever aNext)
def F_need_draws : List AV → Sto → Res AV := gcF (aDef 0 B_need_draws)
def B__law_script : AS := (aSeq (aPar 2 3 (aCons (aLst aNil) (aCons (aLst aNil) aNil)))
  (aSeq (aFor (aIter (aVar 1)) (agName 4) (aSeq (aPar 5 6 (aCons (aCall 1 F__law_binary [] (aCons (aOp gMinus (aVar 4) (aC (.int 1))) aNil)) (aCons (aCall 2 F__law_number [] (aCons (aVar 0) (aCons (aVar 4) aNil))) aNil)))
  (aSeq (aFor (aRng1 (aCons (aCall 2 F__law_digit [] (aCons (aVar 0) (aCons (aC (.int 3)) aNil))) aNil)) (agName 7) (aIfS (aTest (aOp gLt (aVar 4) (aOp gShl (aC (.int 1)) (aVar 5)))) (aAsg (aOp gAdd (aVar 2) (aCall 3 F__law_row [] (aCons (aVar 0) (aCons (aOp gAdd (aVar 4) (aCall 2 F__law_number [] (aCons (aVar 0) (aCons (aOp gMinus (aOp gShl (aC (.int 1)) (aVar 5)) (aVar 4)) aNil)))) (aCons (aVar 5) aNil))))) (agName 2)) aNext))
  (aPar 2 3 (aCons (aOp gAdd (aVar 2) (aCall 3 F__law_row [] (aCons (aVar 0) (aCons (aVar 6) (aCons (aVar 5) aNil))))) (aCons (aOp gAdd (aVar 3) (aLst (aCons (aVar 6) aNil))) aNil))))))
  (aRet (aTup (aCons (aCB gTuple (aCons (aVar 2) aNil)) (aCons (aVar 3) aNil))))))
def F__law_script : List AV → Sto → Res AV := gcF (aDef 6 B__law_script)
def B_Scripted___init__ : AS := (aSeq (aIfS (gcT (aNot (aTest (aCall 1 F_is_script [] (aCons (aVar 1) aNil))))) aNever aNext)
  (aSeq (aDrop (aCall 1 F_need_script_state [] (aCons (aTup (aCons (aVar 1) (aCons (aVar 2) aNil))) aNil)))
  (aSeq (aSFld ["Scripted"] "s1_script" (aVar 0) (aVar 1))
  (aSFld ["Scripted"] "s1_place" (aVar 0) (aVar 2)))))
def F_Scripted___init__ : List AV → Sto → Res AV := gcF (aDef 0 B_Scripted___init__)
def B_Draws_s5_below : AS := (aSeq (aAsg (aCall 1 F_s5_digits [] (aCons (aOp gMinus (aVar 1) (aC (.int 1))) aNil)) (agName 2))
  (aSeq (aAsg (aMeth "Draws" "s5_bits" 2 F_Draws_s5_bits [] (aVar 0) (aCons (aVar 2) aNil)) (agName 3))
  (aSeq (aWhile (aTest (aOp gGe (aVar 3) (aVar 1))) (aAsg (aMeth "Draws" "s5_bits" 2 F_Draws_s5_bits [] (aVar 0) (aCons (aVar 2) aNil)) (agName 3)))
  (aRet (aVar 3)))))
def F_Draws_s5_below : List AV → Sto → Res AV := gcF (aDef 2 B_Draws_s5_below)
def B_script_of : AS := (aSeq (aAsg (aLst aNil) (agName 1))
  (aSeq (aFor (aEnumU (aCons (aCall 1 F_row_of [] (aCons (aVar 0) aNil)) aNil)) (agTup 2 (agCons (agName 2) (agCons (agName 3) agNil))) (aDrop (aBM gExtendT (aVar 1) (aCons (aCall 2 F_row_for [] (aCons (aTup (aCons (aC (.str "below")) (aCons (aOp gMinus (aCB gLen (aCons (aVar 0) aNil)) (aVar 2)) aNil))) (aCons (aVar 3) aNil))) aNil))))
  (aRet (aCB gTuple (aCons (aVar 1) aNil)))))
def F_script_of : List AV → Sto → Res AV := gcF (aDef 3 B_script_of)
def B_Draws_below : AS := (aSeq (aDrop (aCall 3 F_s5_need [] (aCons (aVar 1) (aCons (aC (.int 1)) (aCons (aC (.int 115792089237316195423570985008687907853269984665640564039457584007913129639936)) aNil)))))
  (aRet (aMeth "Draws" "s5_below" 2 F_Draws_s5_below [] (aVar 0) (aCons (aVar 1) aNil))))
def F_Draws_below : List AV → Sto → Res AV := gcF (aDef 0 B_Draws_below)
def B__law_all_right : AS := (aSeq (aAsg (aLst aNil) (agName 0))
  (aSeq (aFor (aRng1 (aCons (aC (.int 4)) aNil)) (agName 1) (aFor (aRng1 (aCons (aC (.int 3)) aNil)) (agName 2) (aFor (aRng1 (aCons (aC (.int 2)) aNil)) (agName 3) (aDrop (aBM gAppend (aVar 0) (aCons (aCall 1 F_order_by [] (aCons (aTup (aCons (aVar 1) (aCons (aVar 2) (aCons (aVar 3) aNil)))) aNil)) aNil))))))
  (aSeq (aIfS (gcT (aOr (aTest (aOp gNe (aUn gLenSet (aVar 0)) (aC (.int 24)))) (aTest (aOp gNe (aLc (aIter (aVar 0)) (agName 4) aYes (aCB gSortedT (aCons (aVar 4) aNil)) [4]) (aOp gMul (aLst (aCons (aLst (aCons (aC (.int 0)) (aCons (aC (.int 1)) (aCons (aC (.int 2)) (aCons (aC (.int 3)) aNil))))) aNil)) (aC (.int 24))))))) (aRet (aC (.bl false))) aNext)
  (aRet (aOp gEq (aLst (aCons (aCall 1 F_order_by [] (aCons (aTup aNil) aNil)) (aCons (aCall 1 F_row_of [] (aCons (aTup aNil) aNil)) (aCons (aCall 1 F_row_of [] (aCons (aTup (aCons (aC (.int 0)) aNil)) aNil)) (aCons (aCall 1 F_script_of [] (aCons (aTup aNil) aNil)) aNil))))) (aLst (aCons (aTup (aCons (aC (.int 0)) aNil)) (aCons (aTup aNil) (aCons (aTup aNil) (aCons (aTup aNil) aNil))))))))))
def F__law_all_right : List AV → Sto → Res AV := gcF (aDef 5 B__law_all_right)
def B_shuffled : AS := (aSeq (aDrop (aCall 1 F_need_draws [] (aCons (aVar 0) aNil)))
  (aSeq (aDrop (aCall 1 F_need_things [] (aCons (aVar 1) aNil)))
  (aSeq (aAsg (aCB gList (aCons (aVar 1) aNil)) (agName 2))
  (aSeq (aFor (aRng3 (aCons (aOp gMinus (aCB gLen (aCons (aVar 2) aNil)) (aC (.int 1))) (aCons (aC (.int 0)) (aCons (aUn gNeg (aC (.int 1))) aNil)))) (agName 3) (aDrop (aCall 3 F_s6_exchange [] (aCons (aVar 2) (aCons (aVar 3) (aCons (aMeth "Draws" "below" 2 F_Draws_below [] (aVar 0) (aCons (aOp gAdd (aVar 3) (aC (.int 1))) aNil)) aNil))))))
  (aRet (aVar 2))))))
def F_shuffled : List AV → Sto → Res AV := gcF (aDef 2 B_shuffled)
def B__law_shuffle_right : AS := (aSeq (aAsg (aCall 2 F__law_digit [] (aCons (aVar 0) (aCons (aC (.int 10)) aNil))) (agName 1))
  (aSeq (aAsg (aLc (aRng1 (aCons (aVar 1) aNil)) (agName 3) aYes (aOp gIx (aLst (aCons (aC (.str "a")) (aCons (aC (.int 5)) (aCons (aC (.non)) (aCons (aC (.str "a")) (aCons (aTup (aCons (aC (.int 1)) (aCons (aC (.int 2)) aNil))) (aCons (aC (.str "b")) (aCons (aC (.int 0)) (aCons (aC (.bl true)) (aCons (aC (.str "c")) aNil)))))))))) (aCall 2 F__law_digit [] (aCons (aVar 0) (aCons (aC (.int 9)) aNil)))) [3]) (agName 2))
  (aSeq (aAsg (aCall 2 F__law_script [] (aCons (aVar 0) (aCons (aListDn (aCons (aVar 1) (aCons (aC (.int 1)) (aCons (aOp gMinus (aC (.int 0)) (aC (.int 1))) aNil)))) aNil))) (agTup 2 (agCons (agName 4) (agCons (agName 5) agNil))))
  (aSeq (aPar 6 7 (aCons (aMake "Scripted" 3 F_Scripted___init__ [.int 0] (aCons (aOp gAdd (aVar 4) (aTup (aCons (aC (.int 7)) (aCons (aC (.int 8)) aNil)))) aNil)) (aCons (aOp gIx (aLst (aCons (aVar 2) (aCons (aCB gTuple (aCons (aVar 2) aNil)) aNil))) (aCall 2 F__law_digit [] (aCons (aVar 0) (aCons (aC (.int 2)) aNil)))) aNil)))
  (aSeq (aAsg (aCall 2 F_shuffled [] (aCons (aMake "Draws" 2 F_Draws___init__ [] (aCons (aVar 6) aNil)) (aCons (aVar 7) aNil))) (agName 8))
  (aSeq (aIfS (gcT (aTest (aOp gNe (aCB gReprE (aCons (aVar 8) aNil)) (aCB gReprE (aCons (aCall 2 F__law_moved [] (aCons (aVar 2) (aCons (aVar 5) aNil))) aNil))))) (aRet (aC (.bl false))) aNext)
  (aSeq (aIfS (aOr (aTest (aOp gNe (aProp "Scripted" (fun xs s => noErr (F_Scripted_left xs s)) (aVar 6)) (aC (.int 2)))) (aNot (aTest (aCB (gIsi (kitB "list")) (aCons (aVar 8) (aCons (aC (.ty "list")) aNil)))))) (aRet (aC (.bl false))) aNext)
  (aRet (aOp gEq (aCB gReprE (aCons (aCB gList (aCons (aVar 7) aNil)) aNil)) (aCB gReprE (aCons (aVar 2) aNil)))))))))))
def F__law_shuffle_right : List AV → Sto → Res AV := gcF (aDef 8 B__law_shuffle_right)
def B__law_inverse_right : AS := (aSeq (aAsg (aOp gAdd (aC (.int 1)) (aCall 2 F__law_digit [] (aCons (aVar 0) (aCons (aC (.int 9)) aNil)))) (agName 1))
  (aSeq (aAsg (aCB gTuple (aCons (aLc (aRng3 (aCons (aOp gMinus (aVar 1) (aC (.int 1))) (aCons (aC (.int 0)) (aCons (aOp gMinus (aC (.int 0)) (aC (.int 1))) aNil)))) (agName 3) aYes (aCall 2 F__law_digit [] (aCons (aVar 0) (aCons (aOp gAdd (aVar 3) (aC (.int 1))) aNil))) [3]) aNil)) (agName 2))
  (aSeq (aAsg (aCB gTuple (aCons (aCall 2 F__law_moved [] (aCons (aListRg1 (aVar 1)) (aCons (aVar 2) aNil))) aNil)) (agName 4))
  (aSeq (aIfS (gcT (aOr (aTest (aOp gNe (aCall 1 F_order_by [] (aCons (aVar 2) aNil)) (aVar 4))) (aOr (aTest (aOp gNe (aCall 1 F_order_by [] (aCons (aCB gList (aCons (aVar 2) aNil)) aNil)) (aVar 4))) (aTest (aOp gNe (aCall 1 F_row_of [] (aCons (aVar 4) aNil)) (aVar 2)))))) (aRet (aC (.bl false))) aNext)
  (aSeq (aAsg (aMake "Scripted" 3 F_Scripted___init__ [.int 0] (aCons (aCall 1 F_script_of [] (aCons (aVar 4) aNil)) aNil)) (agName 5))
  (aSeq (aIfS (gcT (aOr (aTest (aOp gNe (aCB gTuple (aCons (aCall 2 F_shuffled [] (aCons (aMake "Draws" 2 F_Draws___init__ [] (aCons (aVar 5) aNil)) (aCons (aListRg1 (aVar 1)) aNil))) aNil)) (aVar 4))) (aTest (aOp gNe (aProp "Scripted" (fun xs s => noErr (F_Scripted_left xs s)) (aVar 5)) (aC (.int 0)))))) (aRet (aC (.bl false))) aNext)
  (aSeq (aAsg (aLst aNil) (agName 6))
  (aSeq (aFor (aEnumU (aCons (aVar 2) aNil)) (agTup 2 (agCons (agName 7) (agCons (agName 8) agNil))) (aDrop (aBM gExtendT (aVar 6) (aCons (aCall 2 F_row_for [] (aCons (aTup (aCons (aC (.str "below")) (aCons (aOp gMinus (aVar 1) (aVar 7)) aNil))) (aCons (aVar 8) aNil))) aNil))))
  (aRet (aOp gEq (aCall 1 F_script_of [] (aCons (aVar 4) aNil)) (aCB gTuple (aCons (aVar 6) aNil))))))))))))
def F__law_inverse_right : List AV → Sto → Res AV := gcF (aDef 8 B__law_inverse_right)
def B_law : AS := (aSeq (aFor (aEnumU (aCons (aOp gAdd (aSl (aVar 0) aNoPart (aPart (aC (.int 4)))) (aLst (aCons (aCB gSum (aCons (aVar 0) aNil)) aNil))) aNil)) (agTup 2 (agCons (agName 1) (agCons (agName 2) agNil))) (aSeq (aAsg (aCall 2 F__law_draw [] (aCons (aVar 2) (aCons (aVar 1) aNil))) (agName 3))
  (aFor (aRng1 (aCons (aC (.int 3)) aNil)) (agName 4) (aIfS (gcT (aOr (aNot (aTest (aCall 1 F__law_shuffle_right [] (aCons (aVar 3) aNil)))) (aNot (aTest (aCall 1 F__law_inverse_right [] (aCons (aVar 3) aNil)))))) (aRet (aC (.bl false))) aNext))))
  (aRet (aCall 0 F__law_all_right [] aNil)))
def F_law : List AV → Sto → Res AV := aDef 4 B_law
end
end Pf
set_option Elab.async false
set_option linter.all false
set_option maxRecDepth 100000
set_option maxHeartbeats 4000000
set_option exponentiation.threshold 3000
namespace Pf
open PySem PySem.Spec PyProof.Rows L2 Ab
def top (i : Nat) : Stmt := PySem.Challenge.pw_drawstate_k49_shuffles_and_their_rows.main.body.getD i (.Pass ⟨0, 0, 0, 0⟩)
abbrev s_is_integer : Stmt := top 19
theorem sc_is_integer : FnScope ["value"] ["value"] (C8.fnScope s_is_integer) := C8.fnScope_by (by decide +kernel)
abbrev s_is_word : Stmt := top 20
theorem sc_is_word : FnScope ["value"] ["value"] (C8.fnScope s_is_word) := C8.fnScope_by (by decide +kernel)
abbrev s_need_source : Stmt := top 28
theorem sc_need_source : FnScope ["source"] ["source"] (C8.fnScope s_need_source) := C8.fnScope_by (by decide +kernel)
abbrev s_is_script : Stmt := top 29
theorem sc_is_script : FnScope ["value", "word"] ["value"] (C8.fnScope s_is_script) := C8.fnScope_by (by decide +kernel)
abbrev s_need_script_state : Stmt := top 30
theorem sc_need_script_state : FnScope ["state"] ["state"] (C8.fnScope s_need_script_state) := C8.fnScope_by (by decide +kernel)
abbrev s_script_after : Stmt := top 31
theorem sc_script_after : FnScope ["script", "place", "steps"] ["script", "place", "steps"] (C8.fnScope s_script_after) := C8.fnScope_by (by decide +kernel)
abbrev s_Scripted___init__ : Stmt := inClass (top 33) 1
theorem sc_Scripted___init__ : FnScope ["self", "script", "place"] ["self", "script", "place"] (C8.fnScope s_Scripted___init__) := C8.fnScope_by (by decide +kernel)
abbrev s_Scripted_next_word : Stmt := inClass (top 33) 2
theorem sc_Scripted_next_word : FnScope ["self", "place"] ["self"] (C8.fnScope s_Scripted_next_word) := C8.fnScope_by (by decide +kernel)
abbrev s_Scripted_left : Stmt := inClass (top 33) 6
theorem sc_Scripted_left : FnScope ["self"] ["self"] (C8.fnScope s_Scripted_left) := C8.fnScope_by (by decide +kernel)
abbrev s_s5_need : Stmt := top 39
theorem sc_s5_need : FnScope ["number", "low", "high"] ["number", "low", "high"] (C8.fnScope s_s5_need) := C8.fnScope_by (by decide +kernel)
abbrev s_s5_digits : Stmt := top 40
theorem sc_s5_digits : FnScope ["number", "many"] ["number"] (C8.fnScope s_s5_digits) := C8.fnScope_by (by decide +kernel)
abbrev s_words_for : Stmt := top 41
theorem sc_words_for : FnScope ["k"] ["k"] (C8.fnScope s_words_for) := C8.fnScope_by (by decide +kernel)
abbrev s_need_step : Stmt := top 43
theorem sc_need_step : FnScope ["step"] ["step"] (C8.fnScope s_need_step) := C8.fnScope_by (by decide +kernel)
abbrev s_Draws___init__ : Stmt := inClass (top 46) 1
theorem sc_Draws___init__ : FnScope ["self", "source"] ["self", "source"] (C8.fnScope s_Draws___init__) := C8.fnScope_by (by decide +kernel)
abbrev s_Draws_s5_word : Stmt := inClass (top 46) 4
theorem sc_Draws_s5_word : FnScope ["self", "found"] ["self"] (C8.fnScope s_Draws_s5_word) := C8.fnScope_by (by decide +kernel)
abbrev s_Draws_s5_bits : Stmt := inClass (top 46) 5
theorem sc_Draws_s5_bits : FnScope ["self", "k", "found", "place", "word", "rest"] ["self", "k"] (C8.fnScope s_Draws_s5_bits) := C8.fnScope_by (by decide +kernel)
abbrev s_Draws_s5_below : Stmt := inClass (top 46) 6
theorem sc_Draws_s5_below : FnScope ["self", "n", "k", "found"] ["self", "n"] (C8.fnScope s_Draws_s5_below) := C8.fnScope_by (by decide +kernel)
abbrev s_Draws_below : Stmt := inClass (top 46) 8
theorem sc_Draws_below : FnScope ["self", "n"] ["self", "n"] (C8.fnScope s_Draws_below) := C8.fnScope_by (by decide +kernel)
abbrev s_s5_need_draw : Stmt := top 48
theorem sc_s5_need_draw : FnScope ["step"] ["step"] (C8.fnScope s_s5_need_draw) := C8.fnScope_by (by decide +kernel)
abbrev s_s5_is_integer : Stmt := top 49
theorem sc_s5_is_integer : FnScope ["thing", "low", "high"] ["thing", "low", "high"] (C8.fnScope s_s5_is_integer) := C8.fnScope_by (by decide +kernel)
abbrev s_s5_bits_for : Stmt := top 51
theorem sc_s5_bits_for : FnScope ["step"] ["step"] (C8.fnScope s_s5_bits_for) := C8.fnScope_by (by decide +kernel)
abbrev s_s5_number_for : Stmt := top 52
theorem sc_s5_number_for : FnScope ["step", "result", "word", "first"] ["step", "result"] (C8.fnScope s_s5_number_for) := C8.fnScope_by (by decide +kernel)
abbrev s_row_for : Stmt := top 53
theorem sc_row_for : FnScope ["step", "result", "number", "k", "found", "at", "rest", "part"] ["step", "result"] (C8.fnScope s_row_for) := C8.fnScope_by (by decide +kernel)
abbrev s_s6_is_integer : Stmt := top 56
theorem sc_s6_is_integer : FnScope ["value", "low", "high"] ["value", "low", "high"] (C8.fnScope s_s6_is_integer) := C8.fnScope_by (by decide +kernel)
abbrev s_need_draws : Stmt := top 57
theorem sc_need_draws : FnScope ["draws"] ["draws"] (C8.fnScope s_need_draws) := C8.fnScope_by (by decide +kernel)
abbrev s_need_things : Stmt := top 58
theorem sc_need_things : FnScope ["things"] ["things"] (C8.fnScope s_need_things) := C8.fnScope_by (by decide +kernel)
abbrev s_need_order : Stmt := top 59
theorem sc_need_order : FnScope ["order", "known", "place", "item"] ["order"] (C8.fnScope s_need_order) := C8.fnScope_by (by decide +kernel)
abbrev s_s6_exchange : Stmt := top 60
theorem sc_s6_exchange : FnScope ["items", "one", "other"] ["items", "one", "other"] (C8.fnScope s_s6_exchange) := C8.fnScope_by (by decide +kernel)
abbrev s_shuffled : Stmt := top 61
theorem sc_shuffled : FnScope ["draws", "things", "found", "last"] ["draws", "things"] (C8.fnScope s_shuffled) := C8.fnScope_by (by decide +kernel)
abbrev s_row_of : Stmt := top 62
theorem sc_row_of : FnScope ["order", "items", "found", "last", "at"] ["order"] (C8.fnScope s_row_of) := C8.fnScope_by (by decide +kernel)
abbrev s_order_by : Stmt := top 63
theorem sc_order_by : FnScope ["row", "place", "number", "found"] ["row"] (C8.fnScope s_order_by) := C8.fnScope_by (by decide +kernel)
abbrev s_script_of : Stmt := top 64
theorem sc_script_of : FnScope ["order", "found", "place", "number"] ["order"] (C8.fnScope s_script_of) := C8.fnScope_by (by decide +kernel)
abbrev s__law_mixed : Stmt := top 66
theorem sc__law_mixed : FnScope ["_law_cell", "_law_k", "_law_number_here"] ["_law_cell", "_law_k"] (C8.fnScope s__law_mixed) := C8.fnScope_by (by decide +kernel)
abbrev s__law_draw : Stmt := top 67
theorem sc__law_draw : FnScope ["_law_cell", "_law_k"] ["_law_cell", "_law_k"] (C8.fnScope s__law_draw) := C8.fnScope_by (by decide +kernel)
abbrev s__law_digit : Stmt := top 68
theorem sc__law_digit : FnScope ["_law_state", "_law_size", "_law_j", "_law_found"] ["_law_state", "_law_size"] (C8.fnScope s__law_digit) := C8.fnScope_by (by decide +kernel)
abbrev s__law_binary : Stmt := top 69
theorem sc__law_binary : FnScope ["_law_number_here", "_law_found"] ["_law_number_here"] (C8.fnScope s__law_binary) := C8.fnScope_by (by decide +kernel)
abbrev s__law_number : Stmt := top 70
theorem sc__law_number : FnScope ["_law_state", "_law_n", "_law_found", "_law_turn"] ["_law_state", "_law_n"] (C8.fnScope s__law_number) := C8.fnScope_by (by decide +kernel)
abbrev s__law_row : Stmt := top 71
theorem sc__law_row : FnScope ["_law_state", "_law_number_here", "_law_size", "_law_found", "_law_rest"] ["_law_state", "_law_number_here", "_law_size"] (C8.fnScope s__law_row) := C8.fnScope_by (by decide +kernel)
abbrev s__law_script : Stmt := top 72
theorem sc__law_script : FnScope ["_law_state", "_law_bounds", "_law_words", "_law_numbers", "_law_n", "_law_size", "_law_number_here", "_law_turn"] ["_law_state", "_law_bounds"] (C8.fnScope s__law_script) := C8.fnScope_by (by decide +kernel)
abbrev s__law_moved : Stmt := top 73
theorem sc__law_moved : FnScope ["_law_things", "_law_numbers", "_law_found", "_law_turn", "_law_number_here", "_law_last", "_law_kept"] ["_law_things", "_law_numbers"] (C8.fnScope s__law_moved) := C8.fnScope_by (by decide +kernel)
abbrev s__law_shuffle_right : Stmt := top 74
theorem sc__law_shuffle_right : FnScope ["_law_state", "_law_n", "_law_things", "_law_turn", "_law_words", "_law_numbers", "_law_source", "_law_given", "_law_told"] ["_law_state"] (C8.fnScope s__law_shuffle_right) := C8.fnScope_by (by decide +kernel)
abbrev s__law_inverse_right : Stmt := top 75
theorem sc__law_inverse_right : FnScope ["_law_state", "_law_n", "_law_row_here", "_law_i", "_law_order", "_law_source", "_law_due", "_law_turn", "_law_number_here"] ["_law_state"] (C8.fnScope s__law_inverse_right) := C8.fnScope_by (by decide +kernel)
abbrev s__law_all_right : Stmt := top 76
theorem sc__law_all_right : FnScope ["_law_found", "_law_a", "_law_b", "_law_c", "_law_order"] [] (C8.fnScope s__law_all_right) := C8.fnScope_by (by decide +kernel)
abbrev s_law : Stmt := top 77
theorem sc_law : FnScope ["_law_script_here", "_law_k", "_law_cell", "_law_state", "_law_turn"] ["_law_script_here"] (C8.fnScope s_law) := C8.fnScope_by (by decide +kernel)
structure Txt (K : PySem.W.Frag) (mg : Str → Option Value) (w : World) (C_Source C_Scripted C_Draws R_SIZES : Addr) : Prop where
  d_is_integer : ∃ f fd, C8.Def K mg "is_integer" s_is_integer f fd ∧ Binds K fd ["value"] []
  d_is_word : ∃ f fd, C8.Def K mg "is_word" s_is_word f fd ∧ Binds K fd ["value"] []
  d_need_source : ∃ f fd, C8.Def K mg "need_source" s_need_source f fd ∧ Binds K fd ["source"] []
  d_is_script : ∃ f fd, C8.Def K mg "is_script" s_is_script f fd ∧ Binds K fd ["value"] []
  d_need_script_state : ∃ f fd, C8.Def K mg "need_script_state" s_need_script_state f fd ∧ Binds K fd ["state"] []
  d_script_after : ∃ f fd, C8.Def K mg "script_after" s_script_after f fd ∧ Binds K fd ["script", "place", "steps"] []
  d_Scripted___init__ : ∃ f fd, Mk K C_Scripted f ∧ C8.Fun K "__init__" "Scripted.__init__" s_Scripted___init__ f fd ∧ Binds K fd ["self", "script", "place"] [] ∧ ∃ ds, Vals [.int 0] ds ∧ Binds K fd ["self", "script", "place"] ds
  d_Scripted_next_word : ∃ f fd, Meth K C_Scripted "next_word" f ∧ C8.Fun K "next_word" "Scripted.next_word" s_Scripted_next_word f fd ∧ Binds K fd ["self"] []
  d_Scripted_left : ∃ p f fd, PropOf K C_Scripted "left" p f ∧ C8.Fun K "left" "Scripted.left" s_Scripted_left f fd ∧ Binds K fd ["self"] []
  d_s5_need : ∃ f fd, C8.Def K mg "s5_need" s_s5_need f fd ∧ Binds K fd ["number", "low", "high"] []
  d_s5_digits : ∃ f fd, C8.Def K mg "s5_digits" s_s5_digits f fd ∧ Binds K fd ["number"] []
  d_words_for : ∃ f fd, C8.Def K mg "words_for" s_words_for f fd ∧ Binds K fd ["k"] []
  d_need_step : ∃ f fd, C8.Def K mg "need_step" s_need_step f fd ∧ Binds K fd ["step"] []
  d_Draws___init__ : ∃ f fd, Mk K C_Draws f ∧ C8.Fun K "__init__" "Draws.__init__" s_Draws___init__ f fd ∧ Binds K fd ["self", "source"] []
  d_Draws_s5_word : ∃ f fd, Meth K C_Draws "s5_word" f ∧ C8.Fun K "s5_word" "Draws.s5_word" s_Draws_s5_word f fd ∧ Binds K fd ["self"] []
  d_Draws_s5_bits : ∃ f fd, Meth K C_Draws "s5_bits" f ∧ C8.Fun K "s5_bits" "Draws.s5_bits" s_Draws_s5_bits f fd ∧ Binds K fd ["self", "k"] []
  d_Draws_s5_below : ∃ f fd, Meth K C_Draws "s5_below" f ∧ C8.Fun K "s5_below" "Draws.s5_below" s_Draws_s5_below f fd ∧ Binds K fd ["self", "n"] []
  d_Draws_below : ∃ f fd, Meth K C_Draws "below" f ∧ C8.Fun K "below" "Draws.below" s_Draws_below f fd ∧ Binds K fd ["self", "n"] []
  d_s5_need_draw : ∃ f fd, C8.Def K mg "s5_need_draw" s_s5_need_draw f fd ∧ Binds K fd ["step"] []
  d_s5_is_integer : ∃ f fd, C8.Def K mg "s5_is_integer" s_s5_is_integer f fd ∧ Binds K fd ["thing", "low", "high"] []
  d_s5_bits_for : ∃ f fd, C8.Def K mg "s5_bits_for" s_s5_bits_for f fd ∧ Binds K fd ["step"] []
  d_s5_number_for : ∃ f fd, C8.Def K mg "s5_number_for" s_s5_number_for f fd ∧ Binds K fd ["step", "result"] []
  d_row_for : ∃ f fd, C8.Def K mg "row_for" s_row_for f fd ∧ Binds K fd ["step", "result"] []
  d_s6_is_integer : ∃ f fd, C8.Def K mg "s6_is_integer" s_s6_is_integer f fd ∧ Binds K fd ["value", "low", "high"] []
  d_need_draws : ∃ f fd, C8.Def K mg "need_draws" s_need_draws f fd ∧ Binds K fd ["draws"] []
  d_need_things : ∃ f fd, C8.Def K mg "need_things" s_need_things f fd ∧ Binds K fd ["things"] []
  d_need_order : ∃ f fd, C8.Def K mg "need_order" s_need_order f fd ∧ Binds K fd ["order"] []
  d_s6_exchange : ∃ f fd, C8.Def K mg "s6_exchange" s_s6_exchange f fd ∧ Binds K fd ["items", "one", "other"] []
  d_shuffled : ∃ f fd, C8.Def K mg "shuffled" s_shuffled f fd ∧ Binds K fd ["draws", "things"] []
  d_row_of : ∃ f fd, C8.Def K mg "row_of" s_row_of f fd ∧ Binds K fd ["order"] []
  d_order_by : ∃ f fd, C8.Def K mg "order_by" s_order_by f fd ∧ Binds K fd ["row"] []
  d_script_of : ∃ f fd, C8.Def K mg "script_of" s_script_of f fd ∧ Binds K fd ["order"] []
  d__law_mixed : ∃ f fd, C8.Def K mg "_law_mixed" s__law_mixed f fd ∧ Binds K fd ["_law_cell", "_law_k"] []
  d__law_draw : ∃ f fd, C8.Def K mg "_law_draw" s__law_draw f fd ∧ Binds K fd ["_law_cell", "_law_k"] []
  d__law_digit : ∃ f fd, C8.Def K mg "_law_digit" s__law_digit f fd ∧ Binds K fd ["_law_state", "_law_size"] []
  d__law_binary : ∃ f fd, C8.Def K mg "_law_binary" s__law_binary f fd ∧ Binds K fd ["_law_number_here"] []
  d__law_number : ∃ f fd, C8.Def K mg "_law_number" s__law_number f fd ∧ Binds K fd ["_law_state", "_law_n"] []
  d__law_row : ∃ f fd, C8.Def K mg "_law_row" s__law_row f fd ∧ Binds K fd ["_law_state", "_law_number_here", "_law_size"] []
  d__law_script : ∃ f fd, C8.Def K mg "_law_script" s__law_script f fd ∧ Binds K fd ["_law_state", "_law_bounds"] []
  d__law_moved : ∃ f fd, C8.Def K mg "_law_moved" s__law_moved f fd ∧ Binds K fd ["_law_things", "_law_numbers"] []
  d__law_shuffle_right : ∃ f fd, C8.Def K mg "_law_shuffle_right" s__law_shuffle_right f fd ∧ Binds K fd ["_law_state"] []
  d__law_inverse_right : ∃ f fd, C8.Def K mg "_law_inverse_right" s__law_inverse_right f fd ∧ Binds K fd ["_law_state"] []
  d__law_all_right : ∃ f fd, C8.Def K mg "_law_all_right" s__law_all_right f fd ∧ Binds K fd [] []
  d_law : ∃ f fd, C8.Def K mg "law" s_law f fd ∧ Binds K fd ["_law_script_here"] [] ∧ ∀ (s : Shared) (v : Value), BindsTo s fd ⟨[v], []⟩ [("_law_script_here", v)]
  c_WORDS : ∃ u, mg "WORDS" = some u ∧ RelV (.int 4294967296) u
  c_MOST_SCRIPT : ∃ u, mg "MOST_SCRIPT" = some u ∧ RelV (.int 10000) u
  c_WORD_BITS : ∃ u, mg "WORD_BITS" = some u ∧ RelV (.int 32) u
  c_MOST_BITS : ∃ u, mg "MOST_BITS" = some u ∧ RelV (.int 512) u
  c_MOST_BOUND : ∃ u, mg "MOST_BOUND" = some u ∧ RelV (.int 115792089237316195423570985008687907853269984665640564039457584007913129639936) u
  c_SIZES : ∃ u, mg "SIZES" = some u ∧ RelV (.ref R_SIZES) u
  s_SIZES : ∃ od, K.lookup R_SIZES = some od ∧ (R_SIZES == sysModules) = false ∧ ∀ P : Program, Cd.DicO P w od [(Sum.inr "bits", V.int 2), (Sum.inr "below", V.int 2), (Sum.inr "between", V.int 3), (Sum.inr "choice", V.int 2), (Sum.inr "coin", V.int 3), (Sum.inr "fraction", V.int 2)]
  c_MOST_ITEMS : ∃ u, mg "MOST_ITEMS" = some u ∧ RelV (.int 1000) u
  k_Source : ∃ u, mg "Source" = some u ∧ RelV (.ref C_Source) u
  cl_Source : Cls K C_Source
  is_Source : C8.InsC K C_Source
  k_Scripted : ∃ u, mg "Scripted" = some u ∧ RelV (.ref C_Scripted) u
  cl_Scripted : Cls K C_Scripted
  is_Scripted : C8.InsC K C_Scripted
  n_Scripted_s1_script : NoAttr K C_Scripted "s1_script"
  n_Scripted_s1_place : NoAttr K C_Scripted "s1_place"
  k_Draws : ∃ u, mg "Draws" = some u ∧ RelV (.ref C_Draws) u
  cl_Draws : Cls K C_Draws
  is_Draws : C8.InsC K C_Draws
  n_Draws_s5_source : NoAttr K C_Draws "s5_source"
  n_Draws_s5_used : NoAttr K C_Draws "s5_used"
  v_Scripted_KIND : Gx.IVal K C_Scripted "KIND" (.str "script")
  b_all : mg "all" = none
  b_bool : mg "bool" = none
  b_enumerate : mg "enumerate" = none
  b_int : mg "int" = none
  b_isinstance : mg "isinstance" = none
  b_len : mg "len" = none
  b_list : mg "list" = none
  b_range : mg "range" = none
  b_repr : mg "repr" = none
  b_set : mg "set" = none
  b_sorted : mg "sorted" = none
  b_str : mg "str" = none
  b_sum : mg "sum" = none
  b_tuple : mg "tuple" = none
  kt_Source_int : PySem.W.kitOne K (.ref C_Source) (.type "int") = some false
  kt_Scripted_int : PySem.W.kitOne K (.ref C_Scripted) (.type "int") = some false
  kt_Draws_int : PySem.W.kitOne K (.ref C_Draws) (.type "int") = some false
  kt_Source_bool : PySem.W.kitOne K (.ref C_Source) (.type "bool") = some false
  kt_Scripted_bool : PySem.W.kitOne K (.ref C_Scripted) (.type "bool") = some false
  kt_Draws_bool : PySem.W.kitOne K (.ref C_Draws) (.type "bool") = some false
  kt_NoneType_Source : PySem.W.kitOne K (.type "NoneType") (.ref C_Source) = some false
  kt_bool_Source : PySem.W.kitOne K (.type "bool") (.ref C_Source) = some false
  kt_int_Source : PySem.W.kitOne K (.type "int") (.ref C_Source) = some false
  kt_str_Source : PySem.W.kitOne K (.type "str") (.ref C_Source) = some false
  kt_tuple_Source : PySem.W.kitOne K (.type "tuple") (.ref C_Source) = some false
  kt_list_Source : PySem.W.kitOne K (.type "list") (.ref C_Source) = some false
  kt_dict_Source : PySem.W.kitOne K (.type "dict") (.ref C_Source) = some false
  kt_Scripted_Source : PySem.W.kitOne K (.ref C_Scripted) (.ref C_Source) = some true
  kt_Draws_Source : PySem.W.kitOne K (.ref C_Draws) (.ref C_Source) = some false
  kt_Source_tuple : PySem.W.kitOne K (.ref C_Source) (.type "tuple") = some false
  kt_Scripted_tuple : PySem.W.kitOne K (.ref C_Scripted) (.type "tuple") = some false
  kt_Draws_tuple : PySem.W.kitOne K (.ref C_Draws) (.type "tuple") = some false
  kt_Source_str : PySem.W.kitOne K (.ref C_Source) (.type "str") = some false
  kt_Scripted_str : PySem.W.kitOne K (.ref C_Scripted) (.type "str") = some false
  kt_Draws_str : PySem.W.kitOne K (.ref C_Draws) (.type "str") = some false
  kt_NoneType_Draws : PySem.W.kitOne K (.type "NoneType") (.ref C_Draws) = some false
  kt_bool_Draws : PySem.W.kitOne K (.type "bool") (.ref C_Draws) = some false
  kt_int_Draws : PySem.W.kitOne K (.type "int") (.ref C_Draws) = some false
  kt_str_Draws : PySem.W.kitOne K (.type "str") (.ref C_Draws) = some false
  kt_tuple_Draws : PySem.W.kitOne K (.type "tuple") (.ref C_Draws) = some false
  kt_list_Draws : PySem.W.kitOne K (.type "list") (.ref C_Draws) = some false
  kt_dict_Draws : PySem.W.kitOne K (.type "dict") (.ref C_Draws) = some false
  kt_Source_Draws : PySem.W.kitOne K (.ref C_Source) (.ref C_Draws) = some false
  kt_Scripted_Draws : PySem.W.kitOne K (.ref C_Scripted) (.ref C_Draws) = some false
  kt_Source_list : PySem.W.kitOne K (.ref C_Source) (.type "list") = some false
  kt_Scripted_list : PySem.W.kitOne K (.ref C_Scripted) (.type "list") = some false
  kt_Draws_list : PySem.W.kitOne K (.ref C_Draws) (.type "list") = some false
abbrev Wk (K : PySem.W.Frag) (κ : String → Addr) : Wl := { K := K, κ := κ, T := [], live := ["Source", "Scripted", "Draws"], xlive := [], inv := fun _ => True, cl := fun _ _ _ _ => trivial }
section
variable {P : Program} {w : World} {K : PySem.W.Frag} {mg : Str → Option Value} {base : Heap} {κ : String → Addr} {R_SIZES : Addr}
theorem kit_int (T : Txt K mg w (κ "Source") (κ "Scripted") (κ "Draws") R_SIZES) : KitOk (Wk K κ) (kitB "int") := kitOk_of (.cons (kitE (show kitP "NoneType" "int" = some false by decide) (if_pos (by decide)) (if_pos (by decide)) Sx.kb_NoneType_int) (.cons (kitE (show kitP "bool" "int" = some true by decide) (if_pos (by decide)) (if_pos (by decide)) Sx.kb_bool_int) (.cons (kitE (show kitP "int" "int" = some true by decide) (if_pos (by decide)) (if_pos (by decide)) Sx.kb_int_int) (.cons (kitE (show kitP "str" "int" = some false by decide) (if_pos (by decide)) (if_pos (by decide)) Sx.kb_str_int) (.cons (kitE (show kitP "tuple" "int" = some false by decide) (if_pos (by decide)) (if_pos (by decide)) Sx.kb_tuple_int) (.cons (kitE (show kitP "list" "int" = some false by decide) (if_pos (by decide)) (if_pos (by decide)) Sx.kb_list_int) (.cons (kitE (show kitP "dict" "int" = some false by decide) (if_pos (by decide)) (if_pos (by decide)) Sx.kb_dict_int) .nil))))))) (.cons (kitE (show kitP "Source" "int" = some false by decide) (if_neg (by decide)) (if_pos (by decide)) T.kt_Source_int) (.cons (kitE (show kitP "Scripted" "int" = some false by decide) (if_neg (by decide)) (if_pos (by decide)) T.kt_Scripted_int) (.cons (kitE (show kitP "Draws" "int" = some false by decide) (if_neg (by decide)) (if_pos (by decide)) T.kt_Draws_int) .nil))) .nil (.cons ⟨by decide, T.is_Source⟩ (.cons ⟨by decide, T.is_Scripted⟩ (.cons ⟨by decide, T.is_Draws⟩ .nil))) .nil
theorem kit_bool (T : Txt K mg w (κ "Source") (κ "Scripted") (κ "Draws") R_SIZES) : KitOk (Wk K κ) (kitB "bool") := kitOk_of (.cons (kitE (show kitP "NoneType" "bool" = some false by decide) (if_pos (by decide)) (if_pos (by decide)) Sx.kb_NoneType_bool) (.cons (kitE (show kitP "bool" "bool" = some true by decide) (if_pos (by decide)) (if_pos (by decide)) Sx.kb_bool_bool) (.cons (kitE (show kitP "int" "bool" = some false by decide) (if_pos (by decide)) (if_pos (by decide)) Sx.kb_int_bool) (.cons (kitE (show kitP "str" "bool" = some false by decide) (if_pos (by decide)) (if_pos (by decide)) Sx.kb_str_bool) (.cons (kitE (show kitP "tuple" "bool" = some false by decide) (if_pos (by decide)) (if_pos (by decide)) Sx.kb_tuple_bool) (.cons (kitE (show kitP "list" "bool" = some false by decide) (if_pos (by decide)) (if_pos (by decide)) Sx.kb_list_bool) (.cons (kitE (show kitP "dict" "bool" = some false by decide) (if_pos (by decide)) (if_pos (by decide)) Sx.kb_dict_bool) .nil))))))) (.cons (kitE (show kitP "Source" "bool" = some false by decide) (if_neg (by decide)) (if_pos (by decide)) T.kt_Source_bool) (.cons (kitE (show kitP "Scripted" "bool" = some false by decide) (if_neg (by decide)) (if_pos (by decide)) T.kt_Scripted_bool) (.cons (kitE (show kitP "Draws" "bool" = some false by decide) (if_neg (by decide)) (if_pos (by decide)) T.kt_Draws_bool) .nil))) .nil (.cons ⟨by decide, T.is_Source⟩ (.cons ⟨by decide, T.is_Scripted⟩ (.cons ⟨by decide, T.is_Draws⟩ .nil))) .nil
theorem kit_Source (T : Txt K mg w (κ "Source") (κ "Scripted") (κ "Draws") R_SIZES) : KitOk (Wk K κ) (kitB "Source") := kitOk_of (.cons (kitE (show kitP "NoneType" "Source" = some false by decide) (if_pos (by decide)) (if_neg (by decide)) T.kt_NoneType_Source) (.cons (kitE (show kitP "bool" "Source" = some false by decide) (if_pos (by decide)) (if_neg (by decide)) T.kt_bool_Source) (.cons (kitE (show kitP "int" "Source" = some false by decide) (if_pos (by decide)) (if_neg (by decide)) T.kt_int_Source) (.cons (kitE (show kitP "str" "Source" = some false by decide) (if_pos (by decide)) (if_neg (by decide)) T.kt_str_Source) (.cons (kitE (show kitP "tuple" "Source" = some false by decide) (if_pos (by decide)) (if_neg (by decide)) T.kt_tuple_Source) (.cons (kitE (show kitP "list" "Source" = some false by decide) (if_pos (by decide)) (if_neg (by decide)) T.kt_list_Source) (.cons (kitE (show kitP "dict" "Source" = some false by decide) (if_pos (by decide)) (if_neg (by decide)) T.kt_dict_Source) .nil))))))) (.cons (kitE (show kitP "Source" "Source" = some true by decide) (if_neg (by decide)) (if_neg (by decide)) (Rd.kit_self K (κ "Source"))) (.cons (kitE (show kitP "Scripted" "Source" = some true by decide) (if_neg (by decide)) (if_neg (by decide)) T.kt_Scripted_Source) (.cons (kitE (show kitP "Draws" "Source" = some false by decide) (if_neg (by decide)) (if_neg (by decide)) T.kt_Draws_Source) .nil))) .nil (.cons ⟨by decide, T.is_Source⟩ (.cons ⟨by decide, T.is_Scripted⟩ (.cons ⟨by decide, T.is_Draws⟩ .nil))) .nil
theorem kit_tuple (T : Txt K mg w (κ "Source") (κ "Scripted") (κ "Draws") R_SIZES) : KitOk (Wk K κ) (kitB "tuple") := kitOk_of (.cons (kitE (show kitP "NoneType" "tuple" = some false by decide) (if_pos (by decide)) (if_pos (by decide)) Sx.kb_NoneType_tuple) (.cons (kitE (show kitP "bool" "tuple" = some false by decide) (if_pos (by decide)) (if_pos (by decide)) Sx.kb_bool_tuple) (.cons (kitE (show kitP "int" "tuple" = some false by decide) (if_pos (by decide)) (if_pos (by decide)) Sx.kb_int_tuple) (.cons (kitE (show kitP "str" "tuple" = some false by decide) (if_pos (by decide)) (if_pos (by decide)) Sx.kb_str_tuple) (.cons (kitE (show kitP "tuple" "tuple" = some true by decide) (if_pos (by decide)) (if_pos (by decide)) Sx.kb_tuple_tuple) (.cons (kitE (show kitP "list" "tuple" = some false by decide) (if_pos (by decide)) (if_pos (by decide)) Sx.kb_list_tuple) (.cons (kitE (show kitP "dict" "tuple" = some false by decide) (if_pos (by decide)) (if_pos (by decide)) Sx.kb_dict_tuple) .nil))))))) (.cons (kitE (show kitP "Source" "tuple" = some false by decide) (if_neg (by decide)) (if_pos (by decide)) T.kt_Source_tuple) (.cons (kitE (show kitP "Scripted" "tuple" = some false by decide) (if_neg (by decide)) (if_pos (by decide)) T.kt_Scripted_tuple) (.cons (kitE (show kitP "Draws" "tuple" = some false by decide) (if_neg (by decide)) (if_pos (by decide)) T.kt_Draws_tuple) .nil))) .nil (.cons ⟨by decide, T.is_Source⟩ (.cons ⟨by decide, T.is_Scripted⟩ (.cons ⟨by decide, T.is_Draws⟩ .nil))) .nil
theorem kit_str (T : Txt K mg w (κ "Source") (κ "Scripted") (κ "Draws") R_SIZES) : KitOk (Wk K κ) (kitB "str") := kitOk_of (.cons (kitE (show kitP "NoneType" "str" = some false by decide) (if_pos (by decide)) (if_pos (by decide)) Sx.kb_NoneType_str) (.cons (kitE (show kitP "bool" "str" = some false by decide) (if_pos (by decide)) (if_pos (by decide)) Sx.kb_bool_str) (.cons (kitE (show kitP "int" "str" = some false by decide) (if_pos (by decide)) (if_pos (by decide)) Sx.kb_int_str) (.cons (kitE (show kitP "str" "str" = some true by decide) (if_pos (by decide)) (if_pos (by decide)) Sx.kb_str_str) (.cons (kitE (show kitP "tuple" "str" = some false by decide) (if_pos (by decide)) (if_pos (by decide)) Sx.kb_tuple_str) (.cons (kitE (show kitP "list" "str" = some false by decide) (if_pos (by decide)) (if_pos (by decide)) Sx.kb_list_str) (.cons (kitE (show kitP "dict" "str" = some false by decide) (if_pos (by decide)) (if_pos (by decide)) Sx.kb_dict_str) .nil))))))) (.cons (kitE (show kitP "Source" "str" = some false by decide) (if_neg (by decide)) (if_pos (by decide)) T.kt_Source_str) (.cons (kitE (show kitP "Scripted" "str" = some false by decide) (if_neg (by decide)) (if_pos (by decide)) T.kt_Scripted_str) (.cons (kitE (show kitP "Draws" "str" = some false by decide) (if_neg (by decide)) (if_pos (by decide)) T.kt_Draws_str) .nil))) .nil (.cons ⟨by decide, T.is_Source⟩ (.cons ⟨by decide, T.is_Scripted⟩ (.cons ⟨by decide, T.is_Draws⟩ .nil))) .nil
theorem kit_Draws (T : Txt K mg w (κ "Source") (κ "Scripted") (κ "Draws") R_SIZES) : KitOk (Wk K κ) (kitB "Draws") := kitOk_of (.cons (kitE (show kitP "NoneType" "Draws" = some false by decide) (if_pos (by decide)) (if_neg (by decide)) T.kt_NoneType_Draws) (.cons (kitE (show kitP "bool" "Draws" = some false by decide) (if_pos (by decide)) (if_neg (by decide)) T.kt_bool_Draws) (.cons (kitE (show kitP "int" "Draws" = some false by decide) (if_pos (by decide)) (if_neg (by decide)) T.kt_int_Draws) (.cons (kitE (show kitP "str" "Draws" = some false by decide) (if_pos (by decide)) (if_neg (by decide)) T.kt_str_Draws) (.cons (kitE (show kitP "tuple" "Draws" = some false by decide) (if_pos (by decide)) (if_neg (by decide)) T.kt_tuple_Draws) (.cons (kitE (show kitP "list" "Draws" = some false by decide) (if_pos (by decide)) (if_neg (by decide)) T.kt_list_Draws) (.cons (kitE (show kitP "dict" "Draws" = some false by decide) (if_pos (by decide)) (if_neg (by decide)) T.kt_dict_Draws) .nil))))))) (.cons (kitE (show kitP "Source" "Draws" = some false by decide) (if_neg (by decide)) (if_neg (by decide)) T.kt_Source_Draws) (.cons (kitE (show kitP "Scripted" "Draws" = some false by decide) (if_neg (by decide)) (if_neg (by decide)) T.kt_Scripted_Draws) (.cons (kitE (show kitP "Draws" "Draws" = some true by decide) (if_neg (by decide)) (if_neg (by decide)) (Rd.kit_self K (κ "Draws"))) .nil))) .nil (.cons ⟨by decide, T.is_Source⟩ (.cons ⟨by decide, T.is_Scripted⟩ (.cons ⟨by decide, T.is_Draws⟩ .nil))) .nil
theorem kit_list (T : Txt K mg w (κ "Source") (κ "Scripted") (κ "Draws") R_SIZES) : KitOk (Wk K κ) (kitB "list") := kitOk_of (.cons (kitE (show kitP "NoneType" "list" = some false by decide) (if_pos (by decide)) (if_pos (by decide)) Sx.kb_NoneType_list) (.cons (kitE (show kitP "bool" "list" = some false by decide) (if_pos (by decide)) (if_pos (by decide)) Sx.kb_bool_list) (.cons (kitE (show kitP "int" "list" = some false by decide) (if_pos (by decide)) (if_pos (by decide)) Sx.kb_int_list) (.cons (kitE (show kitP "str" "list" = some false by decide) (if_pos (by decide)) (if_pos (by decide)) Sx.kb_str_list) (.cons (kitE (show kitP "tuple" "list" = some false by decide) (if_pos (by decide)) (if_pos (by decide)) Sx.kb_tuple_list) (.cons (kitE (show kitP "list" "list" = some true by decide) (if_pos (by decide)) (if_pos (by decide)) Sx.kb_list_list) (.cons (kitE (show kitP "dict" "list" = some false by decide) (if_pos (by decide)) (if_pos (by decide)) Sx.kb_dict_list) .nil))))))) (.cons (kitE (show kitP "Source" "list" = some false by decide) (if_neg (by decide)) (if_pos (by decide)) T.kt_Source_list) (.cons (kitE (show kitP "Scripted" "list" = some false by decide) (if_neg (by decide)) (if_pos (by decide)) T.kt_Scripted_list) (.cons (kitE (show kitP "Draws" "list" = some false by decide) (if_neg (by decide)) (if_pos (by decide)) T.kt_Draws_list) .nil))) .nil (.cons ⟨by decide, T.is_Source⟩ (.cons ⟨by decide, T.is_Scripted⟩ (.cons ⟨by decide, T.is_Draws⟩ .nil))) .nil
theorem calx_is_integer (T : Txt K mg w (κ "Source") (κ "Scripted") (κ "Draws") R_SIZES) : Gx.CalX P w K mg base 1 "is_integer" (spF (Wk K κ) 1 F_is_integer) := by
  obtain ⟨f, fd, F, b⟩ := T.d_is_integer
  refine Gx.calX F b sc_is_integer (fun vs H Q E h => spF.len h) (fun cdv A outer s H vs Q E hr h => ?_)
  have hu := hu_of hr
  have hu64 := hr.units
  have hu65 := Ab.u65 hr
  exact ⟨_, (pss_one (ps_ret (pe_and (pe_callB (show CallR _ _ (Ab.rIsiU K) by exact Ab.call_isiU) (by rfl) T.b_isinstance (by decide +kernel) (pa_cons (pv 0) (pa_cons (pe_bltn (v := .ty "int") (by rfl) T.b_int (by decide +kernel) rfl) pa_nil))) (pe_one (pe_not (pe_callB (show CallR _ _ (Ab.rIsiU K) by exact Ab.call_isiU) (by rfl) T.b_isinstance (by decide +kernel) (pa_cons (pv 0) (pa_cons (pe_bltn (v := .ty "bool") (by rfl) T.b_bool (by decide +kernel) rfl) pa_nil)))))))), Ab.DS.dfn (spF_gc h) rfl (DS.ret (DE.andV (DE.cb (DB.isi (kit_int T)) (DA.cons DE.var (DA.cons (DE.c fun _ => .ty _) DA.nil)) NEL.isi) (DE.notV (DE.cb (DB.isi (kit_bool T)) (DA.cons DE.var (DA.cons (DE.c fun _ => .ty _) DA.nil)) NEL.isi))))⟩
theorem calx_need_source (T : Txt K mg w (κ "Source") (κ "Scripted") (κ "Draws") R_SIZES) : Gx.CalX P w K mg base 1 "need_source" (spF (Wk K κ) 1 F_need_source) := by
  obtain ⟨f, fd, F, b⟩ := T.d_need_source
  refine Gx.calX F b sc_need_source (fun vs H Q E h => spF.len h) (fun cdv A outer s H vs Q E hr h => ?_)
  have hu := hu_of hr
  have hu64 := hr.units
  have hu65 := Ab.u65 hr
  exact ⟨_, (pss_one (ps_if (PW.pt (pw_or (pt_not (pt_val (pe_callB (show CallR _ _ (Ab.rIsiU K) by exact Ab.call_isiU) (by rfl) T.b_isinstance (by decide +kernel) (pa_cons (pv 0) (pa_cons (C8.pe_gc (by rfl) T.k_Source) pa_nil))))) (pw_or1 (pt_cmpR (show OpR _ _ (Ab.rEqU K) by exact Ab.op_eqU hu64) (Gx.pe_ival (pv 0)) pe_str (nomark _))))) (pss_one ps_never) pss_nil)), Ab.DS.dfn (spF_gc h) rfl (DS.ifs (DT.or (DT.not (DT.b (DE.cb (DB.isi (kit_Source T)) (DA.cons DE.var (DA.cons (DE.c fun _ => .cls "Source") DA.nil)) NEL.isi))) (DT.test (DE.op DR.eq (DE.ival (fun _ => .str _) (.cons ⟨T.cl_Scripted, T.v_Scripted_KIND⟩ .nil) DE.var) (DE.c fun _ => .str _) NE2.eq))) (DS.never fun _ _ => rfl) DS.next)⟩
theorem calx_script_after (T : Txt K mg w (κ "Source") (κ "Scripted") (κ "Draws") R_SIZES) : Gx.CalX P w K mg base 1 "script_after" (spF (Wk K κ) 3 F_script_after) := by
  obtain ⟨f, fd, F, b⟩ := T.d_script_after
  refine Gx.calX F b sc_script_after (fun vs H Q E h => spF.len h) (fun cdv A outer s H vs Q E hr h => ?_)
  have hu := hu_of hr
  have hu64 := hr.units
  have hu65 := Ab.u65 hr
  exact ⟨_, (pss_cons (ps_if (pt_cmpR op_gt (pe_op (show OpR _ _ (Ab.rAddU K) by exact Ab.op_addU) (pv 1) (pv 2)) (pe_callB (show CallR _ _ (Ab.rLenU K) by exact Ab.call_lenU) (by rfl) T.b_len PySem.boot_len (pa_cons (pv 0) pa_nil)) (nomark _)) (pss_one ps_never) pss_nil)
      (pss_one (ps_ret (pe_op (show OpR _ _ (Ab.rAddU K) by exact Ab.op_addU) (pv 1) (pv 2))))), Ab.DS.dfn (spF_gc h) rfl (DS.seq (DS.ifs (DT.test (DE.op (DR.i0 fun _ _ _ => .bl _) (DE.op DR.add DE.var DE.var NE2.add) (DE.cb DB.len (DA.cons DE.var DA.nil) NEL.len) NE2.i0)) (DS.never fun _ _ => rfl) DS.next)
      (DS.ret (DE.op DR.add DE.var DE.var NE2.add)))⟩
theorem prop_Scripted_left (T : Txt K mg w (κ "Source") (κ "Scripted") (κ "Draws") R_SIZES) : Gx.PrpC P w K mg base 1 (κ "Scripted") "left" (spF (Wk K κ) 1 (fun xs s => noErr (F_Scripted_left xs s))) := by
  obtain ⟨pp, f, fd, pr, F, b⟩ := T.d_Scripted_left
  refine Gx.prp0 T.cl_Scripted pr F b sc_Scripted_left (fun vs H Q E h => spF.len h) (fun cdv A outer s H vs Q E hr h => ?_)
  have hu := hu_of hr
  have hu64 := hr.units
  have hu65 := Ab.u65 hr
  have h := spF_noErr (E' := fun _ _ _ => False) h
  exact ⟨_, (pss_one (ps_ret (pe_op op_sub (pe_callB (show CallR _ _ (Ab.rLenU K) by exact Ab.call_lenU) (by rfl) T.b_len PySem.boot_len (pa_cons (pe_fld (pv 0) rfl) pa_nil)) (pe_fld (pv 0) rfl)))), Ab.DS.dfn (spF_gc h) rfl (DS.ret (DE.op (DR.i0 fun _ _ _ => .int _) (DE.cb DB.len (DA.cons (DE.fld (.cons ⟨T.cl_Scripted, T.n_Scripted_s1_script⟩ .nil) DE.var) DA.nil) NEL.len) (DE.fld (.cons ⟨T.cl_Scripted, T.n_Scripted_s1_place⟩ .nil) DE.var) NE2.i0))⟩
theorem calx_s5_digits (T : Txt K mg w (κ "Source") (κ "Scripted") (κ "Draws") R_SIZES) : Gx.CalX P w K mg base 1 "s5_digits" (spF (Wk K κ) 1 F_s5_digits) := by
  obtain ⟨f, fd, F, b⟩ := T.d_s5_digits
  refine Gx.calX F b sc_s5_digits (fun vs H Q E h => spF.len h) (fun cdv A outer s H vs Q E hr h => ?_)
  have hu := hu_of hr
  have hu64 := hr.units
  have hu65 := Ab.u65 hr
  exact ⟨_, (pss_cons (ps_set (i := 1) sc_s5_digits.nd rfl (.inl rfl) pe_int)
      (pss_cons (ps_while (passes_of rfl) (pt_cmpR op_gt (pv 0) pe_int (nomark _)) (pss_one (ps_par (i := 0) (j := 1) rfl sc_s5_digits.nd rfl rfl (by decide) rfl rfl (pa_cons (pe_op op_fdivW (pv 0) pe_int) (pa_cons (pe_op (show OpR _ _ (Ab.rAddU K) by exact Ab.op_addU) (pv 1) pe_int) pa_nil)) (by rfl))))
      (pss_one (ps_ret (pv 1))))), Ab.DS.dfn (spF_gc h) rfl (DS.seq (DS.asg (DE.c fun _ => .int _) DG.name Goes.name)
      (DS.seq (DS.whileS (DT.test (DE.op (DR.i0 fun _ _ _ => .bl _) DE.var (DE.c fun _ => .int _) NE2.i0)) (DS.par (DA.cons (DE.op (DR.i fun _ _ _ => .int _) DE.var (DE.c fun _ => .int _) NE2.i) (DA.cons (DE.op DR.add DE.var (DE.c fun _ => .int _) NE2.add) DA.nil))))
      (DS.ret DE.var)))⟩
theorem calx_need_step (T : Txt K mg w (κ "Source") (κ "Scripted") (κ "Draws") R_SIZES) : Gx.CalX P w K mg base 1 "need_step" (spF (Wk K κ) 1 F_need_step) := by
  obtain ⟨f, fd, F, b⟩ := T.d_need_step
  refine Gx.calX F b sc_need_step (fun vs H Q E h => spF.len h) (fun cdv A outer s H vs Q E hr h => ?_)
  have hu := hu_of hr
  have hu64 := hr.units
  have hu65 := Ab.u65 hr
  exact ⟨_, (pss_cons (ps_if (PW.pt (pw_or (pt_not (pt_val (pe_callB (show CallR _ _ (Ab.rIsiU K) by exact Ab.call_isiU) (by rfl) T.b_isinstance (by decide +kernel) (pa_cons (pv 0) (pa_cons (pe_bltn (v := .ty "tuple") (by rfl) T.b_tuple (by decide +kernel) rfl) pa_nil))))) (pw_or (pt_cmpR (show OpR _ _ (Ab.rEqZ K) by exact Ab.op_eqZ hu64) (pv 0) (pe_tup pa_nil) (nomark _)) (pw_or1 (pt_not (pt_val (pe_callB (show CallR _ _ (Ab.rIsiU K) by exact Ab.call_isiU) (by rfl) T.b_isinstance (by decide +kernel) (pa_cons (pe_ix (show IxR _ (Ab.rIxU K) by exact Ab.ix_U) (pv 0) pe_int (fun _ _ => rfl)) (pa_cons (pe_bltn (v := .ty "str") (by rfl) T.b_str (by decide +kernel) rfl) pa_nil))))))))) (pss_one ps_never) pss_nil)
      (pss_one (ps_if (pt_cmpR (show OpR _ _ (Ab.rNeU K) by exact Ab.op_neU hu64) (Cd.pe_dgetT (C8.pe_gc (by rfl) T.c_SIZES) T.s_SIZES (pe_ix (show IxR _ (Ab.rIxU K) by exact Ab.ix_U) (pv 0) pe_int (fun _ _ => rfl)) ⟨rfl, rfl, rfl, rfl⟩) (pe_callB (show CallR _ _ (Ab.rLenU K) by exact Ab.call_lenU) (by rfl) T.b_len PySem.boot_len (pa_cons (pv 0) pa_nil)) (nomark _)) (pss_one ps_never) pss_nil))), Ab.DS.dfn (spF_gc h) rfl (DS.seq (DS.ifs (DT.or (DT.not (DT.b (DE.cb (DB.isi (kit_tuple T)) (DA.cons DE.var (DA.cons (DE.c fun _ => .ty _) DA.nil)) NEL.isi))) (DT.or (DT.test (DE.op DR.eq0 DE.var (DE.tup DA.nil) NE2.eq0)) (DT.not (DT.b (DE.cb (DB.isi (kit_str T)) (DA.cons (DE.op DR.ix DE.var (DE.c fun _ => .int _) NE2.ix) (DA.cons (DE.c fun _ => .ty _) DA.nil)) NEL.isi))))) (DS.never fun _ _ => rfl) DS.next)
      (DS.ifs (DT.gc (DT.test (DE.op DR.ne (DE.dgetN (fun w => RK_SIZES w) (DE.op DR.ix DE.var (DE.c fun _ => .int _) NE2.ix)) (DE.cb DB.len (DA.cons DE.var DA.nil) NEL.len) NE2.ne))) (DS.never fun _ _ => rfl) DS.next))⟩
theorem calx_s6_is_integer (T : Txt K mg w (κ "Source") (κ "Scripted") (κ "Draws") R_SIZES) : Gx.CalX P w K mg base 1 "s6_is_integer" (spF (Wk K κ) 3 F_s6_is_integer) := by
  obtain ⟨f, fd, F, b⟩ := T.d_s6_is_integer
  refine Gx.calX F b sc_s6_is_integer (fun vs H Q E h => spF.len h) (fun cdv A outer s H vs Q E hr h => ?_)
  have hu := hu_of hr
  have hu64 := hr.units
  have hu65 := Ab.u65 hr
  exact ⟨_, (pss_one (ps_ret (pe_and (pe_callB (show CallR _ _ (Ab.rIsiU K) by exact Ab.call_isiU) (by rfl) T.b_isinstance (by decide +kernel) (pa_cons (pv 0) (pa_cons (pe_bltn (v := .ty "int") (by rfl) T.b_int (by decide +kernel) rfl) pa_nil))) (pe_and (pe_not (pe_callB (show CallR _ _ (Ab.rIsiU K) by exact Ab.call_isiU) (by rfl) T.b_isinstance (by decide +kernel) (pa_cons (pv 0) (pa_cons (pe_bltn (v := .ty "bool") (by rfl) T.b_bool (by decide +kernel) rfl) pa_nil)))) (pe_one (pe_chain op_le op_le (pv 1) (pv 0) (pv 2))))))), Ab.DS.dfn (spF_gc h) rfl (DS.ret (DE.andV (DE.cb (DB.isi (kit_int T)) (DA.cons DE.var (DA.cons (DE.c fun _ => .ty _) DA.nil)) NEL.isi) (DE.andV (DE.notV (DE.cb (DB.isi (kit_bool T)) (DA.cons DE.var (DA.cons (DE.c fun _ => .ty _) DA.nil)) NEL.isi)) (DE.chain (DR.i0 fun _ _ _ => .bl _) (DR.i0 fun _ _ _ => .bl _) DE.var DE.var DE.var NE2.i0 NE2.i0))))⟩
theorem calx_need_things (T : Txt K mg w (κ "Source") (κ "Scripted") (κ "Draws") R_SIZES) : Gx.CalX P w K mg base 1 "need_things" (spF (Wk K κ) 1 F_need_things) := by
  obtain ⟨f, fd, F, b⟩ := T.d_need_things
  refine Gx.calX F b sc_need_things (fun vs H Q E h => spF.len h) (fun cdv A outer s H vs Q E hr h => ?_)
  have hu := hu_of hr
  have hu64 := hr.units
  have hu65 := Ab.u65 hr
  exact ⟨_, (pss_one (ps_if (PW.pt (pw_or (pt_not (pt_val (pe_callB (show CallR _ _ (Ab.rIsiTU K) by exact Ab.call_isiTU) (by rfl) T.b_isinstance (by decide +kernel) (pa_cons (pv 0) (pa_cons (pe_tup (pa_cons (pe_bltn (v := .ty "list") (by rfl) T.b_list (by decide +kernel) rfl) (pa_cons (pe_bltn (v := .ty "tuple") (by rfl) T.b_tuple (by decide +kernel) rfl) pa_nil))) pa_nil))))) (pw_or1 (pt_cmpR op_gt (pe_callB (show CallR _ _ (Ab.rLenU K) by exact Ab.call_lenU) (by rfl) T.b_len PySem.boot_len (pa_cons (pv 0) pa_nil)) (C8.pe_gc (by rfl) T.c_MOST_ITEMS) (nomark _))))) (pss_one ps_never) pss_nil)), Ab.DS.dfn (spF_gc h) rfl (DS.ifs (DT.or (DT.not (DT.b (DE.isiT (.ty (by decide) (.ty (by decide) .nil)) (.cons (kit_list T) (.cons (kit_tuple T) .nil)) ⟨_, (kit_list T)⟩ DE.var (DA.cons (DE.c fun _ => .ty _) (DA.cons (DE.c fun _ => .ty _) DA.nil)) (fun _ _ => rfl) (by decide)))) (DT.test (DE.op (DR.i0 fun _ _ _ => .bl _) (DE.cb DB.len (DA.cons DE.var DA.nil) NEL.len) (DE.c fun _ => .int _) NE2.i0))) (DS.never fun _ _ => rfl) DS.next)⟩
theorem calx_s6_exchange (T : Txt K mg w (κ "Source") (κ "Scripted") (κ "Draws") R_SIZES) : Gx.CalX P w K mg base 1 "s6_exchange" (spF (Wk K κ) 3 F_s6_exchange) := by
  obtain ⟨f, fd, F, b⟩ := T.d_s6_exchange
  refine Gx.calX F b sc_s6_exchange (fun vs H Q E h => spF.len h) (fun cdv A outer s H vs Q E hr h => ?_)
  have hu := hu_of hr
  have hu64 := hr.units
  have hu65 := Ab.u65 hr
  exact ⟨_, (pss_one (ps_asg (pe_tup (pa_cons (pe_ix (show IxR _ (Ab.rIxU K) by exact Ab.ix_U) (pv 0) (pv 2) (fun _ _ => rfl)) (pa_cons (pe_ix (show IxR _ (Ab.rIxU K) by exact Ab.ix_U) (pv 0) (pv 1) (fun _ _ => rfl)) pa_nil))) (show PG _ _ (gTup K 2 _) by exact pg_tup rfl (pgs_cons (pg_sub (pv 0) (pv 1) set_list) (pgs_cons (pg_sub (pv 0) (pv 2) set_list) pgs_nil))))), Ab.DS.dfn (spF_gc h) rfl (DS.asg (DE.tup (DA.cons (DE.op DR.ix DE.var DE.var NE2.ix) (DA.cons (DE.op DR.ix DE.var DE.var NE2.ix) DA.nil))) (DG.tup (DGs.cons (DG.subL DE.var DE.var) (DGs.cons (DG.subL DE.var DE.var) DGs.nil))) (Goes.tup (GoesL.cons Goes.sub (GoesL.cons Goes.sub GoesL.nil))))⟩
theorem calx__law_mixed (T : Txt K mg w (κ "Source") (κ "Scripted") (κ "Draws") R_SIZES) : Gx.CalX P w K mg base 1 "_law_mixed" (spF (Wk K κ) 2 F__law_mixed) := by
  obtain ⟨f, fd, F, b⟩ := T.d__law_mixed
  refine Gx.calX F b sc__law_mixed (fun vs H Q E h => spF.len h) (fun cdv A outer s H vs Q E hr h => ?_)
  have hu := hu_of hr
  have hu64 := hr.units
  have hu65 := Ab.u65 hr
  exact ⟨_, (pss_cons (ps_set (i := 2) sc__law_mixed.nd rfl (.inl rfl) (pe_op (show OpR _ _ (Ab.rAddU K) by exact Ab.op_addU) (pe_op (show OpR _ _ (Ab.rAddU K) by exact Ab.op_addU) (pe_op op_mod (pv 0) (pe_ix (show IxR _ (Ab.rIxU K) by exact Ab.ix_U) (pe_lst (pa_cons pe_int (pa_cons pe_int (pa_cons pe_int (pa_cons pe_int pa_nil))))) (pe_op op_mod (pv 1) pe_int) (fun _ _ => rfl))) (pe_op Ab.op_mulU pe_int (pv 1))) pe_int))
      (pss_one (ps_ret (pe_op op_mod (pe_op Ab.op_mulU (pe_op op_mod (pe_op Ab.op_mulU (pv 2) (pv 2)) pe_int) pe_int) pe_int)))), Ab.DS.dfn (spF_gc h) rfl (DS.seq (DS.asg (DE.op DR.add (DE.op DR.add (DE.op (DR.i fun _ _ _ => .int _) DE.var (DE.op DR.ix (DE.lst (DA.cons (DE.c fun _ => .int _) (DA.cons (DE.c fun _ => .int _) (DA.cons (DE.c fun _ => .int _) (DA.cons (DE.c fun _ => .int _) DA.nil))))) (DE.op (DR.i fun _ _ _ => .int _) DE.var (DE.c fun _ => .int _) NE2.i) NE2.ix) NE2.i) (DE.op DR.mul (DE.c fun _ => .int _) DE.var NE2.mul) NE2.add) (DE.c fun _ => .int _) NE2.add) DG.name Goes.name)
      (DS.ret (DE.op (DR.i fun _ _ _ => .int _) (DE.op DR.mul (DE.op (DR.i fun _ _ _ => .int _) (DE.op DR.mul DE.var DE.var NE2.mul) (DE.c fun _ => .int _) NE2.i) (DE.c fun _ => .int _) NE2.mul) (DE.c fun _ => .int _) NE2.i)))⟩
theorem calx__law_draw (T : Txt K mg w (κ "Source") (κ "Scripted") (κ "Draws") R_SIZES) : Gx.CalX P w K mg base 1 "_law_draw" (spF (Wk K κ) 2 F__law_draw) := by
  obtain ⟨f, fd, F, b⟩ := T.d__law_draw
  refine Gx.calX F b sc__law_draw (fun vs H Q E h => spF.len h) (fun cdv A outer s H vs Q E hr h => ?_)
  have hu := hu_of hr
  have hu64 := hr.units
  have hu65 := Ab.u65 hr
  exact ⟨_, (pss_one (ps_ret (pe_disp (pps_cons pe_str (pe_ifExp (pt_cmpR op_ge (pv 0) (pe_op op_pow pe_int pe_int) (nomark _)) (pv 0) pe_int) (pps_cons pe_str (pv 0) (pps_cons pe_str (pe_op Ab.op_mulU pe_int (pv 1)) pps_nil))) rfl rfl (by simp) (by decide)))), Ab.DS.dfn (spF_gc h) rfl (DS.ret (DE.disp (.cons (DE.c fun _ => .str _) (DE.ifE (DT.test (DE.op (DR.i0 fun _ _ _ => .bl _) DE.var (DE.op (DR.i fun _ _ _ => .int _) (DE.c fun _ => .int _) (DE.c fun _ => .int _) NE2.i) NE2.i0)) DE.var (DE.c fun _ => .int _)) (.cons (DE.c fun _ => .str _) DE.var (.cons (DE.c fun _ => .str _) (DE.op DR.mul (DE.c fun _ => .int _) DE.var NE2.mul) .nil)))))⟩
theorem calx__law_binary (T : Txt K mg w (κ "Source") (κ "Scripted") (κ "Draws") R_SIZES) : Gx.CalX P w K mg base 1 "_law_binary" (spF (Wk K κ) 1 F__law_binary) := by
  obtain ⟨f, fd, F, b⟩ := T.d__law_binary
  refine Gx.calX F b sc__law_binary (fun vs H Q E h => spF.len h) (fun cdv A outer s H vs Q E hr h => ?_)
  have hu := hu_of hr
  have hu64 := hr.units
  have hu65 := Ab.u65 hr
  exact ⟨_, (pss_cons (ps_set (i := 1) sc__law_binary.nd rfl (.inl rfl) pe_int)
      (pss_cons (ps_while (passes_of rfl) (pt_cmpR op_gt (pv 0) pe_int (nomark _)) (pss_one (ps_par (i := 0) (j := 1) rfl sc__law_binary.nd rfl rfl (by decide) rfl rfl (pa_cons (pe_op op_fdivW (pv 0) pe_int) (pa_cons (pe_op (show OpR _ _ (Ab.rAddU K) by exact Ab.op_addU) (pv 1) pe_int) pa_nil)) (by rfl))))
      (pss_one (ps_ret (pv 1))))), Ab.DS.dfn (spF_gc h) rfl (DS.seq (DS.asg (DE.c fun _ => .int _) DG.name Goes.name)
      (DS.seq (DS.whileS (DT.test (DE.op (DR.i0 fun _ _ _ => .bl _) DE.var (DE.c fun _ => .int _) NE2.i0)) (DS.par (DA.cons (DE.op (DR.i fun _ _ _ => .int _) DE.var (DE.c fun _ => .int _) NE2.i) (DA.cons (DE.op DR.add DE.var (DE.c fun _ => .int _) NE2.add) DA.nil))))
      (DS.ret DE.var)))⟩
theorem calx__law_moved (T : Txt K mg w (κ "Source") (κ "Scripted") (κ "Draws") R_SIZES) : Gx.CalX P w K mg base 1 "_law_moved" (spF (Wk K κ) 2 F__law_moved) := by
  obtain ⟨f, fd, F, b⟩ := T.d__law_moved
  refine Gx.calX F b sc__law_moved (fun vs H Q E h => spF.len h) (fun cdv A outer s H vs Q E hr h => ?_)
  have hu := hu_of hr
  have hu64 := hr.units
  have hu65 := Ab.u65 hr
  exact ⟨_, (pss_cons (ps_set (i := 2) sc__law_moved.nd rfl (.inl rfl) (pe_callTy Gx.call_lstOf (by rfl) T.b_list (by decide +kernel) (pa_cons (pv 0) pa_nil)))
      (pss_cons (ps_for (passes_of rfl) rfl (show PI _ _ _ (Ab.enU K _) by exact Ab.PI.or (pi_enum (by rfl) T.b_enumerate (pa_cons (pv 1) pa_nil)) (Gx.pi_enT (by rfl) T.b_enumerate (pa_cons (pv 1) pa_nil))) (show PG _ _ (gTup K 2 _) by exact pg_tup rfl (pgs_cons (pg_name (i := 3) sc__law_moved.nd rfl (.inl rfl)) (pgs_cons (pg_name (i := 4) sc__law_moved.nd rfl (.inl rfl)) pgs_nil))) (pss_cons (ps_set (i := 5) sc__law_moved.nd rfl (.inl rfl) (pe_op op_sub (pe_op op_sub (pe_callB (show CallR _ _ (Ab.rLenU K) by exact Ab.call_lenU) (by rfl) T.b_len PySem.boot_len (pa_cons (pv 2) pa_nil)) pe_int) (pv 3)))
      (pss_cons (ps_set (i := 6) sc__law_moved.nd rfl (.inl rfl) (pe_ix (show IxR _ (Ab.rIxU K) by exact Ab.ix_U) (pv 2) (pv 5) (fun _ _ => rfl)))
      (pss_cons (ps_asg (pe_ix (show IxR _ (Ab.rIxU K) by exact Ab.ix_U) (pv 2) (pv 4) (fun _ _ => rfl)) (pg_sub (pv 2) (pv 5) set_list))
      (pss_one (ps_asg (pv 6) (pg_sub (pv 2) (pv 4) set_list)))))))
      (pss_one (ps_ret (pv 2))))), Ab.DS.dfn (spF_gc h) rfl (DS.seq (DS.asg (DE.cb DB.list (DA.cons DE.var DA.nil) NEL.list) DG.name Goes.name)
      (DS.seq (DS.forS (DI.enumU (DA.cons DE.var DA.nil)) (DG.tup (DGs.cons DG.name (DGs.cons DG.name DGs.nil))) (Goes.tup (GoesL.cons Goes.name (GoesL.cons Goes.name GoesL.nil))) (DS.seq (DS.asg (DE.op (DR.i0 fun _ _ _ => .int _) (DE.op (DR.i0 fun _ _ _ => .int _) (DE.cb DB.len (DA.cons DE.var DA.nil) NEL.len) (DE.c fun _ => .int _) NE2.i0) DE.var NE2.i0) DG.name Goes.name)
      (DS.seq (DS.asg (DE.op DR.ix DE.var DE.var NE2.ix) DG.name Goes.name)
      (DS.seq (DS.asg (DE.op DR.ix DE.var DE.var NE2.ix) (DG.subL DE.var DE.var) Goes.sub)
      (DS.asg DE.var (DG.subL DE.var DE.var) Goes.sub)))))
      (DS.ret DE.var)))⟩
theorem calx_is_word (T : Txt K mg w (κ "Source") (κ "Scripted") (κ "Draws") R_SIZES) : Gx.CalX P w K mg base 2 "is_word" (spF (Wk K κ) 1 F_is_word) := by
  obtain ⟨f, fd, F, b⟩ := T.d_is_word
  refine Gx.calX F b sc_is_word (fun vs H Q E h => spF.len h) (fun cdv A outer s H vs Q E hr h => ?_)
  have hu := hu_of hr
  have hu64 := hr.units
  have hu65 := Ab.u65 hr
  exact ⟨_, (pss_one (ps_ret (pe_and (Gx.pe_cx (calx_is_integer T) Gx.takes_cx (fun _ _ _ _ h => h) hr (by omega) (by rfl) (pa_cons (pv 0) pa_nil)) (pe_one (pe_chain op_le op_lt pe_int (pv 0) (C8.pe_gc (by rfl) T.c_WORDS)))))), Ab.DS.dfn (spF_gc h) rfl (DS.ret (DE.andV (DE.call (fun _ => .nil) (DA.cons DE.var DA.nil)) (DE.chain (DR.i0 fun _ _ _ => .bl _) (DR.i0 fun _ _ _ => .bl _) (DE.c fun _ => .int _) DE.var (DE.c fun _ => .int _) NE2.i0 NE2.i0)))⟩
theorem metx_Scripted_next_word (T : Txt K mg w (κ "Source") (κ "Scripted") (κ "Draws") R_SIZES) : Gx.MetX P w K mg base 2 (κ "Scripted") "next_word" (spF (Wk K κ) 1 F_Scripted_next_word) := by
  obtain ⟨f, fd, M, F, b⟩ := T.d_Scripted_next_word
  refine Gx.metX T.cl_Scripted M F b sc_Scripted_next_word (fun vs H Q E h => spF.len h) (fun cdv A outer s H vs Q E hr h => ?_)
  have hu := hu_of hr
  have hu64 := hr.units
  have hu65 := Ab.u65 hr
  exact ⟨_, (pss_cons (ps_set (i := 1) sc_Scripted_next_word.nd rfl (.inl rfl) (Gx.pe_cx (calx_script_after T) Gx.takes_cx (fun _ _ _ _ h => h) hr (by omega) (by rfl) (pa_cons (pe_fld (pv 0) rfl) (pa_cons (pe_fld (pv 0) rfl) (pa_cons pe_int pa_nil)))))
      (pss_cons (ps_fld (pv 0) (pv 1) rfl)
      (pss_one (ps_ret (pe_ix (show IxR _ (Ab.rIxU K) by exact Ab.ix_U) (pe_fld (pv 0) rfl) (pe_op op_sub (pv 1) pe_int) (fun _ _ => rfl)))))), Ab.DS.dfn (spF_gc h) rfl (DS.seq (DS.asg (DE.call (fun _ => .nil) (DA.cons (DE.fld (.cons ⟨T.cl_Scripted, T.n_Scripted_s1_script⟩ .nil) DE.var) (DA.cons (DE.fld (.cons ⟨T.cl_Scripted, T.n_Scripted_s1_place⟩ .nil) DE.var) (DA.cons (DE.c fun _ => .int _) DA.nil)))) DG.name Goes.name)
      (DS.seq (DS.sfld (.cons ⟨T.cl_Scripted, T.n_Scripted_s1_place⟩ .nil) DE.var DE.var)
      (DS.ret (DE.op DR.ix (DE.fld (.cons ⟨T.cl_Scripted, T.n_Scripted_s1_script⟩ .nil) DE.var) (DE.op (DR.i0 fun _ _ _ => .int _) DE.var (DE.c fun _ => .int _) NE2.i0) NE2.ix))))⟩
theorem calx_s5_need (T : Txt K mg w (κ "Source") (κ "Scripted") (κ "Draws") R_SIZES) : Gx.CalX P w K mg base 2 "s5_need" (spF (Wk K κ) 3 F_s5_need) := by
  obtain ⟨f, fd, F, b⟩ := T.d_s5_need
  refine Gx.calX F b sc_s5_need (fun vs H Q E h => spF.len h) (fun cdv A outer s H vs Q E hr h => ?_)
  have hu := hu_of hr
  have hu64 := hr.units
  have hu65 := Ab.u65 hr
  exact ⟨_, (pss_one (ps_if (PW.pt (pw_or (pt_not (pt_val (Gx.pe_cx (calx_is_integer T) Gx.takes_cx (fun _ _ _ _ h => h) hr (by omega) (by rfl) (pa_cons (pv 0) pa_nil)))) (pw_or1 (pt_not (pt_chain op_le op_le (pv 1) (pv 0) (pv 2)))))) (pss_one ps_never) pss_nil)), Ab.DS.dfn (spF_gc h) rfl (DS.ifs (DT.gc (DT.or (DT.not (DT.b (DE.call (fun _ => .nil) (DA.cons DE.var DA.nil)))) (DT.not (DT.test (DE.chain (DR.i0 fun _ _ _ => .bl _) (DR.i0 fun _ _ _ => .bl _) DE.var DE.var DE.var NE2.i0 NE2.i0))))) (DS.never fun _ _ => rfl) DS.next)⟩
theorem makx_Draws (T : Txt K mg w (κ "Source") (κ "Scripted") (κ "Draws") R_SIZES) : Gx.MakX P w K mg base 2 "Draws" (κ "Draws") (spF (Wk K κ) 2 F_Draws___init__) [] := by
  obtain ⟨f, fd, M, F, b⟩ := T.d_Draws___init__
  obtain ⟨u, hu1, hu2⟩ := T.k_Draws
  cases hu2
  refine Gx.makX M hu1 F b sc_Draws___init__ (fun vs H Q E h => spF.len h) (fun cdv A outer s H vs Q E hr h => ?_)
  have hu := hu_of hr
  have hu64 := hr.units
  have hu65 := Ab.u65 hr
  exact ⟨_, (pss_cons (ps_expr (Gx.pe_cx (calx_need_source T) Gx.takes_cx (fun _ _ _ _ h => h) hr (by omega) (by rfl) (pa_cons (pv 1) pa_nil)))
      (pss_cons (ps_fld (pv 0) (pv 1) rfl)
      (pss_one (ps_fld (pv 0) pe_int rfl)))), Ab.DS.dfn (spF_gc h) rfl (DS.seq (DS.drop (DE.call (fun _ => .nil) (DA.cons DE.var DA.nil)))
      (DS.seq (DS.sfld (.cons ⟨T.cl_Draws, T.n_Draws_s5_source⟩ .nil) DE.var DE.var)
      (DS.sfld (.cons ⟨T.cl_Draws, T.n_Draws_s5_used⟩ .nil) DE.var (DE.c fun _ => .int _))))⟩
theorem calx_s5_is_integer (T : Txt K mg w (κ "Source") (κ "Scripted") (κ "Draws") R_SIZES) : Gx.CalX P w K mg base 2 "s5_is_integer" (spF (Wk K κ) 3 F_s5_is_integer) := by
  obtain ⟨f, fd, F, b⟩ := T.d_s5_is_integer
  refine Gx.calX F b sc_s5_is_integer (fun vs H Q E h => spF.len h) (fun cdv A outer s H vs Q E hr h => ?_)
  have hu := hu_of hr
  have hu64 := hr.units
  have hu65 := Ab.u65 hr
  exact ⟨_, (pss_one (ps_ret (pe_and (Gx.pe_cx (calx_is_integer T) Gx.takes_cx (fun _ _ _ _ h => h) hr (by omega) (by rfl) (pa_cons (pv 0) pa_nil)) (pe_one (pe_chain op_le op_le (pv 1) (pv 0) (pv 2)))))), Ab.DS.dfn (spF_gc h) rfl (DS.ret (DE.andV (DE.call (fun _ => .nil) (DA.cons DE.var DA.nil)) (DE.chain (DR.i0 fun _ _ _ => .bl _) (DR.i0 fun _ _ _ => .bl _) DE.var DE.var DE.var NE2.i0 NE2.i0)))⟩
theorem calx_s5_bits_for (T : Txt K mg w (κ "Source") (κ "Scripted") (κ "Draws") R_SIZES) : Gx.CalX P w K mg base 2 "s5_bits_for" (spF (Wk K κ) 1 F_s5_bits_for) := by
  obtain ⟨f, fd, F, b⟩ := T.d_s5_bits_for
  refine Gx.calX F b sc_s5_bits_for (fun vs H Q E h => spF.len h) (fun cdv A outer s H vs Q E hr h => ?_)
  have hu := hu_of hr
  have hu64 := hr.units
  have hu65 := Ab.u65 hr
  exact ⟨_, (pss_one (Mt.ps_match (pe_ix (show IxR _ (Ab.rIxU K) by exact Ab.ix_U) (pv 0) pe_int (fun _ _ => rfl)) (Mt.pmc_val2 pe_str pe_str (pss_one ps_never) (Mt.pmc_val pe_str (pss_one (ps_ret (Gx.pe_cx (calx_s5_digits T) Gx.takes_cx (fun _ _ _ _ h => h) hr (by omega) (by rfl) (pa_cons (pe_op op_sub (pe_ix (show IxR _ (Ab.rIxU K) by exact Ab.ix_U) (pv 0) pe_int (fun _ _ => rfl)) pe_int) pa_nil)))) (Mt.pmc_val pe_str (pss_one ps_never) (Mt.pmc_any (pss_one ps_never))))))), Ab.DS.dfn (spF_gc h) rfl (DS.match (DE.op DR.ix DE.var (DE.c fun _ => .int _) NE2.ix) (DMt.case2 (DS.never fun _ _ => rfl) (DMt.case (DS.ret (DE.call (fun _ => .nil) (DA.cons (DE.op (DR.i0 fun _ _ _ => .int _) (DE.op DR.ix DE.var (DE.c fun _ => .int _) NE2.ix) (DE.c fun _ => .int _) NE2.i0) DA.nil))) (DMt.case (DS.never fun _ _ => rfl) (DMt.any (DS.never fun _ _ => rfl))))))⟩
theorem calx_need_order (T : Txt K mg w (κ "Source") (κ "Scripted") (κ "Draws") R_SIZES) : Gx.CalX P w K mg base 2 "need_order" (spF (Wk K κ) 1 F_need_order) := by
  obtain ⟨f, fd, F, b⟩ := T.d_need_order
  refine Gx.calX F b sc_need_order (fun vs H Q E h => spF.len h) (fun cdv A outer s H vs Q E hr h => ?_)
  have hu := hu_of hr
  have hu64 := hr.units
  have hu65 := Ab.u65 hr
  exact ⟨_, (pss_cons (ps_if (PW.pt (pw_or (pt_not (pt_val (pe_callB (show CallR _ _ (Ab.rIsiU K) by exact Ab.call_isiU) (by rfl) T.b_isinstance (by decide +kernel) (pa_cons (pv 0) (pa_cons (pe_bltn (v := .ty "tuple") (by rfl) T.b_tuple (by decide +kernel) rfl) pa_nil))))) (pw_or1 (pt_cmpR op_gt (pe_callB (show CallR _ _ (Ab.rLenU K) by exact Ab.call_lenU) (by rfl) T.b_len PySem.boot_len (pa_cons (pv 0) pa_nil)) (C8.pe_gc (by rfl) T.c_MOST_ITEMS) (nomark _))))) (pss_one ps_never) pss_nil)
      (pss_cons (ps_set (i := 1) sc_need_order.nd rfl (.inl rfl) pe_dnewK)
      (pss_one (ps_for (passes_of rfl) rfl (show PI _ _ _ (Ab.enU K _) by exact Ab.PI.or (pi_enum (by rfl) T.b_enumerate (pa_cons (pv 0) pa_nil)) (Gx.pi_enT (by rfl) T.b_enumerate (pa_cons (pv 0) pa_nil))) (show PG _ _ (gTup K 2 _) by exact pg_tup rfl (pgs_cons (pg_name (i := 2) sc_need_order.nd rfl (.inl rfl)) (pgs_cons (pg_name (i := 3) sc_need_order.nd rfl (.inl rfl)) pgs_nil))) (pss_cons (ps_if (PW.pt (pw_or (pt_not (pt_val (Gx.pe_cx (calx_s6_is_integer T) Gx.takes_cx (fun _ _ _ _ h => h) hr (by omega) (by rfl) (pa_cons (pv 3) (pa_cons pe_int (pa_cons (pe_op op_sub (pe_callB (show CallR _ _ (Ab.rLenU K) by exact Ab.call_lenU) (by rfl) T.b_len PySem.boot_len (pa_cons (pv 0) pa_nil)) pe_int) pa_nil)))))) (pw_or1 (pt_cmp (pc_din hu (pv 3) (pv 1)))))) (pss_one ps_never) pss_nil)
      (pss_one (ps_dput hu (pv 1) (pv 3) pe_bl rfl))))))), Ab.DS.dfn (spF_gc h) rfl (DS.seq (DS.ifs (DT.or (DT.not (DT.b (DE.cb (DB.isi (kit_tuple T)) (DA.cons DE.var (DA.cons (DE.c fun _ => .ty _) DA.nil)) NEL.isi))) (DT.test (DE.op (DR.i0 fun _ _ _ => .bl _) (DE.cb DB.len (DA.cons DE.var DA.nil) NEL.len) (DE.c fun _ => .int _) NE2.i0))) (DS.never fun _ _ => rfl) DS.next)
      (DS.seq (DS.asg DE.dnew DG.name Goes.name)
      (DS.forS (DI.enumU (DA.cons DE.var DA.nil)) (DG.tup (DGs.cons DG.name (DGs.cons DG.name DGs.nil))) (Goes.tup (GoesL.cons Goes.name (GoesL.cons Goes.name GoesL.nil))) (DS.seq (DS.ifs (DT.gc (DT.or (DT.not (DT.b (DE.call (fun _ => .nil) (DA.cons DE.var (DA.cons (DE.c fun _ => .int _) (DA.cons (DE.op (DR.i0 fun _ _ _ => .int _) (DE.cb DB.len (DA.cons DE.var DA.nil) NEL.len) (DE.c fun _ => .int _) NE2.i0) DA.nil)))))) (DT.test (DE.din DE.var DE.var)))) (DS.never fun _ _ => rfl) DS.next)
      (DS.dput DE.var DE.var (DE.c fun _ => .bl _))))))⟩
theorem calx_order_by (T : Txt K mg w (κ "Source") (κ "Scripted") (κ "Draws") R_SIZES) : Gx.CalX P w K mg base 2 "order_by" (spF (Wk K κ) 1 F_order_by) := by
  obtain ⟨f, fd, F, b⟩ := T.d_order_by
  refine Gx.calX F b sc_order_by (fun vs H Q E h => spF.len h) (fun cdv A outer s H vs Q E hr h => ?_)
  have hu := hu_of hr
  have hu64 := hr.units
  have hu65 := Ab.u65 hr
  exact ⟨_, (pss_cons (ps_if (PW.pt (pw_or (pt_not (pt_val (pe_callB (show CallR _ _ (Ab.rIsiTU K) by exact Ab.call_isiTU) (by rfl) T.b_isinstance (by decide +kernel) (pa_cons (pv 0) (pa_cons (pe_tup (pa_cons (pe_bltn (v := .ty "list") (by rfl) T.b_list (by decide +kernel) rfl) (pa_cons (pe_bltn (v := .ty "tuple") (by rfl) T.b_tuple (by decide +kernel) rfl) pa_nil))) pa_nil))))) (pw_or1 (pt_cmpR op_ge (pe_callB (show CallR _ _ (Ab.rLenU K) by exact Ab.call_lenU) (by rfl) T.b_len PySem.boot_len (pa_cons (pv 0) pa_nil)) (C8.pe_gc (by rfl) T.c_MOST_ITEMS) (nomark _))))) (pss_one ps_never) pss_nil)
      (pss_cons (ps_for (passes_of rfl) rfl (show PI _ _ _ (Ab.enU K _) by exact Ab.PI.or (pi_enum (by rfl) T.b_enumerate (pa_cons (pv 0) pa_nil)) (Gx.pi_enT (by rfl) T.b_enumerate (pa_cons (pv 0) pa_nil))) (show PG _ _ (gTup K 2 _) by exact pg_tup rfl (pgs_cons (pg_name (i := 1) sc_order_by.nd rfl (.inl rfl)) (pgs_cons (pg_name (i := 2) sc_order_by.nd rfl (.inl rfl)) pgs_nil))) (pss_one (ps_if (pt_not (pt_val (Gx.pe_cx (calx_s6_is_integer T) Gx.takes_cx (fun _ _ _ _ h => h) hr (by omega) (by rfl) (pa_cons (pv 2) (pa_cons pe_int (pa_cons (pe_op op_sub (pe_callB (show CallR _ _ (Ab.rLenU K) by exact Ab.call_lenU) (by rfl) T.b_len PySem.boot_len (pa_cons (pv 0) pa_nil)) (pv 1)) pa_nil)))))) (pss_one ps_never) pss_nil)))
      (pss_cons (ps_set (i := 3) sc_order_by.nd rfl (.inl rfl) (pe_listRg rfl (by rfl) T.b_list (prg_1 (by rfl) T.b_range (pe_op (show OpR _ _ (Ab.rAddU K) by exact Ab.op_addU) (pe_callB (show CallR _ _ (Ab.rLenU K) by exact Ab.call_lenU) (by rfl) T.b_len PySem.boot_len (pa_cons (pv 0) pa_nil)) pe_int))))
      (pss_cons (ps_for (passes_of rfl) rfl (show PI _ _ _ (Ab.enU K _) by exact Ab.PI.or (pi_enum (by rfl) T.b_enumerate (pa_cons (pv 0) pa_nil)) (Gx.pi_enT (by rfl) T.b_enumerate (pa_cons (pv 0) pa_nil))) (show PG _ _ (gTup K 2 _) by exact pg_tup rfl (pgs_cons (pg_name (i := 1) sc_order_by.nd rfl (.inl rfl)) (pgs_cons (pg_name (i := 2) sc_order_by.nd rfl (.inl rfl)) pgs_nil))) (pss_one (ps_expr (Gx.pe_cx (calx_s6_exchange T) Gx.takes_cx (fun _ _ _ _ h => h) hr (by omega) (by rfl) (pa_cons (pv 3) (pa_cons (pe_op op_sub (pe_callB (show CallR _ _ (Ab.rLenU K) by exact Ab.call_lenU) (by rfl) T.b_len PySem.boot_len (pa_cons (pv 0) pa_nil)) (pv 1)) (pa_cons (pv 2) pa_nil)))))))
      (pss_one (ps_ret (pe_callTy Gx.call_tupOf (by rfl) T.b_tuple (by decide +kernel) (pa_cons (pv 3) pa_nil)))))))), Ab.DS.dfn (spF_gc h) rfl (DS.seq (DS.ifs (DT.or (DT.not (DT.b (DE.isiT (.ty (by decide) (.ty (by decide) .nil)) (.cons (kit_list T) (.cons (kit_tuple T) .nil)) ⟨_, (kit_list T)⟩ DE.var (DA.cons (DE.c fun _ => .ty _) (DA.cons (DE.c fun _ => .ty _) DA.nil)) (fun _ _ => rfl) (by decide)))) (DT.test (DE.op (DR.i0 fun _ _ _ => .bl _) (DE.cb DB.len (DA.cons DE.var DA.nil) NEL.len) (DE.c fun _ => .int _) NE2.i0))) (DS.never fun _ _ => rfl) DS.next)
      (DS.seq (DS.forS (DI.enumU (DA.cons DE.var DA.nil)) (DG.tup (DGs.cons DG.name (DGs.cons DG.name DGs.nil))) (Goes.tup (GoesL.cons Goes.name (GoesL.cons Goes.name GoesL.nil))) (DS.ifs (DT.gc (DT.not (DT.b (DE.call (fun _ => .nil) (DA.cons DE.var (DA.cons (DE.c fun _ => .int _) (DA.cons (DE.op (DR.i0 fun _ _ _ => .int _) (DE.cb DB.len (DA.cons DE.var DA.nil) NEL.len) DE.var NE2.i0) DA.nil))))))) (DS.never fun _ _ => rfl) DS.next))
      (DS.seq (DS.asg (DE.listRg1 (DE.op DR.add (DE.cb DB.len (DA.cons DE.var DA.nil) NEL.len) (DE.c fun _ => .int _) NE2.add)) DG.name Goes.name)
      (DS.seq (DS.forS (DI.enumU (DA.cons DE.var DA.nil)) (DG.tup (DGs.cons DG.name (DGs.cons DG.name DGs.nil))) (Goes.tup (GoesL.cons Goes.name (GoesL.cons Goes.name GoesL.nil))) (DS.drop (DE.call (fun _ => .nil) (DA.cons DE.var (DA.cons (DE.op (DR.i0 fun _ _ _ => .int _) (DE.cb DB.len (DA.cons DE.var DA.nil) NEL.len) DE.var NE2.i0) (DA.cons DE.var DA.nil))))))
      (DS.ret (DE.cb DB.tuple (DA.cons DE.var DA.nil) NEL.tuple))))))⟩
theorem calx__law_digit (T : Txt K mg w (κ "Source") (κ "Scripted") (κ "Draws") R_SIZES) : Gx.CalX P w K mg base 2 "_law_digit" (spF (Wk K κ) 2 F__law_digit) := by
  obtain ⟨f, fd, F, b⟩ := T.d__law_digit
  refine Gx.calX F b sc__law_digit (fun vs H Q E h => spF.len h) (fun cdv A outer s H vs Q E hr h => ?_)
  have hu := hu_of hr
  have hu64 := hr.units
  have hu65 := Ab.u65 hr
  exact ⟨_, (pss_cons (ps_if (pt_cmpR (show OpR _ _ (Ab.rEqU K) by exact Ab.op_eqU hu64) (pe_dget hu (pv 0) pe_str (fun _ _ => rfl)) pe_int (nomark _)) (pss_one (ps_for (passes_of rfl) rfl (pi_range1 rfl T.b_range (pa_cons pe_int pa_nil)) (pg_name (i := 2) sc__law_digit.nd rfl (.inl rfl)) (pss_cons (ps_dput hu (pv 0) pe_str (pe_op (show OpR _ _ (Ab.rAddU K) by exact Ab.op_addU) (pe_dget hu (pv 0) pe_str (fun _ _ => rfl)) pe_int) rfl)
      (pss_one (ps_dput hu (pv 0) pe_str (pe_op (show OpR _ _ (Ab.rAddU K) by exact Ab.op_addU) (pe_op Ab.op_mulU (pe_dget hu (pv 0) pe_str (fun _ _ => rfl)) pe_int) (Gx.pe_cx (calx__law_mixed T) Gx.takes_cx (fun _ _ _ _ h => h) hr (by omega) (by rfl) (pa_cons (pe_dget hu (pv 0) pe_str (fun _ _ => rfl)) (pa_cons (pe_dget hu (pv 0) pe_str (fun _ _ => rfl)) pa_nil)))) rfl))))) pss_nil)
      (pss_cons (ps_set (i := 3) sc__law_digit.nd rfl (.inl rfl) (pe_op op_mod (pe_dget hu (pv 0) pe_str (fun _ _ => rfl)) (pv 1)))
      (pss_cons (ps_dput hu (pv 0) pe_str (pe_op op_fdivW (pe_dget hu (pv 0) pe_str (fun _ _ => rfl)) (pv 1)) rfl)
      (pss_one (ps_ret (pv 3)))))), Ab.DS.dfn (spF_gc h) rfl (DS.seq (DS.ifs (DT.test (DE.op DR.eq (DE.dget DE.var (DE.c fun _ => .str _)) (DE.c fun _ => .int _) NE2.eq)) (DS.forS (DI.rng1 (DA.cons (DE.c fun _ => .int _) DA.nil)) DG.name Goes.name (DS.seq (DS.dput DE.var (DE.c fun _ => .str _) (DE.op DR.add (DE.dget DE.var (DE.c fun _ => .str _)) (DE.c fun _ => .int _) NE2.add))
      (DS.dput DE.var (DE.c fun _ => .str _) (DE.op DR.add (DE.op DR.mul (DE.dget DE.var (DE.c fun _ => .str _)) (DE.c fun _ => .int _) NE2.mul) (DE.call (fun _ => .nil) (DA.cons (DE.dget DE.var (DE.c fun _ => .str _)) (DA.cons (DE.dget DE.var (DE.c fun _ => .str _)) DA.nil))) NE2.add)))) DS.next)
      (DS.seq (DS.asg (DE.op (DR.i fun _ _ _ => .int _) (DE.dget DE.var (DE.c fun _ => .str _)) DE.var NE2.i) DG.name Goes.name)
      (DS.seq (DS.dput DE.var (DE.c fun _ => .str _) (DE.op (DR.i fun _ _ _ => .int _) (DE.dget DE.var (DE.c fun _ => .str _)) DE.var NE2.i))
      (DS.ret DE.var))))⟩
theorem calx_is_script (T : Txt K mg w (κ "Source") (κ "Scripted") (κ "Draws") R_SIZES) : Gx.CalX P w K mg base 3 "is_script" (spF (Wk K κ) 1 F_is_script) := by
  obtain ⟨f, fd, F, b⟩ := T.d_is_script
  refine Gx.calX F b sc_is_script (fun vs H Q E h => spF.len h) (fun cdv A outer s H vs Q E hr h => ?_)
  have hu := hu_of hr
  have hu64 := hr.units
  have hu65 := Ab.u65 hr
  exact ⟨_, (pss_one (ps_ret (pe_and (pe_callB (show CallR _ _ (Ab.rIsiU K) by exact Ab.call_isiU) (by rfl) T.b_isinstance (by decide +kernel) (pa_cons (pv 0) (pa_cons (pe_bltn (v := .ty "tuple") (by rfl) T.b_tuple (by decide +kernel) rfl) pa_nil))) (pe_and (pe_cmpR op_le (pe_callB (show CallR _ _ (Ab.rLenU K) by exact Ab.call_lenU) (by rfl) T.b_len PySem.boot_len (pa_cons (pv 0) pa_nil)) (C8.pe_gc (by rfl) T.c_MOST_SCRIPT) (nomark _)) (pe_one (pe_callB (show CallR _ _ (rAll K) by exact cr_all rfl) (by rfl) T.b_all (by decide +kernel) (pa_cons (pe_lc (own := [("word", 1)]) rfl sc_is_script.nd (show PI _ _ _ (Ab.iterU K _) by exact Ab.PI.or (pi_list (pv 0)) (Ab.PI.or (pi_tup (pv 0)) (pi_str (pv 0)))) (blkOk_by (N := ["value", "word"]) (sc := C8.fnScope s_is_script) (by decide +kernel)) (fun _ _ _ _ _ => (pg_name (i := 1) sc_is_script.nd rfl (.inl rfl))) (fun _ _ _ _ _ => pts_nil) (fun _ _ _ _ _ => (Gx.pe_cx (calx_is_word T) LamX.takes0 (E := fun _ _ _ => False) (fun _ _ _ _ h => h) hr (by omega) (by rfl) (pa_cons (pv 1) pa_nil)))) pa_nil))))))), Ab.DS.dfn (spF_gc h) rfl (DS.ret (DE.andV (DE.cb (DB.isi (kit_tuple T)) (DA.cons DE.var (DA.cons (DE.c fun _ => .ty _) DA.nil)) NEL.isi) (DE.andV (DE.op (DR.i0 fun _ _ _ => .bl _) (DE.cb DB.len (DA.cons DE.var DA.nil) NEL.len) (DE.c fun _ => .int _) NE2.i0) (DE.cb DB.all (DA.cons (DE.lc (DI.iter DE.var) DG.name Goes.name (WT.name (by decide)) DT.yes (DE.call (fun _ => .nil) (DA.cons DE.var DA.nil))) DA.nil) NEL.all))))⟩
theorem calx_words_for (T : Txt K mg w (κ "Source") (κ "Scripted") (κ "Draws") R_SIZES) : Gx.CalX P w K mg base 3 "words_for" (spF (Wk K κ) 1 F_words_for) := by
  obtain ⟨f, fd, F, b⟩ := T.d_words_for
  refine Gx.calX F b sc_words_for (fun vs H Q E h => spF.len h) (fun cdv A outer s H vs Q E hr h => ?_)
  have hu := hu_of hr
  have hu64 := hr.units
  have hu65 := Ab.u65 hr
  exact ⟨_, (pss_cons (ps_expr (Gx.pe_cx (calx_s5_need T) Gx.takes_cx (fun _ _ _ _ h => h) hr (by omega) (by rfl) (pa_cons (pv 0) (pa_cons pe_int (pa_cons (C8.pe_gc (by rfl) T.c_MOST_BITS) pa_nil)))))
      (pss_one (ps_ret (pe_op op_fdivW (pe_op op_sub (pe_op (show OpR _ _ (Ab.rAddU K) by exact Ab.op_addU) (pv 0) (C8.pe_gc (by rfl) T.c_WORD_BITS)) pe_int) (C8.pe_gc (by rfl) T.c_WORD_BITS))))), Ab.DS.dfn (spF_gc h) rfl (DS.seq (DS.drop (DE.call (fun _ => .nil) (DA.cons DE.var (DA.cons (DE.c fun _ => .int _) (DA.cons (DE.c fun _ => .int _) DA.nil)))))
      (DS.ret (DE.op (DR.i fun _ _ _ => .int _) (DE.op (DR.i0 fun _ _ _ => .int _) (DE.op DR.add DE.var (DE.c fun _ => .int _) NE2.add) (DE.c fun _ => .int _) NE2.i0) (DE.c fun _ => .int _) NE2.i)))⟩
theorem metx_Draws_s5_word (T : Txt K mg w (κ "Source") (κ "Scripted") (κ "Draws") R_SIZES) : Gx.MetX P w K mg base 3 (κ "Draws") "s5_word" (spF (Wk K κ) 1 F_Draws_s5_word) := by
  obtain ⟨f, fd, M, F, b⟩ := T.d_Draws_s5_word
  refine Gx.metX T.cl_Draws M F b sc_Draws_s5_word (fun vs H Q E h => spF.len h) (fun cdv A outer s H vs Q E hr h => ?_)
  have hu := hu_of hr
  have hu64 := hr.units
  have hu65 := Ab.u65 hr
  exact ⟨_, (pss_cons (ps_set (i := 1) sc_Draws_s5_word.nd rfl (.inl rfl) (Gx.pe_mx0 (metx_Scripted_next_word T) Gx.takes_cx (fun _ _ _ _ h => h) hr (by omega) (pe_fld (pv 0) rfl)))
      (pss_cons (ps_fldaug (pv 0) pe_int in_add)
      (pss_one (ps_ret (pv 1))))), Ab.DS.dfn (spF_gc h) rfl (DS.seq (DS.asg (DE.meth (fun _ => .nil) (DE.fld (.cons ⟨T.cl_Draws, T.n_Draws_s5_source⟩ .nil) DE.var) DA.nil) DG.name Goes.name)
      (DS.seq (DS.faug (.cons ⟨T.cl_Draws, T.n_Draws_s5_used⟩ .nil) (DR.i0 fun _ _ _ => .int _) NE2.i0 DE.var (DE.c fun _ => .int _))
      (DS.ret DE.var)))⟩
theorem calx_s5_need_draw (T : Txt K mg w (κ "Source") (κ "Scripted") (κ "Draws") R_SIZES) : Gx.CalX P w K mg base 3 "s5_need_draw" (spF (Wk K κ) 1 F_s5_need_draw) := by
  obtain ⟨f, fd, F, b⟩ := T.d_s5_need_draw
  refine Gx.calX F b sc_s5_need_draw (fun vs H Q E h => spF.len h) (fun cdv A outer s H vs Q E hr h => ?_)
  have hu := hu_of hr
  have hu64 := hr.units
  have hu65 := Ab.u65 hr
  exact ⟨_, (pss_cons (ps_expr (Gx.pe_cx (calx_need_step T) Gx.takes_cx (fun _ _ _ _ h => h) hr (by omega) (by rfl) (pa_cons (pv 0) pa_nil)))
      (pss_one (Mt.ps_match (pe_ix (show IxR _ (Ab.rIxU K) by exact Ab.ix_U) (pv 0) pe_int (fun _ _ => rfl)) (Mt.pmc_val2 pe_str pe_str (pss_one ps_never) (Mt.pmc_val pe_str (pss_one (ps_expr (Gx.pe_cx (calx_s5_need T) Gx.takes_cx (fun _ _ _ _ h => h) hr (by omega) (by rfl) (pa_cons (pe_ix (show IxR _ (Ab.rIxU K) by exact Ab.ix_U) (pv 0) pe_int (fun _ _ => rfl)) (pa_cons pe_int (pa_cons (C8.pe_gc (by rfl) T.c_MOST_BOUND) pa_nil)))))) (Mt.pmc_val pe_str (pss_one ps_never) (Mt.pmc_val pe_str (pss_one ps_never) (Mt.pmc_any (pss_one ps_never))))))))), Ab.DS.dfn (spF_gc h) rfl (DS.seq (DS.drop (DE.call (fun _ => .nil) (DA.cons DE.var DA.nil)))
      (DS.match (DE.op DR.ix DE.var (DE.c fun _ => .int _) NE2.ix) (DMt.case2 (DS.never fun _ _ => rfl) (DMt.case (DS.drop (DE.call (fun _ => .nil) (DA.cons (DE.op DR.ix DE.var (DE.c fun _ => .int _) NE2.ix) (DA.cons (DE.c fun _ => .int _) (DA.cons (DE.c fun _ => .int _) DA.nil))))) (DMt.case (DS.never fun _ _ => rfl) (DMt.case (DS.never fun _ _ => rfl) (DMt.any (DS.never fun _ _ => rfl))))))))⟩
theorem calx_s5_number_for (T : Txt K mg w (κ "Source") (κ "Scripted") (κ "Draws") R_SIZES) : Gx.CalX P w K mg base 3 "s5_number_for" (spF (Wk K κ) 2 F_s5_number_for) := by
  obtain ⟨f, fd, F, b⟩ := T.d_s5_number_for
  refine Gx.calX F b sc_s5_number_for (fun vs H Q E h => spF.len h) (fun cdv A outer s H vs Q E hr h => ?_)
  have hu := hu_of hr
  have hu64 := hr.units
  have hu65 := Ab.u65 hr
  exact ⟨_, (pss_cons (ps_par (i := 2) (j := 3) rfl sc_s5_number_for.nd rfl rfl (by decide) rfl rfl (pa_cons (pe_ix (show IxR _ (Ab.rIxU K) by exact Ab.ix_U) (pv 0) pe_int (fun _ _ => rfl)) (pa_cons (pe_ix (show IxR _ (Ab.rIxU K) by exact Ab.ix_U) (pv 0) pe_int (fun _ _ => rfl)) pa_nil)) (by rfl))
      (pss_cons (ps_if (pt_cmpR (show OpR _ _ (Ab.rEqU K) by exact Ab.op_eqU hu64) (pv 2) pe_str (nomark _)) (pss_one (ps_ret (pe_ifExp (pt_val (Gx.pe_cx (calx_s5_is_integer T) Gx.takes_cx (fun _ _ _ _ h => h) hr (by omega) (by rfl) (pa_cons (pv 1) (pa_cons pe_int (pa_cons (pe_op op_sub (pe_op op_shlW pe_int (pv 3)) pe_int) pa_nil))))) (pv 1) pe_non))) pss_nil)
      (pss_cons (ps_if (pt_cmpR (show OpR _ _ (Ab.rEqU K) by exact Ab.op_eqU hu64) (pv 2) pe_str (nomark _)) (pss_one (ps_ret (pe_ifExp (pt_val (Gx.pe_cx (calx_s5_is_integer T) Gx.takes_cx (fun _ _ _ _ h => h) hr (by omega) (by rfl) (pa_cons (pv 1) (pa_cons pe_int (pa_cons (pe_op op_sub (pv 3) pe_int) pa_nil))))) (pv 1) pe_non))) pss_nil)
      (pss_cons ps_never
      (pss_cons ps_never
      (pss_cons ps_never
      (pss_one ps_never))))))), Ab.DS.dfn (spF_gc h) rfl (DS.seq (DS.par (DA.cons (DE.op DR.ix DE.var (DE.c fun _ => .int _) NE2.ix) (DA.cons (DE.op DR.ix DE.var (DE.c fun _ => .int _) NE2.ix) DA.nil)))
      (DS.seq (DS.ifs (DT.test (DE.op DR.eq DE.var (DE.c fun _ => .str _) NE2.eq)) (DS.ret (DE.ifE (DT.b (DE.call (fun _ => .nil) (DA.cons DE.var (DA.cons (DE.c fun _ => .int _) (DA.cons (DE.op (DR.i0 fun _ _ _ => .int _) (DE.op (DR.i fun _ _ _ => .int _) (DE.c fun _ => .int _) DE.var NE2.i) (DE.c fun _ => .int _) NE2.i0) DA.nil))))) DE.var (DE.c fun _ => .non))) DS.next)
      (DS.seq (DS.ifs (DT.test (DE.op DR.eq DE.var (DE.c fun _ => .str _) NE2.eq)) (DS.ret (DE.ifE (DT.b (DE.call (fun _ => .nil) (DA.cons DE.var (DA.cons (DE.c fun _ => .int _) (DA.cons (DE.op (DR.i0 fun _ _ _ => .int _) DE.var (DE.c fun _ => .int _) NE2.i0) DA.nil))))) DE.var (DE.c fun _ => .non))) DS.next)
      (DS.seq (DS.never fun _ _ => rfl)
      (DS.seq (DS.never fun _ _ => rfl)
      (DS.seq (DS.never fun _ _ => rfl)
      (DS.never fun _ _ => rfl)))))))⟩
theorem calx_row_of (T : Txt K mg w (κ "Source") (κ "Scripted") (κ "Draws") R_SIZES) : Gx.CalX P w K mg base 3 "row_of" (spF (Wk K κ) 1 F_row_of) := by
  obtain ⟨f, fd, F, b⟩ := T.d_row_of
  refine Gx.calX F b sc_row_of (fun vs H Q E h => spF.len h) (fun cdv A outer s H vs Q E hr h => ?_)
  have hu := hu_of hr
  have hu64 := hr.units
  have hu65 := Ab.u65 hr
  exact ⟨_, (pss_cons (ps_expr (Gx.pe_cx (calx_need_order T) Gx.takes_cx (fun _ _ _ _ h => h) hr (by omega) (by rfl) (pa_cons (pv 0) pa_nil)))
      (pss_cons (ps_par (i := 1) (j := 2) rfl sc_row_of.nd rfl rfl (by decide) rfl rfl (pa_cons (pe_listRg rfl (by rfl) T.b_list (prg_1 (by rfl) T.b_range (pe_callB (show CallR _ _ (Ab.rLenU K) by exact Ab.call_lenU) (by rfl) T.b_len PySem.boot_len (pa_cons (pv 0) pa_nil)))) (pa_cons (pe_lst pa_nil) pa_nil)) (by rfl))
      (pss_cons (ps_for (passes_of rfl) rfl (pi_range3 rfl T.b_range (pa_cons (pe_op op_sub (pe_callB (show CallR _ _ (Ab.rLenU K) by exact Ab.call_lenU) (by rfl) T.b_len PySem.boot_len (pa_cons (pv 0) pa_nil)) pe_int) (pa_cons pe_int (pa_cons (pe_un un_neg pe_int) pa_nil)))) (pg_name (i := 3) sc_row_of.nd rfl (.inl rfl)) (pss_cons (ps_set (i := 4) sc_row_of.nd rfl (.inl rfl) (show PE _ _ (tBM K "list" _ _ _) by exact pe_bm PySem.F.plainAttrs_list PySem.F.slot_list_index PySem.F.type_list_index (mt_indexD (Ab.u65 hr)) (pv 1) (pa_cons (pe_ix (show IxR _ (Ab.rIxU K) by exact Ab.ix_U) (pv 0) (pv 3) (fun _ _ => rfl)) pa_nil)))
      (pss_cons (ps_expr (show PE _ _ (tBM K "list" _ _ _) by exact pe_bm PySem.F.plainAttrs_list PySem.F.slot_list_append PySem.F.type_list_append mt_append (pv 2) (pa_cons (pv 4) pa_nil)))
      (pss_one (ps_expr (Gx.pe_cx (calx_s6_exchange T) Gx.takes_cx (fun _ _ _ _ h => h) hr (by omega) (by rfl) (pa_cons (pv 1) (pa_cons (pv 3) (pa_cons (pv 4) pa_nil)))))))))
      (pss_one (ps_ret (pe_callTy Gx.call_tupOf (by rfl) T.b_tuple (by decide +kernel) (pa_cons (pv 2) pa_nil))))))), Ab.DS.dfn (spF_gc h) rfl (DS.seq (DS.drop (DE.call (fun _ => .nil) (DA.cons DE.var DA.nil)))
      (DS.seq (DS.par (DA.cons (DE.listRg1 (DE.cb DB.len (DA.cons DE.var DA.nil) NEL.len)) (DA.cons (DE.lst DA.nil) DA.nil)))
      (DS.seq (DS.forS (DI.rng3 (DA.cons (DE.op (DR.i0 fun _ _ _ => .int _) (DE.cb DB.len (DA.cons DE.var DA.nil) NEL.len) (DE.c fun _ => .int _) NE2.i0) (DA.cons (DE.c fun _ => .int _) (DA.cons (DE.un DU.neg (DE.c fun _ => .int _) NE1.neg) DA.nil)))) DG.name Goes.name (DS.seq (DS.asg (DE.bm DM.index NEM.index DE.var (DA.cons (DE.op DR.ix DE.var DE.var NE2.ix) DA.nil)) DG.name Goes.name)
      (DS.seq (DS.drop (DE.bm DM.append NEM.append DE.var (DA.cons DE.var DA.nil)))
      (DS.drop (DE.call (fun _ => .nil) (DA.cons DE.var (DA.cons DE.var (DA.cons DE.var DA.nil))))))))
      (DS.ret (DE.cb DB.tuple (DA.cons DE.var DA.nil) NEL.tuple)))))⟩
theorem calx__law_number (T : Txt K mg w (κ "Source") (κ "Scripted") (κ "Draws") R_SIZES) : Gx.CalX P w K mg base 3 "_law_number" (spF (Wk K κ) 2 F__law_number) := by
  obtain ⟨f, fd, F, b⟩ := T.d__law_number
  refine Gx.calX F b sc__law_number (fun vs H Q E h => spF.len h) (fun cdv A outer s H vs Q E hr h => ?_)
  have hu := hu_of hr
  have hu64 := hr.units
  have hu65 := Ab.u65 hr
  exact ⟨_, (pss_cons (ps_set (i := 2) sc__law_number.nd rfl (.inl rfl) pe_int)
      (pss_cons (ps_for (passes_of rfl) rfl (pi_range1 rfl T.b_range (pa_cons (pe_op (show OpR _ _ (Ab.rAddU K) by exact Ab.op_addU) pe_int (pe_op op_fdivW (Gx.pe_cx (calx__law_binary T) Gx.takes_cx (fun _ _ _ _ h => h) hr (by omega) (by rfl) (pa_cons (pv 1) pa_nil)) pe_int)) pa_nil)) (pg_name (i := 3) sc__law_number.nd rfl (.inl rfl)) (pss_one (ps_set (i := 2) sc__law_number.nd rfl (.inl rfl) (pe_op (show OpR _ _ (Ab.rAddU K) by exact Ab.op_addU) (pe_op Ab.op_mulU (pv 2) pe_int) (Gx.pe_cx (calx__law_digit T) Gx.takes_cx (fun _ _ _ _ h => h) hr (by omega) (by rfl) (pa_cons (pv 0) (pa_cons pe_int pa_nil)))))))
      (pss_one (ps_ret (pe_op op_mod (pv 2) (pv 1)))))), Ab.DS.dfn (spF_gc h) rfl (DS.seq (DS.asg (DE.c fun _ => .int _) DG.name Goes.name)
      (DS.seq (DS.forS (DI.rng1 (DA.cons (DE.op DR.add (DE.c fun _ => .int _) (DE.op (DR.i fun _ _ _ => .int _) (DE.call (fun _ => .nil) (DA.cons DE.var DA.nil)) (DE.c fun _ => .int _) NE2.i) NE2.add) DA.nil)) DG.name Goes.name (DS.asg (DE.op DR.add (DE.op DR.mul DE.var (DE.c fun _ => .int _) NE2.mul) (DE.call (fun _ => .nil) (DA.cons DE.var (DA.cons (DE.c fun _ => .int _) DA.nil))) NE2.add) DG.name Goes.name))
      (DS.ret (DE.op (DR.i fun _ _ _ => .int _) DE.var DE.var NE2.i))))⟩
theorem calx__law_row (T : Txt K mg w (κ "Source") (κ "Scripted") (κ "Draws") R_SIZES) : Gx.CalX P w K mg base 3 "_law_row" (spF (Wk K κ) 3 F__law_row) := by
  obtain ⟨f, fd, F, b⟩ := T.d__law_row
  refine Gx.calX F b sc__law_row (fun vs H Q E h => spF.len h) (fun cdv A outer s H vs Q E hr h => ?_)
  have hu := hu_of hr
  have hu64 := hr.units
  have hu65 := Ab.u65 hr
  exact ⟨_, (pss_cons (ps_set (i := 3) sc__law_row.nd rfl (.inl rfl) (pe_lst pa_nil))
      (pss_cons (ps_while (passes_of rfl) (pt_cmpR op_ge (pv 2) pe_int (nomark _)) (pss_cons (ps_expr (show PE _ _ (tBM K "list" _ _ _) by exact pe_bm PySem.F.plainAttrs_list PySem.F.slot_list_append PySem.F.type_list_append mt_append (pv 3) (pa_cons (pe_op op_mod (pv 1) pe_int) pa_nil)))
      (pss_one (ps_par (i := 1) (j := 2) rfl sc__law_row.nd rfl rfl (by decide) rfl rfl (pa_cons (pe_op op_fdivW (pv 1) pe_int) (pa_cons (pe_op op_sub (pv 2) pe_int) pa_nil)) (by rfl)))))
      (pss_cons (ps_if (pt_cmpR op_gt (pv 2) pe_int (nomark _)) (pss_cons (ps_set (i := 4) sc__law_row.nd rfl (.inl rfl) (pe_op op_shlW pe_int (pe_op op_sub pe_int (pv 2))))
      (pss_one (ps_expr (show PE _ _ (tBM K "list" _ _ _) by exact pe_bm PySem.F.plainAttrs_list PySem.F.slot_list_append PySem.F.type_list_append mt_append (pv 3) (pa_cons (pe_op (show OpR _ _ (Ab.rAddU K) by exact Ab.op_addU) (pe_op Ab.op_mulU (pv 1) (pv 4)) (Gx.pe_cx (calx__law_digit T) Gx.takes_cx (fun _ _ _ _ h => h) hr (by omega) (by rfl) (pa_cons (pv 0) (pa_cons (pv 4) pa_nil)))) pa_nil))))) pss_nil)
      (pss_one (ps_ret (pv 3)))))), Ab.DS.dfn (spF_gc h) rfl (DS.seq (DS.asg (DE.lst DA.nil) DG.name Goes.name)
      (DS.seq (DS.whileS (DT.test (DE.op (DR.i0 fun _ _ _ => .bl _) DE.var (DE.c fun _ => .int _) NE2.i0)) (DS.seq (DS.drop (DE.bm DM.append NEM.append DE.var (DA.cons (DE.op (DR.i fun _ _ _ => .int _) DE.var (DE.c fun _ => .int _) NE2.i) DA.nil)))
      (DS.par (DA.cons (DE.op (DR.i fun _ _ _ => .int _) DE.var (DE.c fun _ => .int _) NE2.i) (DA.cons (DE.op (DR.i0 fun _ _ _ => .int _) DE.var (DE.c fun _ => .int _) NE2.i0) DA.nil)))))
      (DS.seq (DS.ifs (DT.test (DE.op (DR.i0 fun _ _ _ => .bl _) DE.var (DE.c fun _ => .int _) NE2.i0)) (DS.seq (DS.asg (DE.op (DR.i fun _ _ _ => .int _) (DE.c fun _ => .int _) (DE.op (DR.i0 fun _ _ _ => .int _) (DE.c fun _ => .int _) DE.var NE2.i0) NE2.i) DG.name Goes.name)
      (DS.drop (DE.bm DM.append NEM.append DE.var (DA.cons (DE.op DR.add (DE.op DR.mul DE.var DE.var NE2.mul) (DE.call (fun _ => .nil) (DA.cons DE.var (DA.cons DE.var DA.nil))) NE2.add) DA.nil)))) DS.next)
      (DS.ret DE.var))))⟩
theorem calx_need_script_state (T : Txt K mg w (κ "Source") (κ "Scripted") (κ "Draws") R_SIZES) : Gx.CalX P w K mg base 4 "need_script_state" (spF (Wk K κ) 1 F_need_script_state) := by
  obtain ⟨f, fd, F, b⟩ := T.d_need_script_state
  refine Gx.calX F b sc_need_script_state (fun vs H Q E h => spF.len h) (fun cdv A outer s H vs Q E hr h => ?_)
  have hu := hu_of hr
  have hu64 := hr.units
  have hu65 := Ab.u65 hr
  exact ⟨_, (pss_cons (ps_if (PW.pt (pw_or (pt_not (pt_val (pe_callB (show CallR _ _ (Ab.rIsiU K) by exact Ab.call_isiU) (by rfl) T.b_isinstance (by decide +kernel) (pa_cons (pv 0) (pa_cons (pe_bltn (v := .ty "tuple") (by rfl) T.b_tuple (by decide +kernel) rfl) pa_nil))))) (pw_or (pt_cmpR (show OpR _ _ (Ab.rNeU K) by exact Ab.op_neU hu64) (pe_callB (show CallR _ _ (Ab.rLenU K) by exact Ab.call_lenU) (by rfl) T.b_len PySem.boot_len (pa_cons (pv 0) pa_nil)) pe_int (nomark _)) (pw_or (pt_not (pt_val (Gx.pe_cx (calx_is_script T) Gx.takes_cx (fun _ _ _ _ h => h) hr (by omega) (by rfl) (pa_cons (pe_ix (show IxR _ (Ab.rIxU K) by exact Ab.ix_U) (pv 0) pe_int (fun _ _ => rfl)) pa_nil)))) (pw_or1 (pt_not (pt_val (Gx.pe_cx (calx_is_integer T) Gx.takes_cx (fun _ _ _ _ h => h) hr (by omega) (by rfl) (pa_cons (pe_ix (show IxR _ (Ab.rIxU K) by exact Ab.ix_U) (pv 0) pe_int (fun _ _ => rfl)) pa_nil))))))))) (pss_one ps_never) pss_nil)
      (pss_one (ps_if (pt_not (pt_chain op_le op_le pe_int (pe_ix (show IxR _ (Ab.rIxU K) by exact Ab.ix_U) (pv 0) pe_int (fun _ _ => rfl)) (pe_callB (show CallR _ _ (Ab.rLenU K) by exact Ab.call_lenU) (by rfl) T.b_len PySem.boot_len (pa_cons (pe_ix (show IxR _ (Ab.rIxU K) by exact Ab.ix_U) (pv 0) pe_int (fun _ _ => rfl)) pa_nil)))) (pss_one ps_never) pss_nil))), Ab.DS.dfn (spF_gc h) rfl (DS.seq (DS.ifs (DT.gc (DT.or (DT.not (DT.b (DE.cb (DB.isi (kit_tuple T)) (DA.cons DE.var (DA.cons (DE.c fun _ => .ty _) DA.nil)) NEL.isi))) (DT.or (DT.test (DE.op DR.ne (DE.cb DB.len (DA.cons DE.var DA.nil) NEL.len) (DE.c fun _ => .int _) NE2.ne)) (DT.or (DT.not (DT.b (DE.call (fun _ => .nil) (DA.cons (DE.op DR.ix DE.var (DE.c fun _ => .int _) NE2.ix) DA.nil)))) (DT.not (DT.b (DE.call (fun _ => .nil) (DA.cons (DE.op DR.ix DE.var (DE.c fun _ => .int _) NE2.ix) DA.nil)))))))) (DS.never fun _ _ => rfl) DS.next)
      (DS.ifs (DT.not (DT.test (DE.chain (DR.i0 fun _ _ _ => .bl _) (DR.i0 fun _ _ _ => .bl _) (DE.c fun _ => .int _) (DE.op DR.ix DE.var (DE.c fun _ => .int _) NE2.ix) (DE.cb DB.len (DA.cons (DE.op DR.ix DE.var (DE.c fun _ => .int _) NE2.ix) DA.nil) NEL.len) NE2.i0 NE2.i0))) (DS.never fun _ _ => rfl) DS.next))⟩
theorem metx_Draws_s5_bits (T : Txt K mg w (κ "Source") (κ "Scripted") (κ "Draws") R_SIZES) : Gx.MetX P w K mg base 4 (κ "Draws") "s5_bits" (spF (Wk K κ) 2 F_Draws_s5_bits) := by
  obtain ⟨f, fd, M, F, b⟩ := T.d_Draws_s5_bits
  refine Gx.metX T.cl_Draws M F b sc_Draws_s5_bits (fun vs H Q E h => spF.len h) (fun cdv A outer s H vs Q E hr h => ?_)
  have hu := hu_of hr
  have hu64 := hr.units
  have hu65 := Ab.u65 hr
  exact ⟨_, (pss_cons (ps_asg (pe_tup (pa_cons pe_int (pa_cons pe_int pa_nil))) (show PG _ _ (gTup K 2 _) by exact pg_tup rfl (pgs_cons (pg_name (i := 2) sc_Draws_s5_bits.nd rfl (.inl rfl)) (pgs_cons (pg_name (i := 3) sc_Draws_s5_bits.nd rfl (.inl rfl)) pgs_nil))))
      (pss_cons (ps_while (passes_of rfl) (pt_cmpR op_lt (pv 3) (pv 1) (nomark _)) (pss_cons (ps_par (i := 4) (j := 5) rfl sc_Draws_s5_bits.nd rfl rfl (by decide) rfl rfl (pa_cons (Gx.pe_mx0 (metx_Draws_s5_word T) Gx.takes_cx (fun _ _ _ _ h => h) hr (by omega) (pv 0)) (pa_cons (pe_op op_sub (pv 1) (pv 3)) pa_nil)) (by rfl))
      (pss_cons (ps_if (pt_cmpR op_lt (pv 5) (C8.pe_gc (by rfl) T.c_WORD_BITS) (nomark _)) (pss_one (ps_set (i := 4) sc_Draws_s5_bits.nd rfl (.inl rfl) (pe_op op_shr (pv 4) (pe_op op_sub (C8.pe_gc (by rfl) T.c_WORD_BITS) (pv 5))))) pss_nil)
      (pss_one (ps_par (i := 2) (j := 3) rfl sc_Draws_s5_bits.nd rfl rfl (by decide) rfl rfl (pa_cons (pe_op (show OpR _ _ (Ab.rAddU K) by exact Ab.op_addU) (pv 2) (pe_op op_shlW (pv 4) (pv 3))) (pa_cons (pe_op (show OpR _ _ (Ab.rAddU K) by exact Ab.op_addU) (pv 3) (C8.pe_gc (by rfl) T.c_WORD_BITS)) pa_nil)) (by rfl))))))
      (pss_one (ps_ret (pv 2))))), Ab.DS.dfn (spF_gc h) rfl (DS.seq (DS.asg (DE.tup (DA.cons (DE.c fun _ => .int _) (DA.cons (DE.c fun _ => .int _) DA.nil))) (DG.tup (DGs.cons DG.name (DGs.cons DG.name DGs.nil))) (Goes.tup (GoesL.cons Goes.name (GoesL.cons Goes.name GoesL.nil))))
      (DS.seq (DS.whileS (DT.test (DE.op (DR.i0 fun _ _ _ => .bl _) DE.var DE.var NE2.i0)) (DS.seq (DS.par (DA.cons (DE.meth (fun _ => .nil) DE.var DA.nil) (DA.cons (DE.op (DR.i0 fun _ _ _ => .int _) DE.var DE.var NE2.i0) DA.nil)))
      (DS.seq (DS.ifs (DT.test (DE.op (DR.i0 fun _ _ _ => .bl _) DE.var (DE.c fun _ => .int _) NE2.i0)) (DS.asg (DE.op (DR.i fun _ _ _ => .int _) DE.var (DE.op (DR.i0 fun _ _ _ => .int _) (DE.c fun _ => .int _) DE.var NE2.i0) NE2.i) DG.name Goes.name) DS.next)
      (DS.par (DA.cons (DE.op DR.add DE.var (DE.op (DR.i fun _ _ _ => .int _) DE.var DE.var NE2.i) NE2.add) (DA.cons (DE.op DR.add DE.var (DE.c fun _ => .int _) NE2.add) DA.nil))))))
      (DS.ret DE.var)))⟩
theorem calx_row_for (T : Txt K mg w (κ "Source") (κ "Scripted") (κ "Draws") R_SIZES) : Gx.CalX P w K mg base 4 "row_for" (spF (Wk K κ) 2 F_row_for) := by
  obtain ⟨f, fd, F, b⟩ := T.d_row_for
  refine Gx.calX F b sc_row_for (fun vs H Q E h => spF.len h) (fun cdv A outer s H vs Q E hr h => ?_)
  have hu := hu_of hr
  have hu64 := hr.units
  have hu65 := Ab.u65 hr
  exact ⟨_, (pss_cons (ps_expr (Gx.pe_cx (calx_s5_need_draw T) Gx.takes_cx (fun _ _ _ _ h => h) hr (by omega) (by rfl) (pa_cons (pv 0) pa_nil)))
      (pss_cons (ps_par (i := 2) (j := 3) rfl sc_row_for.nd rfl rfl (by decide) rfl rfl (pa_cons (Gx.pe_cx (calx_s5_number_for T) Gx.takes_cx (fun _ _ _ _ h => h) hr (by omega) (by rfl) (pa_cons (pv 0) (pa_cons (pv 1) pa_nil))) (pa_cons (Gx.pe_cx (calx_s5_bits_for T) Gx.takes_cx (fun _ _ _ _ h => h) hr (by omega) (by rfl) (pa_cons (pv 0) pa_nil)) pa_nil)) (by rfl))
      (pss_cons (ps_if (pt_cmpR op_isN (pv 2) pe_non (nomark _)) (pss_one ps_never) pss_nil)
      (pss_cons (ps_set (i := 4) sc_row_for.nd rfl (.inl rfl) (pe_lst pa_nil))
      (pss_cons (ps_for (passes_of rfl) rfl (pi_range1 rfl T.b_range (pa_cons (Gx.pe_cx (calx_words_for T) Gx.takes_cx (fun _ _ _ _ h => h) hr (by omega) (by rfl) (pa_cons (pv 3) pa_nil)) pa_nil)) (pg_name (i := 5) sc_row_for.nd rfl (.inl rfl)) (pss_cons (ps_set (i := 6) sc_row_for.nd rfl (.inl rfl) (pe_op op_sub (pv 3) (pe_op Ab.op_mulU (C8.pe_gc (by rfl) T.c_WORD_BITS) (pv 5))))
      (pss_cons (ps_set (i := 7) sc_row_for.nd rfl (.inl rfl) (pe_op op_mod (pe_op op_shr (pv 2) (pe_op Ab.op_mulU (C8.pe_gc (by rfl) T.c_WORD_BITS) (pv 5))) (C8.pe_gc (by rfl) T.c_WORDS)))
      (pss_one (ps_expr (show PE _ _ (tBM K "list" _ _ _) by exact pe_bm PySem.F.plainAttrs_list PySem.F.slot_list_append PySem.F.type_list_append mt_append (pv 4) (pa_cons (pe_ifExp (pt_cmpR op_lt (pv 6) (C8.pe_gc (by rfl) T.c_WORD_BITS) (nomark _)) (pe_op op_shlW (pv 7) (pe_op op_sub (C8.pe_gc (by rfl) T.c_WORD_BITS) (pv 6))) (pv 7)) pa_nil)))))))
      (pss_one (ps_ret (pe_callTy Gx.call_tupOf (by rfl) T.b_tuple (by decide +kernel) (pa_cons (pv 4) pa_nil))))))))), Ab.DS.dfn (spF_gc h) rfl (DS.seq (DS.drop (DE.call (fun _ => .nil) (DA.cons DE.var DA.nil)))
      (DS.seq (DS.par (DA.cons (DE.call (fun _ => .nil) (DA.cons DE.var (DA.cons DE.var DA.nil))) (DA.cons (DE.call (fun _ => .nil) (DA.cons DE.var DA.nil)) DA.nil)))
      (DS.seq (DS.ifs (DT.test (DE.op DR.isN DE.var (DE.c fun _ => .non) NE2.isN)) (DS.never fun _ _ => rfl) DS.next)
      (DS.seq (DS.asg (DE.lst DA.nil) DG.name Goes.name)
      (DS.seq (DS.forS (DI.rng1 (DA.cons (DE.call (fun _ => .nil) (DA.cons DE.var DA.nil)) DA.nil)) DG.name Goes.name (DS.seq (DS.asg (DE.op (DR.i0 fun _ _ _ => .int _) DE.var (DE.op DR.mul (DE.c fun _ => .int _) DE.var NE2.mul) NE2.i0) DG.name Goes.name)
      (DS.seq (DS.asg (DE.op (DR.i fun _ _ _ => .int _) (DE.op (DR.i fun _ _ _ => .int _) DE.var (DE.op DR.mul (DE.c fun _ => .int _) DE.var NE2.mul) NE2.i) (DE.c fun _ => .int _) NE2.i) DG.name Goes.name)
      (DS.drop (DE.bm DM.append NEM.append DE.var (DA.cons (DE.ifE (DT.test (DE.op (DR.i0 fun _ _ _ => .bl _) DE.var (DE.c fun _ => .int _) NE2.i0)) (DE.op (DR.i fun _ _ _ => .int _) DE.var (DE.op (DR.i0 fun _ _ _ => .int _) (DE.c fun _ => .int _) DE.var NE2.i0) NE2.i) DE.var) DA.nil))))))
      (DS.ret (DE.cb DB.tuple (DA.cons DE.var DA.nil) NEL.tuple)))))))⟩
theorem calx_need_draws (T : Txt K mg w (κ "Source") (κ "Scripted") (κ "Draws") R_SIZES) : Gx.CalX P w K mg base 4 "need_draws" (spF (Wk K κ) 1 F_need_draws) := by
  obtain ⟨f, fd, F, b⟩ := T.d_need_draws
  refine Gx.calX F b sc_need_draws (fun vs H Q E h => spF.len h) (fun cdv A outer s H vs Q E hr h => ?_)
  have hu := hu_of hr
  have hu64 := hr.units
  have hu65 := Ab.u65 hr
  exact ⟨_, (pss_one (ps_if (pt_not (pt_val (pe_callB (show CallR _ _ (Ab.rIsiU K) by exact Ab.call_isiU) (by rfl) T.b_isinstance (by decide +kernel) (pa_cons (pv 0) (pa_cons (C8.pe_gc (by rfl) T.k_Draws) pa_nil))))) (pss_one ps_never) pss_nil)), Ab.DS.dfn (spF_gc h) rfl (DS.ifs (DT.not (DT.b (DE.cb (DB.isi (kit_Draws T)) (DA.cons DE.var (DA.cons (DE.c fun _ => .cls "Draws") DA.nil)) NEL.isi))) (DS.never fun _ _ => rfl) DS.next)⟩
theorem calx__law_script (T : Txt K mg w (κ "Source") (κ "Scripted") (κ "Draws") R_SIZES) : Gx.CalX P w K mg base 4 "_law_script" (spF (Wk K κ) 2 F__law_script) := by
  obtain ⟨f, fd, F, b⟩ := T.d__law_script
  refine Gx.calX F b sc__law_script (fun vs H Q E h => spF.len h) (fun cdv A outer s H vs Q E hr h => ?_)
  have hu := hu_of hr
  have hu64 := hr.units
  have hu65 := Ab.u65 hr
  exact ⟨_, (pss_cons (ps_par (i := 2) (j := 3) rfl sc__law_script.nd rfl rfl (by decide) rfl rfl (pa_cons (pe_lst pa_nil) (pa_cons (pe_lst pa_nil) pa_nil)) (by rfl))
      (pss_cons (ps_for (passes_of rfl) rfl (show PI _ _ _ (Ab.iterU K _) by exact Ab.PI.or (pi_list (pv 1)) (Ab.PI.or (pi_tup (pv 1)) (pi_str (pv 1)))) (pg_name (i := 4) sc__law_script.nd rfl (.inl rfl)) (pss_cons (ps_par (i := 5) (j := 6) rfl sc__law_script.nd rfl rfl (by decide) rfl rfl (pa_cons (Gx.pe_cx (calx__law_binary T) Gx.takes_cx (fun _ _ _ _ h => h) hr (by omega) (by rfl) (pa_cons (pe_op op_sub (pv 4) pe_int) pa_nil)) (pa_cons (Gx.pe_cx (calx__law_number T) Gx.takes_cx (fun _ _ _ _ h => h) hr (by omega) (by rfl) (pa_cons (pv 0) (pa_cons (pv 4) pa_nil))) pa_nil)) (by rfl))
      (pss_cons (ps_for (passes_of rfl) rfl (pi_range1 rfl T.b_range (pa_cons (Gx.pe_cx (calx__law_digit T) Gx.takes_cx (fun _ _ _ _ h => h) hr (by omega) (by rfl) (pa_cons (pv 0) (pa_cons pe_int pa_nil))) pa_nil)) (pg_name (i := 7) sc__law_script.nd rfl (.inl rfl)) (pss_one (ps_if (pt_cmpR op_lt (pv 4) (pe_op op_shlW pe_int (pv 5)) (nomark _)) (pss_one (ps_set (i := 2) sc__law_script.nd rfl (.inl rfl) (pe_op (show OpR _ _ (Ab.rAddU K) by exact Ab.op_addU) (pv 2) (Gx.pe_cx (calx__law_row T) Gx.takes_cx (fun _ _ _ _ h => h) hr (by omega) (by rfl) (pa_cons (pv 0) (pa_cons (pe_op (show OpR _ _ (Ab.rAddU K) by exact Ab.op_addU) (pv 4) (Gx.pe_cx (calx__law_number T) Gx.takes_cx (fun _ _ _ _ h => h) hr (by omega) (by rfl) (pa_cons (pv 0) (pa_cons (pe_op op_sub (pe_op op_shlW pe_int (pv 5)) (pv 4)) pa_nil)))) (pa_cons (pv 5) pa_nil))))))) pss_nil)))
      (pss_one (ps_par (i := 2) (j := 3) rfl sc__law_script.nd rfl rfl (by decide) rfl rfl (pa_cons (pe_op (show OpR _ _ (Ab.rAddU K) by exact Ab.op_addU) (pv 2) (Gx.pe_cx (calx__law_row T) Gx.takes_cx (fun _ _ _ _ h => h) hr (by omega) (by rfl) (pa_cons (pv 0) (pa_cons (pv 6) (pa_cons (pv 5) pa_nil))))) (pa_cons (pe_op (show OpR _ _ (Ab.rAddU K) by exact Ab.op_addU) (pv 3) (pe_lst (pa_cons (pv 6) pa_nil))) pa_nil)) (by rfl))))))
      (pss_one (ps_ret (pe_tup (pa_cons (pe_callTy Gx.call_tupOf (by rfl) T.b_tuple (by decide +kernel) (pa_cons (pv 2) pa_nil)) (pa_cons (pv 3) pa_nil))))))), Ab.DS.dfn (spF_gc h) rfl (DS.seq (DS.par (DA.cons (DE.lst DA.nil) (DA.cons (DE.lst DA.nil) DA.nil)))
      (DS.seq (DS.forS (DI.iter DE.var) DG.name Goes.name (DS.seq (DS.par (DA.cons (DE.call (fun _ => .nil) (DA.cons (DE.op (DR.i0 fun _ _ _ => .int _) DE.var (DE.c fun _ => .int _) NE2.i0) DA.nil)) (DA.cons (DE.call (fun _ => .nil) (DA.cons DE.var (DA.cons DE.var DA.nil))) DA.nil)))
      (DS.seq (DS.forS (DI.rng1 (DA.cons (DE.call (fun _ => .nil) (DA.cons DE.var (DA.cons (DE.c fun _ => .int _) DA.nil))) DA.nil)) DG.name Goes.name (DS.ifs (DT.test (DE.op (DR.i0 fun _ _ _ => .bl _) DE.var (DE.op (DR.i fun _ _ _ => .int _) (DE.c fun _ => .int _) DE.var NE2.i) NE2.i0)) (DS.asg (DE.op DR.add DE.var (DE.call (fun _ => .nil) (DA.cons DE.var (DA.cons (DE.op DR.add DE.var (DE.call (fun _ => .nil) (DA.cons DE.var (DA.cons (DE.op (DR.i0 fun _ _ _ => .int _) (DE.op (DR.i fun _ _ _ => .int _) (DE.c fun _ => .int _) DE.var NE2.i) DE.var NE2.i0) DA.nil))) NE2.add) (DA.cons DE.var DA.nil)))) NE2.add) DG.name Goes.name) DS.next))
      (DS.par (DA.cons (DE.op DR.add DE.var (DE.call (fun _ => .nil) (DA.cons DE.var (DA.cons DE.var (DA.cons DE.var DA.nil)))) NE2.add) (DA.cons (DE.op DR.add DE.var (DE.lst (DA.cons DE.var DA.nil)) NE2.add) DA.nil))))))
      (DS.ret (DE.tup (DA.cons (DE.cb DB.tuple (DA.cons DE.var DA.nil) NEL.tuple) (DA.cons DE.var DA.nil))))))⟩
theorem makx_Scripted_d1 (T : Txt K mg w (κ "Source") (κ "Scripted") (κ "Draws") R_SIZES) : Gx.MakX P w K mg base 5 "Scripted" (κ "Scripted") (spF (Wk K κ) 3 F_Scripted___init__) [.int 0] := by
  obtain ⟨f, fd, M, F, b, ds, hv, hb⟩ := T.d_Scripted___init__
  obtain ⟨u, hu1, hu2⟩ := T.k_Scripted
  cases hu2
  refine ⟨f, fd, _, ds, M, Gx.fnX F sc_Scripted___init__ (fun vs H Q E h => spF.len h) (fun cdv A outer s H vs Q E hr h => ?_), hu1, hb, hv⟩
  have hu := hu_of hr
  have hu64 := hr.units
  have hu65 := Ab.u65 hr
  exact ⟨_, (pss_cons (ps_if (pt_not (pt_val (Gx.pe_cx (calx_is_script T) Gx.takes_cx (fun _ _ _ _ h => h) hr (by omega) (by rfl) (pa_cons (pv 1) pa_nil)))) (pss_one ps_never) pss_nil)
      (pss_cons (ps_expr (Gx.pe_cx (calx_need_script_state T) Gx.takes_cx (fun _ _ _ _ h => h) hr (by omega) (by rfl) (pa_cons (pe_tup (pa_cons (pv 1) (pa_cons (pv 2) pa_nil))) pa_nil)))
      (pss_cons (ps_fld (pv 0) (pv 1) rfl)
      (pss_one (ps_fld (pv 0) (pv 2) rfl))))), Ab.DS.dfn (spF_gc h) rfl (DS.seq (DS.ifs (DT.gc (DT.not (DT.b (DE.call (fun _ => .nil) (DA.cons DE.var DA.nil))))) (DS.never fun _ _ => rfl) DS.next)
      (DS.seq (DS.drop (DE.call (fun _ => .nil) (DA.cons (DE.tup (DA.cons DE.var (DA.cons DE.var DA.nil))) DA.nil)))
      (DS.seq (DS.sfld (.cons ⟨T.cl_Scripted, T.n_Scripted_s1_script⟩ .nil) DE.var DE.var)
      (DS.sfld (.cons ⟨T.cl_Scripted, T.n_Scripted_s1_place⟩ .nil) DE.var DE.var))))⟩
theorem metx_Draws_s5_below (T : Txt K mg w (κ "Source") (κ "Scripted") (κ "Draws") R_SIZES) : Gx.MetX P w K mg base 5 (κ "Draws") "s5_below" (spF (Wk K κ) 2 F_Draws_s5_below) := by
  obtain ⟨f, fd, M, F, b⟩ := T.d_Draws_s5_below
  refine Gx.metX T.cl_Draws M F b sc_Draws_s5_below (fun vs H Q E h => spF.len h) (fun cdv A outer s H vs Q E hr h => ?_)
  have hu := hu_of hr
  have hu64 := hr.units
  have hu65 := Ab.u65 hr
  exact ⟨_, (pss_cons (ps_set (i := 2) sc_Draws_s5_below.nd rfl (.inl rfl) (Gx.pe_cx (calx_s5_digits T) Gx.takes_cx (fun _ _ _ _ h => h) hr (by omega) (by rfl) (pa_cons (pe_op op_sub (pv 1) pe_int) pa_nil)))
      (pss_cons (ps_set (i := 3) sc_Draws_s5_below.nd rfl (.inl rfl) (Gx.pe_mx (metx_Draws_s5_bits T) Gx.takes_cx (fun _ _ _ _ h => h) hr (by omega) (pv 0) (pa_cons (pv 2) pa_nil)))
      (pss_cons (ps_while (passes_of rfl) (pt_cmpR op_ge (pv 3) (pv 1) (nomark _)) (pss_one (ps_set (i := 3) sc_Draws_s5_below.nd rfl (.inl rfl) (Gx.pe_mx (metx_Draws_s5_bits T) Gx.takes_cx (fun _ _ _ _ h => h) hr (by omega) (pv 0) (pa_cons (pv 2) pa_nil)))))
      (pss_one (ps_ret (pv 3)))))), Ab.DS.dfn (spF_gc h) rfl (DS.seq (DS.asg (DE.call (fun _ => .nil) (DA.cons (DE.op (DR.i0 fun _ _ _ => .int _) DE.var (DE.c fun _ => .int _) NE2.i0) DA.nil)) DG.name Goes.name)
      (DS.seq (DS.asg (DE.meth (fun _ => .nil) DE.var (DA.cons DE.var DA.nil)) DG.name Goes.name)
      (DS.seq (DS.whileS (DT.test (DE.op (DR.i0 fun _ _ _ => .bl _) DE.var DE.var NE2.i0)) (DS.asg (DE.meth (fun _ => .nil) DE.var (DA.cons DE.var DA.nil)) DG.name Goes.name))
      (DS.ret DE.var))))⟩
theorem calx_script_of (T : Txt K mg w (κ "Source") (κ "Scripted") (κ "Draws") R_SIZES) : Gx.CalX P w K mg base 5 "script_of" (spF (Wk K κ) 1 F_script_of) := by
  obtain ⟨f, fd, F, b⟩ := T.d_script_of
  refine Gx.calX F b sc_script_of (fun vs H Q E h => spF.len h) (fun cdv A outer s H vs Q E hr h => ?_)
  have hu := hu_of hr
  have hu64 := hr.units
  have hu65 := Ab.u65 hr
  exact ⟨_, (pss_cons (ps_set (i := 1) sc_script_of.nd rfl (.inl rfl) (pe_lst pa_nil))
      (pss_cons (ps_for (passes_of rfl) rfl (show PI _ _ _ (Ab.enU K _) by exact Ab.PI.or (pi_enum (by rfl) T.b_enumerate (pa_cons (Gx.pe_cx (calx_row_of T) Gx.takes_cx (fun _ _ _ _ h => h) hr (by omega) (by rfl) (pa_cons (pv 0) pa_nil)) pa_nil)) (Gx.pi_enT (by rfl) T.b_enumerate (pa_cons (Gx.pe_cx (calx_row_of T) Gx.takes_cx (fun _ _ _ _ h => h) hr (by omega) (by rfl) (pa_cons (pv 0) pa_nil)) pa_nil))) (show PG _ _ (gTup K 2 _) by exact pg_tup rfl (pgs_cons (pg_name (i := 2) sc_script_of.nd rfl (.inl rfl)) (pgs_cons (pg_name (i := 3) sc_script_of.nd rfl (.inl rfl)) pgs_nil))) (pss_one (ps_expr (show PE _ _ (tBM K "list" _ _ _) by exact pe_bm PySem.F.plainAttrs_list PySem.F.slot_list_extend PySem.F.type_list_extend Ab.mt_extendT (pv 1) (pa_cons (Gx.pe_cx (calx_row_for T) Gx.takes_cx (fun _ _ _ _ h => h) hr (by omega) (by rfl) (pa_cons (pe_tup (pa_cons pe_str (pa_cons (pe_op op_sub (pe_callB (show CallR _ _ (Ab.rLenU K) by exact Ab.call_lenU) (by rfl) T.b_len PySem.boot_len (pa_cons (pv 0) pa_nil)) (pv 2)) pa_nil))) (pa_cons (pv 3) pa_nil))) pa_nil)))))
      (pss_one (ps_ret (pe_callTy Gx.call_tupOf (by rfl) T.b_tuple (by decide +kernel) (pa_cons (pv 1) pa_nil)))))), Ab.DS.dfn (spF_gc h) rfl (DS.seq (DS.asg (DE.lst DA.nil) DG.name Goes.name)
      (DS.seq (DS.forS (DI.enumU (DA.cons (DE.call (fun _ => .nil) (DA.cons DE.var DA.nil)) DA.nil)) (DG.tup (DGs.cons DG.name (DGs.cons DG.name DGs.nil))) (Goes.tup (GoesL.cons Goes.name (GoesL.cons Goes.name GoesL.nil))) (DS.drop (DE.bm DM.extendT NEM.extendT DE.var (DA.cons (DE.call (fun _ => .nil) (DA.cons (DE.tup (DA.cons (DE.c fun _ => .str _) (DA.cons (DE.op (DR.i0 fun _ _ _ => .int _) (DE.cb DB.len (DA.cons DE.var DA.nil) NEL.len) DE.var NE2.i0) DA.nil))) (DA.cons DE.var DA.nil))) DA.nil))))
      (DS.ret (DE.cb DB.tuple (DA.cons DE.var DA.nil) NEL.tuple))))⟩
theorem metx_Draws_below (T : Txt K mg w (κ "Source") (κ "Scripted") (κ "Draws") R_SIZES) : Gx.MetX P w K mg base 6 (κ "Draws") "below" (spF (Wk K κ) 2 F_Draws_below) := by
  obtain ⟨f, fd, M, F, b⟩ := T.d_Draws_below
  refine Gx.metX T.cl_Draws M F b sc_Draws_below (fun vs H Q E h => spF.len h) (fun cdv A outer s H vs Q E hr h => ?_)
  have hu := hu_of hr
  have hu64 := hr.units
  have hu65 := Ab.u65 hr
  exact ⟨_, (pss_cons (ps_expr (Gx.pe_cx (calx_s5_need T) Gx.takes_cx (fun _ _ _ _ h => h) hr (by omega) (by rfl) (pa_cons (pv 1) (pa_cons pe_int (pa_cons (C8.pe_gc (by rfl) T.c_MOST_BOUND) pa_nil)))))
      (pss_one (ps_ret (Gx.pe_mx (metx_Draws_s5_below T) Gx.takes_cx (fun _ _ _ _ h => h) hr (by omega) (pv 0) (pa_cons (pv 1) pa_nil))))), Ab.DS.dfn (spF_gc h) rfl (DS.seq (DS.drop (DE.call (fun _ => .nil) (DA.cons DE.var (DA.cons (DE.c fun _ => .int _) (DA.cons (DE.c fun _ => .int _) DA.nil)))))
      (DS.ret (DE.meth (fun _ => .nil) DE.var (DA.cons DE.var DA.nil))))⟩
theorem calx__law_all_right (T : Txt K mg w (κ "Source") (κ "Scripted") (κ "Draws") R_SIZES) : Gx.CalX P w K mg base 6 "_law_all_right" (spF (Wk K κ) 0 F__law_all_right) := by
  obtain ⟨f, fd, F, b⟩ := T.d__law_all_right
  refine Gx.calX F b sc__law_all_right (fun vs H Q E h => spF.len h) (fun cdv A outer s H vs Q E hr h => ?_)
  have hu := hu_of hr
  have hu64 := hr.units
  have hu65 := Ab.u65 hr
  exact ⟨_, (pss_cons (ps_set (i := 0) sc__law_all_right.nd rfl (.inl rfl) (pe_lst pa_nil))
      (pss_cons (ps_for (passes_of rfl) rfl (pi_range1 rfl T.b_range (pa_cons pe_int pa_nil)) (pg_name (i := 1) sc__law_all_right.nd rfl (.inl rfl)) (pss_one (ps_for (passes_of rfl) rfl (pi_range1 rfl T.b_range (pa_cons pe_int pa_nil)) (pg_name (i := 2) sc__law_all_right.nd rfl (.inl rfl)) (pss_one (ps_for (passes_of rfl) rfl (pi_range1 rfl T.b_range (pa_cons pe_int pa_nil)) (pg_name (i := 3) sc__law_all_right.nd rfl (.inl rfl)) (pss_one (ps_expr (show PE _ _ (tBM K "list" _ _ _) by exact pe_bm PySem.F.plainAttrs_list PySem.F.slot_list_append PySem.F.type_list_append mt_append (pv 0) (pa_cons (Gx.pe_cx (calx_order_by T) Gx.takes_cx (fun _ _ _ _ h => h) hr (by omega) (by rfl) (pa_cons (pe_tup (pa_cons (pv 1) (pa_cons (pv 2) (pa_cons (pv 3) pa_nil)))) pa_nil)) pa_nil)))))))))
      (pss_cons (ps_if (PW.pt (pw_or (pt_cmpR (show OpR _ _ (Ab.rNeU K) by exact Ab.op_neU hu64) (Gx.pe_lenSetT rfl hu64 (by rfl) T.b_len (by rfl) T.b_set (pv 0)) pe_int (nomark _)) (pw_or1 (pt_cmpR (show OpR _ _ (Ab.rNeU K) by exact Ab.op_neU hu64) (pe_lc (own := [("_law_order", 4)]) rfl sc__law_all_right.nd (show PI _ _ _ (Ab.iterU K _) by exact Ab.PI.or (pi_list (pv 0)) (Ab.PI.or (pi_tup (pv 0)) (pi_str (pv 0)))) (blkOk_by (N := ["_law_found", "_law_a", "_law_b", "_law_c", "_law_order"]) (sc := C8.fnScope s__law_all_right) (by decide +kernel)) (fun _ _ _ _ _ => (pg_name (i := 4) sc__law_all_right.nd rfl (.inl rfl))) (fun _ _ _ _ _ => pts_nil) (fun _ _ _ _ _ => (pe_callB (show CallR _ _ (Gx.rSortedT K) by exact Gx.cr_sortedT) (by rfl) T.b_sorted (by decide +kernel) (pa_cons (pv 4) pa_nil)))) (pe_op Ab.op_mulU (pe_lst (pa_cons (pe_lst (pa_cons pe_int (pa_cons pe_int (pa_cons pe_int (pa_cons pe_int pa_nil))))) pa_nil)) pe_int) (nomark _))))) (pss_one (ps_ret pe_bl)) pss_nil)
      (pss_one (ps_ret (pe_cmpR (show OpR _ _ (Ab.rEqU K) by exact Ab.op_eqU hu64) (pe_lst (pa_cons (Gx.pe_cx (calx_order_by T) Gx.takes_cx (fun _ _ _ _ h => h) hr (by omega) (by rfl) (pa_cons (pe_tup pa_nil) pa_nil)) (pa_cons (Gx.pe_cx (calx_row_of T) Gx.takes_cx (fun _ _ _ _ h => h) hr (by omega) (by rfl) (pa_cons (pe_tup pa_nil) pa_nil)) (pa_cons (Gx.pe_cx (calx_row_of T) Gx.takes_cx (fun _ _ _ _ h => h) hr (by omega) (by rfl) (pa_cons (pe_tup (pa_cons pe_int pa_nil)) pa_nil)) (pa_cons (Gx.pe_cx (calx_script_of T) Gx.takes_cx (fun _ _ _ _ h => h) hr (by omega) (by rfl) (pa_cons (pe_tup pa_nil) pa_nil)) pa_nil))))) (pe_lst (pa_cons (pe_tup (pa_cons pe_int pa_nil)) (pa_cons (pe_tup pa_nil) (pa_cons (pe_tup pa_nil) (pa_cons (pe_tup pa_nil) pa_nil))))) (nomark _))))))), Ab.DS.dfn (spF_gc h) rfl (DS.seq (DS.asg (DE.lst DA.nil) DG.name Goes.name)
      (DS.seq (DS.forS (DI.rng1 (DA.cons (DE.c fun _ => .int _) DA.nil)) DG.name Goes.name (DS.forS (DI.rng1 (DA.cons (DE.c fun _ => .int _) DA.nil)) DG.name Goes.name (DS.forS (DI.rng1 (DA.cons (DE.c fun _ => .int _) DA.nil)) DG.name Goes.name (DS.drop (DE.bm DM.append NEM.append DE.var (DA.cons (DE.call (fun _ => .nil) (DA.cons (DE.tup (DA.cons DE.var (DA.cons DE.var (DA.cons DE.var DA.nil)))) DA.nil)) DA.nil))))))
      (DS.seq (DS.ifs (DT.gc (DT.or (DT.test (DE.op DR.ne (DE.lenSet DE.var) (DE.c fun _ => .int _) NE2.ne)) (DT.test (DE.op DR.ne (DE.lc (DI.iter DE.var) DG.name Goes.name (WT.name (by decide)) DT.yes (DE.cb DB.sortedT (DA.cons DE.var DA.nil) NEL.sortedT)) (DE.op DR.mul (DE.lst (DA.cons (DE.lst (DA.cons (DE.c fun _ => .int _) (DA.cons (DE.c fun _ => .int _) (DA.cons (DE.c fun _ => .int _) (DA.cons (DE.c fun _ => .int _) DA.nil))))) DA.nil)) (DE.c fun _ => .int _) NE2.mul) NE2.ne)))) (DS.ret (DE.c fun _ => .bl _)) DS.next)
      (DS.ret (DE.op DR.eq (DE.lst (DA.cons (DE.call (fun _ => .nil) (DA.cons (DE.tup DA.nil) DA.nil)) (DA.cons (DE.call (fun _ => .nil) (DA.cons (DE.tup DA.nil) DA.nil)) (DA.cons (DE.call (fun _ => .nil) (DA.cons (DE.tup (DA.cons (DE.c fun _ => .int _) DA.nil)) DA.nil)) (DA.cons (DE.call (fun _ => .nil) (DA.cons (DE.tup DA.nil) DA.nil)) DA.nil))))) (DE.lst (DA.cons (DE.tup (DA.cons (DE.c fun _ => .int _) DA.nil)) (DA.cons (DE.tup DA.nil) (DA.cons (DE.tup DA.nil) (DA.cons (DE.tup DA.nil) DA.nil))))) NE2.eq)))))⟩
theorem calx_shuffled (T : Txt K mg w (κ "Source") (κ "Scripted") (κ "Draws") R_SIZES) : Gx.CalX P w K mg base 7 "shuffled" (spF (Wk K κ) 2 F_shuffled) := by
  obtain ⟨f, fd, F, b⟩ := T.d_shuffled
  refine Gx.calX F b sc_shuffled (fun vs H Q E h => spF.len h) (fun cdv A outer s H vs Q E hr h => ?_)
  have hu := hu_of hr
  have hu64 := hr.units
  have hu65 := Ab.u65 hr
  exact ⟨_, (pss_cons (ps_expr (Gx.pe_cx (calx_need_draws T) Gx.takes_cx (fun _ _ _ _ h => h) hr (by omega) (by rfl) (pa_cons (pv 0) pa_nil)))
      (pss_cons (ps_expr (Gx.pe_cx (calx_need_things T) Gx.takes_cx (fun _ _ _ _ h => h) hr (by omega) (by rfl) (pa_cons (pv 1) pa_nil)))
      (pss_cons (ps_set (i := 2) sc_shuffled.nd rfl (.inl rfl) (pe_callTy Gx.call_lstOf (by rfl) T.b_list (by decide +kernel) (pa_cons (pv 1) pa_nil)))
      (pss_cons (ps_for (passes_of rfl) rfl (pi_range3 rfl T.b_range (pa_cons (pe_op op_sub (pe_callB (show CallR _ _ (Ab.rLenU K) by exact Ab.call_lenU) (by rfl) T.b_len PySem.boot_len (pa_cons (pv 2) pa_nil)) pe_int) (pa_cons pe_int (pa_cons (pe_un un_neg pe_int) pa_nil)))) (pg_name (i := 3) sc_shuffled.nd rfl (.inl rfl)) (pss_one (ps_expr (Gx.pe_cx (calx_s6_exchange T) Gx.takes_cx (fun _ _ _ _ h => h) hr (by omega) (by rfl) (pa_cons (pv 2) (pa_cons (pv 3) (pa_cons (Gx.pe_mx (metx_Draws_below T) Gx.takes_cx (fun _ _ _ _ h => h) hr (by omega) (pv 0) (pa_cons (pe_op (show OpR _ _ (Ab.rAddU K) by exact Ab.op_addU) (pv 3) pe_int) pa_nil)) pa_nil)))))))
      (pss_one (ps_ret (pv 2))))))), Ab.DS.dfn (spF_gc h) rfl (DS.seq (DS.drop (DE.call (fun _ => .nil) (DA.cons DE.var DA.nil)))
      (DS.seq (DS.drop (DE.call (fun _ => .nil) (DA.cons DE.var DA.nil)))
      (DS.seq (DS.asg (DE.cb DB.list (DA.cons DE.var DA.nil) NEL.list) DG.name Goes.name)
      (DS.seq (DS.forS (DI.rng3 (DA.cons (DE.op (DR.i0 fun _ _ _ => .int _) (DE.cb DB.len (DA.cons DE.var DA.nil) NEL.len) (DE.c fun _ => .int _) NE2.i0) (DA.cons (DE.c fun _ => .int _) (DA.cons (DE.un DU.neg (DE.c fun _ => .int _) NE1.neg) DA.nil)))) DG.name Goes.name (DS.drop (DE.call (fun _ => .nil) (DA.cons DE.var (DA.cons DE.var (DA.cons (DE.meth (fun _ => .nil) DE.var (DA.cons (DE.op DR.add DE.var (DE.c fun _ => .int _) NE2.add) DA.nil)) DA.nil))))))
      (DS.ret DE.var)))))⟩
theorem cal__law_shuffle_right (T : Txt K mg w (κ "Source") (κ "Scripted") (κ "Draws") R_SIZES) : Gx.CalG P w K mg base 8 "_law_shuffle_right" (spF (Wk K κ) 1 F__law_shuffle_right) := by
  obtain ⟨f, fd, F, b⟩ := T.d__law_shuffle_right
  refine Gx.calG F b sc__law_shuffle_right (fun vs H Q E h => spF.len h) (fun cdv A outer s H vs Q gd hr h => ?_)
  have hu := hu_of hr
  have hu64 := hr.units
  have hu65 := Ab.u65 hr
  exact ⟨_, (pss_cons (ps_set (i := 1) sc__law_shuffle_right.nd rfl (.inl rfl) (Gx.pe_cx (calx__law_digit T) LamX.takes0 (E := fun _ _ _ => False) (fun _ _ _ _ h => h) hr (by omega) (by rfl) (pa_cons (pv 0) (pa_cons pe_int pa_nil))))
      (pss_cons (ps_setLc (i := 2) (own := [("_law_turn", 3)]) rfl sc__law_shuffle_right.nd rfl rfl (sw_true rfl rfl rfl (by decide +kernel)) (pi_range1 rfl T.b_range (pa_cons (pv 1) pa_nil)) (blkOk_by (N := ["_law_state", "_law_n", "_law_things", "_law_turn", "_law_words", "_law_numbers", "_law_source", "_law_given", "_law_told"]) (sc := C8.fnScope s__law_shuffle_right) (by decide +kernel)) (fun _ _ _ _ _ => (pg_name (i := 3) sc__law_shuffle_right.nd rfl (.inl rfl))) (fun _ _ _ _ _ => pts_nil) (fun _ _ _ _ _ => (pe_ix (show IxR _ (Ab.rIxU K) by exact Ab.ix_U) (pe_lst (pa_cons pe_str (pa_cons pe_int (pa_cons pe_non (pa_cons pe_str (pa_cons (pe_tup (pa_cons pe_int (pa_cons pe_int pa_nil))) (pa_cons pe_str (pa_cons pe_int (pa_cons pe_bl (pa_cons pe_str pa_nil)))))))))) (Gx.pe_cx (calx__law_digit T) LamX.takes0 (E := fun _ _ _ => False) (fun _ _ _ _ h => h) hr (by omega) (by rfl) (pa_cons (pv 0) (pa_cons pe_int pa_nil))) (fun _ _ => rfl))))
      (pss_cons (ps_asg (Gx.pe_cx (calx__law_script T) LamX.takes0 (E := fun _ _ _ => False) (fun _ _ _ _ h => h) hr (by omega) (by rfl) (pa_cons (pv 0) (pa_cons (Ab.pe_listDn rfl (by rfl) T.b_list (by rfl) T.b_range (pa_cons (pv 1) (pa_cons pe_int (pa_cons (pe_op op_sub pe_int pe_int) pa_nil)))) pa_nil))) (show PG _ _ (gTup K 2 _) by exact pg_tup rfl (pgs_cons (pg_name (i := 4) sc__law_shuffle_right.nd rfl (.inl rfl)) (pgs_cons (pg_name (i := 5) sc__law_shuffle_right.nd rfl (.inl rfl)) pgs_nil))))
      (pss_cons (ps_par (i := 6) (j := 7) rfl sc__law_shuffle_right.nd rfl rfl (by decide) rfl rfl (pa_cons (Gx.pe_mkx (makx_Scripted_d1 T) LamX.takes0 (E := fun _ _ _ => False) (fun _ _ _ _ h => h) hr (by omega) (by rfl) (pa_cons (pe_op (show OpR _ _ (Ab.rAddU K) by exact Ab.op_addU) (pv 4) (pe_tup (pa_cons pe_int (pa_cons pe_int pa_nil)))) pa_nil)) (pa_cons (pe_ix (show IxR _ (Ab.rIxU K) by exact Ab.ix_U) (pe_lst (pa_cons (pv 2) (pa_cons (pe_callTy Gx.call_tupOf (by rfl) T.b_tuple (by decide +kernel) (pa_cons (pv 2) pa_nil)) pa_nil))) (Gx.pe_cx (calx__law_digit T) LamX.takes0 (E := fun _ _ _ => False) (fun _ _ _ _ h => h) hr (by omega) (by rfl) (pa_cons (pv 0) (pa_cons pe_int pa_nil))) (fun _ _ => rfl)) pa_nil)) (by rfl))
      (pss_cons (ps_set (i := 8) sc__law_shuffle_right.nd rfl (.inl rfl) (Gx.pe_cx (calx_shuffled T) LamX.takes0 (E := fun _ _ _ => False) (fun _ _ _ _ h => h) hr (by omega) (by rfl) (pa_cons (Gx.pe_mkx (makx_Draws T) LamX.takes0 (E := fun _ _ _ => False) (fun _ _ _ _ h => h) hr (by omega) (by rfl) (pa_cons (pv 6) pa_nil)) (pa_cons (pv 7) pa_nil))))
      (pss_cons (ps_if (pt_cmpR (show OpR _ _ (Ab.rNeU K) by exact Ab.op_neU hu64) (pe_callB (show CallR _ _ (Gx.rReprE K) by exact Gx.call_reprE gd hu64) (by rfl) T.b_repr (by decide +kernel) (pa_cons (pv 8) pa_nil)) (pe_callB (show CallR _ _ (Gx.rReprE K) by exact Gx.call_reprE gd hu64) (by rfl) T.b_repr (by decide +kernel) (pa_cons (Gx.pe_cx (calx__law_moved T) LamX.takes0 (E := fun _ _ _ => False) (fun _ _ _ _ h => h) hr (by omega) (by rfl) (pa_cons (pv 2) (pa_cons (pv 5) pa_nil))) pa_nil)) (nomark _)) (pss_one (ps_ret pe_bl)) pss_nil)
      (pss_cons (ps_if (PW.pt (pw_or (pt_cmpR (show OpR _ _ (Ab.rNeU K) by exact Ab.op_neU hu64) (Gx.pe_propC (pv 6) (prop_Scripted_left T) hr (by omega) rfl) pe_int (nomark _)) (pw_or1 (pt_not (pt_val (pe_callB (show CallR _ _ (Ab.rIsiU K) by exact Ab.call_isiU) (by rfl) T.b_isinstance (by decide +kernel) (pa_cons (pv 8) (pa_cons (pe_bltn (v := .ty "list") (by rfl) T.b_list (by decide +kernel) rfl) pa_nil)))))))) (pss_one (ps_ret pe_bl)) pss_nil)
      (pss_one (ps_ret (pe_cmpR (show OpR _ _ (Ab.rEqU K) by exact Ab.op_eqU hu64) (pe_callB (show CallR _ _ (Gx.rReprE K) by exact Gx.call_reprE gd hu64) (by rfl) T.b_repr (by decide +kernel) (pa_cons (pe_callTy Gx.call_lstOf (by rfl) T.b_list (by decide +kernel) (pa_cons (pv 7) pa_nil)) pa_nil)) (pe_callB (show CallR _ _ (Gx.rReprE K) by exact Gx.call_reprE gd hu64) (by rfl) T.b_repr (by decide +kernel) (pa_cons (pv 2) pa_nil)) (nomark _))))))))))), Ab.DS.dfn (spF_gc h) rfl (DS.seq (DS.asg (DE.call (fun _ => .nil) (DA.cons DE.var (DA.cons (DE.c fun _ => .int _) DA.nil))) DG.name Goes.name)
      (DS.seq (DS.asg (DE.lc (DI.rng1 (DA.cons DE.var DA.nil)) DG.name Goes.name (WT.name (by decide)) DT.yes (DE.op DR.ix (DE.lst (DA.cons (DE.c fun _ => .str _) (DA.cons (DE.c fun _ => .int _) (DA.cons (DE.c fun _ => .non) (DA.cons (DE.c fun _ => .str _) (DA.cons (DE.tup (DA.cons (DE.c fun _ => .int _) (DA.cons (DE.c fun _ => .int _) DA.nil))) (DA.cons (DE.c fun _ => .str _) (DA.cons (DE.c fun _ => .int _) (DA.cons (DE.c fun _ => .bl _) (DA.cons (DE.c fun _ => .str _) DA.nil)))))))))) (DE.call (fun _ => .nil) (DA.cons DE.var (DA.cons (DE.c fun _ => .int _) DA.nil))) NE2.ix)) DG.name Goes.name)
      (DS.seq (DS.asg (DE.call (fun _ => .nil) (DA.cons DE.var (DA.cons (DE.listDn (DA.cons DE.var (DA.cons (DE.c fun _ => .int _) (DA.cons (DE.op (DR.i0 fun _ _ _ => .int _) (DE.c fun _ => .int _) (DE.c fun _ => .int _) NE2.i0) DA.nil)))) DA.nil))) (DG.tup (DGs.cons DG.name (DGs.cons DG.name DGs.nil))) (Goes.tup (GoesL.cons Goes.name (GoesL.cons Goes.name GoesL.nil))))
      (DS.seq (DS.par (DA.cons (DE.make (fun _ => (.cons (.int _) .nil)) (show "Scripted" ∈ (["Source", "Scripted", "Draws"] : List String) by decide) (DA.cons (DE.op DR.add DE.var (DE.tup (DA.cons (DE.c fun _ => .int _) (DA.cons (DE.c fun _ => .int _) DA.nil))) NE2.add) DA.nil)) (DA.cons (DE.op DR.ix (DE.lst (DA.cons DE.var (DA.cons (DE.cb DB.tuple (DA.cons DE.var DA.nil) NEL.tuple) DA.nil))) (DE.call (fun _ => .nil) (DA.cons DE.var (DA.cons (DE.c fun _ => .int _) DA.nil))) NE2.ix) DA.nil)))
      (DS.seq (DS.asg (DE.call (fun _ => .nil) (DA.cons (DE.make (fun _ => .nil) (show "Draws" ∈ (["Source", "Scripted", "Draws"] : List String) by decide) (DA.cons DE.var DA.nil)) (DA.cons DE.var DA.nil))) DG.name Goes.name)
      (DS.seq (DS.ifs (DT.gc (DT.test (DE.op DR.ne (DE.cb DB.reprE (DA.cons DE.var DA.nil) NEL.reprE) (DE.cb DB.reprE (DA.cons (DE.call (fun _ => .nil) (DA.cons DE.var (DA.cons DE.var DA.nil))) DA.nil) NEL.reprE) NE2.ne))) (DS.ret (DE.c fun _ => .bl _)) DS.next)
      (DS.seq (DS.ifs (DT.or (DT.test (DE.op DR.ne (DE.prop DE.var) (DE.c fun _ => .int _) NE2.ne)) (DT.not (DT.b (DE.cb (DB.isi (kit_list T)) (DA.cons DE.var (DA.cons (DE.c fun _ => .ty _) DA.nil)) NEL.isi)))) (DS.ret (DE.c fun _ => .bl _)) DS.next)
      (DS.ret (DE.op DR.eq (DE.cb DB.reprE (DA.cons (DE.cb DB.list (DA.cons DE.var DA.nil) NEL.list) DA.nil) NEL.reprE) (DE.cb DB.reprE (DA.cons DE.var DA.nil) NEL.reprE) NE2.eq)))))))))⟩
theorem calx__law_inverse_right (T : Txt K mg w (κ "Source") (κ "Scripted") (κ "Draws") R_SIZES) : Gx.CalX P w K mg base 8 "_law_inverse_right" (spF (Wk K κ) 1 F__law_inverse_right) := by
  obtain ⟨f, fd, F, b⟩ := T.d__law_inverse_right
  refine Gx.calX F b sc__law_inverse_right (fun vs H Q E h => spF.len h) (fun cdv A outer s H vs Q E hr h => ?_)
  have hu := hu_of hr
  have hu64 := hr.units
  have hu65 := Ab.u65 hr
  exact ⟨_, (pss_cons (ps_set (i := 1) sc__law_inverse_right.nd rfl (.inl rfl) (pe_op (show OpR _ _ (Ab.rAddU K) by exact Ab.op_addU) pe_int (Gx.pe_cx (calx__law_digit T) Gx.takes_cx (fun _ _ _ _ h => h) hr (by omega) (by rfl) (pa_cons (pv 0) (pa_cons pe_int pa_nil)))))
      (pss_cons (ps_set (i := 2) sc__law_inverse_right.nd rfl (.inl rfl) (pe_callTy Gx.call_tupOf (by rfl) T.b_tuple (by decide +kernel) (pa_cons (pe_lc (own := [("_law_i", 3)]) rfl sc__law_inverse_right.nd (pi_range3 rfl T.b_range (pa_cons (pe_op op_sub (pv 1) pe_int) (pa_cons pe_int (pa_cons (pe_op op_sub pe_int pe_int) pa_nil)))) (blkOk_by (N := ["_law_state", "_law_n", "_law_row_here", "_law_i", "_law_order", "_law_source", "_law_due", "_law_turn", "_law_number_here"]) (sc := C8.fnScope s__law_inverse_right) (by decide +kernel)) (fun _ _ _ _ _ => (pg_name (i := 3) sc__law_inverse_right.nd rfl (.inl rfl))) (fun _ _ _ _ _ => pts_nil) (fun _ _ _ _ _ => (Gx.pe_cx (calx__law_digit T) LamX.takes0 (E := fun _ _ _ => False) (fun _ _ _ _ h => h) hr (by omega) (by rfl) (pa_cons (pv 0) (pa_cons (pe_op (show OpR _ _ (Ab.rAddU K) by exact Ab.op_addU) (pv 3) pe_int) pa_nil))))) pa_nil)))
      (pss_cons (ps_set (i := 4) sc__law_inverse_right.nd rfl (.inl rfl) (pe_callTy Gx.call_tupOf (by rfl) T.b_tuple (by decide +kernel) (pa_cons (Gx.pe_cx (calx__law_moved T) Gx.takes_cx (fun _ _ _ _ h => h) hr (by omega) (by rfl) (pa_cons (pe_listRg rfl (by rfl) T.b_list (prg_1 (by rfl) T.b_range (pv 1))) (pa_cons (pv 2) pa_nil))) pa_nil)))
      (pss_cons (ps_if (PW.pt (pw_or (pt_cmpR (show OpR _ _ (Ab.rNeU K) by exact Ab.op_neU hu64) (Gx.pe_cx (calx_order_by T) Gx.takes_cx (fun _ _ _ _ h => h) hr (by omega) (by rfl) (pa_cons (pv 2) pa_nil)) (pv 4) (nomark _)) (pw_or (pt_cmpR (show OpR _ _ (Ab.rNeU K) by exact Ab.op_neU hu64) (Gx.pe_cx (calx_order_by T) Gx.takes_cx (fun _ _ _ _ h => h) hr (by omega) (by rfl) (pa_cons (pe_callTy Gx.call_lstOf (by rfl) T.b_list (by decide +kernel) (pa_cons (pv 2) pa_nil)) pa_nil)) (pv 4) (nomark _)) (pw_or1 (pt_cmpR (show OpR _ _ (Ab.rNeU K) by exact Ab.op_neU hu64) (Gx.pe_cx (calx_row_of T) Gx.takes_cx (fun _ _ _ _ h => h) hr (by omega) (by rfl) (pa_cons (pv 4) pa_nil)) (pv 2) (nomark _)))))) (pss_one (ps_ret pe_bl)) pss_nil)
      (pss_cons (ps_set (i := 5) sc__law_inverse_right.nd rfl (.inl rfl) (Gx.pe_mkx (makx_Scripted_d1 T) Gx.takes_cx (fun _ _ _ _ h => h) hr (by omega) (by rfl) (pa_cons (Gx.pe_cx (calx_script_of T) Gx.takes_cx (fun _ _ _ _ h => h) hr (by omega) (by rfl) (pa_cons (pv 4) pa_nil)) pa_nil)))
      (pss_cons (ps_if (PW.pt (pw_or (pt_cmpR (show OpR _ _ (Ab.rNeU K) by exact Ab.op_neU hu64) (pe_callTy Gx.call_tupOf (by rfl) T.b_tuple (by decide +kernel) (pa_cons (Gx.pe_cx (calx_shuffled T) Gx.takes_cx (fun _ _ _ _ h => h) hr (by omega) (by rfl) (pa_cons (Gx.pe_mkx (makx_Draws T) Gx.takes_cx (fun _ _ _ _ h => h) hr (by omega) (by rfl) (pa_cons (pv 5) pa_nil)) (pa_cons (pe_listRg rfl (by rfl) T.b_list (prg_1 (by rfl) T.b_range (pv 1))) pa_nil))) pa_nil)) (pv 4) (nomark _)) (pw_or1 (pt_cmpR (show OpR _ _ (Ab.rNeU K) by exact Ab.op_neU hu64) (Gx.pe_propC (pv 5) (prop_Scripted_left T) hr (by omega) rfl) pe_int (nomark _))))) (pss_one (ps_ret pe_bl)) pss_nil)
      (pss_cons (ps_set (i := 6) sc__law_inverse_right.nd rfl (.inl rfl) (pe_lst pa_nil))
      (pss_cons (ps_for (passes_of rfl) rfl (show PI _ _ _ (Ab.enU K _) by exact Ab.PI.or (pi_enum (by rfl) T.b_enumerate (pa_cons (pv 2) pa_nil)) (Gx.pi_enT (by rfl) T.b_enumerate (pa_cons (pv 2) pa_nil))) (show PG _ _ (gTup K 2 _) by exact pg_tup rfl (pgs_cons (pg_name (i := 7) sc__law_inverse_right.nd rfl (.inl rfl)) (pgs_cons (pg_name (i := 8) sc__law_inverse_right.nd rfl (.inl rfl)) pgs_nil))) (pss_one (ps_expr (show PE _ _ (tBM K "list" _ _ _) by exact pe_bm PySem.F.plainAttrs_list PySem.F.slot_list_extend PySem.F.type_list_extend Ab.mt_extendT (pv 6) (pa_cons (Gx.pe_cx (calx_row_for T) Gx.takes_cx (fun _ _ _ _ h => h) hr (by omega) (by rfl) (pa_cons (pe_tup (pa_cons pe_str (pa_cons (pe_op op_sub (pv 1) (pv 7)) pa_nil))) (pa_cons (pv 8) pa_nil))) pa_nil)))))
      (pss_one (ps_ret (pe_cmpR (show OpR _ _ (Ab.rEqU K) by exact Ab.op_eqU hu64) (Gx.pe_cx (calx_script_of T) Gx.takes_cx (fun _ _ _ _ h => h) hr (by omega) (by rfl) (pa_cons (pv 4) pa_nil)) (pe_callTy Gx.call_tupOf (by rfl) T.b_tuple (by decide +kernel) (pa_cons (pv 6) pa_nil)) (nomark _)))))))))))), Ab.DS.dfn (spF_gc h) rfl (DS.seq (DS.asg (DE.op DR.add (DE.c fun _ => .int _) (DE.call (fun _ => .nil) (DA.cons DE.var (DA.cons (DE.c fun _ => .int _) DA.nil))) NE2.add) DG.name Goes.name)
      (DS.seq (DS.asg (DE.cb DB.tuple (DA.cons (DE.lc (DI.rng3 (DA.cons (DE.op (DR.i0 fun _ _ _ => .int _) DE.var (DE.c fun _ => .int _) NE2.i0) (DA.cons (DE.c fun _ => .int _) (DA.cons (DE.op (DR.i0 fun _ _ _ => .int _) (DE.c fun _ => .int _) (DE.c fun _ => .int _) NE2.i0) DA.nil)))) DG.name Goes.name (WT.name (by decide)) DT.yes (DE.call (fun _ => .nil) (DA.cons DE.var (DA.cons (DE.op DR.add DE.var (DE.c fun _ => .int _) NE2.add) DA.nil)))) DA.nil) NEL.tuple) DG.name Goes.name)
      (DS.seq (DS.asg (DE.cb DB.tuple (DA.cons (DE.call (fun _ => .nil) (DA.cons (DE.listRg1 DE.var) (DA.cons DE.var DA.nil))) DA.nil) NEL.tuple) DG.name Goes.name)
      (DS.seq (DS.ifs (DT.gc (DT.or (DT.test (DE.op DR.ne (DE.call (fun _ => .nil) (DA.cons DE.var DA.nil)) DE.var NE2.ne)) (DT.or (DT.test (DE.op DR.ne (DE.call (fun _ => .nil) (DA.cons (DE.cb DB.list (DA.cons DE.var DA.nil) NEL.list) DA.nil)) DE.var NE2.ne)) (DT.test (DE.op DR.ne (DE.call (fun _ => .nil) (DA.cons DE.var DA.nil)) DE.var NE2.ne))))) (DS.ret (DE.c fun _ => .bl _)) DS.next)
      (DS.seq (DS.asg (DE.make (fun _ => (.cons (.int _) .nil)) (show "Scripted" ∈ (["Source", "Scripted", "Draws"] : List String) by decide) (DA.cons (DE.call (fun _ => .nil) (DA.cons DE.var DA.nil)) DA.nil)) DG.name Goes.name)
      (DS.seq (DS.ifs (DT.gc (DT.or (DT.test (DE.op DR.ne (DE.cb DB.tuple (DA.cons (DE.call (fun _ => .nil) (DA.cons (DE.make (fun _ => .nil) (show "Draws" ∈ (["Source", "Scripted", "Draws"] : List String) by decide) (DA.cons DE.var DA.nil)) (DA.cons (DE.listRg1 DE.var) DA.nil))) DA.nil) NEL.tuple) DE.var NE2.ne)) (DT.test (DE.op DR.ne (DE.prop DE.var) (DE.c fun _ => .int _) NE2.ne)))) (DS.ret (DE.c fun _ => .bl _)) DS.next)
      (DS.seq (DS.asg (DE.lst DA.nil) DG.name Goes.name)
      (DS.seq (DS.forS (DI.enumU (DA.cons DE.var DA.nil)) (DG.tup (DGs.cons DG.name (DGs.cons DG.name DGs.nil))) (Goes.tup (GoesL.cons Goes.name (GoesL.cons Goes.name GoesL.nil))) (DS.drop (DE.bm DM.extendT NEM.extendT DE.var (DA.cons (DE.call (fun _ => .nil) (DA.cons (DE.tup (DA.cons (DE.c fun _ => .str _) (DA.cons (DE.op (DR.i0 fun _ _ _ => .int _) DE.var DE.var NE2.i0) DA.nil))) (DA.cons DE.var DA.nil))) DA.nil))))
      (DS.ret (DE.op DR.eq (DE.call (fun _ => .nil) (DA.cons DE.var DA.nil)) (DE.cb DB.tuple (DA.cons DE.var DA.nil) NEL.tuple) NE2.eq))))))))))⟩
def spLaw (K : PySem.W.Frag) : Sp := fun vs H Q _ => ∃ (a : Addr) (ns : List Int), vs = [.ref a] ∧ SqF K H a (ns.map V.int) ∧ LamX.Tabs [] H ∧ (∃ s', F_law [.scr (ns.map .int)] s0 = .ok (.bl true) s') ∧ ∀ H', Q (.bl true) H'
theorem fn_law (T : Txt K mg w (κ "Source") (κ "Scripted") (κ "Draws") R_SIZES) {f : Addr} {fd : FuncData} (F : C8.Def K mg "law" s_law f fd) : Gx.FnG P w K mg base 9 f fd ["_law_script_here"] (spLaw K) := by
  refine Gx.fnG_of F.fn sc_law (fun vs H Q E h => ?_) (fun cdv A outer s H vs Q gd hr h => ?_)
  · obtain ⟨a, ns, rfl, _⟩ := h; rfl
  · obtain ⟨a, ns, rfl, hS, tb, hl, q⟩ := h
    have hu := hu_of hr
    have hu64 := hr.units
    have hu65 := Ab.u65 hr
    exact ⟨_, (pss_cons (ps_for PassesOwn.never rfl (show PI _ _ _ (Ab.enU K _) by exact Ab.PI.or (pi_enum (by rfl) T.b_enumerate (pa_cons (pe_op (show OpR _ _ (Ab.rAddU K) by exact Ab.op_addU) (pe_slice (show SlR _ (Ab.rSlU K) by exact Ab.sl_U) (pv 0) po_none (po_some pe_int)) (pe_lst (pa_cons (pe_callB (show CallR _ _ (rSum K) by exact cr_sum rfl) (by rfl) T.b_sum (by decide +kernel) (pa_cons (pv 0) pa_nil)) pa_nil))) pa_nil)) (Gx.pi_enT (by rfl) T.b_enumerate (pa_cons (pe_op (show OpR _ _ (Ab.rAddU K) by exact Ab.op_addU) (pe_slice (show SlR _ (Ab.rSlU K) by exact Ab.sl_U) (pv 0) po_none (po_some pe_int)) (pe_lst (pa_cons (pe_callB (show CallR _ _ (rSum K) by exact cr_sum rfl) (by rfl) T.b_sum (by decide +kernel) (pa_cons (pv 0) pa_nil)) pa_nil))) pa_nil))) (show PG _ _ (gTup K 2 _) by exact pg_tup rfl (pgs_cons (pg_name (i := 1) sc_law.nd rfl (.inl rfl)) (pgs_cons (pg_name (i := 2) sc_law.nd rfl (.inl rfl)) pgs_nil))) (pss_cons (ps_set (i := 3) sc_law.nd rfl (.inl rfl) (Gx.pe_cx (calx__law_draw T) LamX.takes0 (E := fun _ _ _ => False) (fun _ _ _ _ h => h) hr (by omega) (by rfl) (pa_cons (pv 2) (pa_cons (pv 1) pa_nil))))
      (pss_one (ps_for PassesOwn.never rfl (pi_range1 rfl T.b_range (pa_cons pe_int pa_nil)) (pg_name (i := 4) sc_law.nd rfl (.inl rfl)) (pss_one (ps_if (PW.pt (pw_or (pt_not (pt_val (Gx.pe_g (cal__law_shuffle_right T) gd hr (by omega) (by rfl) (pa_cons (pv 3) pa_nil)))) (pw_or1 (pt_not (pt_val (Gx.pe_cx (calx__law_inverse_right T) LamX.takes0 (E := fun _ _ _ => False) (fun _ _ _ _ h => h) hr (by omega) (by rfl) (pa_cons (pv 3) pa_nil))))))) (pss_one (ps_ret pe_bl)) pss_nil))))))
      (pss_one (ps_ret (Gx.pe_cx0 (calx__law_all_right T) LamX.takes0 (E := fun _ _ _ => False) (fun _ _ _ _ h => h) hr (by omega) (by rfl))))), law_run (W := (Wk K κ)) (fun _ => trivial) hS tb hl rfl (DS.seq (DS.forS (DI.enumU (DA.cons (DE.op DR.add (DE.sl DE.var DO.no (DO.part (DE.c fun _ => .int _))) (DE.lst (DA.cons (DE.cb DB.sum (DA.cons DE.var DA.nil) NEL.sum) DA.nil)) NE2.add) DA.nil)) (DG.tup (DGs.cons DG.name (DGs.cons DG.name DGs.nil))) (Goes.tup (GoesL.cons Goes.name (GoesL.cons Goes.name GoesL.nil))) (DS.seq (DS.asg (DE.call (fun _ => .nil) (DA.cons DE.var (DA.cons DE.var DA.nil))) DG.name Goes.name)
      (DS.forS (DI.rng1 (DA.cons (DE.c fun _ => .int _) DA.nil)) DG.name Goes.name (DS.ifs (DT.gc (DT.or (DT.not (DT.b (DE.call (Ek := C8.E0) (fun _ => .nil) (DA.cons DE.var DA.nil)))) (DT.not (DT.b (DE.call (fun _ => .nil) (DA.cons DE.var DA.nil)))))) (DS.ret (DE.c fun _ => .bl _)) DS.next))))
      (DS.ret (DE.call (fun _ => .nil) DA.nil))) q⟩
end
end Pf
set_option linter.all false
set_option maxRecDepth 100000
namespace TW
/-- the exclusive or of the items behind b whose places are digits of p -/
def act : Nat → Nat → (Nat → Nat) → Nat → Nat
  | 0, _, _, _ => 0
  | n + 1, p, u, b => (if p % 2 = 1 then u b else 0) ^^^ act n (p / 2) u (b + 1)
theorem xor4 (a b c d : Nat) : (a ^^^ b) ^^^ (c ^^^ d) = (a ^^^ c) ^^^ (b ^^^ d) := by
  rw [Nat.xor_assoc, Nat.xor_assoc, ← Nat.xor_assoc b c d, Nat.xor_comm b c, Nat.xor_assoc c b d]
theorem xor_mod2 (p q : Nat) : (p ^^^ q) % 2 = (p % 2 + q % 2) % 2 := by
  have h := Nat.testBit_xor p q 0
  simp only [Nat.testBit_zero] at h
  have a := Nat.mod_two_eq_zero_or_one p
  have b := Nat.mod_two_eq_zero_or_one q
  have c := Nat.mod_two_eq_zero_or_one (p ^^^ q)
  rcases a with a | a <;> rcases b with b | b <;> rcases c with c | c <;> simp [a, b, c] at h ⊢
theorem xor_div2 (p q : Nat) : (p ^^^ q) / 2 = (p / 2) ^^^ (q / 2) := by
  simpa [Nat.shiftRight_eq_div_pow] using @Nat.shiftRight_xor_distrib 1 p q
theorem act_xor : ∀ (n p q : Nat) (u : Nat → Nat) (b : Nat), act n (p ^^^ q) u b = act n p u b ^^^ act n q u b
  | 0, p, q, u, b => by simp [act]
  | n + 1, p, q, u, b => by
    unfold act
    rw [xor_div2, act_xor n, xor_mod2, xor4]
    congr 1
    rcases Nat.mod_two_eq_zero_or_one p with a | a <;> rcases Nat.mod_two_eq_zero_or_one q with c | c <;> simp [a, c]
theorem act_zero : ∀ (n : Nat) (u : Nat → Nat) (b : Nat), act n 0 u b = 0
  | 0, u, b => rfl
  | n + 1, u, b => by unfold act; simp [act_zero n]
theorem act_shift : ∀ (n p : Nat) (u : Nat → Nat) (b k : Nat), act n p (fun b => u (b + k)) b = act n p u (b + k)
  | 0, p, u, b, k => rfl
  | n + 1, p, u, b, k => by
    unfold act
    rw [act_shift n, show b + 1 + k = b + k + 1 by omega]
theorem act_fuel : ∀ (n m p : Nat) (u : Nat → Nat) (b : Nat), p < 2 ^ n → n ≤ m → act m p u b = act n p u b
  | 0, m, p, u, b, h, _ => by
    have : p = 0 := by simpa using h
    rw [this, act_zero]; rfl
  | n + 1, 0, p, u, b, h, k => by omega
  | n + 1, m + 1, p, u, b, h, k => by
    unfold act
    rw [act_fuel n m (p / 2) u (b + 1) (by rw [Nat.pow_succ] at h; omega) (by omega)]
theorem act_ext : ∀ (n p : Nat) (u v : Nat → Nat) (b : Nat), (∀ i, b ≤ i → u i = v i) → act n p u b = act n p v b
  | 0, p, u, v, b, h => rfl
  | n + 1, p, u, v, b, h => by
    unfold act
    rw [h b (Nat.le_refl b), act_ext n (p / 2) u v (b + 1) fun i hi => h i (by omega)]
def A (p : Nat) (u : Nat → Nat) (b : Nat) : Nat := act p p u b
theorem A_fuel {n p : Nat} (h : p < 2 ^ n) (u : Nat → Nat) (b : Nat) : A p u b = act n p u b := by
  unfold A
  rcases Nat.le_total n p with k | k
  · exact act_fuel n p p u b h k
  · exact (act_fuel p n p u b Nat.lt_two_pow_self k).symm
theorem lt_big {p n : Nat} (h : p ≤ n) : p < 2 ^ n := Nat.lt_of_lt_of_le Nat.lt_two_pow_self (Nat.pow_le_pow_right (by decide) h)
theorem A_xor (p q : Nat) (u : Nat → Nat) (b : Nat) : A (p ^^^ q) u b = A p u b ^^^ A q u b := by
  rw [A_fuel (lt_big (n := p + q + (p ^^^ q)) (by omega)), A_fuel (p := p) (lt_big (n := p + q + (p ^^^ q)) (by omega)), A_fuel (p := q) (lt_big (n := p + q + (p ^^^ q)) (by omega)), act_xor]
theorem A_zero (u : Nat → Nat) (b : Nat) : A 0 u b = 0 := rfl
theorem A_step (p : Nat) (u : Nat → Nat) (b : Nat) : A p u b = (if p % 2 = 1 then u b else 0) ^^^ A (p / 2) u (b + 1) := by
  rw [A_fuel (lt_big (n := p + 1) (by omega)), A_fuel (p := p / 2) (lt_big (n := p) (by omega))]
  rfl
theorem A_one (u : Nat → Nat) (b : Nat) : A 1 u b = u b := by rw [A_step]; simp [A_zero]
theorem A_two (p : Nat) (u : Nat → Nat) (b : Nat) : A (2 * p) u b = A p u (b + 1) := by
  rw [A_step, show 2 * p % 2 = 0 by omega, show 2 * p / 2 = p by omega]
  simp
theorem A_shl (p : Nat) (u : Nat → Nat) : ∀ (k b : Nat), A (p * 2 ^ k) u b = A p u (b + k)
  | 0, b => by simp
  | k + 1, b => by
    rw [Nat.pow_succ, show p * (2 ^ k * 2) = 2 * (p * 2 ^ k) by rw [← Nat.mul_assoc]; exact Nat.mul_comm _ _, A_two, A_shl p u k, show b + 1 + k = b + (k + 1) by omega]
theorem A_shift (p : Nat) (u : Nat → Nat) (b k : Nat) : A p (fun b => u (b + k)) b = A p u (b + k) := act_shift p p u b k
theorem A_ext {p : Nat} {u v : Nat → Nat} {b : Nat} (h : ∀ i, b ≤ i → u i = v i) : A p u b = A p v b := act_ext p p u v b h
/-- products -/
def prodN : Nat → Nat → Nat → Nat → Nat
  | 0, f, _, _ => f
  | n + 1, f, s, r => if r = 0 then f else prodN n (if r % 2 = 1 then f ^^^ s else f) (2 * s) (r / 2)
theorem A_prodN (u : Nat → Nat) : ∀ (n f s r b : Nat), r < 2 ^ n → A (prodN n f s r) u b = A f u b ^^^ A r (A s u) b
  | 0, f, s, r, b, h => by
    have : r = 0 := by simpa using h
    subst this
    show A f u b = _
    rw [A_zero, Nat.xor_zero]
  | n + 1, f, s, r, b, h => by
    unfold prodN
    by_cases hr : r = 0
    · subst hr
      rw [if_pos rfl, A_zero, Nat.xor_zero]
    · rw [if_neg hr, A_prodN u n _ _ _ b (by rw [Nat.pow_succ] at h; omega), A_step r]
      have e : A (r / 2) (A (2 * s) u) b = A (r / 2) (A s u) (b + 1) := by
        rw [← A_shift]
        exact A_ext fun i _ => A_two s u i
      rw [e]
      by_cases h2 : r % 2 = 1
      · rw [if_pos h2, if_pos h2, A_xor, Nat.xor_assoc]
      · rw [if_neg h2, if_neg h2, Nat.zero_xor]
/-- rests -/
def len (n : Nat) : Nat := if n = 0 then 0 else n.log2 + 1
theorem len_pos {n : Nat} (h : n ≠ 0) : len n = n.log2 + 1 := if_neg h
theorem lt_len (n : Nat) : n < 2 ^ len n := by
  unfold len
  split
  · subst n; decide
  · exact Nat.lt_log2_self
theorem len_le {n k : Nat} (h : n < 2 ^ k) : len n ≤ k := by
  unfold len
  split
  · omega
  · rename_i hn
    exact (Nat.log2_lt hn).mpr h
theorem le_len {n k : Nat} (h : 2 ^ k ≤ n) : k < len n := by
  have hn : n ≠ 0 := by have := Nat.pow_pos (n := k) (show 0 < 2 by decide); omega
  rw [len_pos hn]
  exact Nat.lt_succ_of_le ((Nat.le_log2 hn).mpr h)
theorem len_ge {n : Nat} (h : n ≠ 0) : 2 ^ (len n - 1) ≤ n := by
  rw [len_pos h]
  exact Nat.log2_self_le h
/-- the highest digits go away -/
theorem top_xor {k a b : Nat} (ha : 2 ^ k ≤ a) (ha2 : a < 2 ^ (k + 1)) (hb : 2 ^ k ≤ b) (hb2 : b < 2 ^ (k + 1)) : a ^^^ b < 2 ^ k := by
  refine Nat.lt_pow_two_of_testBit _ fun i hi => ?_
  rw [Nat.testBit_xor]
  rcases Nat.lt_or_ge k i with h | h
  · rw [Nat.testBit_lt_two_pow (Nat.lt_of_lt_of_le ha2 (Nat.pow_le_pow_right (by decide) h)), Nat.testBit_lt_two_pow (Nat.lt_of_lt_of_le hb2 (Nat.pow_le_pow_right (by decide) h))]
    rfl
  · have e : i = k := by omega
    subst e
    have t : ∀ c, 2 ^ i ≤ c → c < 2 ^ (i + 1) → c.testBit i = true := fun c h1 h2 => by
      rw [Nat.testBit_eq_decide_div_mod_eq]
      have : c / 2 ^ i = 1 := by
        rw [Nat.pow_succ] at h2
        exact Nat.div_eq_of_lt_le (by omega) (by omega)
      rw [this]
      decide
    rw [t a ha ha2, t b hb hb2]
    rfl
/-- a step of a division: the rest's highest digit goes -/
theorem len_step {r m : Nat} (hm : m ≠ 0) (h : len m ≤ len r) : len (r ^^^ m * 2 ^ (len r - len m)) < len r := by
  have hr : r ≠ 0 := fun z => by
    subst z
    have : len 0 = 0 := rfl
    have : len m = m.log2 + 1 := len_pos hm
    omega
  have lr := len_pos hr
  have lm := len_pos hm
  have r1 := lt_len r
  have r2 := len_ge hr
  have m1 := lt_len m
  have m2 := len_ge hm
  have e : ∀ a b : Nat, a ≤ b → 2 ^ a * 2 ^ (b - a) = 2 ^ b := fun a b hab => by rw [← Nat.pow_add]; congr 1; omega
  have := top_xor (k := len r - 1) (a := r) (b := m * 2 ^ (len r - len m)) r2 (by rw [show len r - 1 + 1 = len r by omega]; exact r1)
    (by
      have := Nat.mul_le_mul_right (2 ^ (len r - len m)) m2
      rw [show len r - len m = (len r - 1) - (len m - 1) by omega] at this ⊢
      rw [e _ _ (by omega)] at this
      exact this)
    (by
      rw [show len r - 1 + 1 = len r by omega]
      have := Nat.mul_lt_mul_of_pos_right m1 (Nat.pow_pos (n := len r - len m) (show 0 < 2 by decide))
      rw [e _ _ h] at this
      exact this)
  have := len_le this
  omega
def restN : Nat → Nat → Nat → Nat
  | 0, r, _ => r
  | n + 1, r, m => if len m ≤ len r then restN n (r ^^^ m * 2 ^ (len r - len m)) m else r
theorem A_restN {m : Nat} {u : Nat → Nat} (hm : ∀ b, A m u b = 0) : ∀ (n r b : Nat), A (restN n r m) u b = A r u b
  | 0, r, b => rfl
  | n + 1, r, b => by
    unfold restN
    split
    · rw [A_restN hm n, A_xor, A_shl, hm, Nat.xor_zero]
    · rfl
theorem restN_lt {m : Nat} (hm : m ≠ 0) : ∀ (n r : Nat), len r < n + len m → len (restN n r m) < len m
  | 0, r, h => by unfold restN; omega
  | n + 1, r, h => by
    unfold restN
    split
    · rename_i hl
      refine restN_lt hm n _ ?_
      have := len_step hm hl
      omega
    · omega
abbrev RULE : Nat := 2147483657
abbrev PER : Nat := 2147483647
def Rec (u : Nat → Nat) : Prop := ∀ i, u (i + 31) = u i ^^^ u (i + 3)
theorem Rec.shift {u : Nat → Nat} (h : Rec u) (k : Nat) : Rec fun i => u (i + k) := fun i => by
  have := h (i + k)
  rw [show i + k + 31 = i + 31 + k by omega, show i + k + 3 = i + 3 + k by omega] at this
  exact this
theorem xor_self3 (a b : Nat) : a ^^^ (b ^^^ (a ^^^ b)) = 0 := by
  rw [Nat.xor_comm a b, ← Nat.xor_assoc b b a, Nat.xor_self, Nat.zero_xor, Nat.xor_self]
theorem A_rule {u : Nat → Nat} (h : Rec u) (b : Nat) : A RULE u b = 0 := by
  have e : RULE = 1 ^^^ (1 * 2 ^ 3 ^^^ 1 * 2 ^ 31) := by decide
  rw [e, A_xor, A_xor, A_shl, A_shl, A_one, A_one, A_one, h b]
  exact xor_self3 _ _
/-- a polynomial that does what k steps do -/
def Does (p k : Nat) : Prop := ∀ u, Rec u → ∀ b, A p u b = u (b + k)
theorem Does.one : Does 1 0 := fun u _ b => A_one u b
theorem Does.two : Does 2 1 := fun u _ b => by rw [show (2 : Nat) = 2 * 1 from rfl, A_two, A_one]
theorem Does.rest {p k n : Nat} (h : Does p k) : Does (restN n p RULE) k := fun u hu b => by rw [A_restN (A_rule hu)]; exact h u hu b
theorem Does.prod {p q j k n : Nat} (h : Does p j) (g : Does q k) (hn : q < 2 ^ n) : Does (prodN n 0 p q) (j + k) := fun u hu b => by
  rw [A_prodN u n 0 p q b hn, A_zero, Nat.zero_xor]
  have e : A q (A p u) b = A q (fun i => u (i + j)) b := A_ext fun i _ => h u hu i
  rw [e, A_shift, g u hu, show b + j + k = b + (j + k) by omega]
/-- squares -/
def sq (p : Nat) : Nat := restN 64 (prodN 40 0 p p) RULE
def sqs : Nat → Nat → Nat
  | 0, p => p
  | n + 1, p => sqs n (sq p)
theorem len_rule : len RULE = 32 := by decide
theorem sq_lt {p : Nat} (h : len (prodN 40 0 p p) < 96) : len (sq p) < 32 := by
  have := restN_lt (m := RULE) (by decide) 64 (prodN 40 0 p p) (by rw [len_rule]; omega)
  rw [len_rule] at this
  exact this
/-- 31 squares of t are t -/
theorem sqs31 : sqs 31 2 = 2 := by decide +kernel
theorem prodN_lt : ∀ (n f s r k : Nat), f < 2 ^ (k + n) → s < 2 ^ k → prodN n f s r < 2 ^ (k + n)
  | 0, f, s, r, k, h, _ => h
  | n + 1, f, s, r, k, h, hs => by
    unfold prodN
    split
    · exact h
    · rw [show k + (n + 1) = (k + 1) + n by omega] at h ⊢
      refine prodN_lt n _ _ _ (k + 1) ?_ (by rw [Nat.pow_succ]; omega)
      split
      · exact Nat.xor_lt_two_pow h (Nat.lt_of_lt_of_le hs (Nat.pow_le_pow_right (by decide) (by omega)))
      · exact h
theorem sq_ok {p k : Nat} (h : Does p k) (hp : len p < 32) : Does (sq p) (2 * k) ∧ len (sq p) < 32 := by
  have h31 : p < 2 ^ 31 := Nat.lt_of_lt_of_le (lt_len p) (Nat.pow_le_pow_right (by decide) (by omega))
  refine ⟨?_, sq_lt ?_⟩
  · rw [show 2 * k = k + k by omega]
    exact (h.prod h (n := 40) (Nat.lt_of_lt_of_le h31 (by decide))).rest
  · have := len_le (prodN_lt 40 0 p p 31 (Nat.pow_pos (by decide)) h31)
    omega
theorem sqs_ok : ∀ (n : Nat) {p k : Nat}, Does p k → len p < 32 → Does (sqs n p) (k * 2 ^ n) ∧ len (sqs n p) < 32
  | 0, p, k, h, hp => ⟨by rw [Nat.pow_zero, Nat.mul_one]; exact h, hp⟩
  | n + 1, p, k, h, hp => by
    obtain ⟨a, b⟩ := sq_ok h hp
    have := sqs_ok n a b
    rw [show k * 2 ^ (n + 1) = 2 * k * 2 ^ n by rw [Nat.pow_succ, ← Nat.mul_assoc, Nat.mul_comm (k * 2 ^ n) 2, ← Nat.mul_assoc]]
    exact this
theorem does31 : Does 2 (2 ^ 31) := by
  have := (sqs_ok 31 Does.two (by decide)).1
  rw [sqs31, Nat.one_mul] at this
  exact this
/-- a window tells what is ahead of it and what is behind -/
theorem Rec.back {u : Nat → Nat} (h : Rec u) (i : Nat) : u i = u (i + 31) ^^^ u (i + 3) := by
  rw [h i, Nat.xor_assoc, Nat.xor_self, Nat.xor_zero]
theorem Rec.same {u v : Nat → Nat} (hu : Rec u) (hv : Rec v) {n : Nat} (h : ∀ i, i < 31 → u (n + i) = v (n + i)) : ∀ i, u i = v i := by
  have up : ∀ k i, n ≤ i → i < n + k → u i = v i := by
    intro k
    induction k with
    | zero => intro i h1 h2; omega
    | succ k ih =>
      intro i h1 h2
      by_cases hi : i < n + 31
      · have := h (i - n) (by omega)
        rw [show n + (i - n) = i by omega] at this
        exact this
      · have e1 := ih (i - 31) (by omega) (by omega)
        have e2 := ih (i - 28) (by omega) (by omega)
        have a := hu (i - 31)
        have b := hv (i - 31)
        rw [show i - 31 + 31 = i by omega, show i - 31 + 3 = i - 28 by omega] at a b
        rw [a, b, e1, e2]
  have down : ∀ k i, n ≤ i + k → u i = v i := by
    intro k
    induction k with
    | zero => intro i hi; exact up (i + 1) i hi (by omega)
    | succ k ih =>
      intro i hi
      rw [hu.back i, hv.back i, ih (i + 31) (by omega), ih (i + 3) (by omega)]
  exact fun i => down n i (by omega)
theorem Rec.per {u : Nat → Nat} (h : Rec u) (i : Nat) : u (i + PER) = u i := by
  have e : ∀ j, u (j + 1 + PER) = u (j + 1) := fun j => by
    have a := does31 u h j
    have b := Does.two u h j
    rw [a] at b
    rw [show j + 1 + PER = j + 2 ^ 31 from by show j + 1 + 2147483647 = _; omega]
    exact b
  rw [show u (i + PER) = (fun i => u (i + PER)) i from rfl]
  exact Rec.same (n := 1) (h.shift PER) h (fun j _ => by
    show u (1 + j + PER) = _
    rw [show 1 + j = j + 1 by omega]; exact e j) i
theorem Rec.pers {u : Nat → Nat} (h : Rec u) (i : Nat) : ∀ k, u (i + PER * k) = u i
  | 0 => rfl
  | k + 1 => by rw [show i + PER * (k + 1) = i + PER * k + PER by rw [Nat.mul_succ, Nat.add_assoc], h.per, Rec.pers h i k]
theorem Rec.mod {u : Nat → Nat} (h : Rec u) (i n : Nat) : u (i + n % PER) = u (i + n) := by
  have := h.pers (i + n % PER) (n / PER)
  rw [show i + n % PER + PER * (n / PER) = i + n by have := Nat.mod_add_div n PER; omega] at this
  exact this.symm
/-- a power of t -/
theorem Does.step {f q a b : Nat} (hf : Does f a) (hq : Does q b) (lf : len f < 32) (lq : len q < 32) : Does (restN 64 (prodN 31 0 f q) RULE) (a + b) ∧ len (restN 64 (prodN 31 0 f q) RULE) < 32 := by
  have q31 : q < 2 ^ 31 := Nat.lt_of_lt_of_le (lt_len q) (Nat.pow_le_pow_right (by decide) (by omega))
  have f31 : f < 2 ^ 31 := Nat.lt_of_lt_of_le (lt_len f) (Nat.pow_le_pow_right (by decide) (by omega))
  refine ⟨(hf.prod hq q31).rest, ?_⟩
  have h := len_le (prodN_lt 31 0 f q 31 (Nat.pow_pos (by decide)) f31)
  have := restN_lt (m := RULE) (by decide) 64 (prodN 31 0 f q) (by rw [len_rule]; omega)
  rw [len_rule] at this
  exact this
end TW
set_option Elab.async false
set_option linter.all false
set_option maxRecDepth 100000
set_option maxHeartbeats 1000000
set_option exponentiation.threshold 3000
namespace Pf
open PySem Ab
theorem gcT_f {f : AT} {σ : ASt} {s : Sto} {b : Bool} (h : f σ s = .ok b s) : gcT f σ s = .ok b s := gcT0 h (.refl s) (cut_self s)
theorem z1 : ((1 : Nat) ≤ sizeLine) = True := eq_true (by decide)
theorem z2 : ((2 : Nat) ≤ sizeLine) = True := eq_true (by decide)
theorem z3 : ((3 : Nat) ≤ sizeLine) = True := eq_true (by decide)
theorem z4 : ((4 : Nat) ≤ sizeLine) = True := eq_true (by decide)
theorem z5 : ((5 : Nat) ≤ sizeLine) = True := eq_true (by decide)
theorem z6 : ((6 : Nat) ≤ sizeLine) = True := eq_true (by decide)
theorem z7 : ((7 : Nat) ≤ sizeLine) = True := eq_true (by decide)
theorem z8 : ((8 : Nat) ≤ sizeLine) = True := eq_true (by decide)
theorem z9 : ((9 : Nat) ≤ sizeLine) = True := eq_true (by decide)
theorem z10 : ((10 : Nat) ≤ sizeLine) = True := eq_true (by decide)
theorem z11 : ((11 : Nat) ≤ sizeLine) = True := eq_true (by decide)
theorem z12 : ((12 : Nat) ≤ sizeLine) = True := eq_true (by decide)
theorem z13 : ((13 : Nat) ≤ sizeLine) = True := eq_true (by decide)
theorem z14 : ((14 : Nat) ≤ sizeLine) = True := eq_true (by decide)
theorem z15 : ((15 : Nat) ≤ sizeLine) = True := eq_true (by decide)
theorem z16 : ((16 : Nat) ≤ sizeLine) = True := eq_true (by decide)
local macro_rules | `(tactic| simp! [$xs,*]) => `(tactic| try simp (config := {maxSteps := 1000000}) only [k_bind, k_Kb, k_st, k_Kst, k_Rst, k_thn, k_loop, k_fn, k_forget, k_clr, k_noX, k_try, k_stuck, k_Astuck, d_thn_nx, d_thn_bk, d_thn_ct, d_thn_rt, d_thn_er, d_lp_nx, d_lp_bk, d_lp_ct, d_lp_rt, d_lp_er, d_fg_nx, d_fg_bk, d_fg_ct, d_fg_rt, d_fg_er, d_cl_nx, d_cl_bk, d_cl_ct, d_cl_rt, d_cl_er, d_tr_nx, d_tr_bk, d_tr_ct, d_tr_rt, d_tr_er, d_nX_nx, d_nX_bk, d_nX_ct, d_nX_rt, d_nX_er, d_fn_nx, d_fn_bk, d_fn_ct, d_fn_rt, d_fn_er, A_nx, A_bk, A_ct, A_rt, A_err, post_ok, post_err, post_noErr, e_op, e_opK, e_un, e_cb, e_nil, e_c, e_cons, e_consK, e_consK2, e_and, e_or, e_andK, e_orK, e_not, e_notK, e_test, e_testK, e_tand, e_tandK, e_tor, e_torK, e_tnot, e_tnotK, e_yes, e_if, e_ifK, e_ch, e_chK1, e_chK2, e_chK3, e_tup, e_tupK, e_lst, e_lstK, e_newL, e_call, e_callK, e_meth, e_methK, e_methK2, e_prop, e_propK, e_make, e_makeK, e_makeK2, e_makeV, e_sm, e_smK, e_smK2, e_cm, e_cmK, e_cmK2, e_sl, e_slK1, e_slK2, e_slK3, e_part, e_partK, e_nopart, e_rev, e_bm, e_bmK, e_pr, e_pr0, e_prK1, e_prK2, e_prK3, e_disp, e_dnew, e_own, e_ownK, e_lc, e_lcK, e_iter, e_rng1, e_rng1K, e_rng2, e_rng2K, e_enum, s_drop, s_dropK, s_ret, s_retK, s_retN, s_next, s_break, s_cont, s_seq, s_if, s_ifK, s_asg, s_asgK, s_name, s_par, s_parK, s_par3, s_parK3, s_gnil, s_gcons, s_gtup, s_for, s_forK, s_raise, s_raiseK, s_sf, s_sfK1, s_sfK2, s_dp, s_dpK1, s_dpK2, s_dpK3, s_forget, s_def, s_fld, e_enumU, e_enumUT, e_match, e_mcase, e_mcase2, e_many, e_mnil, e_lcX, e_lcXK, e_get2, e_methS, e_methS1, e_methS2, s_augS, s_augS1, gEqS_int, gEqS_str, gEqS_bl, gEqS_tup, eq_self, beq_self_eq_true, k_grd, k_grdS, k_ite, k_Aite, true_implies, false_implies, implies_true, List.map_cons, List.map_nil, List.nil_append, List.cons_append, List.append_nil, List.replicate_succ, List.replicate_zero, List.getElem?_cons_zero, List.getElem?_cons_succ, List.length_cons, List.length_nil, List.set_cons_zero, List.set_cons_succ, ↓reduceIte, ↓reduceDIte, Nat.reduceAdd, Nat.reduceLeDiff, Nat.reduceEqDiff, Nat.zero_add, if_true, if_false, aVar, gMinus_int, gLt_int, gLe_int, gGt_int, gGe_int, gEq_int, gNe_int, gEq_str, gNe_str, gEq_bl, gNe_bl, gXor_int, gAnd_int, gOr_int, gAdd_int, gIsN_non, gNotN_non, gIsB_bl, gNotB_bl, gNeg_int, gLen_tup, gLen_scr, gMax2_int, gMin2_int, gBits_int, gSl_tup, gSl_scr, Bool.not_true, Bool.not_false, Bool.true_eq_false, Bool.false_eq_true, Bool.true_and, Bool.false_and, Bool.and_true, Bool.and_false, Bool.true_or, Bool.false_or, decide_true, decide_false, and_self, and_true, true_and, and_false, false_and, not_true_eq_false, not_false_eq_true, reduceCtorEq, kz, z1, z2, z3, z4, z5, z6, z7, z8, z9, z10, z11, z12, z13, z14, z15, z16, isCls, isNon, aForget, aHand, toKey, keysA, iterOf_tup, iterOf_scr, oNx_some, noErr_ok, decide_eq_true_eq, decide_eq_false_iff_not, Sto.new_n, Sto.set_n, Sto.set_at, Sto.new_at, Nat.zero_le, aMakeV, Cl_non, Cl_bl, Cl_int, Cl_str, Cl_cls, Cl_obj, Cl_tup, ClL_nil, ClL_cons, $xs,*])
local macro_rules | `(tactic| simp! only [$xs,*]) => `(tactic| simp only [e_op, e_opK, e_un, e_cb, e_nil, e_c, e_cons, e_consK, e_consK2, e_and, e_or, e_andK, e_orK, e_not, e_notK, e_test, e_testK, e_tand, e_tandK, e_tor, e_torK, e_tnot, e_tnotK, e_yes, e_if, e_ifK, e_ch, e_chK1, e_chK2, e_chK3, e_tup, e_tupK, e_lst, e_lstK, e_newL, e_call, e_callK, e_meth, e_methK, e_methK2, e_prop, e_propK, e_make, e_makeK, e_makeK2, e_makeV, e_sm, e_smK, e_smK2, e_cm, e_cmK, e_cmK2, e_sl, e_slK1, e_slK2, e_slK3, e_part, e_partK, e_nopart, e_rev, e_bm, e_bmK, e_pr, e_pr0, e_prK1, e_prK2, e_prK3, e_disp, e_dnew, e_own, e_ownK, e_lc, e_lcK, e_iter, e_rng1, e_rng1K, e_rng2, e_rng2K, e_enum, s_drop, s_dropK, s_ret, s_retK, s_retN, s_next, s_break, s_cont, s_seq, s_if, s_ifK, s_asg, s_asgK, s_name, s_par, s_parK, s_par3, s_parK3, s_gnil, s_gcons, s_gtup, s_for, s_forK, s_raise, s_raiseK, s_sf, s_sfK1, s_sfK2, s_dp, s_dpK1, s_dpK2, s_dpK3, s_forget, s_def, s_fld, e_enumU, e_enumUT, e_match, e_mcase, e_mcase2, e_many, e_mnil, e_lcX, e_lcXK, e_get2, e_methS, e_methS1, e_methS2, s_augS, s_augS1, gEqS_int, gEqS_str, gEqS_bl, gEqS_tup, eq_self, beq_self_eq_true, true_implies, false_implies, implies_true, List.map_cons, List.map_nil, List.nil_append, List.cons_append, List.append_nil, List.replicate_succ, List.replicate_zero, List.getElem?_cons_zero, List.getElem?_cons_succ, List.length_cons, List.length_nil, List.set_cons_zero, List.set_cons_succ, ↓reduceIte, ↓reduceDIte, Nat.reduceAdd, Nat.reduceLeDiff, Nat.reduceEqDiff, Nat.zero_add, if_true, if_false, aVar, gMinus_int, gLt_int, gLe_int, gGt_int, gGe_int, gEq_int, gNe_int, gEq_str, gNe_str, gEq_bl, gNe_bl, gXor_int, gAnd_int, gOr_int, gAdd_int, gIsN_non, gNotN_non, gIsB_bl, gNotB_bl, gNeg_int, gLen_tup, gLen_scr, gMax2_int, gMin2_int, gBits_int, gSl_tup, gSl_scr, Bool.not_true, Bool.not_false, Bool.true_eq_false, Bool.false_eq_true, Bool.true_and, Bool.false_and, Bool.and_true, Bool.and_false, Bool.true_or, Bool.false_or, decide_true, decide_false, and_self, and_true, true_and, and_false, false_and, not_true_eq_false, not_false_eq_true, reduceCtorEq, kz, z1, z2, z3, z4, z5, z6, z7, z8, z9, z10, z11, z12, z13, z14, z15, z16, isCls, isNon, aForget, aHand, toKey, keysA, iterOf_tup, iterOf_scr, oNx_some, noErr_ok, decide_eq_true_eq, decide_eq_false_iff_not, Sto.new_n, Sto.set_n, Sto.set_at, Sto.new_at, Nat.zero_le, aMakeV, Cl_non, Cl_bl, Cl_int, Cl_str, Cl_cls, Cl_obj, Cl_tup, ClL_nil, ClL_cons, grd_pos, grdS_pos, Res.bind_ok, Res.bind_err, Res.st_ok, Res.st_err, SRes.thn_nx, SRes.thn_rt, SRes.thn_err, SRes.fn_rt, SRes.fn_nx, SRes.fn_err, SRes.loop_nx, SRes.loop_rt, SRes.loop_err, SRes.loop_ct, SRes.loop_bk, SRes.forget_nx, SRes.forget_rt, SRes.forget_err, SRes.clr_nx, SRes.clr_rt, SRes.noX_nx, SRes.noX_rt, aTry, sizeLine_ge, $xs,*])
theorem isi_ty {x : AV} {a n : String} {r : Bool} {s : Sto} (h1 : tyN s x = some a) (h2 : kitP a n = some r) (h3 : n ∈ bnames) : gIsi (kitB n) [x, .ty n] s = .ok (.bl r) s := gIsi_ty h1 (by rw [kitB_self]; exact h2) h3
theorem isi_cls {x : AV} {a n : String} {r : Bool} {s : Sto} (h1 : tyN s x = some a) (h2 : kitP a n = some r) (h3 : n ∉ bnames) : gIsi (kitB n) [x, .cls n] s = .ok (.bl r) s := gIsi_cls h1 (by rw [kitB_self]; exact h2) h3
theorem is_int (i : Int) (s : Sto) : F_is_integer [.int i] s = .ok (.bl true) s := by
  refine gc0 ?_ (by simp)
  have h1 : gIsi (kitB "int") [.int i, .ty "int"] s = .ok (.bl true) s := isi_ty (a := "int") rfl (by decide) (by decide)
  have h2 : gIsi (kitB "bool") [.int i, .ty "bool"] s = .ok (.bl false) s := isi_ty (a := "int") rfl (by decide) (by decide)
  simp! only [B_is_integer, h1, h2]
theorem gc0' {F : List AV → Sto → Res AV} {args : List AV} {s : Sto} {v : AV} (h : (F args s).Post (fun v' s' => v' = v ∧ Cl s.n v ∧ Gb s s') (fun _ _ _ _ => False)) : gcF F args s = .ok v s :=
  res_ok (gcF_g (h.mono (fun v' s' z => ⟨z.1 ▸ z.2.1, z.2.2, z.1, rfl⟩) fun _ _ _ _ z => z.elim))
/-- a law's draws: what is left of the cell, the cell, the turns -/
abbrev drC (l c t : Int) : Cell := .dic [(.inr "left", .int l), (.inr "cell", .int c), (.inr "turns", .int t)]
structure Dr (d : Nat) (s : Sto) (B : Nat) : Prop where
  lt : d < s.n
  ex : ∃ l c t : Int, s.c d = drC l c t ∧ 0 ≤ l ∧ 0 ≤ t ∧ t ≤ B
/-- all but d stays -/
def Upto (d : Nat) (s s' : Sto) : Prop := s'.n = s.n ∧ ∀ i, i ≠ d → s'.c i = s.c i
theorem Upto.refl (d : Nat) (s : Sto) : Upto d s s := ⟨rfl, fun _ _ => rfl⟩
theorem Upto.trans {d : Nat} {s s1 s2 : Sto} (a : Upto d s s1) (b : Upto d s1 s2) : Upto d s s2 := ⟨b.1.trans a.1, fun i h => (b.2 i h).trans (a.2 i h)⟩
theorem Upto.set {d : Nat} {s : Sto} {x : Cell} : Upto d s (s.set d x) := ⟨rfl, fun i h => Sto.set_ne h⟩
theorem k12 : ¬ (("left" : Str) = "cell") := by decide
theorem k13 : ¬ (("left" : Str) = "turns") := by decide
theorem k21 : ¬ (("cell" : Str) = "left") := by decide
theorem k23 : ¬ (("cell" : Str) = "turns") := by decide
theorem k31 : ¬ (("turns" : Str) = "left") := by decide
theorem k32 : ¬ (("turns" : Str) = "cell") := by decide
theorem sz3 : (3 : Nat) < sizeLine := by decide
theorem drG1 {s : Sto} {d : Nat} {l c t : Int} (h : s.c d = drC l c t) : gDGet (.obj d) (.str "left") s = .ok (.int l) s := gDGet_obj h rfl (by simp [valA])
theorem drG2 {s : Sto} {d : Nat} {l c t : Int} (h : s.c d = drC l c t) : gDGet (.obj d) (.str "cell") s = .ok (.int c) s := gDGet_obj h rfl (by simp [valA, k12])
theorem drG3 {s : Sto} {d : Nat} {l c t : Int} (h : s.c d = drC l c t) : gDGet (.obj d) (.str "turns") s = .ok (.int t) s := gDGet_obj h rfl (by simp [valA, k13, k23])
theorem drS1 {s : Sto} {d : Nat} {l c t v : Int} (h : s.c d = drC l c t) : setD (.obj d) (.str "left") (.int v) s = some (s.set d (drC v c t)) := by
  rw [setD_obj h rfl sz3]
  simp [putKA, k21, k31]
theorem drS3 {s : Sto} {d : Nat} {l c t v : Int} (h : s.c d = drC l c t) : setD (.obj d) (.str "turns") (.int v) s = some (s.set d (drC l c v)) := by
  rw [setD_obj h rfl sz3]
  simp [putKA, k13, k23]
theorem cmul {i j : Int} {m n : Nat} (hi : i.natAbs < 2 ^ m) (hj : j.natAbs < 2 ^ n) (h : m + n ≤ 134217728) : L2.CMulX i j := by
  have h1 := PySem.intBits_le_iff.mpr hi
  have h2 := PySem.intBits_le_iff.mpr hj
  show (Builtin.Int.intBits i : Int) + (Builtin.Int.intBits j : Int) ≤ 134217728
  omega
theorem gMul_ok {i j : Int} {m n : Nat} {s : Sto} (hi : i.natAbs < 2 ^ m) (hj : j.natAbs < 2 ^ n) (h : m + n ≤ 134217728) : gMul (.int i) (.int j) s = .ok (.int (i * j)) s := gMul_int (cmul hi hj h)
theorem seq_new {s : Sto} {xs : List AV} : seqOf (s.new (.lst xs)) (.obj s.n) = some xs := seqOf_obj Sto.new_at
theorem pick4 (s : Sto) (t : Int) : ∃ m : Int, 0 < m ∧ m < 2147483648 ∧ gIx (.obj s.n) (.int (t % 4)) (s.new (.lst [.int 1000000007, .int 998244353, .int 2147483629, .int 1000000009])) = .ok (.int m) (s.new (.lst [.int 1000000007, .int 998244353, .int 2147483629, .int 1000000009])) := by
  have h : t % 4 = 0 ∨ t % 4 = 1 ∨ t % 4 = 2 ∨ t % 4 = 3 := by omega
  rcases h with h | h | h | h
  · exact ⟨1000000007, by omega, by omega, by rw [h]; exact gIx_seq seq_new rfl⟩
  · exact ⟨998244353, by omega, by omega, by rw [h]; exact gIx_seq seq_new rfl⟩
  · exact ⟨2147483629, by omega, by omega, by rw [h]; exact gIx_seq seq_new rfl⟩
  · exact ⟨1000000009, by omega, by omega, by rw [h]; exact gIx_seq seq_new rfl⟩
theorem mul_lt2 {a b m n : Nat} (ha : a < 2 ^ m) (hb : b < 2 ^ n) : a * b < 2 ^ (m + n) := by
  rw [Nat.pow_add]
  exact Nat.mul_lt_mul'' ha hb
theorem mixed_spec (c t : Int) (s : Sto) (h0 : 0 ≤ t) (h1 : t.natAbs < 2 ^ 1000) : ∃ v : Int, 0 ≤ v ∧ v < 2147483647 ∧ F__law_mixed [.int c, .int t] s = .ok (.int v) s := by
  obtain ⟨m, m0, m1, hm⟩ := pick4 s t
  have hz : (4 : Nat) ≤ sizeLine := by decide
  have e4 : ∀ s : Sto, gMod (.int t) (.int 4) s = .ok (.int (t % 4)) s := fun s => gMod_int (by decide)
  have hs : ∀ s : Sto, gMod (.int c) (.int m) s = .ok (.int (c % m)) s := fun s => gMod_int m0
  have h7 : ∀ s : Sto, gMul (.int 7919) (.int t) s = .ok (.int (7919 * t)) s := fun s => gMul_ok (m := 13) (by decide) h1 (by decide)
  have hb : (c % m + 7919 * t + 13).natAbs < 2 ^ 1020 := by
    have a1 : (c % m).natAbs < 2 ^ 31 := by have := Int.emod_nonneg c (show m ≠ 0 by omega); have := Int.emod_lt_of_pos c m0; omega
    have a2 : (7919 * t).natAbs < 2 ^ 1013 := by
      rw [Int.natAbs_mul]
      exact mul_lt2 (m := 13) (by decide) h1
    have a3 : (c % m + 7919 * t + 13).natAbs ≤ (c % m).natAbs + (7919 * t).natAbs + 13 := by omega
    have p1 : (2 : Nat) ^ 31 ≤ 2 ^ 1013 := Nat.pow_le_pow_right (by decide) (by decide)
    have p2 : (2 : Nat) ^ 1020 = 2 ^ 1013 * 128 := by rw [show (1020 : Nat) = 1013 + 7 from rfl, Nat.pow_add]
    have p3 : (128 : Nat) ≤ 2 ^ 31 := by decide
    omega
  have hq : ∀ s : Sto, gMul (.int (c % m + 7919 * t + 13)) (.int (c % m + 7919 * t + 13)) s = .ok (.int ((c % m + 7919 * t + 13) * (c % m + 7919 * t + 13))) s := fun s => gMul_ok hb hb (by decide)
  have hr : ∀ (x : Int) (s : Sto), gMod (.int x) (.int 2147483647) s = .ok (.int (x % 2147483647)) s := fun x s => gMod_int (by decide)
  have h4 : ∀ (x : Int) (s : Sto), gMul (.int (x % 2147483647)) (.int 48271) s = .ok (.int (x % 2147483647 * 48271)) s := fun x s => gMul_ok (m := 31) (n := 16) (by have := Int.emod_nonneg x (show (2147483647 : Int) ≠ 0 by decide); have := Int.emod_lt_of_pos x (show (0 : Int) < 2147483647 by decide); omega) (by decide) (by decide)
  refine ⟨(c % m + 7919 * t + 13) * (c % m + 7919 * t + 13) % 2147483647 * 48271 % 2147483647, Int.emod_nonneg _ (by decide), Int.emod_lt_of_pos _ (by decide), ?_⟩
  refine gc1 (s' := s.new (.lst [.int 1000000007, .int 998244353, .int 2147483629, .int 1000000009])) ?_ (by simp) (Clean.refl s).new (by rw [cut_new (Nat.le_refl _), cut_self])
  simp! only [B__law_mixed, hz, e4, hm, hs, h7, hq, hr, h4]
theorem set_set {s : Sto} {d : Nat} {a b : Cell} : (s.set d a).set d b = s.set d b := by
  unfold Sto.set
  simp only [Sto.mk.injEq, true_and]
  funext j
  by_cases h : j = d
  · simp [h]
  · simp [h]
noncomputable def digB : AS := aSeq (aDPut (aVar 0) (aC (.str "turns")) (aOp gAdd (aOp gDGet (aVar 0) (aC (.str "turns"))) (aC (.int 1))))
  (aDPut (aVar 0) (aC (.str "left")) (aOp gAdd (aOp gMul (aOp gDGet (aVar 0) (aC (.str "left"))) (aC (.int 2147483647))) (aCall 2 F__law_mixed [] (aCons (aOp gDGet (aVar 0) (aC (.str "cell"))) (aCons (aOp gDGet (aVar 0) (aC (.str "turns"))) aNil)))))
theorem digB_ok {d k : Nat} {s : Sto} {l c t : Int} {y z w : Option AV} (h : s.c d = drC l c t) (l0 : 0 ≤ l) (l1 : l.natAbs < 2 ^ (32 * k)) (hk : k ≤ 100) (t0 : 0 ≤ t) (t1 : (t + 1).natAbs < 2 ^ 1000) :
    ∃ l' : Int, 0 ≤ l' ∧ l'.natAbs < 2 ^ (32 * (k + 1)) ∧ digB [some (.obj d), y, z, w] s = .nx [some (.obj d), y, z, w] (s.set d (drC l' c (t + 1))) := by
  obtain ⟨v, v0, v1, hv⟩ := mixed_spec c (t + 1) (s.set d (drC l c (t + 1))) (by omega) t1
  refine ⟨l * 2147483647 + v, by have := Int.mul_nonneg l0 (show (0 : Int) ≤ 2147483647 by decide); omega, ?_, ?_⟩
  · have e : (2 : Nat) ^ (32 * (k + 1)) = 2 ^ (32 * k) * 4294967296 := by rw [show 32 * (k + 1) = 32 * k + 32 from by omega, Nat.pow_add]
    rw [e]
    have a1 : (l * 2147483647 + v).natAbs = l.natAbs * 2147483647 + v.natAbs := by
      rw [Int.natAbs_add_of_nonneg (Int.mul_nonneg l0 (by decide)) v0, Int.natAbs_mul]
      rfl
    rw [a1]
    have a2 : v.natAbs < 2147483647 := by omega
    omega
  · have g3 := drG3 h
    have s3 := drS3 (v := t + 1) h
    have h' : (s.set d (drC l c (t + 1))).c d = drC l c (t + 1) := Sto.set_at
    have g1 := drG1 h'
    have g2 := drG2 h'
    have g3' := drG3 h'
    have s1 := drS1 (v := l * 2147483647 + v) h'
    rw [set_set] at s1
    have hm : gMul (.int l) (.int 2147483647) (s.set d (drC l c (t + 1))) = .ok (.int (l * 2147483647)) (s.set d (drC l c (t + 1))) := gMul_ok l1 (n := 31) (by decide) (by omega)
    simp! only [digB, g3, s3, g1, g2, g3', hm, hv, s1]
theorem digL_ok {d : Nat} {c : Int} {y w : Option AV} : ∀ (xs : List AV) (k : Nat) (s : Sto) (l t : Int) (z : Option AV), s.c d = drC l c t → 0 ≤ l → l.natAbs < 2 ^ (32 * k) → k + xs.length ≤ 100 → 0 ≤ t → t + xs.length < 2 ^ 900 →
    ∃ (l' : Int) (z' : Option AV), 0 ≤ l' ∧ forI (fun _ => True) (agName 2) digB xs [some (.obj d), y, z, w] s = .nx [some (.obj d), y, z', w] (s.set d (drC l' c (t + xs.length)))
  | [], k, s, l, t, z, h, l0, l1, hk, t0, t1 => by
    refine ⟨l, z, l0, ?_⟩
    rw [forI_nil trivial]
    have : s.set d (drC l c (t + ([] : List AV).length)) = s := by
      unfold Sto.set
      cases s with
      | mk n cc =>
        simp only [Sto.mk.injEq, true_and]
        funext j
        by_cases e : j = d
        · subst e
          simp [← h]
        · simp [e]
    rw [this]
  | x :: xs, k, s, l, t, z, h, l0, l1, hk, t0, t1 => by
    have t2 : (t + 1).natAbs < 2 ^ 1000 := by
      have hp : (2 : Int) ^ 900 = ((2 ^ 900 : Nat) : Int) := by rw [Int.natCast_pow]; rfl
      have hq : (2 : Nat) ^ 900 ≤ 2 ^ 1000 := Nat.pow_le_pow_right (by decide) (by decide)
      rw [hp] at t1
      simp only [List.length_cons] at t1
      omega
    simp only [List.length_cons] at hk t1
    obtain ⟨l2, a1, a2, a3⟩ := digB_ok (y := y) (z := some x) (w := w) h l0 l1 (by omega) t0 t2
    obtain ⟨l3, z', b1, b2⟩ := digL_ok (y := y) (w := w) xs (k + 1) (s.set d (drC l2 c (t + 1))) l2 (t + 1) (some x) Sto.set_at a1 a2 (by omega) (by omega) (by rw [Int.add_assoc, Int.add_comm 1]; exact_mod_cast t1)
    refine ⟨l3, z', b1, ?_⟩
    rw [forI_cons trivial]
    have e : aSeq (agName 2 x) digB [some (.obj d), y, z, w] s = digB [some (.obj d), y, some x, w] s := by
      simp! only [eq_self]
    rw [e, a3, SRes.loop_nx, b2, set_set]
    congr 3
    simp only [List.length_cons]
    push_cast
    omega
theorem rng4 : rngA 0 (4 : Int).toNat = [.int 0, .int 1, .int 2, .int 3] := rfl
theorem rg4 : -(2 ^ 62) ≤ (4 : Int) ∧ (4 : Int) < 2 ^ 62 := by decide
/-- a digit is drawn -/
theorem digit_spec {d B : Nat} {s : Sto} (D : Dr d s B) (hB : B + 4 < 2 ^ 800) {n : Int} (n0 : 0 < n) (n1 : n.natAbs.log2 < 9000) :
    ∃ (v : Int) (s' : Sto), 0 ≤ v ∧ v < n ∧ Upto d s s' ∧ Dr d s' (B + 4) ∧ F__law_digit [.obj d, .int n] s = .ok (.int v) s' := by
  obtain ⟨l, c, t, h, l0, t0, tB⟩ := D.ex
  have lt := D.lt
  have fin : ∀ (l c t : Int) (s0 : Sto), s0.n = s.n → (∀ i, i ≠ d → s0.c i = s.c i) → s0.c d = drC l c t → 0 ≤ l → 0 ≤ t → t ≤ B + 4 → ∀ x, ((aSeq (aAsg (aOp gMod (aOp gDGet (aVar 0) (aC (.str "left"))) (aVar 1)) (agName 3))
      (aSeq (aDPut (aVar 0) (aC (.str "left")) (aOp gFdiv (aOp gDGet (aVar 0) (aC (.str "left"))) (aVar 1))) (aRet (aVar 3)))) [some (.obj d), some (.int n), x, none] s0).fn = .ok (.int (l % n)) (s0.set d (drC (l / n) c t)) := by
    intro l c t s0 _ _ h l0 t0 tB x
    have g1 := drG1 h
    have hm : gMod (.int l) (.int n) s0 = .ok (.int (l % n)) s0 := gMod_int n0
    have hd : gFdiv (.int l) (.int n) s0 = .ok (.int (l / n)) s0 := gFdiv_int ⟨n0, n1⟩
    have s1 := drS1 (v := l / n) h
    simp! only [g1, hm, hd, s1]
  have out : ∀ (l c t : Int) (s0 : Sto), s0.n = s.n → (∀ i, i ≠ d → s0.c i = s.c i) → s0.c d = drC l c t → 0 ≤ l → 0 ≤ t → t ≤ B + 4 → aDef 2 B__law_digit [.obj d, .int n] s = .ok (.int (l % n)) (s0.set d (drC (l / n) c t)) →
      ∃ (v : Int) (s' : Sto), 0 ≤ v ∧ v < n ∧ Upto d s s' ∧ Dr d s' (B + 4) ∧ F__law_digit [.obj d, .int n] s = .ok (.int v) s' := by
    intro l c t s0 k1 k2 k3 l0 t0 tB e
    have hc : Clean s (s0.set d (drC (l / n) c t)) := by
      refine ⟨Nat.le_of_eq k1.symm, fun i hi => ?_⟩
      by_cases hid : i = d
      · subst hid
        exact .inr (by rw [Sto.set_at]; simp [ClC])
      · exact .inl (by rw [Sto.set_ne hid]; exact k2 i hid)
    have ec : (s0.set d (drC (l / n) c t)).cut s = s.set d (drC (l / n) c t) := by
      rw [cut_set_old lt]
      have : s0.cut s = s0.cut s := rfl
      unfold Sto.cut Sto.set
      simp only [Sto.mk.injEq, true_and]
      funext j
      by_cases hj : j = d
      · simp [hj]
      · simp only [if_neg hj]
        by_cases hjn : j < s.n
        · simp [hjn, k2 j hj]
        · simp [hjn]
    refine ⟨l % n, s.set d (drC (l / n) c t), Int.emod_nonneg _ (by omega), Int.emod_lt_of_pos _ n0, Upto.set, ⟨lt, l / n, c, t, Sto.set_at, Int.ediv_nonneg l0 (by omega), t0, tB⟩, ?_⟩
    rw [← ec]
    exact gcF_eq e (by simp) hc
  have g1 := drG1 h
  by_cases hz : l = 0
  · subst hz
    obtain ⟨l', z', a1, a2⟩ := digL_ok (d := d) (c := c) (y := some (.int n)) (w := none) [.int 0, .int 1, .int 2, .int 3] 0 s 0 t none h (by omega) (by decide) (by decide) t0 (by
      have : (t : Int) ≤ B := tB
      have hp : (2 : Int) ^ 900 = ((2 ^ 900 : Nat) : Int) := by rw [Int.natCast_pow]; rfl
      have hq : (2 : Nat) ^ 800 ≤ 2 ^ 900 := Nat.pow_le_pow_right (by decide) (by decide)
      rw [hp]
      simp only [List.length_cons, List.length_nil]
      omega)
    have f := fin l' c (t + 4) (s.set d (drC l' c (t + 4))) rfl (fun i hi => Sto.set_ne hi) Sto.set_at a1 (by omega) (by omega) z'
    rw [set_set] at f
    refine out l' c (t + 4) (s.set d (drC l' c (t + 4))) rfl (fun i hi => Sto.set_ne hi) Sto.set_at a1 (by omega) (by omega) ?_
    rw [set_set]
    unfold digB at a2
    simp only [List.length_cons, List.length_nil] at a2
    simp! only [B__law_digit, g1, rg4, rng4]
    rw [show ((0 + 1 + 1 + 1 + 1 : Nat) : Int) = 4 from rfl] at a2
    rw [a2]
    exact f
  · have f := fin l c t s rfl (fun i hi => rfl) h l0 t0 (by omega) none
    refine out l c t s rfl (fun i hi => rfl) h l0 t0 (by omega) ?_
    have hz' : (decide (l = 0)) = false := decide_eq_false hz
    simp only [e_op, e_opK, e_un, e_cb, e_nil, e_c, e_cons, e_consK, e_consK2, e_and, e_or, e_andK, e_orK, e_not, e_notK, e_test, e_testK, e_tand, e_tandK, e_tor, e_torK, e_tnot, e_tnotK, e_yes, e_if, e_ifK, e_ch, e_chK1, e_chK2, e_chK3, e_tup, e_tupK, e_lst, e_lstK, e_newL, e_call, e_callK, e_meth, e_methK, e_methK2, e_prop, e_propK, e_make, e_makeK, e_makeK2, e_makeV, e_sm, e_smK, e_smK2, e_cm, e_cmK, e_cmK2, e_sl, e_slK1, e_slK2, e_slK3, e_part, e_partK, e_nopart, e_rev, e_bm, e_bmK, e_pr, e_pr0, e_prK1, e_prK2, e_prK3, e_disp, e_dnew, e_own, e_ownK, e_lc, e_lcK, e_iter, e_rng1, e_rng1K, e_rng2, e_rng2K, e_enum, s_drop, s_dropK, s_ret, s_retK, s_retN, s_next, s_break, s_cont, s_seq, s_if, s_ifK, s_asg, s_asgK, s_name, s_par, s_parK, s_par3, s_parK3, s_gnil, s_gcons, s_gtup, s_for, s_forK, s_raise, s_raiseK, s_sf, s_sfK1, s_sfK2, s_dp, s_dpK1, s_dpK2, s_dpK3, s_forget, s_def, s_fld, e_enumU, e_enumUT, e_match, e_mcase, e_mcase2, e_many, e_mnil, e_lcX, e_lcXK, e_get2, e_methS, e_methS1, e_methS2, s_augS, s_augS1, gEqS_int, gEqS_str, gEqS_bl, gEqS_tup, eq_self, beq_self_eq_true, true_implies, false_implies, implies_true, List.map_cons, List.map_nil, List.nil_append, List.cons_append, List.append_nil, List.replicate_succ, List.replicate_zero, List.getElem?_cons_zero, List.getElem?_cons_succ, List.length_cons, List.length_nil, List.set_cons_zero, List.set_cons_succ, ↓reduceIte, ↓reduceDIte, Nat.reduceAdd, Nat.reduceLeDiff, Nat.reduceEqDiff, Nat.zero_add, if_true, if_false, aVar, gMinus_int, gLt_int, gLe_int, gGt_int, gGe_int, gEq_int, gNe_int, gEq_str, gNe_str, gEq_bl, gNe_bl, gXor_int, gAnd_int, gOr_int, gAdd_int, gIsN_non, gNotN_non, gIsB_bl, gNotB_bl, gNeg_int, gLen_tup, gLen_scr, gMax2_int, gMin2_int, gBits_int, gSl_tup, gSl_scr, Bool.not_true, Bool.not_false, Bool.true_eq_false, Bool.false_eq_true, Bool.true_and, Bool.false_and, Bool.and_true, Bool.and_false, Bool.true_or, Bool.false_or, decide_true, decide_false, and_self, and_true, true_and, and_false, false_and, not_true_eq_false, not_false_eq_true, reduceCtorEq, kz, z1, z2, z3, z4, z5, z6, z7, z8, z9, z10, z11, z12, z13, z14, z15, z16, isCls, isNon, aForget, aHand, toKey, keysA, iterOf_tup, iterOf_scr, oNx_some, noErr_ok, decide_eq_true_eq, decide_eq_false_iff_not, Sto.new_n, Sto.set_n, Sto.set_at, Sto.new_at, Nat.zero_le, aMakeV, Cl_non, Cl_bl, Cl_int, Cl_str, Cl_cls, Cl_obj, Cl_tup, ClL_nil, ClL_cons, grd_pos, grdS_pos, Res.bind_ok, Res.bind_err, Res.st_ok, Res.st_err, SRes.thn_nx, SRes.thn_rt, SRes.thn_err, SRes.fn_rt, SRes.fn_nx, SRes.fn_err, SRes.loop_nx, SRes.loop_rt, SRes.loop_err, SRes.loop_ct, SRes.loop_bk, SRes.forget_nx, SRes.forget_rt, SRes.forget_err, SRes.clr_nx, SRes.clr_rt, SRes.noX_nx, SRes.noX_rt, aTry, sizeLine_ge, g1] at f
    simp! only [B__law_digit, g1, hz']
    exact f
theorem drCl {n : Nat} {l c t : Int} : ClC n (drC l c t) := by simp [ClC]
theorem Upto.clean {d B : Nat} {s s' : Sto} (u : Upto d s s') (D : Dr d s' B) : Clean s s' := by
  obtain ⟨l, c, t, h, _⟩ := D.ex
  refine ⟨Nat.le_of_eq u.1.symm, fun i hi => ?_⟩
  by_cases e : i = d
  · subst e
    exact .inr (by rw [h]; exact drCl)
  · exact .inl (u.2 i e)
theorem Upto.cut {d B : Nat} {s s' : Sto} (u : Upto d s s') (D : Dr d s' B) : s'.cut s = s' := by
  have lt := D.lt
  have h1 := u.1
  cases s' with
  | mk n' c' =>
    cases s with
    | mk n c =>
      unfold Sto.cut
      simp only at h1
      subst h1
      simp only [Sto.mk.injEq, true_and]
      funext j
      by_cases hj : j < n'
      · simp [hj]
      · simp only [if_neg hj]
        exact (u.2 j (by have : d < n' := lt; omega)).symm
theorem Dr.mono {d B C : Nat} {s : Sto} (D : Dr d s B) (h : B ≤ C) : Dr d s C := ⟨D.lt, by
  obtain ⟨l, c, t, a, b, e, f⟩ := D.ex
  exact ⟨l, c, t, a, b, e, by omega⟩⟩
theorem p800 {a : Nat} (h : a ≤ 100000000) : a < 2 ^ 800 := by
  have : (2 : Nat) ^ 27 ≤ 2 ^ 800 := Nat.pow_le_pow_right (by decide) (by decide)
  omega
/-- a digit, the bound on the turns small -/
theorem digit {d B : Nat} {s : Sto} (D : Dr d s B) (hB : B ≤ 50000000) {n : Int} (n0 : 0 < n) (n1 : n.natAbs.log2 < 9000) :
    ∃ (v : Int) (s' : Sto), 0 ≤ v ∧ v < n ∧ Upto d s s' ∧ Dr d s' (B + 4) ∧ F__law_digit [.obj d, .int n] s = .ok (.int v) s' := digit_spec D (p800 (by omega)) n0 n1
theorem merge3 (a b c : AV) : mergeA [] [(.inr "left", a), (.inr "cell", b), (.inr "turns", c)] = [(.inr "left", a), (.inr "cell", b), (.inr "turns", c)] := by
  simp [mergeA, putKA, k12, k13, k21, k23, k31, k32]
/-- a draw -/
theorem draw_spec (z : Int) (i : Nat) (s : Sto) (h : i < 1000) : ∃ l : Int, 0 ≤ l ∧ F__law_draw [.int z, .int i] s = .ok (.obj s.n) (s.new (drC l z (1000 * i))) := by
  have hp : ∀ s : Sto, gPow (.int 10) (.int 18) s = .ok (.int 1000000000000000000) s := fun s => gPow_int (show L2.CPow 10 18 from ⟨by decide, by decide, by decide⟩)
  have hk : ∀ s : Sto, gMul (.int 1000) (.int i) s = .ok (.int (1000 * i)) s := fun s => gMul_ok (m := 10) (n := 10) (by decide) (by omega) (by decide)
  have hn : s.new (.dic []) = s.new (.dic []) := rfl
  have hz : (3 : Nat) ≤ 15 := by decide
  have main : ∀ l : Int, (if 1000000000000000000 ≤ z then z else 0) = l → aDef 0 B__law_draw [.int z, .int i] s = .ok (.obj s.n) (s.new (drC l z (1000 * i))) := by
    intro l hl
    have e : (s.new (.dic [])).set s.n (drC l z (1000 * i)) = s.new (drC l z (1000 * i)) := by
      unfold Sto.new Sto.set
      simp only [Sto.mk.injEq, true_and]
      funext j
      by_cases hj : j = s.n
      · simp [hj]
      · simp [hj]
    by_cases h1 : (1000000000000000000 : Int) ≤ z
    · rw [if_pos h1] at hl
      subst hl
      simp! only [B__law_draw, hp, hk, decide_eq_true h1]
      rw [e_dispK Sto.new_at rfl (Nat.le_of_ble_eq_true rfl), merge3]
      simp! only [eq_self]
      rw [← e]
    · rw [if_neg h1] at hl
      subst hl
      simp! only [B__law_draw, hp, hk, decide_eq_false h1]
      rw [e_dispK Sto.new_at rfl (Nat.le_of_ble_eq_true rfl), merge3]
      simp! only [eq_self]
      rw [← e]
  refine ⟨_, ?_, gcF_raw (main _ rfl) (by simp)⟩
  split <;> omega
theorem new_set {s : Sto} {a b : Cell} : (s.new a).set s.n b = s.new b := by
  unfold Sto.new Sto.set
  simp only [Sto.mk.injEq, true_and]
  funext j
  by_cases hj : j = s.n
  · simp [hj]
  · simp [hj]
theorem m1 (i : Int) : Builtin.bitAnd i 1 = i % 2 := PySem.W.kbt_mask i 1
def DrOK (B : Nat) (x : Cell) : Prop := ∃ l c t : Int, x = drC l c t ∧ 0 ≤ l ∧ 0 ≤ t ∧ t ≤ B
theorem DrOK.mono {B C : Nat} {x : Cell} (h : DrOK B x) (hb : B ≤ C) : DrOK C x := by
  obtain ⟨l, c, t, a, b, e, f⟩ := h
  exact ⟨l, c, t, a, b, e, by omega⟩
theorem DrOK.cl {B n : Nat} {x : Cell} (h : DrOK B x) : ClC n x := by
  obtain ⟨l, c, t, rfl, b, e, f⟩ := h
  exact drCl
theorem DrOK.dr {B d : Nat} {s : Sto} {x : Cell} (h : DrOK B x) (hd : d < s.n) (e : s.c d = x) : Dr d s B := by
  obtain ⟨l, c, t, rfl, b, k, f⟩ := h
  exact ⟨hd, l, c, t, e, b, k, f⟩
theorem Upto.eq {d : Nat} {s s' : Sto} (u : Upto d s s') : s' = s.set d (s'.c d) := by
  obtain ⟨h1, h2⟩ := u
  cases s with
  | mk n c =>
    cases s' with
    | mk n' c' =>
      cases (show n' = n from h1)
      unfold Sto.set
      simp only [Sto.mk.injEq, true_and]
      funext j
      by_cases e : j = d
      · rw [if_pos e, e]
      · rw [if_neg e]; exact h2 j e
theorem Dr.ok {d B : Nat} {s : Sto} (D : Dr d s B) : DrOK B (s.c d) := by
  obtain ⟨l, c, t, h, a⟩ := D.ex
  exact ⟨l, c, t, h, a⟩
structure Inv (d B : Nat) (t s : Sto) : Prop where
  lt : d < t.n
  gd : Gd d t s
  ok : DrOK B (s.c d)
section
variable {P : AV → Sto → Prop} {R : String → List Str → List AV → Sto → Prop} {d B : Nat} {s t : Sto} {x : Cell}
theorem Inv.ls (S : Inv d B t s) : d < s.n := Nat.lt_of_lt_of_le S.lt S.gd.n
theorem Inv.new (S : Inv d B t s) : Inv d B t (s.new x) := ⟨S.lt, S.gd.new, by rw [at_new S.ls]; exact S.ok⟩
theorem Inv.set (S : Inv d B t s) {C : Nat} (h : DrOK C x) : Inv d C t (s.set d x) := ⟨S.lt, S.gd.set, by rw [Sto.set_at]; exact h⟩
theorem Inv.start (hd : d < s.n) (h : DrOK B (s.c d)) : Inv d B s s := ⟨hd, .refl d s, h⟩
theorem Inv.mono {C : Nat} (S : Inv d B t s) (h : B ≤ C) : Inv d C t s := ⟨S.lt, S.gd, S.ok.mono h⟩
end
structure I1 (d B : Nat) (t s : Sto) : Prop where
  gd : Gd d t s
  dr : Dr d s B
  ld : d < t.n
section
variable {d B : Nat} {s t s' : Sto} {x : Cell} {P : AV → Sto → Prop} {R : String → List Str → List AV → Sto → Prop}
theorem I1.start (D : Dr d s B) : I1 d B s s := ⟨.refl d s, D, D.lt⟩
theorem I1.lt (S : I1 d B t s) : d < s.n := S.dr.lt
theorem I1.mono {C : Nat} (S : I1 d B t s) (h : B ≤ C) : I1 d C t s := ⟨S.gd, S.dr.mono h, S.ld⟩
theorem Dr.of (D : Dr d s B) (h : s'.c d = s.c d) (hn : d < s'.n) : Dr d s' B := ⟨hn, by
  obtain ⟨l, c, t, a, b, e, f⟩ := D.ex
  exact ⟨l, c, t, h.trans a, b, e, f⟩⟩
theorem I1.new (S : I1 d B t s) : I1 d B t (s.new x) := ⟨S.gd.new, S.dr.of (at_new S.lt) (Nat.lt_succ_of_lt S.lt), S.ld⟩
theorem I1.set {i : Nat} (S : I1 d B t s) (h : t.n ≤ i) : I1 d B t (s.set i x) := ⟨⟨S.gd.n, fun j hj e => (Sto.set_ne (by omega)).trans (S.gd.c j hj e)⟩, S.dr.of (Sto.set_ne (by have := S.ld; omega)) S.lt, S.ld⟩
theorem Upto.gd (u : Upto d s s') : Gd d s s' := ⟨Nat.le_of_eq u.1.symm, fun i _ h => u.2 i h⟩
theorem I1.step {C : Nat} (S : I1 d B t s) (g : Gd d s s') (D : Dr d s' C) : I1 d C t s' := ⟨S.gd.trans g, D, S.ld⟩
theorem dr_clc (D : Dr d s B) {n : Nat} : ClC n (s.c d) := by
  obtain ⟨l, c, t, h, _⟩ := D.ex
  rw [h]
  exact drCl
/-- a def that draws and hands out what is closed -/
theorem gcF_1 {F : List AV → Sto → Res AV} {args : List AV} (hd : d < s.n) (h : (F args s).Post (fun v s' => Cl s.n v ∧ Gd d s s' ∧ ∃ C, Dr d s' C ∧ ∀ s2, Dr d s2 C → Upto d s s2 → P v s2) (fun c ns vs s' => False)) : (gcF F args s).Post P R :=
  gcF_d hd (h.mono (fun v s' z => by
    obtain ⟨z1, z2, C, z3, z4⟩ := z
    exact ⟨z1, z2, dr_clc z3, z4 _ (z3.of Sto.set_at hd) Upto.set⟩) fun _ _ _ _ z => z.elim)
/-- a def that draws and hands out what it made -/
theorem gcF_n {F : List AV → Sto → Res AV} {args : List AV} (h : (F args s).Post (fun v s' => ¬ Cl s.n v ∧ P v s') (fun c ns vs s' => False)) : (gcF F args s).Post P R :=
  post_gcF.mpr (h.mono (fun v s' z => by rw [if_neg fun c => z.1 c.1]; exact z.2) fun _ _ _ _ z => z.elim)
theorem gcT_1 {f : AT} {Q : Bool → Sto → Prop} {σ : ASt} (hd : d < s.n) (h : (f σ s).Post (fun v s' => Gd d s s' ∧ ∃ C, Dr d s' C ∧ ∀ s2, Dr d s2 C → Upto d s s2 → Q v s2) R) : (gcT f σ s).Post Q R :=
  gcT_d hd (h.mono (fun v s' z => by
    obtain ⟨z2, C, z3, z4⟩ := z
    exact ⟨z2, dr_clc z3, z4 _ (z3.of Sto.set_at hd) Upto.set⟩) fun _ _ _ _ z => z)
theorem w1_digit {n : Int} (S : I1 d B t s) (hB : B ≤ 50000000) (n0 : 0 < n) (n1 : n.natAbs.log2 < 9000) (q : ∀ (v : Nat) s', (v : Int) < n → I1 d (B + 4) t s' → Upto d s s' → P (.int (v : Nat)) s') : (F__law_digit [.obj d, .int n] s).Post P R := by
  obtain ⟨v, s', a, b, u, D, e⟩ := digit S.dr hB n0 n1
  obtain ⟨k, rfl⟩ := Int.eq_ofNat_of_zero_le a
  rw [e]
  exact q k s' b (S.step u.gd D) u
end
theorem log_lt {n : Nat} (h : n < 2 ^ 600) : ((n : Nat) : Int).natAbs.log2 < 9000 := by
  rw [Int.natAbs_natCast]
  by_cases h0 : n = 0
  · subst h0; decide
  · have := (Nat.log2_lt h0).mpr h
    omega
theorem lenz : TW.len 0 = 0 := rfl
theorem len_halfz {n : Nat} (h : n ≠ 0) : TW.len n = TW.len (n / 2) + 1 := by
  by_cases h1 : n = 1
  · subst h1; decide
  · have h2 : n / 2 ≠ 0 := by omega
    rw [TW.len_pos h, TW.len_pos h2, Nat.log2_def n, if_pos (by omega)]
theorem binary_ok {n : Nat} (s : Sto) : F__law_binary [.int (n : Nat)] s = .ok (.int (TW.len n : Nat)) s := by
  refine gc0 ?_ (by simp)
  refine res_ok ?_
  simp! [B__law_binary]
  refine while_A (fun m σ s' => s' = s ∧ ∃ a i : Nat, σ = [some (.int (a : Nat)), some (.int (i : Nat))] ∧ TW.len a = m ∧ m + i = TW.len n) (TW.len n) ⟨rfl, n, 0, rfl, rfl, rfl⟩ ?_
  rintro m σ s' ⟨rfl, a, i, rfl, h1, h2⟩
  by_cases h0 : a = 0
  · subst h0
    have d : decide ((0 : Int) < ((0 : Nat) : Int)) = false := rfl
    rw [lenz] at h1
    have e : i = TW.len n := by omega
    simp! [gGt_int, d]
    rw [e]
  · have d : decide ((0 : Int) < ((a : Nat) : Int)) = true := decide_eq_true (by omega)
    have f : gFdiv (.int ((a : Nat) : Int)) (.int 2) s' = .ok (.int ((a / 2 : Nat) : Int)) s' := gFdiv_int ⟨by decide, by decide⟩
    simp! [gGt_int, d, f]
    have l := len_halfz (n := a) h0
    exact ⟨TW.len (a / 2), by omega, a / 2, i + 1, rfl, rfl, by omega⟩
section
variable {d B : Nat} {s t : Sto} {P : AV → Sto → Prop} {R : String → List Str → List AV → Sto → Prop}
theorem w1_number {n : Nat} (S : I1 d B t s) (hB : B ≤ 40000000) (n0 : 0 < n) (n1 : n < 2 ^ 300) (q : ∀ (v : Nat) s', v < n → I1 d (B + 50) t s' → Upto d s s' → P (.int (v : Nat)) s') : (F__law_number [.obj d, .int (n : Nat)] s).Post P R := by
  unfold F__law_number
  refine gcF_1 S.lt ?_
  have l : TW.len n ≤ 300 := TW.len_le n1
  have b := binary_ok (n := n) s
  have f : gFdiv (.int ((TW.len n : Nat) : Int)) (.int 32) s = .ok (.int ((TW.len n / 32 : Nat) : Int)) s := gFdiv_int ⟨by decide, by decide⟩
  obtain ⟨K, hK⟩ : ∃ K : Nat, K = 1 + TW.len n / 32 := ⟨_, rfl⟩
  have c : (1 : Int) + ((TW.len n / 32 : Nat) : Int) = (K : Nat) := by omega
  have K1 : K ≤ 10 := by omega
  have rg : -(2 ^ 62) ≤ ((K : Nat) : Int) ∧ ((K : Nat) : Int) < 2 ^ 62 := by omega
  have tn : ((K : Nat) : Int).toNat = K := by omega
  simp! [B__law_number, b, f, c, rg, tn]
  refine for_rng (n := K) (fun i σ s' => I1 d (B + 4 * i) t s' ∧ Upto d s s' ∧ ∃ (x : Nat) (y : Option AV), x < 2 ^ (32 * i) ∧ σ = [some (.obj d), some (.int (n : Nat)), some (.int (x : Nat)), y]) ⟨S, .refl d s, 0, none, by decide, rfl⟩ ?_ ?_
  · rintro i σ s' hi ⟨S1, u1, x, y, hx, rfl⟩
    refine ⟨trivial, ?_⟩
    have hx4 : x < 2 ^ 320 := Nat.lt_of_lt_of_le hx (Nat.pow_le_pow_right (by decide) (by omega))
    have m : gMul (.int ((x : Nat) : Int)) (.int 4294967296) s' = .ok (.int (((x : Nat) : Int) * 4294967296)) s' := gMul_ok (m := 320) (n := 33) (by rw [Int.natAbs_natCast]; exact hx4) (by decide) (by decide)
    simp! [m]
    refine w1_digit S1 (by omega) (by decide) (by decide) fun v s2 hv S2 u2 => ?_
    simp! [eq_self]
    refine ⟨S2.mono (by omega), u1.trans u2, x * 4294967296 + v, _, ?_, by rw [Int.natCast_add, Int.natCast_mul]; rfl⟩
    rw [show 32 * (i + 1) = 32 * i + 32 by omega, Nat.pow_add]
    have : v < 4294967296 := by omega
    omega
  · rintro σ s' ⟨S1, u1, x, y, hx, rfl⟩
    refine ⟨trivial, ?_⟩
    have md : gMod (.int ((x : Nat) : Int)) (.int ((n : Nat) : Int)) s' = .ok (.int ((x % n : Nat) : Int)) s' := by
      rw [Int.natCast_emod]
      exact gMod_int (by omega)
    simp! [md]
    exact ⟨u1.gd, B + 4 * K, S1.dr, fun s2 D2 u2 => q _ _ (Nat.mod_lt _ n0) ((S.step u2.gd D2).mono (by omega)) u2⟩
end
end Pf
set_option linter.all false
namespace MB
open MX
/-- a key's part for a step -/
def part (k s : Nat) : Nat := if s % 2 = 1 then k / 4294967296 else k % 4294967296
def chg (k s l : Nat) : Nat := xs 17 ((l * F + part k s + s) % 4294967296)
def bk (k s : Nat) (p : Nat × Nat) : Nat × Nat := (p.2 ^^^ chg k s p.1, p.1)
/-- the last i steps back: 3, 2, .. -/
def bs (k : Nat) : Nat → Nat × Nat → Nat × Nat
  | 0, p => p
  | i + 1, p => bk k (3 - i) (bs k i p)
end MB
set_option linter.all false
set_option maxRecDepth 100000
namespace PO
open TW
def cm (a b : Nat) : Nat := A a (fun i => b * 2 ^ i) 0
theorem two_xor (x y k : Nat) : (x ^^^ y) * 2 ^ k = (x * 2 ^ k) ^^^ (y * 2 ^ k) := by
  rw [← Nat.shiftLeft_eq, ← Nat.shiftLeft_eq, ← Nat.shiftLeft_eq, Nat.shiftLeft_xor_distrib]
theorem act_scale : ∀ (n p : Nat) (u : Nat → Nat) (b k : Nat), act n p (fun i => u i * 2 ^ k) b = act n p u b * 2 ^ k
  | 0, p, u, b, k => by simp [act]
  | n + 1, p, u, b, k => by
    unfold act
    rw [act_scale n, two_xor]
    congr 1
    by_cases h : p % 2 = 1 <;> simp [h]
theorem A_scale (p : Nat) (u : Nat → Nat) (b k : Nat) : A p (fun i => u i * 2 ^ k) b = A p u b * 2 ^ k := act_scale p p u b k
theorem A_pow (a b i : Nat) : A a (fun j => b * 2 ^ j) i = cm a b * 2 ^ i := by
  have h := A_shift a (fun j => b * 2 ^ j) 0 i
  rw [Nat.zero_add] at h
  rw [← h, cm, ← A_scale]
  congr 1
  funext j
  rw [Nat.pow_add, Nat.mul_assoc]
theorem cm_step (a b : Nat) : cm a b = (if a % 2 = 1 then b else 0) ^^^ cm (a / 2) b * 2 := by
  have h := A_step a (fun i => b * 2 ^ i) 0
  rw [A_pow, A_pow] at h
  simpa using h
theorem cm_zero_left (b : Nat) : cm 0 b = 0 := rfl
theorem cm_xor_left (a b c : Nat) : cm (a ^^^ b) c = cm a c ^^^ cm b c := A_xor a b _ 0
theorem cm_one_left (b : Nat) : cm 1 b = b := by
  unfold cm
  rw [A_one]; simp
theorem cm_two_left (a b : Nat) : cm (a * 2) b = cm a b * 2 := by
  have h := A_shl a (fun i => b * 2 ^ i) 1 0
  rw [Nat.pow_one] at h
  unfold cm at *
  rw [h, A_pow, Nat.zero_add, Nat.pow_one]
  rfl
theorem pow_left (k b : Nat) : cm (2 ^ k) b = b * 2 ^ k := by
  induction k with
  | zero => rw [Nat.pow_zero, cm_one_left, Nat.mul_one]
  | succ k ih => rw [Nat.pow_succ, cm_two_left, ih, Nat.mul_assoc]
theorem cm_assoc : ∀ a b c : Nat, cm (cm a b) c = cm a (cm b c) := by
  intro a
  induction a using Nat.strongRecOn with
  | _ a ih =>
    intro b c
    by_cases h : a = 0
    · subst h; rfl
    · rw [cm_step a b, cm_xor_left, cm_two_left, ih (a / 2) (by omega), cm_step a (cm b c)]
      congr 1
      split <;> simp [cm_zero_left]
theorem len_rng {n : Nat} (h : n ≠ 0) : 2 ^ (len n - 1) ≤ n ∧ n < 2 ^ (len n - 1 + 1) ∧ 1 ≤ len n := by
  have h0 : 1 ≤ len n := by rw [len_pos h]; omega
  refine ⟨len_ge h, ?_, h0⟩
  rw [show len n - 1 + 1 = len n by omega]
  exact lt_len n
theorem xx (a b : Nat) : a ^^^ (a ^^^ b) = b := by rw [← Nat.xor_assoc, Nat.xor_self, Nat.zero_xor]
theorem xx2 (a b : Nat) : (b ^^^ a) ^^^ a = b := by rw [Nat.xor_assoc, Nat.xor_self, Nat.xor_zero]
theorem rest_spec : ∀ (n a m : Nat), m ≠ 0 → len a < n + len m → (∃ q, a = cm q m ^^^ restN n a m) ∧ len (restN n a m) < len m
  | 0, a, m, hm, h => ⟨⟨0, by rw [cm_zero_left, Nat.zero_xor]; rfl⟩, by show len a < _; omega⟩
  | n + 1, a, m, hm, h => by
    rw [restN]
    split
    · rename_i h0
      have st := len_step hm h0
      obtain ⟨⟨q, hq⟩, hl⟩ := rest_spec n (a ^^^ m * 2 ^ (len a - len m)) m hm (by omega)
      refine ⟨⟨q ^^^ 2 ^ (len a - len m), ?_⟩, hl⟩
      rw [cm_xor_left, pow_left]
      have e := congrArg (· ^^^ m * 2 ^ (len a - len m)) hq
      simp only [xx2] at e
      refine e.trans ?_
      rw [Nat.xor_assoc, Nat.xor_assoc, Nat.xor_comm (restN _ _ _)]
    · rename_i h0
      exact ⟨⟨0, by rw [cm_zero_left, Nat.zero_xor]⟩, by omega⟩
/-- the rest modulo m -/
def md (a m : Nat) : Nat := restN (len a + 1) a m
theorem md_spec (a : Nat) {m : Nat} (hm : m ≠ 0) : (∃ q, a = cm q m ^^^ md a m) ∧ len (md a m) < len m := rest_spec (len a + 1) a m hm (by have := (len_rng hm).2.2; omega)
def dv (d a : Nat) : Prop := ∃ q, a = cm q d
theorem dv_xor {d a b : Nat} : dv d a → dv d b → dv d (a ^^^ b)
  | ⟨q, h⟩, ⟨p, k⟩ => ⟨q ^^^ p, by rw [cm_xor_left, h, k]⟩
theorem dv_mul {d a : Nat} (c : Nat) : dv d a → dv d (cm c a)
  | ⟨q, h⟩ => ⟨cm c q, by rw [h, cm_assoc]⟩
theorem dv_md {d a m : Nat} (hm : m ≠ 0) (h : dv d a) (k : dv d m) : dv d (md a m) := by
  obtain ⟨⟨q, e⟩, _⟩ := md_spec a hm
  have : md a m = a ^^^ cm q m := by
    conv => rhs; rw [e]
    rw [Nat.xor_comm, xx]
  rw [this]
  exact dv_xor h (dv_mul q k)
theorem dv_of_md {d a m : Nat} (hm : m ≠ 0) (h : dv d (md a m)) (k : dv d m) : dv d a := by
  obtain ⟨⟨q, e⟩, _⟩ := md_spec a hm
  rw [e]
  exact dv_xor (dv_mul q k) h
theorem dv_self (a : Nat) : dv a a := ⟨1, (cm_one_left a).symm⟩
theorem dv_zero (d : Nat) : dv d 0 := ⟨0, rfl⟩
end PO
set_option linter.all false
set_option maxRecDepth 100000
namespace PO
open TW
def IsG (g a b : Nat) : Prop := dv g a ∧ dv g b ∧ ∀ d, dv d a → dv d b → dv d g
theorem IsG.symm {g a b : Nat} (x : IsG g a b) : IsG g b a := ⟨x.2.1, x.1, fun d h k => x.2.2 d k h⟩
theorem isG_zero (a : Nat) : IsG a a 0 := ⟨dv_self a, dv_zero a, fun d h _ => h⟩
theorem isG_step {g a b : Nat} (hb : b ≠ 0) : IsG g a b ↔ IsG g b (md a b) :=
  ⟨fun x => ⟨x.2.1, dv_md hb x.1 x.2.1, fun d h k => x.2.2 d (dv_of_md hb k h) h⟩, fun x => ⟨dv_of_md hb x.2.1 x.1, x.1, fun d h k => x.2.2 d k (dv_md hb h k)⟩⟩
theorem gd_ex : ∀ (n a b : Nat), len b < n → ∃ g, IsG g a b
  | 0, _, _, h => absurd h (by omega)
  | n + 1, a, b, h => by
    by_cases hb : b = 0
    · subst hb; exact ⟨a, isG_zero a⟩
    · obtain ⟨g, hg⟩ := gd_ex n b (md a b) (by have := (md_spec a hb).2; omega)
      exact ⟨g, (isG_step hb).mpr hg⟩
theorem gd_exists (a b : Nat) : ∃ g, IsG g a b := gd_ex (len b + 1) a b (by omega)
/-- the greatest common divisor, by choice -/
noncomputable def gd (a b : Nat) : Nat := Classical.choose (gd_exists a b)
end PO
set_option Elab.async false
set_option linter.all false
set_option maxRecDepth 100000
set_option maxHeartbeats 1000000
set_option exponentiation.threshold 3000
namespace Pf
open PySem Ab
local macro_rules | `(tactic| simp! [$xs,*]) => `(tactic| try simp (config := {maxSteps := 1000000}) only [k_bind, k_Kb, k_st, k_Kst, k_Rst, k_thn, k_loop, k_fn, k_forget, k_clr, k_noX, k_try, k_stuck, k_Astuck, d_thn_nx, d_thn_bk, d_thn_ct, d_thn_rt, d_thn_er, d_lp_nx, d_lp_bk, d_lp_ct, d_lp_rt, d_lp_er, d_fg_nx, d_fg_bk, d_fg_ct, d_fg_rt, d_fg_er, d_cl_nx, d_cl_bk, d_cl_ct, d_cl_rt, d_cl_er, d_tr_nx, d_tr_bk, d_tr_ct, d_tr_rt, d_tr_er, d_nX_nx, d_nX_bk, d_nX_ct, d_nX_rt, d_nX_er, d_fn_nx, d_fn_bk, d_fn_ct, d_fn_rt, d_fn_er, A_nx, A_bk, A_ct, A_rt, A_err, post_ok, post_err, post_noErr, e_op, e_opK, e_un, e_cb, e_nil, e_c, e_cons, e_consK, e_consK2, e_and, e_or, e_andK, e_orK, e_not, e_notK, e_test, e_testK, e_tand, e_tandK, e_tor, e_torK, e_tnot, e_tnotK, e_yes, e_if, e_ifK, e_ch, e_chK1, e_chK2, e_chK3, e_tup, e_tupK, e_lst, e_lstK, e_newL, e_call, e_callK, e_meth, e_methK, e_methK2, e_prop, e_propK, e_make, e_makeK, e_makeK2, e_makeV, e_sm, e_smK, e_smK2, e_cm, e_cmK, e_cmK2, e_sl, e_slK1, e_slK2, e_slK3, e_part, e_partK, e_nopart, e_rev, e_bm, e_bmK, e_pr, e_pr0, e_prK1, e_prK2, e_prK3, e_disp, e_dnew, e_own, e_ownK, e_lc, e_lcK, e_iter, e_rng1, e_rng1K, e_rng2, e_rng2K, e_enum, s_drop, s_dropK, s_ret, s_retK, s_retN, s_next, s_break, s_cont, s_seq, s_if, s_ifK, s_asg, s_asgK, s_name, s_par, s_parK, s_par3, s_parK3, s_gnil, s_gcons, s_gtup, s_for, s_forK, s_raise, s_raiseK, s_sf, s_sfK1, s_sfK2, s_dp, s_dpK1, s_dpK2, s_dpK3, s_forget, s_def, s_fld, e_enumU, e_enumUT, e_match, e_mcase, e_mcase2, e_many, e_mnil, e_lcX, e_lcXK, e_get2, e_methS, e_methS1, e_methS2, s_augS, s_augS1, gEqS_int, gEqS_str, gEqS_bl, gEqS_tup, eq_self, beq_self_eq_true, k_grd, k_grdS, k_ite, k_Aite, true_implies, false_implies, implies_true, List.map_cons, List.map_nil, List.nil_append, List.cons_append, List.append_nil, List.replicate_succ, List.replicate_zero, List.getElem?_cons_zero, List.getElem?_cons_succ, List.length_cons, List.length_nil, List.set_cons_zero, List.set_cons_succ, ↓reduceIte, ↓reduceDIte, Nat.reduceAdd, Nat.reduceLeDiff, Nat.reduceEqDiff, Nat.zero_add, if_true, if_false, aVar, gMinus_int, gLt_int, gLe_int, gGt_int, gGe_int, gEq_int, gNe_int, gEq_str, gNe_str, gEq_bl, gNe_bl, gXor_int, gAnd_int, gOr_int, gAdd_int, gIsN_non, gNotN_non, gIsB_bl, gNotB_bl, gNeg_int, gLen_tup, gLen_scr, gMax2_int, gMin2_int, gBits_int, gSl_tup, gSl_scr, Bool.not_true, Bool.not_false, Bool.true_eq_false, Bool.false_eq_true, Bool.true_and, Bool.false_and, Bool.and_true, Bool.and_false, Bool.true_or, Bool.false_or, decide_true, decide_false, and_self, and_true, true_and, and_false, false_and, not_true_eq_false, not_false_eq_true, reduceCtorEq, kz, z1, z2, z3, z4, z5, z6, z7, z8, z9, z10, z11, z12, z13, z14, z15, z16, isCls, isNon, aForget, aHand, toKey, keysA, iterOf_tup, iterOf_scr, oNx_some, noErr_ok, decide_eq_true_eq, decide_eq_false_iff_not, Sto.new_n, Sto.set_n, Sto.set_at, Sto.new_at, Nat.zero_le, aMakeV, Cl_non, Cl_bl, Cl_int, Cl_str, Cl_cls, Cl_obj, Cl_tup, ClL_nil, ClL_cons, $xs,*])
local macro_rules | `(tactic| simp! only [$xs,*]) => `(tactic| simp only [e_op, e_opK, e_un, e_cb, e_nil, e_c, e_cons, e_consK, e_consK2, e_and, e_or, e_andK, e_orK, e_not, e_notK, e_test, e_testK, e_tand, e_tandK, e_tor, e_torK, e_tnot, e_tnotK, e_yes, e_if, e_ifK, e_ch, e_chK1, e_chK2, e_chK3, e_tup, e_tupK, e_lst, e_lstK, e_newL, e_call, e_callK, e_meth, e_methK, e_methK2, e_prop, e_propK, e_make, e_makeK, e_makeK2, e_makeV, e_sm, e_smK, e_smK2, e_cm, e_cmK, e_cmK2, e_sl, e_slK1, e_slK2, e_slK3, e_part, e_partK, e_nopart, e_rev, e_bm, e_bmK, e_pr, e_pr0, e_prK1, e_prK2, e_prK3, e_disp, e_dnew, e_own, e_ownK, e_lc, e_lcK, e_iter, e_rng1, e_rng1K, e_rng2, e_rng2K, e_enum, s_drop, s_dropK, s_ret, s_retK, s_retN, s_next, s_break, s_cont, s_seq, s_if, s_ifK, s_asg, s_asgK, s_name, s_par, s_parK, s_par3, s_parK3, s_gnil, s_gcons, s_gtup, s_for, s_forK, s_raise, s_raiseK, s_sf, s_sfK1, s_sfK2, s_dp, s_dpK1, s_dpK2, s_dpK3, s_forget, s_def, s_fld, e_enumU, e_enumUT, e_match, e_mcase, e_mcase2, e_many, e_mnil, e_lcX, e_lcXK, e_get2, e_methS, e_methS1, e_methS2, s_augS, s_augS1, gEqS_int, gEqS_str, gEqS_bl, gEqS_tup, eq_self, beq_self_eq_true, true_implies, false_implies, implies_true, List.map_cons, List.map_nil, List.nil_append, List.cons_append, List.append_nil, List.replicate_succ, List.replicate_zero, List.getElem?_cons_zero, List.getElem?_cons_succ, List.length_cons, List.length_nil, List.set_cons_zero, List.set_cons_succ, ↓reduceIte, ↓reduceDIte, Nat.reduceAdd, Nat.reduceLeDiff, Nat.reduceEqDiff, Nat.zero_add, if_true, if_false, aVar, gMinus_int, gLt_int, gLe_int, gGt_int, gGe_int, gEq_int, gNe_int, gEq_str, gNe_str, gEq_bl, gNe_bl, gXor_int, gAnd_int, gOr_int, gAdd_int, gIsN_non, gNotN_non, gIsB_bl, gNotB_bl, gNeg_int, gLen_tup, gLen_scr, gMax2_int, gMin2_int, gBits_int, gSl_tup, gSl_scr, Bool.not_true, Bool.not_false, Bool.true_eq_false, Bool.false_eq_true, Bool.true_and, Bool.false_and, Bool.and_true, Bool.and_false, Bool.true_or, Bool.false_or, decide_true, decide_false, and_self, and_true, true_and, and_false, false_and, not_true_eq_false, not_false_eq_true, reduceCtorEq, kz, z1, z2, z3, z4, z5, z6, z7, z8, z9, z10, z11, z12, z13, z14, z15, z16, isCls, isNon, aForget, aHand, toKey, keysA, iterOf_tup, iterOf_scr, oNx_some, noErr_ok, decide_eq_true_eq, decide_eq_false_iff_not, Sto.new_n, Sto.set_n, Sto.set_at, Sto.new_at, Nat.zero_le, aMakeV, Cl_non, Cl_bl, Cl_int, Cl_str, Cl_cls, Cl_obj, Cl_tup, ClL_nil, ClL_cons, grd_pos, grdS_pos, Res.bind_ok, Res.bind_err, Res.st_ok, Res.st_err, SRes.thn_nx, SRes.thn_rt, SRes.thn_err, SRes.fn_rt, SRes.fn_nx, SRes.fn_err, SRes.loop_nx, SRes.loop_rt, SRes.loop_err, SRes.loop_ct, SRes.loop_bk, SRes.forget_nx, SRes.forget_rt, SRes.forget_err, SRes.clr_nx, SRes.clr_rt, SRes.noX_nx, SRes.noX_rt, aTry, sizeLine_ge, $xs,*])
theorem bitsN (n : Nat) : Builtin.Int.intBits (n : Int) = TW.len n := by
  unfold Builtin.Int.intBits TW.len
  by_cases h : n = 0
  · subst h; rfl
  · rw [if_neg (by simpa using h), if_neg h]; simp
theorem bits_le {n k : Nat} (h : n < 2 ^ k) : Builtin.Int.intBits (n : Int) ≤ k := by
  rw [bitsN]; exact TW.len_le h
theorem shl_ok {a : Nat} {j : Nat} {k : Nat} {s : Sto} (h : a < 2 ^ k) (hk : k + j ≤ 100000) : gShl (.int (a : Nat)) (.int (j : Nat)) s = .ok (.int ((a * 2 ^ j : Nat) : Int)) s := by
  rw [gShl_int ⟨by omega, by have := bits_le h; omega⟩]
  simp
theorem shl_one {k : Nat} (s : Sto) (hk : k ≤ 5000) : gShl (.int 1) (.int (k : Nat)) s = .ok (.int ((2 ^ k : Nat) : Int)) s := by
  have := shl_ok (a := 1) (j := k) (k := 1) (s := s) (by decide) (by omega)
  rw [Nat.one_mul] at this
  exact this
abbrev iN (l : List Nat) : List AV := l.map fun n => .int (n : Nat)
theorem iN_len (r : List Nat) : (iN r).length = r.length := List.length_map ..
theorem list_same {s : Sto} {a b : Nat} {xs : List AV} (ha : s.c a = .lst xs) (hb : s.c b = .lst xs) (hd : ∀ x ∈ xs, ∃ d, dat 11 s x = some d ∧ PyData.canLay0 d = true ∧ d.depth ≤ 3) : eqB (.obj a) (.obj b) s = some true := by
  have key : ∀ l : List AV, (∀ x ∈ l, ∃ d, dat 11 s x = some d ∧ PyData.canLay0 d = true ∧ d.depth ≤ 3) → ∃ ds, optL (dat 11 s) l = some ds ∧ PyData.canLayAll0 ds = true ∧ PyData.depthAll ds ≤ 3 := by
    intro l
    induction l with
    | nil => exact fun _ => ⟨[], rfl, by simp [PyData.canLayAll0], by simp [PyData.depthAll]⟩
    | cons x l ih =>
      intro h
      obtain ⟨d, h1, h2, h3⟩ := h x List.mem_cons_self
      obtain ⟨ds, k1, k2, k3⟩ := ih fun y hy => h y (List.mem_cons_of_mem _ hy)
      refine ⟨d :: ds, ?_, by simp [PyData.canLayAll0, h2, k2], by simp only [PyData.depthAll]; omega⟩
      show (match dat 11 s x, optL (dat 11 s) l with | some d, some ds => some (d :: ds) | _, _ => none) = _
      rw [h1, k1]
  obtain ⟨ds, k1, k2, k3⟩ := key xs hd
  have e : ∀ o, s.c o = .lst xs → dat 12 s (.obj o) = some (.list ds) := by
    intro o h
    show (match s.c o with | .lst xs => (optL (dat 11 s) xs).map PyData.list | _ => none) = _
    rw [h]
    show (optL (dat 11 s) xs).map PyData.list = _
    rw [k1]
    rfl
  have sh : SeqAt.shaped (.list ds) = true := by
    simp [SeqAt.shaped, PyData.canLay0, k2, PyData.depth]
    omega
  rw [eqB_dat rfl (e a ha) (e b hb) sh sh, PySem.SeqAt.eqv_refl _ (SeqAt.canLay_of_shaped sh)]
theorem lc_el {α : Type} {G : Sto → Prop} {j : Nat} {ft : AT} {fe : AE} {σ0 : ASt} {P : AV → Sto → Prop} {R : String → List Str → List AV → Sto → Prop} {L : List α} {φ : α → AV} {s : Sto} (p : α → Bool) (f : α → AV) (hl : L.length ≤ 1000) (hG : ∀ s', Gb s s' → G s')
    (h : ∀ x ∈ L, ∀ s', Gb s s' → ft (σ0.set j (some (φ x))) s' = .ok (p x) s' ∧ (p x = true → fe (σ0.set j (some (φ x))) s' = .ok (f x) s'))
    (q : P (.obj s.n) (s.new (.lst ((L.filter p).map f)))) : (oObj s.n (lcI s.n G (agName j) ft fe σ0 (L.map φ) (s.new (.lst [])))).Post P R := by
  refine lc_P (fun i acc s' => s' = s.new (.lst (((L.take i).filter p).map f)) ∧ acc = ((L.take i).filter p).map f) ⟨rfl, rfl⟩ Sto.new_at (by rw [List.length_map]; exact hl) ?_ ?_
  · rintro i x acc s' hx ⟨e1, rfl⟩ hk
    obtain ⟨y, hy, rfl⟩ : ∃ y, L[i]? = some y ∧ φ y = x := by
      rw [List.getElem?_map] at hx
      cases e : L[i]? with
      | none => rw [e] at hx; cases hx
      | some y => rw [e] at hx; exact ⟨y, rfl, Option.some.inj hx⟩
    have tk : L.take (i + 1) = L.take i ++ [y] := by rw [List.take_add_one, hy]; rfl
    have g : Gb s s' := e1 ▸ (Gb.refl s).new
    obtain ⟨h1, h2⟩ := h y (List.mem_of_getElem? hy) s' g
    refine ⟨hG _ g, ?_⟩
    show (ft (σ0.set j (some (φ y))) s').Post _ _
    rw [h1]
    show (p y = true → _) ∧ (p y = false → _)
    refine ⟨fun e => ?_, fun e => ?_⟩
    · rw [h2 e]
      refine ⟨hk, ?_, ?_⟩
      · rw [e1, new_set, tk]; simp [e]
      · rw [tk]; simp [e]
    · refine ⟨hk, ?_, ?_⟩
      · rw [e1, tk]; simp [e]
      · rw [tk]; simp [e]
  · rintro acc s' ⟨e1, rfl⟩ hk
    rw [List.length_map, List.take_length] at e1
    subst e1
    exact ⟨hG _ (Gb.refl s).new, q⟩
theorem shrN {a i : Nat} (s : Sto) : gShr (.int (a : Nat)) (.int (i : Nat)) s = .ok (.int ((a / 2 ^ i : Nat) : Int)) s := by
  rw [gShr_int (by omega)]
  congr 2
section
variable {P : AV → Sto → Prop} {R : String → List Str → List AV → Sto → Prop} {s : Sto} {a b : Nat} {xs : List AV}
theorem post_eqL (ha : s.c a = .lst xs) (hb : s.c b = .lst xs) (hd : ∀ x ∈ xs, ∃ d, dat 11 s x = some d ∧ PyData.canLay0 d = true ∧ d.depth ≤ 3) (q : P (.bl true) s) : (gEq (.obj a) (.obj b) s).Post P R := by
  rw [gEq_b (list_same ha hb hd)]
  exact q
end
theorem len_half {n : Nat} (h : 0 < n) : TW.len n = TW.len (n / 2) + 1 := by
  refine Nat.le_antisymm (TW.len_le ?_) ?_
  · have := TW.lt_len (n / 2)
    rw [Nat.pow_succ]
    omega
  · by_cases h2 : n / 2 = 0
    · rw [h2]
      exact TW.le_len (k := 0) (by rw [Nat.pow_zero]; exact h)
    · have := TW.len_ge h2
      have p := (PO.len_rng h2).2.2
      refine TW.le_len ?_
      rw [show TW.len (n / 2) = TW.len (n / 2) - 1 + 1 by omega, Nat.pow_succ]
      omega
theorem len0 : TW.len 0 = 0 := rfl
theorem fd2N (a : Nat) (s : Sto) : gFdiv (.int (a : Nat)) (.int 2) s = .ok (.int ((a / 2 : Nat) : Int)) s := by
  rw [gFdiv_int ⟨by decide, by decide⟩]
  congr 2
theorem digits_okN {n : Nat} (s : Sto) : F_s5_digits [.int (n : Nat)] s = .ok (.int (TW.len n : Nat)) s := by
  refine gc0 ?_ (by simp)
  refine res_ok ?_
  simp! [B_s5_digits]
  refine while_A (fun m σ s' => s' = s ∧ ∃ a i : Nat, σ = [some (.int (a : Nat)), some (.int (i : Nat))] ∧ TW.len a = m ∧ m + i = TW.len n) (TW.len n) ⟨rfl, n, 0, rfl, rfl, rfl⟩ ?_
  rintro m σ s' ⟨rfl, a, i, rfl, h1, h2⟩
  by_cases h0 : a = 0
  · subst h0
    have d : decide ((0 : Int) < ((0 : Nat) : Int)) = false := rfl
    rw [len0] at h1
    have e : i = TW.len n := by omega
    simp! [gGt_int, d]
    rw [e]
  · have d : decide ((0 : Int) < ((a : Nat) : Int)) = true := decide_eq_true (by omega)
    have f := fd2N a s'
    simp! [gGt_int, d, f]
    have l := len_half (n := a) (by omega)
    exact ⟨TW.len (a / 2), by omega, a / 2, i + 1, rfl, rfl, by omega⟩
theorem log9 {b : Nat} (h2 : b < 2 ^ 600) : ((b : Nat) : Int).natAbs.log2 < 9000 := by
  rw [Int.natAbs_natCast]
  by_cases h : b = 0
  · subst h; decide
  · have := (Nat.log2_lt h).mpr h2
    omega
theorem fdNN {a b : Nat} (s : Sto) (h : 0 < b) (h2 : b < 2 ^ 600) : gFdiv (.int (a : Nat)) (.int (b : Nat)) s = .ok (.int ((a / b : Nat) : Int)) s := by
  rw [gFdiv_int ⟨by omega, log9 h2⟩]
  congr 2
theorem need5_t {i lo hi : Int} (s : Sto) (h1 : lo ≤ i) (h2 : i ≤ hi) : F_s5_need [.int i, .int lo, .int hi] s = .ok .non s := by
  refine gc0 ?_ (by simp)
  have ii := is_int i s
  have d1 : decide (lo ≤ i) = true := decide_eq_true h1
  have d2 : decide (i ≤ hi) = true := decide_eq_true h2
  have g : gcT (aOr (aNot (aTest (aCall 1 F_is_integer [] (aCons (aVar 0) aNil)))) (aNot (aTest (aChain gLe gLe (aVar 1) (aVar 0) (aVar 2))))) [some (.int i), some (.int lo), some (.int hi)] s = .ok false s := gcT_f (by simp! only [ii, d1, d2])
  simp! only [B_s5_need, g]
theorem wordsfor_ok {k : Nat} (s : Sto) (h : k ≤ 512) : F_words_for [.int (k : Nat)] s = .ok (.int ((k + 31) / 32 : Nat)) s := by
  refine gc0 ?_ (by simp)
  have a := need5_t (i := (k : Nat)) (lo := 0) (hi := 512) s (by omega) (by omega)
  have f : gFdiv (.int (((k : Nat) : Int) + 32 - 1)) (.int 32) s = .ok (.int (((k + 31) / 32 : Nat) : Int)) s := by
    rw [show ((k : Nat) : Int) + 32 - 1 = ((k + 31 : Nat) : Int) by omega]
    exact fdNN (b := 32) s (by decide) (by decide)
  simp! only [B_words_for, a, f]
theorem shlN {a k : Nat} (s : Sto) (ha : a < 2 ^ 10) (hk : k ≤ 4000) : gShl (.int (a : Nat)) (.int (k : Nat)) s = .ok (.int ((a * 2 ^ k : Nat) : Int)) s := shl_ok (a := a) (j := k) (k := 10) (s := s) ha (by omega)
def De (s : Sto) (l c : Nat) (x : AV) : Prop := ∃ d : PyData, (∀ s', Gb s s' → ∀ n, l < n → datE n s' x = some d) ∧ Gx.SmE d ∧ d.depth ≤ l ∧ Gx.nodes d ≤ c
def DeL (s : Sto) (l c : Nat) (xs : List AV) : Prop := ∃ ds : List PyData, (∀ s', Gb s s' → ∀ n, l < n → optL (datE n s') xs = some ds) ∧ Gx.SmEAll ds ∧ PyData.depthAll ds ≤ l ∧ Gx.nodesAll ds ≤ c * xs.length
section
variable {s : Sto} {l c : Nat} {x : AV} {xs : List AV}
theorem De.mono {m e : Nat} (h : De s l c x) (h1 : l ≤ m) (h2 : c ≤ e) : De s m e x := by
  obtain ⟨d, k1, k2, k3, k4⟩ := h
  exact ⟨d, fun t g n hn => k1 t g n (by omega), k2, by omega, by omega⟩
theorem de_dat {d : PyData} (h : ∀ s' n, datE (n + 1) s' x = some d) (h2 : Gx.SmE d) (h3 : d.depth = 0) (h4 : Gx.nodes d = 1) : De s 0 1 x :=
  ⟨d, fun t g n hn => by obtain ⟨m, rfl⟩ : ∃ m, n = m + 1 := ⟨n - 1, by omega⟩; exact h t m, h2, by omega, by omega⟩
theorem de_int {i : Int} (h : i.natAbs < 2 ^ 600) : De s 0 1 (.int i) := de_dat (d := .int i) (fun _ _ => rfl) (by simp only [Gx.SmE]; exact h) (by simp [PyData.depth]) (by simp [Gx.nodes])
theorem de_bl (b : Bool) : De s 0 1 (.bl b) := de_dat (d := .bool b) (fun _ _ => rfl) (by simp [Gx.SmE]) (by simp [PyData.depth]) (by simp [Gx.nodes])
theorem de_non : De s 0 1 .non := de_dat (d := .none) (fun _ _ => rfl) (by simp [Gx.SmE]) (by simp [PyData.depth]) (by simp [Gx.nodes])
theorem de_str {z : Str} (h : Gx.SmE (.str z)) : De s 0 1 (.str z) := de_dat (d := .str z) (fun _ _ => rfl) h (by simp [PyData.depth]) (by simp [Gx.nodes])
theorem deL : ∀ {xs : List AV}, (∀ x ∈ xs, De s l c x) → DeL s l c xs
  | [], _ => ⟨[], fun _ _ _ _ => rfl, by simp [Gx.SmEAll], by simp [PyData.depthAll], by simp [Gx.nodesAll]⟩
  | x :: xs, h => by
    obtain ⟨d, k1, k2, k3, k4⟩ := h x List.mem_cons_self
    obtain ⟨ds, m1, m2, m3, m4⟩ := deL (xs := xs) fun y hy => h y (List.mem_cons_of_mem _ hy)
    refine ⟨d :: ds, fun t g n hn => ?_, by simp only [Gx.SmEAll]; exact ⟨k2, m2⟩, by simp only [PyData.depthAll]; omega, ?_⟩
    · show (match datE n t x, optL (datE n t) xs with | some d, some ds => some (d :: ds) | _, _ => none) = _
      rw [k1 t g n hn, m1 t g n hn]
    · simp only [Gx.nodesAll, List.length_cons, Nat.mul_succ]
      omega
theorem de_tup (h : DeL s l c xs) : De s (l + 1) (c * xs.length + 1) (.tup xs) := by
  obtain ⟨ds, m1, m2, m3, m4⟩ := h
  refine ⟨.tuple ds, fun t g n hn => ?_, by simp only [Gx.SmE]; exact m2, by simp only [PyData.depth]; omega, by simp only [Gx.nodes]; omega⟩
  obtain ⟨m, rfl⟩ : ∃ m, n = m + 1 := ⟨n - 1, by omega⟩
  show (optL (datE m t) xs).map PyData.tuple = _
  rw [m1 t g m (by omega)]
  rfl
/-- the text of a value -/
theorem De.rep (h : De s l c x) (h1 : l ≤ 11) (h2 : c ≤ 20000) : ∃ z : Str, ∀ s', Gb s s' → gReprE [x] s' = .ok (.str z) s' := by
  obtain ⟨d, k1, k2, k3, k4⟩ := h
  have o : Gx.Okd d := Gx.okdE k2 (by omega) (by omega)
  exact ⟨d.shown, fun t g => gReprE_dat (k1 t g 12 (by omega)) ⟨o.sh, o.dp, o.ln⟩⟩
/-- the text of a list, by what it holds -/
theorem DeL.rep (h : DeL s l c xs) (h1 : l ≤ 10) (h2 : c * xs.length ≤ 19999) : ∃ z : Str, ∀ s' o, Gb s s' → s'.c o = .lst xs → gReprE [.obj o] s' = .ok (.str z) s' := by
  obtain ⟨ds, m1, m2, m3, m4⟩ := h
  have o : Gx.Okd (.list ds) := Gx.okdE (by simp only [Gx.SmE]; exact m2) (by simp only [PyData.depth]; omega) (by simp only [Gx.nodes]; omega)
  refine ⟨(PyData.list ds).shown, fun t p g e => gReprE_dat (d := .list ds) ?_ ⟨o.sh, o.dp, o.ln⟩⟩
  show (match t.c p with | .lst xs => (optL (datE 11 t) xs).map PyData.list | .dic [] => some (PyData.dict []) | _ => none) = _
  rw [e]
  show (optL (datE 11 t) xs).map PyData.list = _
  rw [m1 t g 11 (by omega)]
  rfl
end
def scC (ws : List Nat) (p : Nat) : Cell := .ins "Scripted" [("s1_script", .tup (iN ws)), ("s1_place", .int (p : Nat))]
def dwC (o u : Nat) : Cell := .ins "Draws" [("s5_source", .obj o), ("s5_used", .int (u : Nat))]
structure RowW (ws : List Nat) : Prop where
  lt : ∀ x ∈ ws, x < 4294967296
  len : ws.length ≤ 500
theorem iNcl2 (n : Nat) (r : List Nat) : ClL n (iN r) := ClL_all.mpr fun x hx => by
  obtain ⟨k, _, rfl⟩ := List.mem_map.mp hx
  simp
theorem sc_cl (n : Nat) (ws : List Nat) (p : Nat) : ClC n (scC ws p) := by simp [scC, ClC, iNcl2]
theorem dr_cl {n o : Nat} (h : o < n) (u : Nat) : ClC n (dwC o u) := by simp [dwC, ClC, h]
theorem word_ok {x : Nat} (s : Sto) (h : x < 4294967296) : F_is_word [.int (x : Nat)] s = .ok (.bl true) s := by
  refine gc0 ?_ (by simp)
  have e := is_int (x : Nat) s
  have e0 : decide ((0 : Int) ≤ ((x : Nat) : Int)) = true := decide_eq_true (by omega)
  have e1 : decide (((x : Nat) : Int) < 4294967296) = true := decide_eq_true (by omega)
  simp! only [B_is_word, e, e0, e1]
theorem script_ok {ws : List Nat} (s : Sto) (h : RowW ws) : F_is_script [.tup (iN ws)] s = .ok (.bl true) s := by
  refine gc0' ?_
  have i1 := fun s => isi_ty (x := .tup (iN ws)) (a := "tuple") (n := "tuple") (r := true) (s := s) rfl (by decide) (by decide)
  have hl := h.len
  have d1 : decide ((((iN ws).length : Nat) : Int) ≤ 10000) = true := decide_eq_true (by rw [iN_len]; omega)
  simp! [B_is_script, i1, d1]
  refine lc_el (L := ws) (φ := fun n => .int (n : Nat)) (fun _ => true) (fun _ => .bl true) (by omega) (fun _ _ => trivial) (fun x hx s2 g2 => ⟨rfl, fun _ => ?_⟩) ?_
  · have e := fun s => word_ok s (h.lt x hx)
    simp! only [wipeA, e]
  · have em : (ws.filter fun _ => true).map (fun _ => AV.bl true) = (ws.map fun _ => true).map .bl := by
      rw [List.filter_eq_self.mpr fun _ _ => rfl, List.map_map]
      rfl
    rw [em]
    have al := gAll_lst (x := .obj s.n) (ns := ws.map fun _ => true) (s := s.new (.lst ((ws.map fun _ => true).map .bl))) (lstOf_obj Sto.new_at)
    have ra : (ws.map fun _ => true).all id = true := by rw [List.all_map]; simp
    rw [ra] at al
    simp! [al]
    exact (Gb.refl s).new
theorem scstate_ok {ws : List Nat} {p : Nat} (s : Sto) (h : RowW ws) (hp : p ≤ ws.length) : F_need_script_state [.tup [.tup (iN ws), .int (p : Nat)]] s = .ok .non s := by
  refine gc0 ?_ (by simp)
  have hl := h.len
  have i1 := isi_ty (x := .tup [.tup (iN ws), .int (p : Nat)]) (a := "tuple") (n := "tuple") (r := true) (s := s) rfl (by decide) (by decide)
  have i0 : gIx (.tup [.tup (iN ws), .int (p : Nat)]) (.int 0) s = .ok (.tup (iN ws)) s := gIx_seq (xs := [.tup (iN ws), .int (p : Nat)]) rfl (show L2.atI _ ((0 : Nat) : Int) = _ from L2.atI_nat rfl)
  have i3 : gIx (.tup [.tup (iN ws), .int (p : Nat)]) (.int 1) s = .ok (.int (p : Nat)) s := gIx_seq (xs := [.tup (iN ws), .int (p : Nat)]) rfl (show L2.atI _ ((1 : Nat) : Int) = _ from L2.atI_nat rfl)
  have e := script_ok s h
  have ii := is_int (p : Nat) s
  have d2 : decide (((2 : Nat) : Int) = 2) = true := rfl
  have d3 : decide ((0 : Int) ≤ ((p : Nat) : Int)) = true := decide_eq_true (by omega)
  have d4 : decide (((p : Nat) : Int) ≤ (((iN ws).length : Nat) : Int)) = true := decide_eq_true (by rw [iN_len]; omega)
  have g : gcT (aOr (aNot (aTest (aCB (gIsi (kitB "tuple")) (aCons (aVar 0) (aCons (aC (.ty "tuple")) aNil))))) (aOr (aTest (aOp gNe (aCB gLen (aCons (aVar 0) aNil)) (aC (.int 2)))) (aOr (aNot (aTest (aCall 1 F_is_script [] (aCons (aOp gIx (aVar 0) (aC (.int 0))) aNil)))) (aNot (aTest (aCall 1 F_is_integer [] (aCons (aOp gIx (aVar 0) (aC (.int 1))) aNil))))))) [some (.tup [.tup (iN ws), .int (p : Nat)])] s = .ok false s := gcT_f (by simp! only [i1, d2, i0, e, i3, ii])
  simp! only [B_need_script_state, g, i3, i0, d3, d4]
theorem sc_init {ws : List Nat} (h : RowW ws) (s : Sto) : F_Scripted___init__ [.obj s.n, .tup (iN ws), .int 0] (s.new (.ins "Scripted" [])) = .ok .non (s.new (scC ws 0)) := by
  have e := script_ok (s.new (.ins "Scripted" [])) h
  have e2 : F_need_script_state [.tup [.tup (iN ws), .int 0]] (s.new (.ins "Scripted" [])) = .ok .non (s.new (.ins "Scripted" [])) := scstate_ok (p := 0) (s.new (.ins "Scripted" [])) h (Nat.zero_le _)
  have f1 : setF ["Scripted"] "s1_script" (.obj s.n) (.tup (iN ws)) (s.new (.ins "Scripted" [])) = some (s.new (.ins "Scripted" [("s1_script", .tup (iN ws))])) := by
    rw [setF_obj Sto.new_at (by simp) (by simp), new_set]
    rfl
  have f2 : setF ["Scripted"] "s1_place" (.obj s.n) (.int 0) (s.new (.ins "Scripted" [("s1_script", .tup (iN ws))])) = some (s.new (scC ws 0)) := by
    rw [setF_obj Sto.new_at (by simp) (by simp), new_set]
    rfl
  have lt : s.n < (s.new (.ins "Scripted" [])).n := Nat.lt_succ_self _
  have g : gcT (aNot (aTest (aCall 1 F_is_script [] (aCons (aVar 1) aNil)))) [some (.obj s.n), some (.tup (iN ws)), some (.int 0)] (s.new (.ins "Scripted" [])) = .ok false (s.new (.ins "Scripted" [])) := gcT_f (by simp! only [e])
  have k : aDef 0 B_Scripted___init__ [.obj s.n, .tup (iN ws), .int 0] (s.new (.ins "Scripted" [])) = .ok .non (s.new (scC ws 0)) := by
    simp! only [B_Scripted___init__, g, e2, f1, f2]
  have es : (s.new (.ins "Scripted" [])).set s.n (scC ws 0) = s.new (scC ws 0) := new_set
  rw [← es] at k ⊢
  have := gcF_eq k (by simp) ((Clean.refl _).set (.inr (sc_cl _ _ _)))
  rw [cut_set_old lt, cut_self] at this
  exact this
theorem need_src {s : Sto} {o p : Nat} {ws : List Nat} (h : s.c o = scC ws p) : F_need_source [.obj o] s = .ok .non s := by
  refine gc0 ?_ (by simp)
  have i1 : gIsi (kitB "Source") [.obj o, .cls "Source"] s = .ok (.bl true) s := isi_cls (a := "Scripted") (by show (match s.c o with | .lst _ => some "list" | .dic _ => some "dict" | .ins c _ => some c) = _; rw [h]; rfl) (by decide) (by decide)
  have iv : gIVal ["Scripted"] "KIND" (.str "script") (.obj o) s = .ok (.str "script") s := gIVal_at (insAt_obj (h.trans rfl)) (by simp) (by rw [lookA_tl (by decide), lookA_tl (by decide)]; rfl)
  have ns : (("script" : Str) = "none") = False := eq_false (by decide)
  have dn : decide (("script" : Str) = "none") = false := decide_eq_false (by decide)
  simp! only [B_need_source, i1, iv, dn]
theorem dr_init {s : Sto} {o p : Nat} {ws : List Nat} (h : s.c o = scC ws p) (ho : o < s.n) : F_Draws___init__ [.obj s.n, .obj o] (s.new (.ins "Draws" [])) = .ok .non (s.new (dwC o 0)) := by
  have e := need_src (s := s.new (.ins "Draws" [])) (o := o) (p := p) (ws := ws) ((at_new ho).trans h)
  have f1 : setF ["Draws"] "s5_source" (.obj s.n) (.obj o) (s.new (.ins "Draws" [])) = some (s.new (.ins "Draws" [("s5_source", .obj o)])) := by
    rw [setF_obj Sto.new_at (by simp) (by simp), new_set]
    rfl
  have f2 : setF ["Draws"] "s5_used" (.obj s.n) (.int 0) (s.new (.ins "Draws" [("s5_source", .obj o)])) = some (s.new (dwC o 0)) := by
    rw [setF_obj Sto.new_at (by simp) (by simp), new_set]
    rfl
  have lt : s.n < (s.new (.ins "Draws" [])).n := Nat.lt_succ_self _
  have k : aDef 0 B_Draws___init__ [.obj s.n, .obj o] (s.new (.ins "Draws" [])) = .ok .non (s.new (dwC o 0)) := by
    simp! only [B_Draws___init__, e, f1, f2]
  have es : (s.new (.ins "Draws" [])).set s.n (dwC o 0) = s.new (dwC o 0) := new_set
  rw [← es] at k ⊢
  have := gcF_eq k (by simp) ((Clean.refl _).set (.inr (dr_cl (by show o < s.n + 1; omega) 0)))
  rw [cut_set_old lt, cut_self] at this
  exact this
def wd (ws : List Nat) (i : Nat) : Nat := ws.getD i 0
def stt (s : Sto) (o w : Nat) (ws : List Nat) (p u : Nat) : Sto := (s.set o (scC ws p)).set w (dwC o u)
section
variable {s : Sto} {o w p u : Nat} {ws : List Nat}
theorem Sto.set_self {s : Sto} {i : Nat} {x : Cell} (h : s.c i = x) : s.set i x = s := by
  subst h
  unfold Sto.set
  cases s
  simp only [Sto.mk.injEq, true_and]
  funext j
  by_cases e : j = i
  · rw [if_pos e, e]
  · rw [if_neg e]
theorem stt_self (h1 : s.c o = scC ws p) (h2 : s.c w = dwC o u) : stt s o w ws p u = s := by
  unfold stt
  rw [Sto.set_self h1, Sto.set_self h2]
theorem stt_o (ne : o ≠ w) : (stt s o w ws p u).c o = scC ws p := (Sto.set_ne ne).trans Sto.set_at
theorem stt_w : (stt s o w ws p u).c w = dwC o u := Sto.set_at
theorem stt_stt (ne : o ≠ w) {p' u' : Nat} : stt (stt s o w ws p u) o w ws p' u' = stt s o w ws p' u' := by
  unfold stt Sto.set
  simp only [Sto.mk.injEq, true_and]
  funext j
  by_cases h1 : j = w
  · simp [h1]
  · by_cases h2 : j = o
    · simp [h1, h2, ne]
    · simp [h1, h2]
theorem stt_clean (ho : o < s.n) : Clean s (stt s o w ws p u) := ((Clean.refl s).set (.inr (sc_cl _ _ _))).set (.inr (dr_cl ho _))
theorem stt_cut (ho : o < s.n) (hw : w < s.n) : (stt s o w ws p u).cut s = stt s o w ws p u := by
  unfold stt
  rw [cut_set_old hw, cut_set_old ho, cut_self]
theorem gc_st {F : List AV → Sto → Res AV} {args : List AV} {s s' : Sto} {v : AV} (h : (F args s).Post (fun v' t => v' = v ∧ t = s') (fun _ _ _ _ => False)) (hv : Cl s.n v) (hc : Clean s s') (e : s'.cut s = s') : gcF F args s = .ok v s' := by
  rw [gcF_eq (res_ok h) hv hc, e]
theorem gNe_w (h : p < ws.length) (s : Sto) : gIx (.tup (iN ws)) (.int (p : Nat)) s = .ok (.int (wd ws p : Nat)) s := by
  have e : (iN ws)[p]? = some (.int (wd ws p : Nat)) := by
    show (ws.map _)[p]? = _
    rw [List.getElem?_map]
    unfold wd
    rw [List.getD_eq_getElem?_getD, List.getElem?_eq_getElem h]
    rfl
  exact gIx_seq (xs := iN ws) rfl (show L2.atI _ ((p : Nat) : Int) = _ from L2.atI_nat e)
theorem next_w (h : s.c o = scC ws p) (ho : o < s.n) (hp : p < ws.length) : F_Scripted_next_word [.obj o] s = .ok (.int (wd ws p : Nat)) (s.set o (scC ws (p + 1))) := by
  have a1 : gFld ["Scripted"] "s1_script" (.obj o) s = .ok (.tup (iN ws)) s := gFld_obj h (by simp) lookA_hd
  have a2 : gFld ["Scripted"] "s1_place" (.obj o) s = .ok (.int (p : Nat)) s := gFld_obj h (by simp) ((lookA_tl (by decide)).trans lookA_hd)
  have sa : F_script_after [.tup (iN ws), .int (p : Nat), .int 1] s = .ok (.int ((p + 1 : Nat) : Int)) s := by
    refine gc0 ?_ (by simp)
    have c : ((p : Nat) : Int) + 1 = ((p + 1 : Nat) : Int) := by omega
    have d : decide ((((iN ws).length : Nat) : Int) < ((p + 1 : Nat) : Int)) = false := decide_eq_false (by rw [iN_len]; omega)
    simp! only [B_script_after, c, gGt_int, d]
  have f1 : setF ["Scripted"] "s1_place" (.obj o) (.int ((p + 1 : Nat) : Int)) s = some (s.set o (scC ws (p + 1))) := by
    rw [setF_obj h (by simp) (by simp)]
    rfl
  have a3 : gFld ["Scripted"] "s1_script" (.obj o) (s.set o (scC ws (p + 1))) = .ok (.tup (iN ws)) (s.set o (scC ws (p + 1))) := gFld_obj Sto.set_at (by simp) lookA_hd
  have c2 : ((p + 1 : Nat) : Int) - 1 = ((p : Nat) : Int) := by omega
  have ix := gNe_w hp (s.set o (scC ws (p + 1)))
  have k : aDef 1 B_Scripted_next_word [.obj o] s = .ok (.int (wd ws p : Nat)) (s.set o (scC ws (p + 1))) := by
    simp! only [B_Scripted_next_word, a1, a2, sa, f1, a3, c2, ix]
  have := gcF_eq k (by simp) ((Clean.refl s).set (.inr (sc_cl _ _ _)))
  rw [cut_set_old ho, cut_self] at this
  exact this
theorem word_w (h : s.c o = scC ws p) (h2 : s.c w = dwC o u) (ne : o ≠ w) (ho : o < s.n) (hw : w < s.n) (hp : p < ws.length) : F_Draws_s5_word [.obj w] s = .ok (.int (wd ws p : Nat)) (stt s o w ws (p + 1) (u + 1)) := by
  have a1 : gFld ["Draws"] "s5_source" (.obj w) s = .ok (.obj o) s := gFld_obj h2 (by simp) lookA_hd
  have kc : Ab.clsIs s (.obj o) "Scripted" "next_word" = true := clsIs_obj h (by rw [lookA_tl (by decide), lookA_tl (by decide)]; rfl)
  have e := next_w h ho hp
  have w2 : (s.set o (scC ws (p + 1))).c w = dwC o u := (Sto.set_ne (Ne.symm ne)).trans h2
  have fa : ∀ (fv : AE) (σ : ASt), faug1 ["Draws"] "s5_used" (gI0 fun i j => .int (i + j)) fv σ (.obj w) (s.set o (scC ws (p + 1))) = (fv σ (s.set o (scC ws (p + 1)))).st σ (faug2 "Draws" "s5_used" (gI0 fun i j => .int (i + j)) σ (.obj w) (.int (u : Nat))) := fun fv σ => faug1_obj w2 (by simp) ((lookA_tl (by decide)).trans lookA_hd)
  have f1 : setF ["Draws"] "s5_used" (.obj w) (.int (((u : Nat) : Int) + 1)) (s.set o (scC ws (p + 1))) = some (stt s o w ws (p + 1) (u + 1)) := by
    rw [setF_obj w2 (by simp) (by simp)]
    rfl
  refine gc_st ?_ (by simp) (stt_clean ho) (stt_cut ho hw)
  simp! [B_Draws_s5_word, a1, kc, e, aFAug, fa, faug2, faug3, gI0, f1, oNx]
/-- the words from p on give v in k bits -/
structure Led (ws : List Nat) (p k v : Nat) : Prop where
  len : p + (k + 31) / 32 ≤ ws.length
  lt : v < 2 ^ k
  at_ : ∀ i, i < (k + 31) / 32 → (if 32 * (i + 1) ≤ k then wd ws (p + i) else wd ws (p + i) / 2 ^ (32 * (i + 1) - k)) = v / 2 ^ (32 * i) % 2 ^ 32
theorem mod_next (v i : Nat) : v % 2 ^ (32 * (i + 1)) = v % 2 ^ (32 * i) + v / 2 ^ (32 * i) % 2 ^ 32 * 2 ^ (32 * i) := by
  rw [show 32 * (i + 1) = 32 * i + 32 by omega, Nat.pow_add, Nat.mod_mul, Nat.mul_comm (2 ^ (32 * i))]
theorem bits_w {k v : Nat} (hr : RowW ws) (h : s.c o = scC ws p) (h2 : s.c w = dwC o u) (ne : o ≠ w) (ho : o < s.n) (hw : w < s.n) (L : Led ws p k v) (hk : k ≤ 600) : F_Draws_s5_bits [.obj w, .int (k : Nat)] s = .ok (.int (v : Nat)) (stt s o w ws (p + (k + 31) / 32) (u + (k + 31) / 32)) := by
  obtain ⟨n, hn⟩ : ∃ n, n = (k + 31) / 32 := ⟨_, rfl⟩
  rw [← hn]
  have hlen := L.len
  have hat := L.at_
  rw [← hn] at hlen hat
  refine gc_st ?_ (by simp) (stt_clean ho) (stt_cut ho hw)
  simp! [B_Draws_s5_bits, z2]
  refine while_A (fun m σ s' => ∃ (i : Nat) (x4 x5 : Option AV), i + m = n ∧ s' = stt s o w ws (p + i) (u + i) ∧ σ = [some (.obj w), some (.int (k : Nat)), some (.int ((v % 2 ^ (32 * i) : Nat) : Int)), some (.int ((32 * i : Nat) : Int)), x4, x5]) n ⟨0, none, none, by omega, (stt_self h h2).symm, by rw [Nat.mul_zero, Nat.pow_zero, Nat.mod_one]; rfl⟩ ?_
  rintro m σ s' ⟨i, x4, x5, hi, rfl, rfl⟩
  by_cases hlt : 32 * i < k
  · have d1 : decide (((32 * i : Nat) : Int) < ((k : Nat) : Int)) = true := decide_eq_true (by omega)
    have i1 : i < n := by omega
    have wo := word_w (s := stt s o w ws (p + i) (u + i)) (stt_o ne) stt_w ne ho hw (by omega : p + i < ws.length)
    rw [stt_stt ne] at wo
    have kc : Ab.clsIs (stt s o w ws (p + i) (u + i)) (.obj w) "Draws" "s5_word" = true := clsIs_obj stt_w (by rw [lookA_tl (by decide), lookA_tl (by decide)]; rfl)
    have cr : ((k : Nat) : Int) - ((32 * i : Nat) : Int) = ((k - 32 * i : Nat) : Int) := by omega
    have mn := mod_next v i
    have ha := hat i i1
    have cp : ((32 * i : Nat) : Int) + 32 = ((32 * (i + 1) : Nat) : Int) := by omega
    obtain ⟨q, hq⟩ : ∃ q, q = v / 2 ^ (32 * i) % 2 ^ 32 := ⟨_, rfl⟩
    rw [← hq] at ha mn
    have q32 : q < 2 ^ 32 := hq ▸ Nat.mod_lt _ (Nat.two_pow_pos _)
    have sh : ∀ s, gShl (.int (q : Nat)) (.int ((32 * i : Nat) : Int)) s = .ok (.int ((q * 2 ^ (32 * i) : Nat) : Int)) s := fun s => shl_ok (k := 32) q32 (by omega)
    have ce : ((v % 2 ^ (32 * i) : Nat) : Int) + ((q * 2 ^ (32 * i) : Nat) : Int) = ((v % 2 ^ (32 * (i + 1)) : Nat) : Int) := by rw [mn]; omega
    by_cases hf : 32 * (i + 1) ≤ k
    · have d2 : decide (((k - 32 * i : Nat) : Int) < 32) = false := decide_eq_false (by omega)
      rw [if_pos hf] at ha
      rw [ha] at wo
      simp! [d1, kc, wo, cr, d2, sh, ce, cp]
      exact ⟨m - 1, by omega, i + 1, _, _, by omega, rfl, rfl⟩
    · have d2 : decide (((k - 32 * i : Nat) : Int) < 32) = true := decide_eq_true (by omega)
      rw [if_neg hf] at ha
      have c3 : (32 : Int) - ((k - 32 * i : Nat) : Int) = ((32 * (i + 1) - k : Nat) : Int) := by omega
      have sr := fun s => shrN (a := wd ws (p + i)) (i := 32 * (i + 1) - k) s
      rw [ha] at sr
      simp! [d1, kc, wo, cr, d2, c3, sr, sh, ce, cp]
      exact ⟨m - 1, by omega, i + 1, _, _, by omega, rfl, rfl⟩
  · have d1 : decide (((32 * i : Nat) : Int) < ((k : Nat) : Int)) = false := decide_eq_false (by omega)
    have ie : i = n := by omega
    subst ie
    have vm : v % 2 ^ (32 * i) = v := Nat.mod_eq_of_lt (Nat.lt_of_lt_of_le L.lt (Nat.pow_le_pow_right (by decide) (by omega)))
    simp! [d1, vm]
end
abbrev MB : Int := 115792089237316195423570985008687907853269984665640564039457584007913129639936
theorem leMB {n : Nat} (h : n ≤ 2 ^ 256) : ((n : Nat) : Int) ≤ MB := by
  have e : (2 : Nat) ^ 256 = 115792089237316195423570985008687907853269984665640564039457584007913129639936 := by decide +kernel
  rw [e] at h
  show ((n : Nat) : Int) ≤ 115792089237316195423570985008687907853269984665640564039457584007913129639936
  omega
structure DW (s : Sto) (o w : Nat) (ws : List Nat) (p u : Nat) : Prop where
  h : s.c o = scC ws p
  h2 : s.c w = dwC o u
  ne : o ≠ w
  ho : o < s.n
  hw : w < s.n
  hr : RowW ws
section
variable {s : Sto} {o w p u : Nat} {ws : List Nat}
theorem DW.st (D : DW s o w ws p u) (p' u' : Nat) : DW (stt s o w ws p' u') o w ws p' u' := ⟨stt_o D.ne, stt_w, D.ne, D.ho, D.hw, D.hr⟩
theorem DW.kc {m : Str} (D : DW s o w ws p u) (h1 : m ≠ "s5_source") (h2 : m ≠ "s5_used") : Ab.clsIs s (.obj w) "Draws" m = true := clsIs_obj D.h2 (by rw [lookA_tl (Ne.symm h1), lookA_tl (Ne.symm h2)]; rfl)
theorem bits_d {k v : Nat} (D : DW s o w ws p u) (L : Led ws p k v) (hk : k ≤ 600) : F_Draws_s5_bits [.obj w, .int (k : Nat)] s = .ok (.int (v : Nat)) (stt s o w ws (p + (k + 31) / 32) (u + (k + 31) / 32)) := bits_w D.hr D.h D.h2 D.ne D.ho D.hw L hk
end
end Pf
set_option Elab.async false
set_option linter.all false
set_option maxRecDepth 100000
set_option maxHeartbeats 1000000
set_option exponentiation.threshold 3000
namespace Pf
open PySem Ab
local macro_rules | `(tactic| simp! [$xs,*]) => `(tactic| try simp (config := {maxSteps := 1000000}) only [k_bind, k_Kb, k_st, k_Kst, k_Rst, k_thn, k_loop, k_fn, k_forget, k_clr, k_noX, k_try, k_stuck, k_Astuck, d_thn_nx, d_thn_bk, d_thn_ct, d_thn_rt, d_thn_er, d_lp_nx, d_lp_bk, d_lp_ct, d_lp_rt, d_lp_er, d_fg_nx, d_fg_bk, d_fg_ct, d_fg_rt, d_fg_er, d_cl_nx, d_cl_bk, d_cl_ct, d_cl_rt, d_cl_er, d_tr_nx, d_tr_bk, d_tr_ct, d_tr_rt, d_tr_er, d_nX_nx, d_nX_bk, d_nX_ct, d_nX_rt, d_nX_er, d_fn_nx, d_fn_bk, d_fn_ct, d_fn_rt, d_fn_er, A_nx, A_bk, A_ct, A_rt, A_err, post_ok, post_err, post_noErr, e_op, e_opK, e_un, e_cb, e_nil, e_c, e_cons, e_consK, e_consK2, e_and, e_or, e_andK, e_orK, e_not, e_notK, e_test, e_testK, e_tand, e_tandK, e_tor, e_torK, e_tnot, e_tnotK, e_yes, e_if, e_ifK, e_ch, e_chK1, e_chK2, e_chK3, e_tup, e_tupK, e_lst, e_lstK, e_newL, e_call, e_callK, e_meth, e_methK, e_methK2, e_prop, e_propK, e_make, e_makeK, e_makeK2, e_makeV, e_sm, e_smK, e_smK2, e_cm, e_cmK, e_cmK2, e_sl, e_slK1, e_slK2, e_slK3, e_part, e_partK, e_nopart, e_rev, e_bm, e_bmK, e_pr, e_pr0, e_prK1, e_prK2, e_prK3, e_disp, e_dnew, e_own, e_ownK, e_lc, e_lcK, e_iter, e_rng1, e_rng1K, e_rng2, e_rng2K, e_enum, s_drop, s_dropK, s_ret, s_retK, s_retN, s_next, s_break, s_cont, s_seq, s_if, s_ifK, s_asg, s_asgK, s_name, s_par, s_parK, s_par3, s_parK3, s_gnil, s_gcons, s_gtup, s_for, s_forK, s_raise, s_raiseK, s_sf, s_sfK1, s_sfK2, s_dp, s_dpK1, s_dpK2, s_dpK3, s_forget, s_def, s_fld, e_enumU, e_enumUT, e_match, e_mcase, e_mcase2, e_many, e_mnil, e_lcX, e_lcXK, e_get2, e_methS, e_methS1, e_methS2, s_augS, s_augS1, gEqS_int, gEqS_str, gEqS_bl, gEqS_tup, eq_self, beq_self_eq_true, k_grd, k_grdS, k_ite, k_Aite, true_implies, false_implies, implies_true, List.map_cons, List.map_nil, List.nil_append, List.cons_append, List.append_nil, List.replicate_succ, List.replicate_zero, List.getElem?_cons_zero, List.getElem?_cons_succ, List.length_cons, List.length_nil, List.set_cons_zero, List.set_cons_succ, ↓reduceIte, ↓reduceDIte, Nat.reduceAdd, Nat.reduceLeDiff, Nat.reduceEqDiff, Nat.zero_add, if_true, if_false, aVar, gMinus_int, gLt_int, gLe_int, gGt_int, gGe_int, gEq_int, gNe_int, gEq_str, gNe_str, gEq_bl, gNe_bl, gXor_int, gAnd_int, gOr_int, gAdd_int, gIsN_non, gNotN_non, gIsB_bl, gNotB_bl, gNeg_int, gLen_tup, gLen_scr, gMax2_int, gMin2_int, gBits_int, gSl_tup, gSl_scr, Bool.not_true, Bool.not_false, Bool.true_eq_false, Bool.false_eq_true, Bool.true_and, Bool.false_and, Bool.and_true, Bool.and_false, Bool.true_or, Bool.false_or, decide_true, decide_false, and_self, and_true, true_and, and_false, false_and, not_true_eq_false, not_false_eq_true, reduceCtorEq, kz, z1, z2, z3, z4, z5, z6, z7, z8, z9, z10, z11, z12, z13, z14, z15, z16, isCls, isNon, aForget, aHand, toKey, keysA, iterOf_tup, iterOf_scr, oNx_some, noErr_ok, decide_eq_true_eq, decide_eq_false_iff_not, Sto.new_n, Sto.set_n, Sto.set_at, Sto.new_at, Nat.zero_le, aMakeV, Cl_non, Cl_bl, Cl_int, Cl_str, Cl_cls, Cl_obj, Cl_tup, ClL_nil, ClL_cons, $xs,*])
structure RowOf (k v : Nat) (ws : List Nat) : Prop where
  len : ws.length = (k + 31) / 32
  lt : ∀ x ∈ ws, x < 4294967296
  led : Led ws 0 k v
/-- words from p on -/
def AtW (ws : List Nat) (p : Nat) (w : List Nat) : Prop := ∃ pre post, ws = pre ++ (w ++ post) ∧ p = pre.length
theorem AtW.fst {ws w1 w2 : List Nat} {p : Nat} (h : AtW ws p (w1 ++ w2)) : AtW ws p w1 := by
  obtain ⟨a, b, rfl, rfl⟩ := h
  exact ⟨a, w2 ++ b, by simp, rfl⟩
theorem AtW.snd {ws w1 w2 : List Nat} {p : Nat} (h : AtW ws p (w1 ++ w2)) : AtW ws (p + w1.length) w2 := by
  obtain ⟨a, b, rfl, rfl⟩ := h
  exact ⟨a ++ w1, b, by simp, by simp⟩
theorem AtW.len {ws w : List Nat} {p : Nat} (h : AtW ws p w) : p + w.length ≤ ws.length := by
  obtain ⟨a, b, rfl, rfl⟩ := h
  simp only [List.length_append]; omega
theorem wd_at {ws w : List Nat} {p : Nat} (h : AtW ws p w) {i : Nat} (hi : i < w.length) : wd ws (p + i) = wd w i := by
  obtain ⟨a, b, rfl, rfl⟩ := h
  unfold wd
  rw [List.getD_eq_getElem?_getD, List.getD_eq_getElem?_getD, List.getElem?_append_right (by omega), Nat.add_sub_cancel_left, List.getElem?_append_left hi]
theorem Led.at {ws w : List Nat} {p q k v : Nat} (L : Led w q k v) (h : AtW ws p w) : Led ws (p + q) k v := by
  have l := L.len
  have hl := h.len
  refine ⟨by omega, L.lt, fun i hi => ?_⟩
  have e := L.at_ i hi
  rw [Nat.add_assoc, wd_at h (by omega)]
  exact e
/-- rows of a bound: missed numbers and the last one -/
structure Rows (k : Nat) (vals : List Nat) (ws : List Nat) : Prop where
  len : ws.length = vals.length * ((k + 31) / 32)
  lt : ∀ x ∈ ws, x < 4294967296
  led : ∀ j v, vals[j]? = some v → Led ws (j * ((k + 31) / 32)) k v
theorem Rows.nil (k : Nat) : Rows k [] [] := ⟨by simp, fun x h => (by cases h), fun j v h => (by simp at h)⟩
theorem Rows.snoc {k v : Nat} {vals ws w : List Nat} (h : Rows k vals ws) (r : RowOf k v w) : Rows k (vals ++ [v]) (ws ++ w) := by
  refine ⟨by rw [List.length_append, h.len, r.len, List.length_append, List.length_singleton, Nat.add_mul, Nat.one_mul], fun x hx => ?_, fun j u hj => ?_⟩
  · rcases List.mem_append.mp hx with hx | hx
    · exact h.lt x hx
    · exact r.lt x hx
  · by_cases hl : j < vals.length
    · rw [List.getElem?_append_left hl] at hj
      have := (h.led j u hj).at (ws := ws ++ w) (p := 0) ⟨[], w, by simp, rfl⟩
      rwa [Nat.zero_add] at this
    · have : j < vals.length + 1 := by
        have := (List.getElem?_eq_some_iff.mp hj).1
        simpa using this
      have e : j = vals.length := by omega
      subst e
      rw [List.getElem?_append_right (Nat.le_refl _), Nat.sub_self] at hj
      cases hj
      have := r.led.at (ws := ws ++ w) (p := ws.length) ⟨ws, [], by simp, rfl⟩
      rwa [Nat.add_zero, h.len] at this
/-- what a draw below n takes -/
def Try1 (n v : Nat) (ws : List Nat) : Prop := ∃ us : List Nat, us.length ≤ 2 ∧ (∀ u ∈ us, n ≤ u) ∧ v < n ∧ Rows (TW.len (n - 1)) (us ++ [v]) ws
def Gives : List Nat → List Nat → List Nat → Prop
  | [], [], ws => ws = []
  | b :: bs, v :: vs, ws => ∃ w1 w2, ws = w1 ++ w2 ∧ Try1 b v w1 ∧ Gives bs vs w2
  | _, _, _ => False
theorem Gives.snoc : ∀ {bs vs ws : List Nat} {n v : Nat} {w : List Nat}, Gives bs vs ws → Try1 n v w → Gives (bs ++ [n]) (vs ++ [v]) (ws ++ w)
  | [], [], ws, n, v, w, h, t => by
    cases (show ws = [] from h)
    exact ⟨w, [], by simp, t, rfl⟩
  | b :: bs, x :: vs, ws, n, v, w, h, t => by
    obtain ⟨w1, w2, rfl, h1, h2⟩ := h
    exact ⟨w1, w2 ++ w, by simp, h1, Gives.snoc h2 t⟩
  | [], _ :: _, _, _, _, _, h, _ => h.elim
  | _ :: _, [], _, _, _, _, h, _ => h.elim
theorem Gives.len : ∀ {bs vs ws : List Nat}, Gives bs vs ws → vs.length = bs.length
  | [], [], _, _ => rfl
  | b :: bs, x :: vs, ws, h => by
    obtain ⟨w1, w2, rfl, h1, h2⟩ := h
    simp [Gives.len h2]
  | [], _ :: _, _, h => h.elim
  | _ :: _, [], _, h => h.elim
theorem Try1.lt {n v : Nat} {ws : List Nat} (h : Try1 n v ws) : v < n ∧ ∀ x ∈ ws, x < 4294967296 := by
  obtain ⟨us, h1, h2, h3, h4⟩ := h
  exact ⟨h3, h4.lt⟩
theorem Gives.lt : ∀ {bs vs ws : List Nat}, Gives bs vs ws → ∀ x ∈ ws, x < 4294967296
  | [], [], ws, h, x, hx => by cases (show ws = [] from h); cases hx
  | b :: bs, v :: vs, ws, h, x, hx => by
    obtain ⟨w1, w2, rfl, h1, h2⟩ := h
    rcases List.mem_append.mp hx with hx | hx
    · exact h1.lt.2 x hx
    · exact Gives.lt h2 x hx
  | [], _ :: _, _, h, _, _ => h.elim
  | _ :: _, [], _, h, _, _ => h.elim
theorem Try1.len {n v m : Nat} {ws : List Nat} (h : Try1 n v ws) (hn : n ≤ 2 ^ (32 * m)) : ws.length ≤ 3 * m := by
  obtain ⟨us, h1, h2, h3, h4⟩ := h
  have l : TW.len (n - 1) ≤ 32 * m := TW.len_le (by omega)
  have e := h4.len
  rw [List.length_append, List.length_singleton] at e
  have q : (TW.len (n - 1) + 31) / 32 ≤ m := by omega
  have q2 := Nat.mul_le_mul (show us.length + 1 ≤ 3 by omega) q
  omega
theorem Gives.lenW {m : Nat} : ∀ {bs vs ws : List Nat}, Gives bs vs ws → (∀ b ∈ bs, b ≤ 2 ^ (32 * m)) → ws.length ≤ 3 * m * bs.length
  | [], [], ws, h, _ => by cases (show ws = [] from h); simp
  | b :: bs, v :: vs, ws, h, k => by
    obtain ⟨w1, w2, rfl, h1, h2⟩ := h
    have a := h1.len (k b List.mem_cons_self)
    have c := Gives.lenW h2 fun x hx => k x (List.mem_cons_of_mem _ hx)
    rw [List.length_append, List.length_cons, Nat.mul_succ]
    omega
  | [], _ :: _, _, h, _ => h.elim
  | _ :: _, [], _, h, _ => h.elim
section
variable {s : Sto} {o w p u : Nat} {ws : List Nat}
/-- below, some numbers refused -/
theorem below_t {n v : Nat} {w1 : List Nat} (D : DW s o w ws p u) (A : AtW ws p w1) (T : Try1 n v w1) (hn : n ≤ 2 ^ 256) : F_Draws_s5_below [.obj w, .int (n : Nat)] s = .ok (.int (v : Nat)) (stt s o w ws (p + w1.length) (u + w1.length)) := by
  obtain ⟨us, h1, h2, h3, h4⟩ := T
  have l : TW.len (n - 1) ≤ 257 := TW.len_le (Nat.lt_of_lt_of_le (show n - 1 < 2 ^ 256 by omega) (Nat.pow_le_pow_right (by decide) (by decide)))
  obtain ⟨k, hk⟩ : ∃ k, k = TW.len (n - 1) := ⟨_, rfl⟩
  rw [← hk] at h4 l
  obtain ⟨m, hm⟩ : ∃ m, m = (k + 31) / 32 := ⟨_, rfl⟩
  have lens := h4.len
  rw [← hm, List.length_append, List.length_singleton] at lens
  have c : ((n : Nat) : Int) - 1 = ((n - 1 : Nat) : Int) := by omega
  have dg := digits_okN (n := n - 1) s
  rw [← hk] at dg
  have bit : ∀ j x, (us ++ [v])[j]? = some x → F_Draws_s5_bits [.obj w, .int (k : Nat)] (stt s o w ws (p + j * m) (u + j * m)) = .ok (.int (x : Nat)) (stt s o w ws (p + (j + 1) * m) (u + (j + 1) * m)) := fun j x hj => by
    have L := (h4.led j x hj).at A
    rw [← hm] at L
    have e := bits_d (D.st (p + j * m) (u + j * m)) L (by omega)
    rw [stt_stt D.ne, ← hm] at e
    rw [e, Nat.add_mul, Nat.one_mul, Nat.add_assoc, Nat.add_assoc]
  have kc : ∀ a b, Ab.clsIs (stt s o w ws a b) (.obj w) "Draws" "s5_bits" = true := fun a b => (D.st a b).kc (by decide) (by decide)
  have s0 : stt s o w ws (p + 0 * m) (u + 0 * m) = s := by rw [Nat.zero_mul, Nat.add_zero, Nat.add_zero]; exact stt_self D.h D.h2
  obtain ⟨x0, hx0⟩ : ∃ x, (us ++ [v])[0]? = some x := ⟨_, List.getElem?_eq_getElem (by simp)⟩
  have b0 := bit 0 x0 hx0
  have k0 := kc (p + 0 * m) (u + 0 * m)
  rw [s0] at b0 k0
  refine gc_st ?_ (by simp) (stt_clean D.ho) (stt_cut D.ho D.hw)
  simp! [B_Draws_s5_below, c, dg, k0, b0]
  refine while_A (fun r σ s' => ∃ (j x : Nat), j + r = us.length ∧ (us ++ [v])[j]? = some x ∧ s' = stt s o w ws (p + (j + 1) * m) (u + (j + 1) * m) ∧ σ = [some (.obj w), some (.int (n : Nat)), some (.int (k : Nat)), some (.int (x : Nat))]) us.length ⟨0, x0, by omega, hx0, rfl, rfl⟩ ?_
  rintro r σ s' ⟨j, x, hj, hx, rfl, rfl⟩
  by_cases hl : j < us.length
  · rw [List.getElem?_append_left hl] at hx
    have ge := h2 x (List.mem_of_getElem? hx)
    have d1 : decide (((n : Nat) : Int) ≤ ((x : Nat) : Int)) = true := decide_eq_true (by omega)
    obtain ⟨y, hy⟩ : ∃ y, (us ++ [v])[j + 1]? = some y := ⟨_, List.getElem?_eq_getElem (by simp; omega)⟩
    have e := bit (j + 1) y hy
    have kk := kc (p + (j + 1) * m) (u + (j + 1) * m)
    simp! [gGe_int, d1, kk, e]
    exact ⟨r - 1, by omega, j + 1, y, by omega, hy, rfl, rfl⟩
  · have e : j = us.length := by omega
    subst e
    rw [List.getElem?_append_right (Nat.le_refl _), Nat.sub_self] at hx
    cases hx
    have d1 : decide (((n : Nat) : Int) ≤ ((v : Nat) : Int)) = false := decide_eq_false (by omega)
    simp! [gGe_int, d1]
    rw [lens]
theorem belowf_t {n v : Nat} {w1 : List Nat} (D : DW s o w ws p u) (A : AtW ws p w1) (T : Try1 n v w1) (hn : n ≤ 2 ^ 256) : F_Draws_below [.obj w, .int (n : Nat)] s = .ok (.int (v : Nat)) (stt s o w ws (p + w1.length) (u + w1.length)) := by
  have v0 := T.lt.1
  have e := below_t D A T hn
  have kc := D.kc (m := "s5_below") (by decide) (by decide)
  have nd : F_s5_need [.int (n : Nat), .int 1, .int MB] s = .ok .non s := need5_t (i := (n : Nat)) (lo := 1) (hi := MB) s (by omega) (leMB hn)
  refine gc_st ?_ (by simp) (stt_clean D.ho) (stt_cut D.ho D.hw)
  simp! [B_Draws_below, nd, kc, e]
end
section
variable {d B : Nat} {s t : Sto} {P : AV → Sto → Prop} {R : String → List Str → List AV → Sto → Prop}
theorem part_shift {v k i : Nat} (h : 32 * i ≤ k) : v / 2 ^ (32 * i) / 4294967296 = v / 2 ^ (32 * (i + 1)) := by
  rw [Nat.div_div_eq_div_mul, show (4294967296 : Nat) = 2 ^ 32 from rfl, ← Nat.pow_add, show 32 * i + 32 = 32 * (i + 1) by omega]
/-- words of a number are made -/
theorem w1_row {k v : Nat} (S : I1 d B t s) (hB : B ≤ 45000000) (hv : v < 2 ^ k) (hk : k ≤ 300) (q : ∀ L ws s', s.n ≤ L → L < s'.n → s'.c L = .lst (iN ws) → RowOf k v ws → I1 d (B + 4) t s' → Gd d s s' → P (.obj L) s') : (F__law_row [.obj d, .int (v : Nat), .int (k : Nat)] s).Post P R := by
  unfold F__law_row
  refine gcF_n ?_
  have z0 : ((0 : Nat) ≤ sizeLine) = True := eq_true (Nat.zero_le _)
  have lt0 := S.lt
  simp! [B__law_row, z0]
  obtain ⟨L, hL⟩ : ∃ L, L = s.n := ⟨_, rfl⟩
  obtain ⟨m, hm⟩ : ∃ m, m = k / 32 := ⟨_, rfl⟩
  rw [← hL]
  have big : (100 : Nat) < sizeLine := by decide
  refine while_A (fun r σ s' => ∃ (i : Nat) (ws : List Nat), i + r = m ∧ ws.length = i ∧ (∀ x ∈ ws, x < 4294967296) ∧ (∀ j, j < i → wd ws j = v / 2 ^ (32 * j) % 2 ^ 32) ∧ s'.c L = .lst (iN ws) ∧ L < s'.n ∧ I1 d B t s' ∧ Gd d s s' ∧ σ = [some (.obj d), some (.int ((v / 2 ^ (32 * i) : Nat) : Int)), some (.int ((k - 32 * i : Nat) : Int)), some (.obj L), none]) m ⟨0, [], by omega, rfl, fun x h => (by cases h), fun j h => absurd h (by omega), by rw [hL]; exact Sto.new_at, by rw [hL]; exact Nat.lt_succ_self _, S.new, (Gd.refl d s).new, by simp⟩ ?_
  rintro r σ s' ⟨i, ws, hi, wl, wlt, wv, cL, nL, S1, g1, rfl⟩
  by_cases hlt : i < m
  · have d1 : decide ((32 : Int) ≤ ((k - 32 * i : Nat) : Int)) = true := decide_eq_true (by omega)
    obtain ⟨a, ha⟩ : ∃ a, a = v / 2 ^ (32 * i) := ⟨_, rfl⟩
    have md : gMod (.int ((a : Nat) : Int)) (.int 4294967296) s' = .ok (.int ((a % 4294967296 : Nat) : Int)) s' := gMod_int (by decide)
    have sq := isSeqL_obj cL
    have ap := gAppend_obj (y := .int ((a % 4294967296 : Nat) : Int)) cL (by rw [iN_len]; omega)
    have fd : ∀ s, gFdiv (.int ((a : Nat) : Int)) (.int 4294967296) s = .ok (.int ((a / 4294967296 : Nat) : Int)) s := fun s => gFdiv_int ⟨by decide, by decide⟩
    have ck : ((k - 32 * i : Nat) : Int) - 32 = ((k - 32 * (i + 1) : Nat) : Int) := by omega
    rw [← ha]
    simp! [gGe_int, d1, sq, md, ap, fd, ck]
    refine ⟨r - 1, by omega, i + 1, ws ++ [a % 4294967296], by omega, by simp [wl], fun x hx => ?_, fun j hj => ?_, by simp [iN], nL, S1.set (by have := S.gd.n; omega), ⟨g1.n, fun x hx hd => (Sto.set_ne (by omega)).trans (g1.c x hx hd)⟩, ?_⟩
    · rcases List.mem_append.mp hx with hx | hx
      · exact wlt x hx
      · rw [List.mem_singleton.mp hx]; exact Nat.mod_lt _ (by decide)
    · unfold wd
      by_cases hj2 : j < i
      · rw [List.getD_eq_getElem?_getD, List.getElem?_append_left (by omega), ← List.getD_eq_getElem?_getD]
        exact wv j hj2
      · have e : j = i := by omega
        subst e
        rw [List.getD_eq_getElem?_getD, List.getElem?_append_right (by omega), wl, Nat.sub_self, ha]
        rfl
    · rw [ha, part_shift (k := k) (by omega)]
  · have e : i = m := by omega
    subst e
    have d1 : decide ((32 : Int) ≤ ((k - 32 * i : Nat) : Int)) = false := decide_eq_false (by omega)
    by_cases h0 : k - 32 * i = 0
    · have d2 : decide ((0 : Int) < ((k - 32 * i : Nat) : Int)) = false := decide_eq_false (by omega)
      simp! [gGe_int, d1, gGt_int, d2]
      refine ⟨by omega, q L ws s' (by omega) nL cL ⟨by omega, wlt, by omega, hv, fun j hj => ?_⟩ (S1.mono (by omega)) g1⟩
      rw [if_pos (by omega), Nat.zero_add]
      exact wv j (by omega)
    · have d2 : decide ((0 : Int) < ((k - 32 * i : Nat) : Int)) = true := decide_eq_true (by omega)
      obtain ⟨e, he⟩ : ∃ e, e = k - 32 * i := ⟨_, rfl⟩
      have e32 : e < 32 := by omega
      have c3 : (32 : Int) - ((k - 32 * i : Nat) : Int) = ((32 - e : Nat) : Int) := by omega
      have sh := shl_one (k := 32 - e) s' (by omega)
      obtain ⟨a, ha⟩ : ∃ a, a = v / 2 ^ (32 * i) := ⟨_, rfl⟩
      have al : a < 2 ^ e := by
        rw [ha, Nat.div_lt_iff_lt_mul (Nat.two_pow_pos _), ← Nat.pow_add]
        rw [show e + 32 * i = k by omega]
        exact hv
      have pe : (2 : Nat) ^ e * 2 ^ (32 - e) = 4294967296 := by
        rw [← Nat.pow_add, show e + (32 - e) = 32 by omega]
      have sq := isSeqL_obj cL
      have p1 : 0 < 2 ^ (32 - e) := Nat.two_pow_pos _
      have p2 : (2 : Nat) ^ (32 - e) ≤ 2 ^ 32 := Nat.pow_le_pow_right (by decide) (by omega)
      have p3 : (2 : Nat) ^ e ≤ 2 ^ 32 := Nat.pow_le_pow_right (by decide) (by omega)
      have gm : gMul (.int ((a : Nat) : Int)) (.int ((2 ^ (32 - e) : Nat) : Int)) s' = .ok (.int ((a : Nat) * ((2 ^ (32 - e) : Nat) : Int))) s' := gMul_ok (m := 33) (n := 33) (by rw [Int.natAbs_natCast]; omega) (by rw [Int.natAbs_natCast]; omega) (by decide)
      obtain ⟨z, hz⟩ : ∃ z, z = 2 ^ (32 - e) := ⟨_, rfl⟩
      rw [← hz] at sh gm p1 p2 pe
      rw [← ha]
      simp! [gGe_int, d1, gGt_int, d2, c3, sh, sq, gm]
      refine w1_digit S1 (by omega) (by omega) (log_lt (Nat.lt_of_le_of_lt p2 (by decide))) fun y s2 hy S2 u2 => ?_
      have hy : y < z := by omega
      have cL2 : s2.c L = .lst (iN ws) := (u2.2 L (by omega)).trans cL
      have ap := gAppend_obj (y := .int ((a : Nat) * ((z : Nat) : Int) + (y : Nat))) cL2 (by rw [iN_len]; omega)
      simp! [ap]
      have wx : a * z + y < 4294967296 := by
        have : (a + 1) * z ≤ 2 ^ e * z := Nat.mul_le_mul_right _ al
        rw [Nat.add_mul, Nat.one_mul, pe] at this
        omega
      refine ⟨by omega, q L (ws ++ [a * z + y]) _ (by omega) (by show L < s2.n; rw [u2.1]; exact nL) (by simp [iN]) ⟨by simp; omega, fun x hx => ?_, ⟨by simp; omega, hv, fun j hj => ?_⟩⟩ (S2.set (by have := S.gd.n; omega)) ⟨by rw [Sto.set_n, u2.1]; exact g1.n, fun x hx hd => (Sto.set_ne (by omega)).trans ((u2.2 x hd).trans (g1.c x hx hd))⟩⟩
      · rcases List.mem_append.mp hx with hx | hx
        · exact wlt x hx
        · rw [List.mem_singleton.mp hx]; exact wx
      · rw [Nat.zero_add]
        by_cases hj2 : j < i
        · rw [if_pos (by omega)]
          unfold wd
          rw [List.getD_eq_getElem?_getD, List.getElem?_append_left (by omega), ← List.getD_eq_getElem?_getD]
          exact wv j hj2
        · have ej : j = i := by omega
          subst ej
          rw [if_neg (by omega)]
          have ew : wd (ws ++ [a * z + y]) j = a * z + y := by
            unfold wd
            rw [List.getD_eq_getElem?_getD, List.getElem?_append_right (by omega), wl, Nat.sub_self]
            rfl
          rw [ew, show 32 * (j + 1) - k = 32 - e by omega, ← hz, Nat.add_comm, Nat.add_mul_div_right _ _ p1, Nat.div_eq_of_lt hy, Nat.zero_add, ha, Nat.mod_eq_of_lt (by rw [← ha]; omega)]
end
end Pf
set_option Elab.async false
set_option linter.all false
set_option maxRecDepth 100000
set_option maxHeartbeats 1000000
set_option exponentiation.threshold 3000
namespace Pf
open PySem Ab
local macro_rules | `(tactic| simp! [$xs,*]) => `(tactic| try simp (config := {maxSteps := 1000000}) only [k_bind, k_Kb, k_st, k_Kst, k_Rst, k_thn, k_loop, k_fn, k_forget, k_clr, k_noX, k_try, k_stuck, k_Astuck, d_thn_nx, d_thn_bk, d_thn_ct, d_thn_rt, d_thn_er, d_lp_nx, d_lp_bk, d_lp_ct, d_lp_rt, d_lp_er, d_fg_nx, d_fg_bk, d_fg_ct, d_fg_rt, d_fg_er, d_cl_nx, d_cl_bk, d_cl_ct, d_cl_rt, d_cl_er, d_tr_nx, d_tr_bk, d_tr_ct, d_tr_rt, d_tr_er, d_nX_nx, d_nX_bk, d_nX_ct, d_nX_rt, d_nX_er, d_fn_nx, d_fn_bk, d_fn_ct, d_fn_rt, d_fn_er, A_nx, A_bk, A_ct, A_rt, A_err, post_ok, post_err, post_noErr, e_op, e_opK, e_un, e_cb, e_nil, e_c, e_cons, e_consK, e_consK2, e_and, e_or, e_andK, e_orK, e_not, e_notK, e_test, e_testK, e_tand, e_tandK, e_tor, e_torK, e_tnot, e_tnotK, e_yes, e_if, e_ifK, e_ch, e_chK1, e_chK2, e_chK3, e_tup, e_tupK, e_lst, e_lstK, e_newL, e_call, e_callK, e_meth, e_methK, e_methK2, e_prop, e_propK, e_make, e_makeK, e_makeK2, e_makeV, e_sm, e_smK, e_smK2, e_cm, e_cmK, e_cmK2, e_sl, e_slK1, e_slK2, e_slK3, e_part, e_partK, e_nopart, e_rev, e_bm, e_bmK, e_pr, e_pr0, e_prK1, e_prK2, e_prK3, e_disp, e_dnew, e_own, e_ownK, e_lc, e_lcK, e_iter, e_rng1, e_rng1K, e_rng2, e_rng2K, e_enum, s_drop, s_dropK, s_ret, s_retK, s_retN, s_next, s_break, s_cont, s_seq, s_if, s_ifK, s_asg, s_asgK, s_name, s_par, s_parK, s_par3, s_parK3, s_gnil, s_gcons, s_gtup, s_for, s_forK, s_raise, s_raiseK, s_sf, s_sfK1, s_sfK2, s_dp, s_dpK1, s_dpK2, s_dpK3, s_forget, s_def, s_fld, e_enumU, e_enumUT, e_match, e_mcase, e_mcase2, e_many, e_mnil, e_lcX, e_lcXK, e_get2, e_methS, e_methS1, e_methS2, s_augS, s_augS1, gEqS_int, gEqS_str, gEqS_bl, gEqS_tup, eq_self, beq_self_eq_true, k_grd, k_grdS, k_ite, k_Aite, true_implies, false_implies, implies_true, List.map_cons, List.map_nil, List.nil_append, List.cons_append, List.append_nil, List.replicate_succ, List.replicate_zero, List.getElem?_cons_zero, List.getElem?_cons_succ, List.length_cons, List.length_nil, List.set_cons_zero, List.set_cons_succ, ↓reduceIte, ↓reduceDIte, Nat.reduceAdd, Nat.reduceLeDiff, Nat.reduceEqDiff, Nat.zero_add, if_true, if_false, aVar, gMinus_int, gLt_int, gLe_int, gGt_int, gGe_int, gEq_int, gNe_int, gEq_str, gNe_str, gEq_bl, gNe_bl, gXor_int, gAnd_int, gOr_int, gAdd_int, gIsN_non, gNotN_non, gIsB_bl, gNotB_bl, gNeg_int, gLen_tup, gLen_scr, gMax2_int, gMin2_int, gBits_int, gSl_tup, gSl_scr, Bool.not_true, Bool.not_false, Bool.true_eq_false, Bool.false_eq_true, Bool.true_and, Bool.false_and, Bool.and_true, Bool.and_false, Bool.true_or, Bool.false_or, decide_true, decide_false, and_self, and_true, true_and, and_false, false_and, not_true_eq_false, not_false_eq_true, reduceCtorEq, kz, z1, z2, z3, z4, z5, z6, z7, z8, z9, z10, z11, z12, z13, z14, z15, z16, isCls, isNon, aForget, aHand, toKey, keysA, iterOf_tup, iterOf_scr, oNx_some, noErr_ok, decide_eq_true_eq, decide_eq_false_iff_not, Sto.new_n, Sto.set_n, Sto.set_at, Sto.new_at, Nat.zero_le, aMakeV, Cl_non, Cl_bl, Cl_int, Cl_str, Cl_cls, Cl_obj, Cl_tup, ClL_nil, ClL_cons, $xs,*])
section
variable {d B : Nat} {s t : Sto} {P : AV → Sto → Prop} {R : String → List Str → List AV → Sto → Prop}
theorem len_top (n : Nat) (h : 1 ≤ n) : n ≤ 2 ^ TW.len (n - 1) := by
  by_cases h0 : n - 1 = 0
  · rw [h0]; have : TW.len 0 = 0 := rfl; rw [this]; omega
  · have := Nat.lt_log2_self (n := n - 1)
    rw [TW.len_pos h0]
    omega
theorem gAdd_iN {a b : Nat} {xs ys : List Nat} {s : Sto} (h1 : s.c a = .lst (iN xs)) (h2 : s.c b = .lst (iN ys)) (hl : xs.length + ys.length ≤ 1000) : gAdd (.obj a) (.obj b) s = .ok (.obj s.n) (s.new (.lst (iN (xs ++ ys)))) := by
  have big : (1000 : Nat) ≤ sizeLine := by decide
  rw [gAdd_lst h1 h2 (by rw [iN_len, iN_len]; omega)]
  unfold newL iN
  rw [List.map_append]
/-- words for drawn numbers, some tries refused -/
theorem w1_script {bs : List Nat} {Lb M : Nat} (S : I1 d B t s) (hB : B ≤ 20000000) (hL : s.c Lb = .lst (iN bs)) (lb : Lb < s.n) (nb : Lb ≠ d) (hb : ∀ b ∈ bs, 1 ≤ b ∧ b ≤ 2 ^ 256) (hm : ∀ b ∈ bs, b ≤ 2 ^ (32 * M)) (hl : bs.length ≤ 20) (hM : 3 * M * bs.length ≤ 450) (q : ∀ ws vs Ln s', Gives bs vs ws → ws.length ≤ 3 * M * bs.length → s.n ≤ Ln → Ln < s'.n → s'.c Ln = .lst (iN vs) → I1 d (B + 4000) t s' → Gd d s s' → P (.tup [.tup (iN ws), .obj Ln]) s') : (F__law_script [.obj d, .obj Lb] s).Post P R := by
  unfold F__law_script
  refine gcF_n ?_
  have z0 : ((0 : Nat) ≤ sizeLine) = True := eq_true (Nat.zero_le _)
  have lt0 := S.lt
  have it := iterOf_l (lstOf_obj hL)
  have big : (1000 : Nat) ≤ sizeLine := by decide
  simp! [B__law_script, z0]
  have it2 := iterOf_l (s := (s.new (.lst [])).new (.lst [])) (lstOf_obj (at_old (Nat.lt_succ_of_lt lb) (at_old lb hL)))
  simp! [it2]
  refine for_A (fun i σ s' => ∃ (ws vs : List Nat) (Lw Lv : Nat) (x4 x5 x6 x7 : Option AV), Gives (bs.take i) vs ws ∧ s'.c Lw = .lst (iN ws) ∧ s'.c Lv = .lst (iN vs) ∧ s.n ≤ Lw ∧ Lw < s'.n ∧ s.n ≤ Lv ∧ Lv < s'.n ∧ I1 d (B + 200 * i) t s' ∧ Gd d s s' ∧ σ = [some (.obj d), some (.obj Lb), some (.obj Lw), some (.obj Lv), x4, x5, x6, x7])
    ⟨[], [], s.n, s.n + 1, none, none, none, none, rfl, at_old (Nat.lt_succ_self _) Sto.new_at, Sto.new_at, Nat.le_refl _, by show s.n < s.n + 2; omega, by omega, by show s.n + 1 < s.n + 2; omega, S.new.new, (Gd.refl d s).new.new, rfl⟩ ?_ ?_
  · rintro i x σ s1 hx ⟨ws, vs, Lw, Lv, x4, x5, x6, x7, G, cw, cv, w0, w1, v0, v1, S1, g1, rfl⟩
    have cb := (g1.c Lb lb nb).trans hL
    refine ⟨lstOf_obj cb, ?_⟩
    obtain ⟨n, hn, rfl⟩ : ∃ n, bs[i]? = some n ∧ x = .int (n : Nat) := by
      unfold iN at hx
      rw [List.getElem?_map] at hx
      cases e : bs[i]? with
      | none => rw [e] at hx; cases hx
      | some n => rw [e] at hx; cases hx; exact ⟨n, rfl, rfl⟩
    have hi := (List.getElem?_eq_some_iff.mp hn).1
    obtain ⟨n1, n2⟩ := hb n (List.mem_of_getElem? hn)
    have tk : bs.take (i + 1) = bs.take i ++ [n] := by rw [List.take_add_one, hn]; rfl
    have lw : ws.length ≤ 3 * M * i := by
      have := Gives.lenW G fun b hb2 => hm b (List.mem_of_mem_take hb2)
      rw [List.length_take, Nat.min_eq_left (by omega)] at this
      exact this
    have lv : vs.length = i := by rw [G.len, List.length_take]; omega
    have lwM : 3 * M * i + 3 * M ≤ 450 := by
      have : 3 * M * (i + 1) ≤ 3 * M * bs.length := Nat.mul_le_mul_left _ hi
      rw [Nat.mul_succ] at this
      omega
    obtain ⟨k, hk⟩ : ∃ k, k = TW.len (n - 1) := ⟨_, rfl⟩
    have k257 : k ≤ 257 := hk ▸ TW.len_le (Nat.lt_of_lt_of_le (show n - 1 < 2 ^ 256 by omega) (Nat.pow_le_pow_right (by decide) (by decide)))
    have nk : n ≤ 2 ^ k := hk ▸ len_top n n1
    have p256 : (2 : Nat) ^ 256 < 2 ^ 300 := Nat.pow_lt_pow_right (by decide) (by decide)
    have pk : (2 : Nat) ^ k < 2 ^ 300 := Nat.pow_lt_pow_right (by decide) (by omega)
    have c1 : ((n : Nat) : Int) - 1 = ((n - 1 : Nat) : Int) := by omega
    have bi := fun s => binary_ok (n := n - 1) s
    rw [← hk] at bi
    simp! [c1, bi]
    refine w1_number S1 (by omega) n1 (by omega) fun v s2 hv S2 u2 => ?_
    simp! [eq_self]
    refine w1_digit S2 (by omega) (by decide) (by decide) fun r s3 hr S3 u3 => ?_
    have rg : -(2 ^ 62) ≤ ((r : Nat) : Int) ∧ ((r : Nat) : Int) < 2 ^ 62 := by omega
    have tn : ((r : Nat) : Int).toNat = r := by omega
    have u23 := u2.trans u3
    have g3 := g1.trans u23.gd
    have cw3 := (u23.2 Lw (by omega)).trans cw
    have cv3 := (u23.2 Lv (by omega)).trans cv
    have n3 : s3.n = s1.n := u23.1
    simp! [rg, tn]
    refine for_rng (n := r) (fun j σ s' => ∃ (us w : List Nat) (Lw' : Nat) (x7 : Option AV), us.length ≤ j ∧ (∀ u ∈ us, n ≤ u) ∧ Rows k us w ∧ w.length ≤ M * j ∧ s'.c Lw' = .lst (iN (ws ++ w)) ∧ s'.c Lv = .lst (iN vs) ∧ s.n ≤ Lw' ∧ Lw' < s'.n ∧ Lv < s'.n ∧ I1 d (B + 200 * i + 54 + 54 * j) t s' ∧ Gd d s s' ∧ σ = [some (.obj d), some (.obj Lb), some (.obj Lw'), some (.obj Lv), some (.int (n : Nat)), some (.int (k : Nat)), some (.int (v : Nat)), x7])
      ⟨[], [], Lw, x7, Nat.le_refl _, (fun u h => by cases h), .nil k, by simp, by rw [List.append_nil]; exact cw3, cv3, w0, by omega, by omega, S3, g3, rfl⟩ ?_ ?_
    · rintro j σ s4 hj ⟨us, w, Lw', y7, ul, uge, rw_, wl, cw4, cv4, a0, a1, b1, S4, g4, rfl⟩
      refine ⟨trivial, ?_⟩
      have sh := shl_one (k := k) s4 (by omega)
      by_cases hlt : n < 2 ^ k
      · have d1 : decide (((n : Nat) : Int) < ((2 ^ k : Nat) : Int)) = true := decide_eq_true (by omega)
        have c2 : ((2 ^ k : Nat) : Int) - ((n : Nat) : Int) = ((2 ^ k - n : Nat) : Int) := by omega
        simp! [sh, d1, c2]
        refine w1_number S4 (by omega) (by omega) (by omega) fun z s5 hz S5 u5 => ?_
        have c3 : ((n : Nat) : Int) + ((z : Nat) : Int) = ((n + z : Nat) : Int) := by omega
        simp! [c3]
        refine w1_row S5 (by omega) (show n + z < 2 ^ k by omega) (by omega) fun L5 w5 s6 e0 e1 e2 e3 S6 g6 => ?_
        have g56 := u5.gd.trans g6
        have n4 := g56.n
        have n5 := u5.1
        have cw6 := (g56.c Lw' a1 (by omega)).trans cw4
        have lw5 : w5.length ≤ M := by
          have := e3.len
          have l2 : k ≤ 32 * M := hk ▸ TW.len_le (Nat.lt_of_lt_of_le (show n - 1 < n by omega) (hm n (List.mem_of_getElem? hn)))
          omega
        have jM : M * j + M ≤ 3 * M := by
          have : M * (j + 1) ≤ M * 3 := Nat.mul_le_mul_left _ (by omega)
          rw [Nat.mul_succ] at this
          omega
        have ad := gAdd_iN cw6 e2 (by rw [List.length_append]; omega)
        simp! [ad]
        refine ⟨us ++ [n + z], w ++ w5, s6.n, _, by simp; omega, fun u hu => ?_, rw_.snoc e3, by rw [List.length_append, Nat.mul_succ]; omega, by rw [List.append_assoc]; exact Sto.new_at, at_old (by omega) ((g56.c Lv b1 (by omega)).trans cv4), by have := g4.n; omega, Nat.lt_succ_self _, Nat.lt_succ_of_lt (by omega), S6.new.mono (by omega), (g4.trans g56).new, rfl⟩
        rcases List.mem_append.mp hu with hu | hu
        · exact uge u hu
        · rw [List.mem_singleton.mp hu]; omega
      · have d1 : decide (((n : Nat) : Int) < ((2 ^ k : Nat) : Int)) = false := decide_eq_false (by omega)
        simp! [sh, d1]
        exact ⟨us, w, Lw', _, by omega, uge, rw_, Nat.le_trans wl (Nat.mul_le_mul_left _ (by omega)), cw4, cv4, a0, a1, b1, S4.mono (by omega), g4, rfl⟩
    · rintro σ s4 ⟨us, w, Lw', y7, ul, uge, rw_, wl, cw4, cv4, a0, a1, b1, S4, g4, rfl⟩
      refine ⟨trivial, ?_⟩
      simp! [eq_self]
      refine w1_row S4 (by omega) (show v < 2 ^ k by omega) (by omega) fun L5 w5 s6 e0 e1 e2 e3 S6 g6 => ?_
      have n4 := g6.n
      have cw6 := (g6.c Lw' a1 (by omega)).trans cw4
      have lw5 : w5.length ≤ M := by
        have := e3.len
        have l2 : k ≤ 32 * M := hk ▸ TW.len_le (Nat.lt_of_lt_of_le (show n - 1 < n by omega) (hm n (List.mem_of_getElem? hn)))
        omega
      have rM : M * r + M ≤ 3 * M := by
        have : M * (r + 1) ≤ M * 3 := Nat.mul_le_mul_left _ (by omega)
        rw [Nat.mul_succ] at this
        omega
      have ad := gAdd_iN cw6 e2 (by rw [List.length_append]; omega)
      have z1' : ((1 : Nat) ≤ sizeLine) = True := eq_true (by decide)
      have cv7 : ((s6.new (.lst (iN (ws ++ w ++ w5)))).new (.lst [.int (v : Nat)])).c Lv = .lst (iN vs) := at_old (Nat.lt_succ_of_lt (by omega)) (at_old (by omega) ((g6.c Lv b1 (by omega)).trans cv4))
      have ad2 := gAdd_iN (s := (s6.new (.lst (iN (ws ++ w ++ w5)))).new (.lst [.int (v : Nat)])) (b := s6.n + 1) (ys := [v]) cv7 Sto.new_at (by simp; omega)
      simp! [ad, z1', ad2]
      refine ⟨ws ++ (w ++ w5), vs ++ [v], s6.n, s6.n + 1 + 1, _, _, _, _, ?_, ?_, Sto.new_at, ?_, ?_, ?_, ?_, (S6.new.new.new).mono (by omega), (g4.trans g6).new.new.new, rfl⟩
      · rw [tk]
        exact G.snoc ⟨us, by omega, uge, hv, hk ▸ rw_.snoc e3⟩
      · rw [← List.append_assoc]
        exact at_old (by show s6.n < s6.n + 2; omega) (at_old (Nat.lt_succ_self _) Sto.new_at)
      · have := g4.n; omega
      · show s6.n < s6.n + 3; omega
      · have := g4.n; omega
      · show s6.n + 1 + 1 < s6.n + 3; omega
  · rintro σ s1 ⟨ws, vs, Lw, Lv, x4, x5, x6, x7, G, cw, cv, w0, w1, v0, v1, S1, g1, rfl⟩
    have cb := (g1.c Lb lb nb).trans hL
    refine ⟨lstOf_obj cb, ?_⟩
    rw [iN_len, List.take_length] at G
    rw [iN_len] at S1
    have gt := gTuple_seq (seqOf_obj cw)
    simp! [gt]
    refine ⟨by simp; omega, q ws vs Lv s1 G (Gives.lenW G hm) v0 v1 cv (S1.mono (by omega)) g1⟩
end
end Pf
set_option Elab.async false
set_option linter.all false
set_option maxRecDepth 100000
set_option maxHeartbeats 1000000
set_option exponentiation.threshold 3000
namespace Pf
open PySem Ab
local macro_rules | `(tactic| simp! only [$xs,*]) => `(tactic| simp only [e_op, e_opK, e_un, e_cb, e_nil, e_c, e_cons, e_consK, e_consK2, e_and, e_or, e_andK, e_orK, e_not, e_notK, e_test, e_testK, e_tand, e_tandK, e_tor, e_torK, e_tnot, e_tnotK, e_yes, e_if, e_ifK, e_ch, e_chK1, e_chK2, e_chK3, e_tup, e_tupK, e_lst, e_lstK, e_newL, e_call, e_callK, e_meth, e_methK, e_methK2, e_prop, e_propK, e_make, e_makeK, e_makeK2, e_makeV, e_sm, e_smK, e_smK2, e_cm, e_cmK, e_cmK2, e_sl, e_slK1, e_slK2, e_slK3, e_part, e_partK, e_nopart, e_rev, e_bm, e_bmK, e_pr, e_pr0, e_prK1, e_prK2, e_prK3, e_disp, e_dnew, e_own, e_ownK, e_lc, e_lcK, e_iter, e_rng1, e_rng1K, e_rng2, e_rng2K, e_enum, s_drop, s_dropK, s_ret, s_retK, s_retN, s_next, s_break, s_cont, s_seq, s_if, s_ifK, s_asg, s_asgK, s_name, s_par, s_parK, s_par3, s_parK3, s_gnil, s_gcons, s_gtup, s_for, s_forK, s_raise, s_raiseK, s_sf, s_sfK1, s_sfK2, s_dp, s_dpK1, s_dpK2, s_dpK3, s_forget, s_def, s_fld, e_enumU, e_enumUT, e_match, e_mcase, e_mcase2, e_many, e_mnil, e_lcX, e_lcXK, e_get2, e_methS, e_methS1, e_methS2, s_augS, s_augS1, gEqS_int, gEqS_str, gEqS_bl, gEqS_tup, eq_self, beq_self_eq_true, true_implies, false_implies, implies_true, List.map_cons, List.map_nil, List.nil_append, List.cons_append, List.append_nil, List.replicate_succ, List.replicate_zero, List.getElem?_cons_zero, List.getElem?_cons_succ, List.length_cons, List.length_nil, List.set_cons_zero, List.set_cons_succ, ↓reduceIte, ↓reduceDIte, Nat.reduceAdd, Nat.reduceLeDiff, Nat.reduceEqDiff, Nat.zero_add, if_true, if_false, aVar, gMinus_int, gLt_int, gLe_int, gGt_int, gGe_int, gEq_int, gNe_int, gEq_str, gNe_str, gEq_bl, gNe_bl, gXor_int, gAnd_int, gOr_int, gAdd_int, gIsN_non, gNotN_non, gIsB_bl, gNotB_bl, gNeg_int, gLen_tup, gLen_scr, gMax2_int, gMin2_int, gBits_int, gSl_tup, gSl_scr, Bool.not_true, Bool.not_false, Bool.true_eq_false, Bool.false_eq_true, Bool.true_and, Bool.false_and, Bool.and_true, Bool.and_false, Bool.true_or, Bool.false_or, decide_true, decide_false, and_self, and_true, true_and, and_false, false_and, not_true_eq_false, not_false_eq_true, reduceCtorEq, kz, z1, z2, z3, z4, z5, z6, z7, z8, z9, z10, z11, z12, z13, z14, z15, z16, isCls, isNon, aForget, aHand, toKey, keysA, iterOf_tup, iterOf_scr, oNx_some, noErr_ok, decide_eq_true_eq, decide_eq_false_iff_not, Sto.new_n, Sto.set_n, Sto.set_at, Sto.new_at, Nat.zero_le, aMakeV, Cl_non, Cl_bl, Cl_int, Cl_str, Cl_cls, Cl_obj, Cl_tup, ClL_nil, ClL_cons, grd_pos, grdS_pos, Res.bind_ok, Res.bind_err, Res.st_ok, Res.st_err, SRes.thn_nx, SRes.thn_rt, SRes.thn_err, SRes.fn_rt, SRes.fn_nx, SRes.fn_err, SRes.loop_nx, SRes.loop_rt, SRes.loop_err, SRes.loop_ct, SRes.loop_bk, SRes.forget_nx, SRes.forget_rt, SRes.forget_err, SRes.clr_nx, SRes.clr_rt, SRes.noX_nx, SRes.noX_rt, aTry, sizeLine_ge, $xs,*])
structure Sq (s : Sto) (v : AV) (xs : List AV) : Prop where
  ty : ∃ t, tyN s v = some t ∧ kitAnyP t ["list", "tuple"] = some true
  sq : seqOf s v = some xs
  en : ∃ G, enumUK [v] s = .ok (enumA xs, G) s ∧ G s
theorem Sq.lst {s : Sto} {L : Nat} {xs : List AV} (h : s.c L = .lst xs) : Sq s (.obj L) xs := ⟨⟨"list", by simp [tyN, h], by decide⟩, seqOf_obj h, _, e_enumUL (lstOf_obj h), lstOf_obj h⟩
theorem Sq.tup {s : Sto} {xs : List AV} : Sq s (.tup xs) xs := ⟨⟨"tuple", rfl, by decide⟩, seqOf_tup, _, e_enumUT, trivial⟩
theorem iN_ints (wl : List Nat) : iN wl = (wl.map fun n => ((n : Nat) : Int)).map AV.int := by
  unfold iN
  rw [List.map_map]
  rfl
theorem s6int {i lo hi : Int} (s : Sto) : F_s6_is_integer [.int i, .int lo, .int hi] s = .ok (.bl (decide (lo ≤ i) && decide (i ≤ hi))) s := by
  refine gc0 ?_ (by simp)
  have h1 : gIsi (kitB "int") [.int i, .ty "int"] s = .ok (.bl true) s := isi_ty (a := "int") rfl (by decide) (by decide)
  have h2 : gIsi (kitB "bool") [.int i, .ty "bool"] s = .ok (.bl false) s := isi_ty (a := "int") rfl (by decide) (by decide)
  by_cases h : lo ≤ i
  · have d := decide_eq_true h
    simp! only [B_s6_is_integer, h1, h2, d]
  · have d := decide_eq_false h
    simp! only [B_s6_is_integer, h1, h2, d]
section
variable {s : Sto} {o w p u : Nat} {ws : List Nat} {v : AV}
theorem isi_drw (h : s.c w = dwC o u) : gIsi (kitB "Draws") [.obj w, .cls "Draws"] s = .ok (.bl true) s := isi_cls (a := "Draws") (by show (match s.c w with | .lst _ => some "list" | .dic _ => some "dict" | .ins c _ => some c) = _; rw [h]; rfl) (by decide) (by decide)
theorem need_d (h : s.c w = dwC o u) : F_need_draws [.obj w] s = .ok .non s := by
  have i := isi_drw h
  refine gc0 ?_ (by simp)
  simp! only [B_need_draws, i]
theorem DW.gb' {s' : Sto} (D : DW s o w ws p u) (g : Gb s s') : DW s' o w ws p u := ⟨(g.c _ D.ho).trans D.h, (g.c _ D.hw).trans D.h2, D.ne, Nat.lt_of_lt_of_le D.ho g.n, Nat.lt_of_lt_of_le D.hw g.n, D.hr⟩
end
theorem left_w {s : Sto} {o p : Nat} {ws : List Nat} (h : s.c o = scC ws p) : F_Scripted_left [.obj o] s = .ok (.int ((ws.length : Nat) - (p : Nat))) s := by
  have a1 : gFld ["Scripted"] "s1_script" (.obj o) s = .ok (.tup (iN ws)) s := gFld_obj h (by simp) lookA_hd
  have a2 : gFld ["Scripted"] "s1_place" (.obj o) s = .ok (.int (p : Nat)) s := gFld_obj h (by simp) ((lookA_tl (by decide)).trans lookA_hd)
  refine gc0 ?_ (by simp)
  have ln : ∀ s, gLen [.tup (iN ws)] s = .ok (.int (ws.length : Nat)) s := fun s => by rw [gLen_seq (ys := iN ws) rfl, iN_len]
  simp! only [B_Scripted_left, a1, a2, ln]
section
variable {s : Sto} {v p th : AV} {xs : List AV}
theorem things_ok (Q : Sq s th xs) (h : xs.length ≤ 1000) : F_need_things [th] s = .ok .non s := by
  obtain ⟨t, t1, t2⟩ := Q.ty
  have it := gIsiT_ok t1 t2
  have l1 := gLen_seq Q.sq
  have d : decide ((1000 : Int) < ((xs.length : Nat) : Int)) = false := decide_eq_false (by omega)
  refine gc0 ?_ (by simp)
  simp! only [B_need_things, it, l1, gGt_int, d]
end
theorem rep_one {α : Type} {x : α} : ∀ n : Nat, (List.replicate n [x]).flatten = List.replicate n x
  | 0 => rfl
  | n + 1 => by rw [List.replicate_succ, List.flatten_cons, rep_one n]; rfl
end Pf
set_option Elab.async false
set_option linter.all false
set_option maxRecDepth 100000
set_option maxHeartbeats 1000000
set_option exponentiation.threshold 3000
namespace Pf
open PySem Ab
local macro_rules | `(tactic| simp! only [$xs,*]) => `(tactic| simp only [e_op, e_opK, e_un, e_cb, e_nil, e_c, e_cons, e_consK, e_consK2, e_and, e_or, e_andK, e_orK, e_not, e_notK, e_test, e_testK, e_tand, e_tandK, e_tor, e_torK, e_tnot, e_tnotK, e_yes, e_if, e_ifK, e_ch, e_chK1, e_chK2, e_chK3, e_tup, e_tupK, e_lst, e_lstK, e_newL, e_call, e_callK, e_meth, e_methK, e_methK2, e_prop, e_propK, e_make, e_makeK, e_makeK2, e_makeV, e_sm, e_smK, e_smK2, e_cm, e_cmK, e_cmK2, e_sl, e_slK1, e_slK2, e_slK3, e_part, e_partK, e_nopart, e_rev, e_bm, e_bmK, e_pr, e_pr0, e_prK1, e_prK2, e_prK3, e_disp, e_dnew, e_own, e_ownK, e_lc, e_lcK, e_iter, e_rng1, e_rng1K, e_rng2, e_rng2K, e_enum, s_drop, s_dropK, s_ret, s_retK, s_retN, s_next, s_break, s_cont, s_seq, s_if, s_ifK, s_asg, s_asgK, s_name, s_par, s_parK, s_par3, s_parK3, s_gnil, s_gcons, s_gtup, s_for, s_forK, s_raise, s_raiseK, s_sf, s_sfK1, s_sfK2, s_dp, s_dpK1, s_dpK2, s_dpK3, s_forget, s_def, s_fld, e_enumU, e_enumUT, e_match, e_mcase, e_mcase2, e_many, e_mnil, e_lcX, e_lcXK, e_get2, e_methS, e_methS1, e_methS2, s_augS, s_augS1, gEqS_int, gEqS_str, gEqS_bl, gEqS_tup, eq_self, beq_self_eq_true, true_implies, false_implies, implies_true, List.map_cons, List.map_nil, List.nil_append, List.cons_append, List.append_nil, List.replicate_succ, List.replicate_zero, List.getElem?_cons_zero, List.getElem?_cons_succ, List.length_cons, List.length_nil, List.set_cons_zero, List.set_cons_succ, ↓reduceIte, ↓reduceDIte, Nat.reduceAdd, Nat.reduceLeDiff, Nat.reduceEqDiff, Nat.zero_add, if_true, if_false, aVar, gMinus_int, gLt_int, gLe_int, gGt_int, gGe_int, gEq_int, gNe_int, gEq_str, gNe_str, gEq_bl, gNe_bl, gXor_int, gAnd_int, gOr_int, gAdd_int, gIsN_non, gNotN_non, gIsB_bl, gNotB_bl, gNeg_int, gLen_tup, gLen_scr, gMax2_int, gMin2_int, gBits_int, gSl_tup, gSl_scr, Bool.not_true, Bool.not_false, Bool.true_eq_false, Bool.false_eq_true, Bool.true_and, Bool.false_and, Bool.and_true, Bool.and_false, Bool.true_or, Bool.false_or, decide_true, decide_false, and_self, and_true, true_and, and_false, false_and, not_true_eq_false, not_false_eq_true, reduceCtorEq, kz, z1, z2, z3, z4, z5, z6, z7, z8, z9, z10, z11, z12, z13, z14, z15, z16, isCls, isNon, aForget, aHand, toKey, keysA, iterOf_tup, iterOf_scr, oNx_some, noErr_ok, decide_eq_true_eq, decide_eq_false_iff_not, Sto.new_n, Sto.set_n, Sto.set_at, Sto.new_at, Nat.zero_le, aMakeV, Cl_non, Cl_bl, Cl_int, Cl_str, Cl_cls, Cl_obj, Cl_tup, ClL_nil, ClL_cons, grd_pos, grdS_pos, Res.bind_ok, Res.bind_err, Res.st_ok, Res.st_err, SRes.thn_nx, SRes.thn_rt, SRes.thn_err, SRes.fn_rt, SRes.fn_nx, SRes.fn_err, SRes.loop_nx, SRes.loop_rt, SRes.loop_err, SRes.loop_ct, SRes.loop_bk, SRes.forget_nx, SRes.forget_rt, SRes.forget_err, SRes.clr_nx, SRes.clr_rt, SRes.noX_nx, SRes.noX_rt, aTry, sizeLine_ge, $xs,*])
theorem ixN_ok {n j : Nat} (h : j < n) : L2.ixN n ((j : Nat) : Int) = some j := by
  unfold L2.ixN
  rw [if_pos (by omega), if_pos (by omega)]
  rfl
def sw {α : Type} (z : α) (L : List α) (i j : Nat) : List α := (L.set i (L.getD j z)).set j (L.getD i z)
def go {α : Type} (z : α) : List α → Nat → List Nat → List α
  | L, _, [] => L
  | L, k, v :: vs => go z (sw z L k v) (k - 1) vs
theorem sw_len {α : Type} (z : α) (L : List α) (i j : Nat) : (sw z L i j).length = L.length := by unfold sw; rw [List.length_set, List.length_set]
theorem go_len {α : Type} (z : α) : ∀ (vs : List Nat) (L : List α) (k : Nat), (go z L k vs).length = L.length
  | [], _, _ => rfl
  | v :: vs, L, k => by show (go z (sw z L k v) (k - 1) vs).length = _; rw [go_len z vs, sw_len]
theorem getD_map {α β : Type} (f : α → β) (z : α) (L : List α) (i : Nat) : (L.map f).getD i (f z) = f (L.getD i z) := by
  rw [List.getD_eq_getElem?_getD, List.getD_eq_getElem?_getD, List.getElem?_map]
  cases L[i]? <;> rfl
theorem sw_map {α β : Type} (f : α → β) (z : α) (L : List α) (i j : Nat) : sw (f z) (L.map f) i j = (sw z L i j).map f := by
  unfold sw
  rw [getD_map, getD_map, List.map_set, List.map_set]
theorem go_map {α β : Type} (f : α → β) (z : α) : ∀ (vs : List Nat) (L : List α) (k : Nat), go (f z) (L.map f) k vs = (go z L k vs).map f
  | [], _, _ => rfl
  | v :: vs, L, k => by
    show go (f z) (sw (f z) (L.map f) k v) (k - 1) vs = _
    rw [sw_map, go_map f z vs]
    rfl
theorem go_app {α : Type} (z : α) : ∀ (a b : List Nat) (L : List α) (k : Nat), go z L k (a ++ b) = go z (go z L k a) (k - a.length) b
  | [], _, _, _ => rfl
  | v :: a, b, L, k => by
    show go z (sw z L k v) (k - 1) (a ++ b) = _
    rw [go_app z a b, List.length_cons, show k - 1 - a.length = k - (a.length + 1) by omega]
    rfl
theorem go_snoc {α : Type} (z : α) {vs : List Nat} {L : List α} {k i v : Nat} (h : vs[i]? = some v) : go z L k (vs.take (i + 1)) = sw z (go z L k (vs.take i)) (k - i) v := by
  have hi := (List.getElem?_eq_some_iff.mp h).1
  rw [List.take_succ, h]
  show go z L k (vs.take i ++ [v]) = _
  rw [go_app, List.length_take, Nat.min_eq_left (Nat.le_of_lt hi)]
  rfl
theorem sw_get {α : Type} {z : α} {L : List α} {i j : Nat} (hi : i < L.length) (hj : j < L.length) (k : Nat) : (sw z L i j)[k]? = if k = j then L[i]? else if k = i then L[j]? else L[k]? := by
  have gi : L[i]? = some (L.getD i z) := by rw [List.getD_eq_getElem?_getD, List.getElem?_eq_getElem hi]; rfl
  have gj : L[j]? = some (L.getD j z) := by rw [List.getD_eq_getElem?_getD, List.getElem?_eq_getElem hj]; rfl
  unfold sw
  rw [List.getElem?_set, List.getElem?_set]
  by_cases h : k = j
  · subst h
    rw [if_pos rfl, if_pos rfl, List.length_set, if_pos hj, gi]
  · rw [if_neg (fun e => h e.symm), if_neg h]
    by_cases h2 : k = i
    · subst h2
      rw [if_pos rfl, if_pos rfl, if_pos hi, gj]
    · rw [if_neg (fun e => h2 e.symm), if_neg h2]
/-- numbers of a row: each at most its place -/
def RwOk (k : Nat) (vs : List Nat) : Prop := ∀ (i v : Nat), vs[i]? = some v → v ≤ k - i ∧ i < k
theorem RwOk.tl {k v : Nat} {vs : List Nat} (h : RwOk k (v :: vs)) : RwOk (k - 1) vs := fun i x hx => by
  have := h (i + 1) x hx
  omega
theorem RwOk.drop {k m : Nat} {vs : List Nat} (h : RwOk k vs) : RwOk (k - m) (vs.drop m) := fun i x hx => by
  rw [List.getElem?_drop] at hx
  have := h (m + i) x hx
  omega
theorem go_stay {α : Type} (z : α) : ∀ (vs : List Nat) (L : List α) (k j : Nat), RwOk k vs → k < L.length → k < j → (go z L k vs)[j]? = L[j]?
  | [], _, _, _, _, _, _ => rfl
  | v :: vs, L, k, j, h, hl, hj => by
    have h0 := h 0 v rfl
    show (go z (sw z L k v) (k - 1) vs)[j]? = _
    rw [go_stay z vs _ _ _ h.tl (by rw [sw_len]; omega) (by omega), sw_get hl (by omega), if_neg (by omega), if_neg (by omega)]
theorem sw_perm {α : Type} {z : α} {L : List α} {i j : Nat} (hi : i < L.length) (hj : j < L.length) : (sw z L i j).Perm L := by
  have e1 : L.getD i z = L[i] := by rw [List.getD_eq_getElem?_getD, List.getElem?_eq_getElem hi]; rfl
  have e2 : L.getD j z = L[j] := by rw [List.getD_eq_getElem?_getD, List.getElem?_eq_getElem hj]; rfl
  unfold sw
  rw [e1, e2]
  exact List.set_set_perm hi hj
theorem go_perm {α : Type} (z : α) : ∀ (vs : List Nat) (L : List α) (k : Nat), RwOk k vs → k < L.length → (go z L k vs).Perm L
  | [], _, _, _, _ => .refl _
  | v :: vs, L, k, h, hl => by
    have h0 := h 0 v rfl
    exact (go_perm z vs _ _ h.tl (by rw [sw_len]; omega)).trans (sw_perm hl (by omega))
theorem RwOk.take {k m : Nat} {vs : List Nat} (h : RwOk k vs) : RwOk k (vs.take m) := fun i x hx => by
  rw [List.getElem?_take] at hx
  split at hx
  · exact h i x hx
  · cases hx
/-- what stands at a place of the order, and where it stood ahead of the step -/
theorem go_back {α : Type} {z : α} {L : List α} {k i v : Nat} {vs : List Nat} (h : RwOk k vs) (hl : k < L.length) (hv : vs[i]? = some v) : (go z L k vs)[k - i]? = (go z L k (vs.take i))[v]? := by
  have h0 := h i v hv
  have e : vs = vs.take (i + 1) ++ vs.drop (i + 1) := (List.take_append_drop _ _).symm
  have hi := (List.getElem?_eq_some_iff.mp hv).1
  have e2 : go z L k vs = go z (go z L k (vs.take (i + 1))) (k - (i + 1)) (vs.drop (i + 1)) := by
    conv => lhs; rw [e]
    rw [go_app, List.length_take, Nat.min_eq_left hi]
  rw [e2, go_stay z _ _ _ _ h.drop (by rw [go_len]; omega) (by omega), go_snoc z hv, sw_get (by rw [go_len]; omega) (by rw [go_len]; omega)]
  by_cases c : k - i = v
  · rw [if_pos c, c]
  · rw [if_neg c, if_pos rfl]
/-- the order that a row makes -/
def ord (n : Nat) (vs : List Nat) : List Nat := go 0 (List.range n) (n - 1) vs
theorem ord_len (n : Nat) (vs : List Nat) : (ord n vs).length = n := by unfold ord; rw [go_len, List.length_range]
theorem ord_perm {n : Nat} {vs : List Nat} (h : RwOk (n - 1) vs) (hn : 0 < n) : (ord n vs).Perm (List.range n) := go_perm 0 vs _ _ h (by rw [List.length_range]; omega)
theorem ord_nd {n : Nat} {vs : List Nat} (h : RwOk (n - 1) vs) (hn : 0 < n) : (ord n vs).Nodup := (ord_perm h hn).nodup_iff.mpr List.nodup_range
theorem ord_lt {n : Nat} {vs : List Nat} (h : RwOk (n - 1) vs) (hn : 0 < n) : ∀ x ∈ ord n vs, x < n := fun x hx => List.mem_range.mp ((ord_perm h hn).mem_iff.mp hx)
theorem rngA_iN (n : Nat) : rngA 0 n = iN (List.range n) := by
  unfold rngA iN
  refine List.map_congr_left fun i _ => ?_
  rw [Int.zero_add]
theorem gc_same {F : List AV → Sto → Res AV} {args : List AV} {s s' : Sto} {v : AV} (h : F args s = .ok v s') (e : s'.cut s = s') : gcF F args s = .ok v s' := by
  unfold gcF gcR
  rw [h]
  dsimp only
  split
  · rw [e]
  · rfl
section
variable {s : Sto}
theorem exch_ok {L a b : Nat} {xs : List AV} (h : s.c L = .lst xs) (hl : L < s.n) (ha : a < xs.length) (hb : b < xs.length) : F_s6_exchange [.obj L, .int (a : Nat), .int (b : Nat)] s = .ok .non (s.set L (.lst (sw .non xs a b))) := by
  have ga : xs[a]? = some (xs.getD a .non) := by rw [List.getD_eq_getElem?_getD, List.getElem?_eq_getElem ha]; rfl
  have gb : xs[b]? = some (xs.getD b .non) := by rw [List.getD_eq_getElem?_getD, List.getElem?_eq_getElem hb]; rfl
  have i1 := gIx_seq (seqOf_obj h) (show L2.atI _ ((a : Nat) : Int) = _ from L2.atI_nat ga)
  have i2 := gIx_seq (seqOf_obj h) (show L2.atI _ ((b : Nat) : Int) = _ from L2.atI_nat gb)
  have e : sw .non xs a b = (xs.set a (xs.getD b .non)).set b (xs.getD a .non) := rfl
  rw [e]
  generalize xs.getD a .non = y2 at *
  generalize xs.getD b .non = y1 at *
  have sl1 := setL_obj (y := y1) h (ixN_ok (j := a) ha)
  obtain ⟨s3, hs3⟩ : ∃ s3, s3 = s.set L (.lst (xs.set a y1)) := ⟨_, rfl⟩
  rw [← hs3] at sl1
  have cM3 : s3.c L = .lst (xs.set a y1) := by rw [hs3]; exact Sto.set_at
  have sl2 := setL_obj (y := y2) cM3 (ixN_ok (j := b) (by rw [List.length_set]; omega))
  obtain ⟨s4, hs4⟩ : ∃ s4, s4 = s3.set L (.lst ((xs.set a y1).set b y2)) := ⟨_, rfl⟩
  rw [← hs4] at sl2
  have su1 : agSub setL (aVar 0) (aVar 1) y1 [some (.obj L), some (.int (a : Nat)), some (.int (b : Nat))] s = .nx _ s3 := agSub_eq (x := .obj L) (y := .int (a : Nat)) (s1 := s) (s2 := s) rfl rfl sl1
  have su2 : agSub setL (aVar 0) (aVar 2) y2 [some (.obj L), some (.int (a : Nat)), some (.int (b : Nat))] s3 = .nx _ s4 := agSub_eq (x := .obj L) (y := .int (b : Nat)) (s1 := s3) (s2 := s3) rfl rfl sl2
  have fin : s4 = s.set L (.lst ((xs.set a y1).set b y2)) := by rw [hs4, hs3]; exact set_set
  unfold F_s6_exchange
  refine gc_same ?_ (by rw [cut_set_old hl, cut_self])
  rw [← fin]
  have tup : agTup 2 (agCons (agSub setL (aVar 0) (aVar 1)) (agCons (agSub setL (aVar 0) (aVar 2)) agNil)) (.tup [y1, y2]) [some (.obj L), some (.int (a : Nat)), some (.int (b : Nat))] s = .nx [some (.obj L), some (.int (a : Nat)), some (.int (b : Nat))] s4 := by
    show aSeq (agSub setL (aVar 0) (aVar 1) y1) (aSeq (agSub setL (aVar 0) (aVar 2) y2) (agNil [])) _ s = _
    show SRes.thn (agSub setL (aVar 0) (aVar 1) y1 _ s) _ = _
    rw [su1]
    show SRes.thn (agSub setL (aVar 0) (aVar 2) y2 _ s3) _ = _
    rw [su2]
    rfl
  simp! only [B_s6_exchange, i1, i2, tup]
end
theorem enumA_len (l : List AV) : (enumA l).length = l.length := by unfold enumA; simp
end Pf
set_option Elab.async false
set_option linter.all false
set_option maxRecDepth 100000
set_option maxHeartbeats 1000000
set_option exponentiation.threshold 3000
namespace Pf
open PySem Ab
local macro_rules | `(tactic| simp! [$xs,*]) => `(tactic| try simp (config := {maxSteps := 1000000}) only [k_bind, k_Kb, k_st, k_Kst, k_Rst, k_thn, k_loop, k_fn, k_forget, k_clr, k_noX, k_try, k_stuck, k_Astuck, d_thn_nx, d_thn_bk, d_thn_ct, d_thn_rt, d_thn_er, d_lp_nx, d_lp_bk, d_lp_ct, d_lp_rt, d_lp_er, d_fg_nx, d_fg_bk, d_fg_ct, d_fg_rt, d_fg_er, d_cl_nx, d_cl_bk, d_cl_ct, d_cl_rt, d_cl_er, d_tr_nx, d_tr_bk, d_tr_ct, d_tr_rt, d_tr_er, d_nX_nx, d_nX_bk, d_nX_ct, d_nX_rt, d_nX_er, d_fn_nx, d_fn_bk, d_fn_ct, d_fn_rt, d_fn_er, A_nx, A_bk, A_ct, A_rt, A_err, post_ok, post_err, post_noErr, e_op, e_opK, e_un, e_cb, e_nil, e_c, e_cons, e_consK, e_consK2, e_and, e_or, e_andK, e_orK, e_not, e_notK, e_test, e_testK, e_tand, e_tandK, e_tor, e_torK, e_tnot, e_tnotK, e_yes, e_if, e_ifK, e_ch, e_chK1, e_chK2, e_chK3, e_tup, e_tupK, e_lst, e_lstK, e_newL, e_call, e_callK, e_meth, e_methK, e_methK2, e_prop, e_propK, e_make, e_makeK, e_makeK2, e_makeV, e_sm, e_smK, e_smK2, e_cm, e_cmK, e_cmK2, e_sl, e_slK1, e_slK2, e_slK3, e_part, e_partK, e_nopart, e_rev, e_bm, e_bmK, e_pr, e_pr0, e_prK1, e_prK2, e_prK3, e_disp, e_dnew, e_own, e_ownK, e_lc, e_lcK, e_iter, e_rng1, e_rng1K, e_rng2, e_rng2K, e_enum, s_drop, s_dropK, s_ret, s_retK, s_retN, s_next, s_break, s_cont, s_seq, s_if, s_ifK, s_asg, s_asgK, s_name, s_par, s_parK, s_par3, s_parK3, s_gnil, s_gcons, s_gtup, s_for, s_forK, s_raise, s_raiseK, s_sf, s_sfK1, s_sfK2, s_dp, s_dpK1, s_dpK2, s_dpK3, s_forget, s_def, s_fld, e_enumU, e_enumUT, e_match, e_mcase, e_mcase2, e_many, e_mnil, e_lcX, e_lcXK, e_get2, e_methS, e_methS1, e_methS2, s_augS, s_augS1, gEqS_int, gEqS_str, gEqS_bl, gEqS_tup, eq_self, beq_self_eq_true, k_grd, k_grdS, k_ite, k_Aite, true_implies, false_implies, implies_true, List.map_cons, List.map_nil, List.nil_append, List.cons_append, List.append_nil, List.replicate_succ, List.replicate_zero, List.getElem?_cons_zero, List.getElem?_cons_succ, List.length_cons, List.length_nil, List.set_cons_zero, List.set_cons_succ, ↓reduceIte, ↓reduceDIte, Nat.reduceAdd, Nat.reduceLeDiff, Nat.reduceEqDiff, Nat.zero_add, if_true, if_false, aVar, gMinus_int, gLt_int, gLe_int, gGt_int, gGe_int, gEq_int, gNe_int, gEq_str, gNe_str, gEq_bl, gNe_bl, gXor_int, gAnd_int, gOr_int, gAdd_int, gIsN_non, gNotN_non, gIsB_bl, gNotB_bl, gNeg_int, gLen_tup, gLen_scr, gMax2_int, gMin2_int, gBits_int, gSl_tup, gSl_scr, Bool.not_true, Bool.not_false, Bool.true_eq_false, Bool.false_eq_true, Bool.true_and, Bool.false_and, Bool.and_true, Bool.and_false, Bool.true_or, Bool.false_or, decide_true, decide_false, and_self, and_true, true_and, and_false, false_and, not_true_eq_false, not_false_eq_true, reduceCtorEq, kz, z1, z2, z3, z4, z5, z6, z7, z8, z9, z10, z11, z12, z13, z14, z15, z16, isCls, isNon, aForget, aHand, toKey, keysA, iterOf_tup, iterOf_scr, oNx_some, noErr_ok, decide_eq_true_eq, decide_eq_false_iff_not, Sto.new_n, Sto.set_n, Sto.set_at, Sto.new_at, Nat.zero_le, aMakeV, Cl_non, Cl_bl, Cl_int, Cl_str, Cl_cls, Cl_obj, Cl_tup, ClL_nil, ClL_cons, $xs,*])
local macro_rules | `(tactic| simp! only [$xs,*]) => `(tactic| simp only [e_op, e_opK, e_un, e_cb, e_nil, e_c, e_cons, e_consK, e_consK2, e_and, e_or, e_andK, e_orK, e_not, e_notK, e_test, e_testK, e_tand, e_tandK, e_tor, e_torK, e_tnot, e_tnotK, e_yes, e_if, e_ifK, e_ch, e_chK1, e_chK2, e_chK3, e_tup, e_tupK, e_lst, e_lstK, e_newL, e_call, e_callK, e_meth, e_methK, e_methK2, e_prop, e_propK, e_make, e_makeK, e_makeK2, e_makeV, e_sm, e_smK, e_smK2, e_cm, e_cmK, e_cmK2, e_sl, e_slK1, e_slK2, e_slK3, e_part, e_partK, e_nopart, e_rev, e_bm, e_bmK, e_pr, e_pr0, e_prK1, e_prK2, e_prK3, e_disp, e_dnew, e_own, e_ownK, e_lc, e_lcK, e_iter, e_rng1, e_rng1K, e_rng2, e_rng2K, e_enum, s_drop, s_dropK, s_ret, s_retK, s_retN, s_next, s_break, s_cont, s_seq, s_if, s_ifK, s_asg, s_asgK, s_name, s_par, s_parK, s_par3, s_parK3, s_gnil, s_gcons, s_gtup, s_for, s_forK, s_raise, s_raiseK, s_sf, s_sfK1, s_sfK2, s_dp, s_dpK1, s_dpK2, s_dpK3, s_forget, s_def, s_fld, e_enumU, e_enumUT, e_match, e_mcase, e_mcase2, e_many, e_mnil, e_lcX, e_lcXK, e_get2, e_methS, e_methS1, e_methS2, s_augS, s_augS1, gEqS_int, gEqS_str, gEqS_bl, gEqS_tup, eq_self, beq_self_eq_true, true_implies, false_implies, implies_true, List.map_cons, List.map_nil, List.nil_append, List.cons_append, List.append_nil, List.replicate_succ, List.replicate_zero, List.getElem?_cons_zero, List.getElem?_cons_succ, List.length_cons, List.length_nil, List.set_cons_zero, List.set_cons_succ, ↓reduceIte, ↓reduceDIte, Nat.reduceAdd, Nat.reduceLeDiff, Nat.reduceEqDiff, Nat.zero_add, if_true, if_false, aVar, gMinus_int, gLt_int, gLe_int, gGt_int, gGe_int, gEq_int, gNe_int, gEq_str, gNe_str, gEq_bl, gNe_bl, gXor_int, gAnd_int, gOr_int, gAdd_int, gIsN_non, gNotN_non, gIsB_bl, gNotB_bl, gNeg_int, gLen_tup, gLen_scr, gMax2_int, gMin2_int, gBits_int, gSl_tup, gSl_scr, Bool.not_true, Bool.not_false, Bool.true_eq_false, Bool.false_eq_true, Bool.true_and, Bool.false_and, Bool.and_true, Bool.and_false, Bool.true_or, Bool.false_or, decide_true, decide_false, and_self, and_true, true_and, and_false, false_and, not_true_eq_false, not_false_eq_true, reduceCtorEq, kz, z1, z2, z3, z4, z5, z6, z7, z8, z9, z10, z11, z12, z13, z14, z15, z16, isCls, isNon, aForget, aHand, toKey, keysA, iterOf_tup, iterOf_scr, oNx_some, noErr_ok, decide_eq_true_eq, decide_eq_false_iff_not, Sto.new_n, Sto.set_n, Sto.set_at, Sto.new_at, Nat.zero_le, aMakeV, Cl_non, Cl_bl, Cl_int, Cl_str, Cl_cls, Cl_obj, Cl_tup, ClL_nil, ClL_cons, grd_pos, grdS_pos, Res.bind_ok, Res.bind_err, Res.st_ok, Res.st_err, SRes.thn_nx, SRes.thn_rt, SRes.thn_err, SRes.fn_rt, SRes.fn_nx, SRes.fn_err, SRes.loop_nx, SRes.loop_rt, SRes.loop_err, SRes.loop_ct, SRes.loop_bk, SRes.forget_nx, SRes.forget_rt, SRes.forget_err, SRes.clr_nx, SRes.clr_rt, SRes.noX_nx, SRes.noX_rt, aTry, sizeLine_ge, $xs,*])
structure Nu (s : Sto) (v : AV) (xs : List AV) : Prop where
  ty : ∃ t, kitAnyP t ["list", "tuple"] = some true ∧ ∀ u, Gb s u → tyN u v = some t
  sq : ∀ u, Gb s u → seqOf u v = some xs
  en : ∃ G : Sto → Prop, ∀ u, Gb s u → enumUK [v] u = .ok (enumA xs, G) u ∧ G u
theorem Nu.tup {s : Sto} {xs : List AV} : Nu s (.tup xs) xs := ⟨⟨"tuple", by decide, fun _ _ => rfl⟩, fun _ _ => seqOf_tup, fun _ => True, fun _ _ => ⟨e_enumUT, trivial⟩⟩
theorem Nu.lst {s : Sto} {L : Nat} {xs : List AV} (h : s.c L = .lst xs) (hl : L < s.n) : Nu s (.obj L) xs := by
  have k : ∀ u, Gb s u → u.c L = .lst xs := fun u g => (g.c L hl).trans h
  exact ⟨⟨"list", by decide, fun u g => by simp [tyN, k u g]⟩, fun u g => seqOf_obj (k u g), fun u => lstOf u (.obj L) = some xs, fun u g => ⟨e_enumUL (lstOf_obj (k u g)), lstOf_obj (k u g)⟩⟩
theorem iN_get {l : List Nat} {i : Nat} {x : AV} (h : (iN l)[i]? = some x) : ∃ v, l[i]? = some v ∧ x = .int (v : Nat) := by
  unfold iN at h
  rw [List.getElem?_map] at h
  cases e : l[i]? with
  | none => rw [e] at h; cases h
  | some v => rw [e] at h; cases h; exact ⟨v, rfl, rfl⟩
theorem iN_at {l : List Nat} {i v : Nat} (h : l[i]? = some v) : (iN l)[i]? = some (.int (v : Nat)) := by
  unfold iN
  rw [List.getElem?_map, h]
  rfl
theorem sw_dflt {α : Type} {z z' : α} {L : List α} {i j : Nat} (hi : i < L.length) (hj : j < L.length) : sw z L i j = sw z' L i j := by
  unfold sw
  rw [List.getD_eq_getElem?_getD, List.getD_eq_getElem?_getD, List.getD_eq_getElem?_getD, List.getD_eq_getElem?_getD, List.getElem?_eq_getElem hi, List.getElem?_eq_getElem hj]
  rfl
theorem go_dflt {α : Type} {z z' : α} : ∀ (vs : List Nat) (L : List α) (k : Nat), RwOk k vs → k < L.length → go z L k vs = go z' L k vs
  | [], _, _, _, _ => rfl
  | v :: vs, L, k, h, hl => by
    have h0 := h 0 v rfl
    show go z (sw z L k v) (k - 1) vs = go z' (sw z' L k v) (k - 1) vs
    rw [sw_dflt (z' := z') hl (by omega)]
    exact go_dflt vs _ _ h.tl (by rw [sw_len]; omega)
theorem sw_iN {l : List Nat} {i j : Nat} (hi : i < l.length) (hj : j < l.length) : sw .non (iN l) i j = iN (sw 0 l i j) := by
  rw [sw_dflt (z' := .int ((0 : Nat) : Int)) (by rw [iN_len]; exact hi) (by rw [iN_len]; exact hj)]
  exact sw_map (fun k : Nat => AV.int (k : Nat)) 0 l i j
theorem go_iN {n : Nat} {vs : List Nat} (h : RwOk (n - 1) vs) (hn : 0 < n) : go .non (iN (List.range n)) (n - 1) vs = iN (ord n vs) := by
  rw [go_dflt (z' := .int ((0 : Nat) : Int)) vs _ _ h (by rw [iN_len, List.length_range]; omega)]
  exact go_map (fun k : Nat => AV.int (k : Nat)) 0 vs (List.range n) (n - 1)
section
variable {s : Sto} {th nu : AV} {xs : List AV} {vs : List Nat} {n : Nat}
/-- the law's own moves -/
theorem moved_ok (Q : Nu s th xs) (N : Nu s nu (iN vs)) (hr : RwOk (xs.length - 1) vs) (hl : xs.length ≤ 500) (hv : vs.length ≤ 500) : F__law_moved [th, nu] s = .ok (.obj s.n) (s.new (.lst (go .non xs (xs.length - 1) vs))) := by
  unfold F__law_moved
  refine gcF_raw (res_ok ?_) (by simp)
  have g1 : Gb s (s.new (.lst xs)) := (Gb.refl s).new
  have gl := gList_seq (Q.sq s (Gb.refl s))
  obtain ⟨G, hG⟩ := N.en
  have en := (hG _ g1).1
  simp! [B__law_moved, gl, newL, en]
  refine for_A (fun i σ s' => s' = s.new (.lst (go .non xs (xs.length - 1) (vs.take i))) ∧ ∃ x3 x4 x5 x6, σ = [some th, some nu, some (.obj s.n), x3, x4, x5, x6]) ⟨rfl, _, _, _, _, rfl⟩ ?_ ?_
  · rintro i x σ s' hx ⟨rfl, x3, x4, x5, x6, rfl⟩
    refine ⟨(hG _ (Gb.refl s).new).2, ?_⟩
    obtain ⟨y, hy, rfl⟩ := enumA_get hx
    obtain ⟨v, hv, rfl⟩ := iN_get hy
    have h0 := hr i v hv
    obtain ⟨L, hL⟩ : ∃ L, L = go .non xs (xs.length - 1) (vs.take i) := ⟨_, rfl⟩
    have ll : L.length = xs.length := by rw [hL, go_len]
    have cL : (s.new (.lst L)).c s.n = .lst L := Sto.new_at
    have gs := go_snoc AV.non (L := xs) (k := xs.length - 1) hv
    rw [← hL] at gs ⊢
    have ln := gLen_seq (s := s.new (.lst L)) (x := .obj s.n) (seqOf_obj cL)
    rw [ll] at ln
    have ce : ((xs.length : Nat) : Int) - 1 - ((i : Nat) : Int) = ((xs.length - 1 - i : Nat) : Int) := by omega
    obtain ⟨a, ha⟩ : ∃ a, a = xs.length - 1 - i := ⟨_, rfl⟩
    rw [← ha] at ce gs
    have la : a < L.length := by omega
    have lv : v < L.length := by omega
    have ga : L[a]? = some (L.getD a .non) := by rw [List.getD_eq_getElem?_getD, List.getElem?_eq_getElem la]; rfl
    have gb : L[v]? = some (L.getD v .non) := by rw [List.getD_eq_getElem?_getD, List.getElem?_eq_getElem lv]; rfl
    have i1 := gIx_seq (seqOf_obj cL) (show L2.atI _ ((a : Nat) : Int) = _ from L2.atI_nat ga)
    have i2 := gIx_seq (seqOf_obj cL) (show L2.atI _ ((v : Nat) : Int) = _ from L2.atI_nat gb)
    unfold sw at gs
    generalize L.getD a .non = y2 at *
    generalize L.getD v .non = y1 at *
    have sl1 := setL_obj (y := y1) cL (ixN_ok (j := a) la)
    obtain ⟨s3, hs3⟩ : ∃ s3, s3 = (s.new (.lst L)).set s.n (.lst (L.set a y1)) := ⟨_, rfl⟩
    rw [← hs3] at sl1
    have cM3 : s3.c s.n = .lst (L.set a y1) := by rw [hs3]; exact Sto.set_at
    have sl2 := setL_obj (y := y2) cM3 (ixN_ok (j := v) (by rw [List.length_set]; omega))
    obtain ⟨s4, hs4⟩ : ∃ s4, s4 = s3.set s.n (.lst ((L.set a y1).set v y2)) := ⟨_, rfl⟩
    rw [← hs4] at sl2
    have fin : s4 = s.new (.lst ((L.set a y1).set v y2)) := by rw [hs4, hs3, set_set, new_set]
    obtain ⟨σ0, hσ⟩ : ∃ σ0 : ASt, σ0 = [some th, some nu, some (.obj s.n), some (.int (i : Nat)), some (.int (v : Nat)), some (.int (a : Nat)), some y2] := ⟨_, rfl⟩
    have su1 : agSub setL (aVar 2) (aVar 5) y1 σ0 (s.new (.lst L)) = .nx σ0 s3 := agSub_eq (x := .obj s.n) (y := .int (a : Nat)) (s1 := s.new (.lst L)) (s2 := s.new (.lst L)) (by rw [hσ]; rfl) (by rw [hσ]; rfl) sl1
    have su2 : agSub setL (aVar 2) (aVar 4) y2 σ0 s3 = .nx σ0 s4 := agSub_eq (x := .obj s.n) (y := .int (v : Nat)) (s1 := s3) (s2 := s3) (by rw [hσ]; rfl) (by rw [hσ]; rfl) sl2
    rw [hσ] at su1 su2
    simp! [ln, ce, i1, i2, su1, su2]
    exact ⟨fin.trans (by rw [gs]), _, _, _, _, rfl⟩
  · rintro σ s' ⟨rfl, x3, x4, x5, x6, rfl⟩
    refine ⟨(hG _ (Gb.refl s).new).2, ?_⟩
    rw [enumA_len, iN_len, List.take_length]
    simp! [eq_self]
/-- the order of a row -/
theorem order_ok (N : Nu s nu (iN vs)) (hn : n = vs.length + 1) (hr : RwOk (n - 1) vs) (hv : vs.length ≤ 500) : F_order_by [nu] s = .ok (.tup (iN (ord n vs))) s := by
  refine gc0' ?_
  obtain ⟨t, t1, t2⟩ := N.ty
  have it := gIsiT_ok (t2 s (Gb.refl s)) t1
  have ln := gLen_seq (N.sq s (Gb.refl s))
  rw [iN_len] at ln
  have d0 : decide ((1000 : Int) ≤ ((vs.length : Nat) : Int)) = false := decide_eq_false (by omega)
  obtain ⟨G, hG⟩ := N.en
  have en := (hG s (Gb.refl s)).1
  simp! [B_order_by, it, ln, gGe_int, d0, en]
  refine for_A (fun i σ s' => s' = s ∧ ∃ x1 x2, σ = [some nu, x1, x2, none]) ⟨rfl, _, _, rfl⟩ ?_ ?_
  · rintro i x σ s' hx ⟨rfl, x1, x2, rfl⟩
    refine ⟨(hG s' (Gb.refl s')).2, ?_⟩
    obtain ⟨y, hy, rfl⟩ := enumA_get hx
    obtain ⟨v, hv, rfl⟩ := iN_get hy
    have h0 := hr i v hv
    have ce : ((vs.length : Nat) : Int) - ((i : Nat) : Int) = ((vs.length - i : Nat) : Int) := by omega
    have e := s6int (i := (v : Nat)) (lo := 0) (hi := ((vs.length - i : Nat) : Int)) s'
    have d1 : decide ((0 : Int) ≤ ((v : Nat) : Int)) = true := decide_eq_true (by omega)
    have d2 : decide (((v : Nat) : Int) ≤ ((vs.length - i : Nat) : Int)) = true := decide_eq_true (by omega)
    rw [d1, d2] at e
    have g : gcT (aNot (aTest (aCall 3 F_s6_is_integer [] (aCons (aVar 2) (aCons (aC (.int 0)) (aCons (aOp gMinus (aCB gLen (aCons (aVar 0) aNil)) (aVar 1)) aNil)))))) [some nu, some (.int (i : Nat)), some (.int (v : Nat)), none] s' = .ok false s' := gcT_f (by simp! only [ln, ce, e])
    simp! [g]
    exact ⟨_, _, rfl⟩
  · rintro σ s' ⟨rfl, x1, x2, rfl⟩
    refine ⟨(hG s' (Gb.refl s')).2, ?_⟩
    have c1 : ((vs.length : Nat) : Int) + 1 = ((n : Nat) : Int) := by omega
    have lr := listRg1_ok (fa := aOp gAdd (aCB gLen (aCons (aVar 0) aNil)) (aC (.int 1))) (σ := [some nu, x1, x2, none]) (s := s') (s1 := s') (m := n) (by simp! only [ln, c1]) (by omega)
    rw [rngA_iN] at lr
    have en2 := (hG (s'.new (.lst (iN (List.range n)))) (Gb.refl s').new).1
    simp! [lr, en2]
    refine for_A (fun i σ t => t = s'.new (.lst (go .non (iN (List.range n)) (n - 1) (vs.take i))) ∧ ∃ x1 x2, σ = [some nu, x1, x2, some (.obj s'.n)]) ⟨rfl, _, _, rfl⟩ ?_ ?_
    · rintro i x σ s2 hx ⟨rfl, x1, x2, rfl⟩
      refine ⟨(hG _ (Gb.refl s').new).2, ?_⟩
      obtain ⟨y, hy, rfl⟩ := enumA_get hx
      obtain ⟨v, hv, rfl⟩ := iN_get hy
      have h0 := hr i v hv
      obtain ⟨L, hL⟩ : ∃ L, L = go .non (iN (List.range n)) (n - 1) (vs.take i) := ⟨_, rfl⟩
      have ll : L.length = n := by rw [hL, go_len, iN_len, List.length_range]
      have gs := go_snoc AV.non (L := iN (List.range n)) (k := n - 1) hv
      rw [← hL] at gs ⊢
      have ln2 := gLen_seq (N.sq (s'.new (.lst L)) (Gb.refl s').new)
      rw [iN_len] at ln2
      have ce : ((vs.length : Nat) : Int) - ((i : Nat) : Int) = ((n - 1 - i : Nat) : Int) := by omega
      have ex := exch_ok (s := s'.new (.lst L)) (L := s'.n) (a := n - 1 - i) (b := v) Sto.new_at (Nat.lt_succ_self _) (by omega) (by omega)
      rw [new_set, ← gs] at ex
      simp! [ln2, ce, ex]
      exact ⟨_, _, rfl⟩
    · rintro σ s2 ⟨rfl, x1, x2, rfl⟩
      refine ⟨(hG _ (Gb.refl s').new).2, ?_⟩
      rw [enumA_len, iN_len, List.take_length, go_iN hr (by omega)]
      have tp := gTuple_seq (s := s'.new (.lst (iN (ord n vs)))) (x := .obj s'.n) (seqOf_obj Sto.new_at)
      simp! [tp]
      exact ⟨by simp [iNcl2], (Gb.refl s').new⟩
end
end Pf
set_option Elab.async false
set_option linter.all false
set_option maxRecDepth 100000
set_option maxHeartbeats 1000000
set_option exponentiation.threshold 3000
namespace Pf
open PySem Ab
local macro_rules | `(tactic| simp! [$xs,*]) => `(tactic| try simp (config := {maxSteps := 1000000}) only [k_bind, k_Kb, k_st, k_Kst, k_Rst, k_thn, k_loop, k_fn, k_forget, k_clr, k_noX, k_try, k_stuck, k_Astuck, d_thn_nx, d_thn_bk, d_thn_ct, d_thn_rt, d_thn_er, d_lp_nx, d_lp_bk, d_lp_ct, d_lp_rt, d_lp_er, d_fg_nx, d_fg_bk, d_fg_ct, d_fg_rt, d_fg_er, d_cl_nx, d_cl_bk, d_cl_ct, d_cl_rt, d_cl_er, d_tr_nx, d_tr_bk, d_tr_ct, d_tr_rt, d_tr_er, d_nX_nx, d_nX_bk, d_nX_ct, d_nX_rt, d_nX_er, d_fn_nx, d_fn_bk, d_fn_ct, d_fn_rt, d_fn_er, A_nx, A_bk, A_ct, A_rt, A_err, post_ok, post_err, post_noErr, e_op, e_opK, e_un, e_cb, e_nil, e_c, e_cons, e_consK, e_consK2, e_and, e_or, e_andK, e_orK, e_not, e_notK, e_test, e_testK, e_tand, e_tandK, e_tor, e_torK, e_tnot, e_tnotK, e_yes, e_if, e_ifK, e_ch, e_chK1, e_chK2, e_chK3, e_tup, e_tupK, e_lst, e_lstK, e_newL, e_call, e_callK, e_meth, e_methK, e_methK2, e_prop, e_propK, e_make, e_makeK, e_makeK2, e_makeV, e_sm, e_smK, e_smK2, e_cm, e_cmK, e_cmK2, e_sl, e_slK1, e_slK2, e_slK3, e_part, e_partK, e_nopart, e_rev, e_bm, e_bmK, e_pr, e_pr0, e_prK1, e_prK2, e_prK3, e_disp, e_dnew, e_own, e_ownK, e_lc, e_lcK, e_iter, e_rng1, e_rng1K, e_rng2, e_rng2K, e_enum, s_drop, s_dropK, s_ret, s_retK, s_retN, s_next, s_break, s_cont, s_seq, s_if, s_ifK, s_asg, s_asgK, s_name, s_par, s_parK, s_par3, s_parK3, s_gnil, s_gcons, s_gtup, s_for, s_forK, s_raise, s_raiseK, s_sf, s_sfK1, s_sfK2, s_dp, s_dpK1, s_dpK2, s_dpK3, s_forget, s_def, s_fld, e_enumU, e_enumUT, e_match, e_mcase, e_mcase2, e_many, e_mnil, e_lcX, e_lcXK, e_get2, e_methS, e_methS1, e_methS2, s_augS, s_augS1, gEqS_int, gEqS_str, gEqS_bl, gEqS_tup, eq_self, beq_self_eq_true, k_grd, k_grdS, k_ite, k_Aite, true_implies, false_implies, implies_true, List.map_cons, List.map_nil, List.nil_append, List.cons_append, List.append_nil, List.replicate_succ, List.replicate_zero, List.getElem?_cons_zero, List.getElem?_cons_succ, List.length_cons, List.length_nil, List.set_cons_zero, List.set_cons_succ, ↓reduceIte, ↓reduceDIte, Nat.reduceAdd, Nat.reduceLeDiff, Nat.reduceEqDiff, Nat.zero_add, if_true, if_false, aVar, gMinus_int, gLt_int, gLe_int, gGt_int, gGe_int, gEq_int, gNe_int, gEq_str, gNe_str, gEq_bl, gNe_bl, gXor_int, gAnd_int, gOr_int, gAdd_int, gIsN_non, gNotN_non, gIsB_bl, gNotB_bl, gNeg_int, gLen_tup, gLen_scr, gMax2_int, gMin2_int, gBits_int, gSl_tup, gSl_scr, Bool.not_true, Bool.not_false, Bool.true_eq_false, Bool.false_eq_true, Bool.true_and, Bool.false_and, Bool.and_true, Bool.and_false, Bool.true_or, Bool.false_or, decide_true, decide_false, and_self, and_true, true_and, and_false, false_and, not_true_eq_false, not_false_eq_true, reduceCtorEq, kz, z1, z2, z3, z4, z5, z6, z7, z8, z9, z10, z11, z12, z13, z14, z15, z16, isCls, isNon, aForget, aHand, toKey, keysA, iterOf_tup, iterOf_scr, oNx_some, noErr_ok, decide_eq_true_eq, decide_eq_false_iff_not, Sto.new_n, Sto.set_n, Sto.set_at, Sto.new_at, Nat.zero_le, aMakeV, Cl_non, Cl_bl, Cl_int, Cl_str, Cl_cls, Cl_obj, Cl_tup, ClL_nil, ClL_cons, $xs,*])
local macro_rules | `(tactic| simp! only [$xs,*]) => `(tactic| simp only [e_op, e_opK, e_un, e_cb, e_nil, e_c, e_cons, e_consK, e_consK2, e_and, e_or, e_andK, e_orK, e_not, e_notK, e_test, e_testK, e_tand, e_tandK, e_tor, e_torK, e_tnot, e_tnotK, e_yes, e_if, e_ifK, e_ch, e_chK1, e_chK2, e_chK3, e_tup, e_tupK, e_lst, e_lstK, e_newL, e_call, e_callK, e_meth, e_methK, e_methK2, e_prop, e_propK, e_make, e_makeK, e_makeK2, e_makeV, e_sm, e_smK, e_smK2, e_cm, e_cmK, e_cmK2, e_sl, e_slK1, e_slK2, e_slK3, e_part, e_partK, e_nopart, e_rev, e_bm, e_bmK, e_pr, e_pr0, e_prK1, e_prK2, e_prK3, e_disp, e_dnew, e_own, e_ownK, e_lc, e_lcK, e_iter, e_rng1, e_rng1K, e_rng2, e_rng2K, e_enum, s_drop, s_dropK, s_ret, s_retK, s_retN, s_next, s_break, s_cont, s_seq, s_if, s_ifK, s_asg, s_asgK, s_name, s_par, s_parK, s_par3, s_parK3, s_gnil, s_gcons, s_gtup, s_for, s_forK, s_raise, s_raiseK, s_sf, s_sfK1, s_sfK2, s_dp, s_dpK1, s_dpK2, s_dpK3, s_forget, s_def, s_fld, e_enumU, e_enumUT, e_match, e_mcase, e_mcase2, e_many, e_mnil, e_lcX, e_lcXK, e_get2, e_methS, e_methS1, e_methS2, s_augS, s_augS1, gEqS_int, gEqS_str, gEqS_bl, gEqS_tup, eq_self, beq_self_eq_true, true_implies, false_implies, implies_true, List.map_cons, List.map_nil, List.nil_append, List.cons_append, List.append_nil, List.replicate_succ, List.replicate_zero, List.getElem?_cons_zero, List.getElem?_cons_succ, List.length_cons, List.length_nil, List.set_cons_zero, List.set_cons_succ, ↓reduceIte, ↓reduceDIte, Nat.reduceAdd, Nat.reduceLeDiff, Nat.reduceEqDiff, Nat.zero_add, if_true, if_false, aVar, gMinus_int, gLt_int, gLe_int, gGt_int, gGe_int, gEq_int, gNe_int, gEq_str, gNe_str, gEq_bl, gNe_bl, gXor_int, gAnd_int, gOr_int, gAdd_int, gIsN_non, gNotN_non, gIsB_bl, gNotB_bl, gNeg_int, gLen_tup, gLen_scr, gMax2_int, gMin2_int, gBits_int, gSl_tup, gSl_scr, Bool.not_true, Bool.not_false, Bool.true_eq_false, Bool.false_eq_true, Bool.true_and, Bool.false_and, Bool.and_true, Bool.and_false, Bool.true_or, Bool.false_or, decide_true, decide_false, and_self, and_true, true_and, and_false, false_and, not_true_eq_false, not_false_eq_true, reduceCtorEq, kz, z1, z2, z3, z4, z5, z6, z7, z8, z9, z10, z11, z12, z13, z14, z15, z16, isCls, isNon, aForget, aHand, toKey, keysA, iterOf_tup, iterOf_scr, oNx_some, noErr_ok, decide_eq_true_eq, decide_eq_false_iff_not, Sto.new_n, Sto.set_n, Sto.set_at, Sto.new_at, Nat.zero_le, aMakeV, Cl_non, Cl_bl, Cl_int, Cl_str, Cl_cls, Cl_obj, Cl_tup, ClL_nil, ClL_cons, grd_pos, grdS_pos, Res.bind_ok, Res.bind_err, Res.st_ok, Res.st_err, SRes.thn_nx, SRes.thn_rt, SRes.thn_err, SRes.fn_rt, SRes.fn_nx, SRes.fn_err, SRes.loop_nx, SRes.loop_rt, SRes.loop_err, SRes.loop_ct, SRes.loop_bk, SRes.forget_nx, SRes.forget_rt, SRes.forget_err, SRes.clr_nx, SRes.clr_rt, SRes.noX_nx, SRes.noX_rt, aTry, sizeLine_ge, $xs,*])
section
variable {s : Sto} {o w p u : Nat} {ws : List Nat}
/-- the words of steps, and how long their tuples are -/
def StepW (z : Str) (n : Nat) : Prop := (z = "bits" ∧ n = 2) ∨ (z = "below" ∧ n = 2) ∨ (z = "between" ∧ n = 3) ∨ (z = "choice" ∧ n = 2) ∨ (z = "coin" ∧ n = 3) ∨ (z = "fraction" ∧ n = 2)
theorem step_ok {z : Str} {xs : List AV} (s : Sto) (h : StepW z (xs.length + 1)) : F_need_step [.tup (.str z :: xs)] s = .ok .non s := by
  refine gc0 ?_ (by simp)
  have i1 := isi_ty (x := .tup (.str z :: xs)) (a := "tuple") (n := "tuple") (r := true) (s := s) rfl (by decide) (by decide)
  have i2 := isi_ty (x := .str z) (a := "str") (n := "str") (r := true) (s := s) rfl (by decide) (by decide)
  have i0 : gIx (.tup (.str z :: xs)) (.int 0) s = .ok (.str z) s := gIx_seq (xs := .str z :: xs) rfl (show L2.atI _ ((0 : Nat) : Int) = _ from L2.atI_nat rfl)
  have kg : ∃ n : Nat, kgetN KV_SIZES (.str z) s = .ok (.int (n : Nat)) s ∧ n = (AV.str z :: xs).length := by
    rw [List.length_cons]
    rcases h with ⟨rfl, h⟩ | ⟨rfl, h⟩ | ⟨rfl, h⟩ | ⟨rfl, h⟩ | ⟨rfl, h⟩ | ⟨rfl, h⟩
    · exact ⟨2, (kgetN_ok rfl).trans (by rfl), h.symm⟩
    · exact ⟨2, (kgetN_ok rfl).trans (by rfl), h.symm⟩
    · exact ⟨3, (kgetN_ok rfl).trans (by rfl), h.symm⟩
    · exact ⟨2, (kgetN_ok rfl).trans (by rfl), h.symm⟩
    · exact ⟨3, (kgetN_ok rfl).trans (by rfl), h.symm⟩
    · exact ⟨2, (kgetN_ok rfl).trans (by rfl), h.symm⟩
  obtain ⟨n, kg, hn⟩ := kg
  have dn : decide (((n : Nat) : Int) = (((AV.str z :: xs).length : Nat) : Int)) = true := decide_eq_true (by rw [hn])
  have ln : gLen [.tup (.str z :: xs)] s = .ok (.int ((AV.str z :: xs).length : Nat)) s := gLen_tup
  generalize (AV.str z :: xs).length = N at *
  have g : gcT (aTest (aOp gNe (aUn (kgetN KV_SIZES) (aOp gIx (aVar 0) (aC (.int 0)))) (aCB gLen (aCons (aVar 0) aNil)))) [some (.tup (.str z :: xs))] s = .ok false s := gcT_f (by simp! only [i0, kg, ln, dn, -gLen_tup])
  simp! only [B_need_step, i1, i0, i2, g, gEq0_tup]
end
theorem dat_nL {s : Sto} {o : Nat} {l : List Nat} (h : s.c o = .lst (iN l)) : dat 12 s (.obj o) = some (.list (l.map fun k => PyData.int (k : Nat))) := by
  show (match s.c o with | .lst xs => (optL (dat 11 s) xs).map PyData.list | _ => none) = _
  rw [h]
  have : ∀ l : List Nat, optL (dat 11 s) (iN l) = some (l.map fun k => PyData.int (k : Nat)) := by
    intro l
    induction l with
    | nil => rfl
    | cons z l ih =>
      show (match dat 11 s (.int (z : Nat)), optL (dat 11 s) (iN l) with | some d, some ds => some (d :: ds) | _, _ => none) = _
      rw [ih]; rfl
  show (optL (dat 11 s) (iN l)).map PyData.list = _
  rw [this]; rfl
theorem sh_n (l : List Nat) : SeqAt.shaped (.list (l.map fun k => PyData.int (k : Nat))) = true := by
  have k : PyData.canLayAll0 (l.map fun k => PyData.int (k : Nat)) = true ∧ PyData.depthAll (l.map fun k => PyData.int (k : Nat)) = 0 := by
    induction l with
    | nil => simp [PyData.canLayAll0, PyData.depthAll]
    | cons z l ih => simp [PyData.canLayAll0, PyData.canLay0, PyData.depthAll, PyData.depth, ih.1, ih.2]
  simp [SeqAt.shaped, PyData.canLay0, PyData.depth, k.1, k.2]
theorem idxD_of {d : PyData} : ∀ {ds : List PyData} {i : Nat} {z : PyData}, ds[i]? = some z → PyData.eqv z d = true → (∀ j y, j < i → ds[j]? = some y → PyData.eqv y d = false) → idxD d ds = some i
  | [], i, z, h, _, _ => by simp at h
  | x :: ds, 0, z, h, hz, _ => by
    have : x = z := by simpa using h
    subst this
    unfold idxD
    rw [if_pos hz]
  | x :: ds, i + 1, z, h, hz, hn => by
    unfold idxD
    have hx := hn 0 x (by omega) rfl
    rw [if_neg (by rw [hx]; simp), idxD_of (i := i) (by simpa using h) hz fun j y hj hy => hn (j + 1) y (by omega) (by simpa using hy)]
    rfl
theorem dat_nT (l : List Nat) (s : Sto) : dat 12 s (.tup (iN l)) = some (.tuple (l.map fun k => PyData.int (k : Nat))) := by
  have : ∀ l : List Nat, optL (dat 11 s) (iN l) = some (l.map fun k => PyData.int (k : Nat)) := by
    intro l
    induction l with
    | nil => rfl
    | cons z l ih =>
      show (match dat 11 s (.int (z : Nat)), optL (dat 11 s) (iN l) with | some d, some ds => some (d :: ds) | _, _ => none) = _
      rw [ih]; rfl
  show (optL (dat 11 s) (iN l)).map PyData.tuple = _
  rw [this]; rfl
theorem sh_nT (l : List Nat) : SeqAt.shaped (.tuple (l.map fun k => PyData.int (k : Nat))) = true := by
  have k : PyData.canLayAll0 (l.map fun k => PyData.int (k : Nat)) = true ∧ PyData.depthAll (l.map fun k => PyData.int (k : Nat)) = 0 := by
    induction l with
    | nil => simp [PyData.canLayAll0, PyData.depthAll]
    | cons z l ih => simp [PyData.canLayAll0, PyData.canLay0, PyData.depthAll, PyData.depth, ih.1, ih.2]
  simp [SeqAt.shaped, PyData.canLay0, PyData.depth, k.1, k.2]
theorem ne_iN (l : List Nat) (s : Sto) : gNe (.tup (iN l)) (.tup (iN l)) s = .ok (.bl false) s := by
  rw [gNe_b (eqB_dat (by rfl) (dat_nT l s) (dat_nT l s) (sh_nT l) (sh_nT l)), PySem.SeqAt.eqv_refl _ (SeqAt.canLay_of_shaped (sh_nT l))]
  rfl
theorem valA_map {k k' : L2.Key} {v : AV} : ∀ kvs : List (L2.Key × AV), valA (kvs.map fun kv => if kv.1 = k then (kv.1, v) else kv) k' = if k = k' then (if (kvs.any fun kv => decide (kv.1 = k)) = true then some v else none) else valA kvs k'
  | [] => by simp [valA]
  | (j, x) :: r => by
    have ih := valA_map (k := k) (k' := k') (v := v) r
    rw [List.map_cons, List.any_cons]
    by_cases hj : j = k
    · subst hj
      simp only [if_pos, decide_true, Bool.true_or]
      by_cases hk : j = k'
      · simp [valA, hk]
      · rw [if_neg hk] at ih
        simp [valA, hk, ih]
    · simp only [if_neg hj]
      by_cases hk : k = k'
      · rw [if_pos hk] at ih
        have hj' : ¬ j = k' := fun e => hj (e.trans hk.symm)
        rw [if_pos hk, decide_eq_false hj, Bool.false_or, ← ih]
        simp only [valA, if_neg hj']
      · rw [if_neg hk] at ih
        by_cases hk2 : j = k'
        · simp [valA, hk2, hk]
        · simp [valA, hk2, hk, ih]
theorem valA_app {k k' : L2.Key} {v : AV} : ∀ kvs : List (L2.Key × AV), (kvs.any fun kv => decide (kv.1 = k)) = false → valA (kvs ++ [(k, v)]) k' = if k = k' then some v else valA kvs k'
  | [], _ => by simp [valA]
  | (j, x) :: r, h => by
    rw [List.any_cons, Bool.or_eq_false_iff] at h
    have ih := valA_app (k := k) (k' := k') (v := v) r h.2
    have hj : ¬ j = k := by simpa using h.1
    rw [List.cons_append]
    by_cases hk : j = k'
    · have : ¬ k = k' := fun e => hj (hk.trans e.symm)
      simp [valA, hk, this]
    · simp only [valA, if_neg hk, ih]
theorem valA_put (kvs : List (L2.Key × AV)) (k k' : L2.Key) (v : AV) : valA (putKA kvs k v) k' = if k = k' then some v else valA kvs k' := by
  unfold putKA
  by_cases h : (kvs.any fun kv => decide (kv.1 = k)) = true
  · rw [if_pos h, valA_map, if_pos h]
  · rw [if_neg h]
    exact valA_app kvs (Bool.eq_false_iff.mpr h)
theorem put_len (kvs : List (L2.Key × AV)) (k : L2.Key) (v : AV) : (putKA kvs k v).length ≤ kvs.length + 1 := by
  unfold putKA
  split
  · rw [List.length_map]; omega
  · simp
theorem rngdn {fr : AA} {σ : ASt} {s s1 : Sto} {i : Int} (h : fr σ s = .ok [.int i, .int 0, .int (-1)] s1) (h0 : -1 ≤ i) (h1 : i ≤ 1000) : aRng3 fr σ s = .ok (rngC i (-1) i.toNat, fun _ => True) s1 := by
  have k := L2.RgC.neg (i := i) (j := 0) (by omega) (by omega) (by decide) (by decide)
  rw [Int.sub_zero] at k
  have e : (Builtin.Range.rangeSize i 0 (-1)).toNat = i.toNat := by rw [k.2.2.2]; omega
  unfold aRng3
  rw [h]
  simp only [Res.bind_ok, e]
  exact if_pos (by rw [e]; exact k)
theorem rngC_at {lo : Int} {n i : Nat} {x : AV} (h : (rngC lo (-1) n)[i]? = some x) : i < n ∧ x = .int (lo - (i : Nat)) := by
  unfold rngC at h
  rw [List.getElem?_map] at h
  by_cases hi : i < n
  · rw [List.getElem?_range hi] at h
    refine ⟨hi, (Option.some.inj h).symm.trans ?_⟩
    show AV.int _ = AV.int _
    congr 1
    omega
  · rw [List.getElem?_eq_none (by rw [List.length_range]; omega)] at h
    cases h
theorem rngC_ln {lo c : Int} {n : Nat} : (rngC lo c n).length = n := by
  unfold rngC
  rw [List.length_map, List.length_range]
section
variable {s : Sto} {vs l : List Nat} {n : Nat}
theorem index_n {o v y : Nat} (h : s.c o = .lst (iN l)) (hn : l.Nodup) (hv : l[v]? = some y) : gIndex (.obj o) [.int (y : Nat)] s = .ok (.int (v : Nat)) s := by
  have hl := (List.getElem?_eq_some_iff.mp hv).1
  refine gIndex_dat (d := .int (y : Nat)) (dat_nL h) rfl ⟨sh_n l, by simp [SeqAt.shaped, PyData.canLay0, PyData.depth]⟩ (idxD_of (z := .int (y : Nat)) (by rw [List.getElem?_map, hv]; rfl) (by simp [PyData.eqv]) fun j z hj hz => ?_)
  rw [List.getElem?_map] at hz
  cases e : l[j]? with
  | none => rw [e] at hz; cases hz
  | some x =>
    rw [e] at hz
    cases hz
    obtain ⟨hj2, e2⟩ := List.getElem?_eq_some_iff.mp e
    obtain ⟨_, e3⟩ := List.getElem?_eq_some_iff.mp hv
    have ne : x ≠ y := fun c => by
      have := (List.getElem_inj hn).mp ((e2.trans c).trans e3.symm)
      omega
    show PyData.eqv (.int (x : Nat)) (.int (y : Nat)) = false
    simp only [PyData.eqv]
    rw [Bool.eq_false_iff]
    intro c
    simp at c
    omega
theorem needord_ok (hn : l.Nodup) (hl : ∀ x ∈ l, x < l.length) (h5 : l.length ≤ 500) : F_need_order [.tup (iN l)] s = .ok .non s := by
  refine gc0' ?_
  have it := isi_ty (x := .tup (iN l)) (a := "tuple") (n := "tuple") (r := true) (s := s) rfl (by decide) (by decide)
  have ln := fun u => gLen_seq (s := u) (x := .tup (iN l)) (seqOf_tup)
  simp only [iN_len] at ln
  have d0 : decide ((1000 : Int) < ((l.length : Nat) : Int)) = false := decide_eq_false (by omega)
  have big : (1000 : Nat) < sizeLine := by decide
  have en : enumUK [.tup (iN l)] (s.new (.dic [])) = .ok (enumA (iN l), fun _ => True) (s.new (.dic [])) := e_enumUT
  simp! [B_need_order, it, ln, gGt_int, d0, en, -gLen_tup]
  refine for_A (fun i σ s' => ∃ kvs x2 x3, s' = s.new (.dic kvs) ∧ kvs.length ≤ i ∧ (∀ k : Nat, (valA kvs (.inl ((k : Nat) : Int))).isSome = decide (k ∈ l.take i)) ∧ σ = [some (.tup (iN l)), some (.obj s.n), x2, x3]) ⟨[], _, _, rfl, Nat.le_refl _, fun k => by simp [valA], rfl⟩ ?_ ?_
  · rintro i x σ s' hx ⟨kvs, x2, x3, rfl, kl, hk, rfl⟩
    refine ⟨trivial, ?_⟩
    obtain ⟨y, hy, rfl⟩ := enumA_get hx
    obtain ⟨v, hv, rfl⟩ := iN_get hy
    have hi := (List.getElem?_eq_some_iff.mp hv).1
    have v0 := hl v (List.mem_of_getElem? hv)
    have ce : ((l.length : Nat) : Int) - 1 = ((l.length - 1 : Nat) : Int) := by omega
    have e := s6int (i := (v : Nat)) (lo := 0) (hi := ((l.length - 1 : Nat) : Int)) (s.new (.dic kvs))
    have d1 : decide ((0 : Int) ≤ ((v : Nat) : Int)) = true := decide_eq_true (by omega)
    have d2 : decide (((v : Nat) : Int) ≤ ((l.length - 1 : Nat) : Int)) = true := decide_eq_true (by omega)
    rw [d1, d2] at e
    have nin : ¬ v ∈ l.take i := fun c => by
      obtain ⟨j, hj, ej⟩ := List.mem_iff_getElem.mp c
      have hj' : j < i := by rw [List.length_take] at hj; omega
      rw [List.getElem_take] at ej
      obtain ⟨_, e3⟩ := List.getElem?_eq_some_iff.mp hv
      have := (List.getElem_inj hn).mp (ej.trans e3.symm)
      omega
    have di := gDIn_obj (neg := false) (y := .int (v : Nat)) (k := .inl ((v : Nat) : Int)) (s := s.new (.dic kvs)) (i := s.n) (kvs := kvs) Sto.new_at rfl
    rw [hk v, decide_eq_false nin, if_neg Bool.false_ne_true] at di
    have g : gcT (aOr (aNot (aTest (aCall 3 F_s6_is_integer [] (aCons (aVar 3) (aCons (aC (.int 0)) (aCons (aOp gMinus (aCB gLen (aCons (aVar 0) aNil)) (aC (.int 1))) aNil)))))) (aTest (aOp (gDIn false) (aVar 3) (aVar 1)))) [some (.tup (iN l)), some (.obj s.n), some (.int (i : Nat)), some (.int (v : Nat))] (s.new (.dic kvs)) = .ok false (s.new (.dic kvs)) := gcT_f (by simp! only [ln, ce, e, di, -gLen_tup])
    have sd := setD_obj (i := s.n) (s := s.new (.dic kvs)) (y := .int (v : Nat)) (z := .bl true) (k := .inl ((v : Nat) : Int)) Sto.new_at rfl (by omega)
    rw [new_set] at sd
    simp! [g, sd]
    refine ⟨_, _, _, rfl, Nat.le_trans (put_len _ _ _) (by omega), fun k => ?_, rfl⟩
    rw [valA_put, List.take_succ, hv]
    by_cases c : k = v
    · subst c
      rw [if_pos rfl]
      simp
    · rw [if_neg (fun e => c (by have := Sum.inl.inj e; omega)), hk k]
      refine decide_eq_decide.mpr ?_
      simp [c]
  · rintro σ s' ⟨kvs, x2, x3, rfl, kl, hk, rfl⟩
    refine ⟨trivial, ?_⟩
    simp! [eq_self]
    exact (Gb.refl s).new
theorem rowof_ok (hn : n = vs.length + 1) (hr : RwOk (n - 1) vs) (hv : vs.length ≤ 400) : F_row_of [.tup (iN (ord n vs))] s = .ok (.tup (iN vs)) s := by
  refine gc0' ?_
  have n0 : 0 < n := by omega
  have nd := needord_ok (s := s) (ord_nd hr n0) (fun x hx => by rw [ord_len]; exact ord_lt hr n0 x hx) (by rw [ord_len]; omega)
  have ln := fun u => gLen_seq (s := u) (x := .tup (iN (ord n vs))) (seqOf_tup)
  simp only [iN_len, ord_len] at ln
  have lr := listRg1_ok (fa := aCB gLen (aCons (aVar 0) aNil)) (σ := [some (.tup (iN (ord n vs))), none, none, none, none]) (s := s) (s1 := s) (m := n) (by simp! only [ln, -gLen_tup]) (by omega)
  rw [rngA_iN] at lr
  have z0 : ((0 : Nat) ≤ sizeLine) = True := eq_true (Nat.zero_le _)
  have big : (1000 : Nat) ≤ sizeLine := by decide
  simp! [B_row_of, nd, lr, z0, -gLen_tup]
  have ce : ((n : Nat) : Int) - 1 = ((vs.length : Nat) : Int) := by omega
  obtain ⟨t0, ht0⟩ : ∃ t, t = (s.new (.lst (iN (List.range n)))).new (.lst []) := ⟨_, rfl⟩
  rw [← ht0]
  have rg := rngdn (fr := aCons (aOp gMinus (aCB gLen (aCons (aVar 0) aNil)) (aC (.int 1))) (aCons (aC (.int 0)) (aCons (aUn gNeg (aC (.int 1))) aNil))) (σ := [some (.tup (iN (ord n vs))), some (.obj s.n), some (.obj (s.n + 1)), none, none]) (s := t0) (s1 := t0) (i := (vs.length : Nat)) (by simp! only [ln, ce, -gLen_tup]) (by omega) (by omega)
  rw [rg, Int.toNat_natCast]
  simp! [eq_self]
  refine for_A (fun i σ s' => Gb s s' ∧ s'.n = s.n + 2 ∧ s'.c s.n = .lst (iN (go 0 (List.range n) (n - 1) (vs.take i))) ∧ s'.c (s.n + 1) = .lst (iN (vs.take i)) ∧ ∃ x3 x4, σ = [some (.tup (iN (ord n vs))), some (.obj s.n), some (.obj (s.n + 1)), x3, x4]) ⟨by rw [ht0]; exact (Gb.refl s).new.new, by rw [ht0]; rfl, by rw [ht0]; exact at_old (Nat.lt_succ_self _) Sto.new_at, by rw [ht0]; exact Sto.new_at, _, _, rfl⟩ ?_ ?_
  · rintro i x σ s' hx ⟨g, n', cI, cF, x3, x4, rfl⟩
    refine ⟨trivial, ?_⟩
    obtain ⟨hi, rfl⟩ := rngC_at hx
    obtain ⟨v, hv⟩ : ∃ v, vs[i]? = some v := ⟨_, List.getElem?_eq_getElem hi⟩
    have h0 := hr i v hv
    obtain ⟨L, hL⟩ : ∃ L, L = go 0 (List.range n) (n - 1) (vs.take i) := ⟨_, rfl⟩
    have ll : L.length = n := by rw [hL, go_len, List.length_range]
    have gs := go_snoc 0 (L := List.range n) (k := n - 1) hv
    have bk := go_back (z := 0) (L := List.range n) hr (by rw [List.length_range]; omega) hv
    have pm : L.Nodup := hL ▸ ((go_perm 0 (vs.take i) (List.range n) (n - 1) hr.take (by rw [List.length_range]; omega)).nodup_iff.mpr List.nodup_range)
    rw [← hL] at gs cI bk
    have ci : ((vs.length : Nat) : Int) - ((i : Nat) : Int) = ((n - 1 - i : Nat) : Int) := by omega
    have lv : v < L.length := by omega
    obtain ⟨y, hy⟩ : ∃ y, L[v]? = some y := ⟨_, List.getElem?_eq_getElem lv⟩
    have bk : (ord n vs)[n - 1 - i]? = some y := bk.trans hy
    have ix := gIx_seq (s := s') (x := .tup (iN (ord n vs))) seqOf_tup (show L2.atI _ ((n - 1 - i : Nat) : Int) = _ from L2.atI_nat (iN_at bk))
    have id := index_n cI pm hy
    have sq1 := isSeqL_obj cI
    have sq := isSeqL_obj cF
    have ap := gAppend_obj (y := .int (v : Nat)) cF (by rw [iN_len, List.length_take]; omega)
    obtain ⟨s2, hs2⟩ : ∃ s2, s2 = s'.set (s.n + 1) (.lst (iN (vs.take i) ++ [.int (v : Nat)])) := ⟨_, rfl⟩
    rw [← hs2] at ap
    have cI2 : s2.c s.n = .lst (iN L) := by rw [hs2]; exact (Sto.set_ne (by omega)).trans cI
    have ex := exch_ok (s := s2) (L := s.n) (a := n - 1 - i) (b := v) cI2 (by rw [hs2]; show s.n < s'.n; omega) (by rw [iN_len]; omega) (by rw [iN_len]; omega)
    rw [sw_iN (by omega) (by omega), ← gs] at ex
    simp! [ci, ix, sq1, id, sq, ap, ex]
    refine ⟨by rw [hs2]; exact (g.set (by omega)).set (Nat.le_refl _), by rw [hs2]; exact n', ?_, _, _, rfl⟩
    refine Eq.trans (Sto.set_ne ?_) ?_
    · omega
    rw [hs2, Sto.set_at, List.take_succ, hv]
    unfold iN
    rw [List.map_append]
    rfl
  · rintro σ s' ⟨g, n', cI, cF, x3, x4, rfl⟩
    refine ⟨trivial, ?_⟩
    rw [rngC_ln, List.take_length] at cF
    have tp := gTuple_seq (seqOf_obj cF)
    simp! [tp]
    exact ⟨by simp [iNcl2], g⟩
end
end Pf
set_option Elab.async false
set_option linter.all false
set_option maxRecDepth 100000
set_option maxHeartbeats 1000000
set_option exponentiation.threshold 3000
namespace Pf
open PySem Ab
local macro_rules | `(tactic| simp! [$xs,*]) => `(tactic| try simp (config := {maxSteps := 1000000}) only [k_bind, k_Kb, k_st, k_Kst, k_Rst, k_thn, k_loop, k_fn, k_forget, k_clr, k_noX, k_try, k_stuck, k_Astuck, d_thn_nx, d_thn_bk, d_thn_ct, d_thn_rt, d_thn_er, d_lp_nx, d_lp_bk, d_lp_ct, d_lp_rt, d_lp_er, d_fg_nx, d_fg_bk, d_fg_ct, d_fg_rt, d_fg_er, d_cl_nx, d_cl_bk, d_cl_ct, d_cl_rt, d_cl_er, d_tr_nx, d_tr_bk, d_tr_ct, d_tr_rt, d_tr_er, d_nX_nx, d_nX_bk, d_nX_ct, d_nX_rt, d_nX_er, d_fn_nx, d_fn_bk, d_fn_ct, d_fn_rt, d_fn_er, A_nx, A_bk, A_ct, A_rt, A_err, post_ok, post_err, post_noErr, e_op, e_opK, e_un, e_cb, e_nil, e_c, e_cons, e_consK, e_consK2, e_and, e_or, e_andK, e_orK, e_not, e_notK, e_test, e_testK, e_tand, e_tandK, e_tor, e_torK, e_tnot, e_tnotK, e_yes, e_if, e_ifK, e_ch, e_chK1, e_chK2, e_chK3, e_tup, e_tupK, e_lst, e_lstK, e_newL, e_call, e_callK, e_meth, e_methK, e_methK2, e_prop, e_propK, e_make, e_makeK, e_makeK2, e_makeV, e_sm, e_smK, e_smK2, e_cm, e_cmK, e_cmK2, e_sl, e_slK1, e_slK2, e_slK3, e_part, e_partK, e_nopart, e_rev, e_bm, e_bmK, e_pr, e_pr0, e_prK1, e_prK2, e_prK3, e_disp, e_dnew, e_own, e_ownK, e_lc, e_lcK, e_iter, e_rng1, e_rng1K, e_rng2, e_rng2K, e_enum, s_drop, s_dropK, s_ret, s_retK, s_retN, s_next, s_break, s_cont, s_seq, s_if, s_ifK, s_asg, s_asgK, s_name, s_par, s_parK, s_par3, s_parK3, s_gnil, s_gcons, s_gtup, s_for, s_forK, s_raise, s_raiseK, s_sf, s_sfK1, s_sfK2, s_dp, s_dpK1, s_dpK2, s_dpK3, s_forget, s_def, s_fld, e_enumU, e_enumUT, e_match, e_mcase, e_mcase2, e_many, e_mnil, e_lcX, e_lcXK, e_get2, e_methS, e_methS1, e_methS2, s_augS, s_augS1, gEqS_int, gEqS_str, gEqS_bl, gEqS_tup, eq_self, beq_self_eq_true, k_grd, k_grdS, k_ite, k_Aite, true_implies, false_implies, implies_true, List.map_cons, List.map_nil, List.nil_append, List.cons_append, List.append_nil, List.replicate_succ, List.replicate_zero, List.getElem?_cons_zero, List.getElem?_cons_succ, List.length_cons, List.length_nil, List.set_cons_zero, List.set_cons_succ, ↓reduceIte, ↓reduceDIte, Nat.reduceAdd, Nat.reduceLeDiff, Nat.reduceEqDiff, Nat.zero_add, if_true, if_false, aVar, gMinus_int, gLt_int, gLe_int, gGt_int, gGe_int, gEq_int, gNe_int, gEq_str, gNe_str, gEq_bl, gNe_bl, gXor_int, gAnd_int, gOr_int, gAdd_int, gIsN_non, gNotN_non, gIsB_bl, gNotB_bl, gNeg_int, gLen_tup, gLen_scr, gMax2_int, gMin2_int, gBits_int, gSl_tup, gSl_scr, Bool.not_true, Bool.not_false, Bool.true_eq_false, Bool.false_eq_true, Bool.true_and, Bool.false_and, Bool.and_true, Bool.and_false, Bool.true_or, Bool.false_or, decide_true, decide_false, and_self, and_true, true_and, and_false, false_and, not_true_eq_false, not_false_eq_true, reduceCtorEq, kz, z1, z2, z3, z4, z5, z6, z7, z8, z9, z10, z11, z12, z13, z14, z15, z16, isCls, isNon, aForget, aHand, toKey, keysA, iterOf_tup, iterOf_scr, oNx_some, noErr_ok, decide_eq_true_eq, decide_eq_false_iff_not, Sto.new_n, Sto.set_n, Sto.set_at, Sto.new_at, Nat.zero_le, aMakeV, Cl_non, Cl_bl, Cl_int, Cl_str, Cl_cls, Cl_obj, Cl_tup, ClL_nil, ClL_cons, $xs,*])
local macro_rules | `(tactic| simp! only [$xs,*]) => `(tactic| simp only [e_op, e_opK, e_un, e_cb, e_nil, e_c, e_cons, e_consK, e_consK2, e_and, e_or, e_andK, e_orK, e_not, e_notK, e_test, e_testK, e_tand, e_tandK, e_tor, e_torK, e_tnot, e_tnotK, e_yes, e_if, e_ifK, e_ch, e_chK1, e_chK2, e_chK3, e_tup, e_tupK, e_lst, e_lstK, e_newL, e_call, e_callK, e_meth, e_methK, e_methK2, e_prop, e_propK, e_make, e_makeK, e_makeK2, e_makeV, e_sm, e_smK, e_smK2, e_cm, e_cmK, e_cmK2, e_sl, e_slK1, e_slK2, e_slK3, e_part, e_partK, e_nopart, e_rev, e_bm, e_bmK, e_pr, e_pr0, e_prK1, e_prK2, e_prK3, e_disp, e_dnew, e_own, e_ownK, e_lc, e_lcK, e_iter, e_rng1, e_rng1K, e_rng2, e_rng2K, e_enum, s_drop, s_dropK, s_ret, s_retK, s_retN, s_next, s_break, s_cont, s_seq, s_if, s_ifK, s_asg, s_asgK, s_name, s_par, s_parK, s_par3, s_parK3, s_gnil, s_gcons, s_gtup, s_for, s_forK, s_raise, s_raiseK, s_sf, s_sfK1, s_sfK2, s_dp, s_dpK1, s_dpK2, s_dpK3, s_forget, s_def, s_fld, e_enumU, e_enumUT, e_match, e_mcase, e_mcase2, e_many, e_mnil, e_lcX, e_lcXK, e_get2, e_methS, e_methS1, e_methS2, s_augS, s_augS1, gEqS_int, gEqS_str, gEqS_bl, gEqS_tup, eq_self, beq_self_eq_true, true_implies, false_implies, implies_true, List.map_cons, List.map_nil, List.nil_append, List.cons_append, List.append_nil, List.replicate_succ, List.replicate_zero, List.getElem?_cons_zero, List.getElem?_cons_succ, List.length_cons, List.length_nil, List.set_cons_zero, List.set_cons_succ, ↓reduceIte, ↓reduceDIte, Nat.reduceAdd, Nat.reduceLeDiff, Nat.reduceEqDiff, Nat.zero_add, if_true, if_false, aVar, gMinus_int, gLt_int, gLe_int, gGt_int, gGe_int, gEq_int, gNe_int, gEq_str, gNe_str, gEq_bl, gNe_bl, gXor_int, gAnd_int, gOr_int, gAdd_int, gIsN_non, gNotN_non, gIsB_bl, gNotB_bl, gNeg_int, gLen_tup, gLen_scr, gMax2_int, gMin2_int, gBits_int, gSl_tup, gSl_scr, Bool.not_true, Bool.not_false, Bool.true_eq_false, Bool.false_eq_true, Bool.true_and, Bool.false_and, Bool.and_true, Bool.and_false, Bool.true_or, Bool.false_or, decide_true, decide_false, and_self, and_true, true_and, and_false, false_and, not_true_eq_false, not_false_eq_true, reduceCtorEq, kz, z1, z2, z3, z4, z5, z6, z7, z8, z9, z10, z11, z12, z13, z14, z15, z16, isCls, isNon, aForget, aHand, toKey, keysA, iterOf_tup, iterOf_scr, oNx_some, noErr_ok, decide_eq_true_eq, decide_eq_false_iff_not, Sto.new_n, Sto.set_n, Sto.set_at, Sto.new_at, Nat.zero_le, aMakeV, Cl_non, Cl_bl, Cl_int, Cl_str, Cl_cls, Cl_obj, Cl_tup, ClL_nil, ClL_cons, grd_pos, grdS_pos, Res.bind_ok, Res.bind_err, Res.st_ok, Res.st_err, SRes.thn_nx, SRes.thn_rt, SRes.thn_err, SRes.fn_rt, SRes.fn_nx, SRes.fn_err, SRes.loop_nx, SRes.loop_rt, SRes.loop_err, SRes.loop_ct, SRes.loop_bk, SRes.forget_nx, SRes.forget_rt, SRes.forget_err, SRes.clr_nx, SRes.clr_rt, SRes.noX_nx, SRes.noX_rt, aTry, sizeLine_ge, $xs,*])
def bnds (n m : Nat) : List Nat := (List.range m).map fun i => n - i
theorem bnds_get {n m i : Nat} (h : i < m) : (bnds n m)[i]? = some (n - i) := by
  unfold bnds
  rw [List.getElem?_map, List.getElem?_range h]
  rfl
theorem bnds_len (n m : Nat) : (bnds n m).length = m := by simp [bnds]
/-- the words of the next number -/
theorem Gives.next {bs vs ws : List Nat} {i b : Nat} (G : Gives (bs.drop i) (vs.drop i) ws) (hb : bs[i]? = some b) : ∃ v w1 w2, vs[i]? = some v ∧ ws = w1 ++ w2 ∧ Try1 b v w1 ∧ Gives (bs.drop (i + 1)) (vs.drop (i + 1)) w2 := by
  obtain ⟨hi, rfl⟩ := List.getElem?_eq_some_iff.mp hb
  rw [List.drop_eq_getElem_cons hi] at G
  by_cases hv : i < vs.length
  · rw [List.drop_eq_getElem_cons hv] at G
    obtain ⟨w1, w2, rfl, t, g⟩ := G
    exact ⟨_, w1, w2, List.getElem?_eq_getElem hv, rfl, t, g⟩
  · rw [List.drop_eq_nil_of_le (Nat.le_of_not_lt hv)] at G
    exact G.elim
theorem Gives.same_len : ∀ {bs vs ws : List Nat}, Gives bs vs ws → vs.length = bs.length
  | [], [], ws, h => rfl
  | b :: bs, v :: vs, ws, h => by
    obtain ⟨w1, w2, rfl, t, g⟩ := h
    rw [List.length_cons, List.length_cons, g.same_len]
theorem one_row {k v : Nat} (hk : k ≤ 31) (hv : v < 2 ^ k) : ∀ ws : List Nat, ws = (if 0 < k then [v * 2 ^ (32 - k)] else []) → RowOf k v ws ∧ ws.length ≤ 1 := by
  intro ws hws
  by_cases h : 0 < k
  · rw [if_pos h] at hws
    subst hws
    have pe : (2 : Nat) ^ k * 2 ^ (32 - k) = 4294967296 := by
      rw [← Nat.pow_add, show k + (32 - k) = 32 by omega]
    have p0 : 0 < 2 ^ (32 - k) := Nat.two_pow_pos _
    have lt : v * 2 ^ (32 - k) < 4294967296 := by
      rw [← pe]
      exact Nat.mul_lt_mul_of_pos_right hv p0
    refine ⟨⟨?_, ?_, ?_, hv, ?_⟩, by simp⟩
    · show 1 = _
      omega
    · intro x hx
      rw [List.mem_singleton.mp hx]
      exact lt
    · show 0 + (k + 31) / 32 ≤ 1
      omega
    · intro i hi
      have e : i = 0 := by omega
      subst e
      rw [if_neg (by omega), show 32 * (0 + 1) - k = 32 - k by omega]
      show v * 2 ^ (32 - k) / 2 ^ (32 - k) = _
      rw [Nat.mul_div_cancel _ p0, Nat.mul_zero, Nat.pow_zero, Nat.div_one, Nat.mod_eq_of_lt]
      exact Nat.lt_of_lt_of_le hv (Nat.pow_le_pow_right (by decide) (by omega))
  · rw [if_neg h] at hws
    subst hws
    have e : k = 0 := by omega
    subst e
    exact ⟨⟨rfl, (fun x hx => by cases hx), Nat.le_refl _, hv, fun i hi => absurd hi (by omega)⟩, by simp⟩
theorem Gives.ltA : ∀ {bs vs ws : List Nat}, Gives bs vs ws → ∀ (i b v : Nat), bs[i]? = some b → vs[i]? = some v → v < b
  | [], [], ws, h, i, b, v, hb, hv => by simp at hb
  | b :: bs, v :: vs, ws, h, i, c, x, hb, hv => by
    obtain ⟨w1, w2, rfl, t, g⟩ := h
    cases i with
    | zero => cases hb; cases hv; exact t.lt.1
    | succ i => exact g.ltA i c x (by simpa using hb) (by simpa using hv)
/-- the one word of a small number -/
def w1O (m v : Nat) : Nat := v * 2 ^ (32 - TW.len (m - 1))
def wsO : Nat → List Nat → List Nat
  | _, [] => []
  | m, v :: vs => w1O m v :: wsO (m - 1) vs
theorem wsO_app : ∀ (a : List Nat) (m v : Nat), wsO m (a ++ [v]) = wsO m a ++ [w1O (m - a.length) v]
  | [], m, v => rfl
  | x :: a, m, v => by
    show w1O m x :: wsO (m - 1) (a ++ [v]) = _
    rw [wsO_app a, List.length_cons, show m - 1 - a.length = m - (a.length + 1) by omega]
    rfl
theorem wsO_len : ∀ (a : List Nat) (m : Nat), (wsO m a).length = a.length
  | [], _ => rfl
  | x :: a, m => by show (wsO (m - 1) a).length + 1 = _; rw [wsO_len a]; rfl
theorem bnds_cons (n m : Nat) : bnds n (m + 1) = n :: bnds (n - 1) m := by
  unfold bnds
  rw [List.range_succ_eq_map, List.map_cons, List.map_map]
  refine congrArg (List.cons _) (List.map_congr_left fun i _ => ?_)
  show n - (i + 1) = n - 1 - i
  omega
theorem try_one {m v : Nat} (h2 : 2 ≤ m) (h5 : m ≤ 500) (hv : v < m) : Try1 m v [w1O m v] := by
  have l1 : TW.len (m - 1) ≤ 9 := TW.len_le (by omega)
  have l0 : 0 < TW.len (m - 1) := by
    rw [TW.len_pos (by omega)]
    omega
  have vt := len_top m (by omega)
  have r := (one_row (k := TW.len (m - 1)) (v := v) (by omega) (by omega) [w1O m v] (by rw [if_pos l0]; rfl)).1
  exact ⟨[], by simp, (fun u h => by cases h), hv, (Rows.nil _).snoc r⟩
theorem gives_wsO : ∀ (vs : List Nat) (n : Nat), RwOk (n - 1) vs → vs.length < n ∨ vs = [] → n ≤ 500 → Gives (bnds n vs.length) vs (wsO n vs)
  | [], _, _, _, _ => rfl
  | v :: vs, n, h, hl, hn => by
    have h0 := h 0 v rfl
    rw [List.length_cons, bnds_cons]
    refine ⟨[w1O n v], wsO (n - 1) vs, rfl, try_one (by omega) hn (by omega), gives_wsO vs (n - 1) ?_ ?_ (by omega)⟩
    · exact h.tl
    · rcases hl with hl | hl
      · rw [List.length_cons] at hl
        exact .inl (by omega)
      · cases hl
section
variable {s : Sto} {vs : List Nat} {n m v : Nat}
theorem s5int {i lo hi : Int} (s : Sto) (h1 : lo ≤ i) (h2 : i ≤ hi) : F_s5_is_integer [.int i, .int lo, .int hi] s = .ok (.bl true) s := by
  refine gc0 ?_ (by simp)
  have ii := is_int i s
  have d1 : decide (lo ≤ i) = true := decide_eq_true h1
  have d2 : decide (i ≤ hi) = true := decide_eq_true h2
  simp! only [B_s5_is_integer, ii, d1, d2]
theorem rowfor_ok (s : Sto) (h2 : 2 ≤ m) (h5 : m ≤ 500) (hv : v < m) : F_row_for [.tup [.str "below", .int (m : Nat)], .int (v : Nat)] s = .ok (.tup [.int (w1O m v : Nat)]) s := by
  have st := step_ok (z := "below") (xs := [.int (m : Nat)]) s (.inr (.inl ⟨rfl, rfl⟩))
  have i0 : ∀ s, gIx (.tup [.str "below", .int (m : Nat)]) (.int 0) s = .ok (.str "below") s := fun s => gIx_seq (xs := [.str "below", .int (m : Nat)]) rfl (show L2.atI _ ((0 : Nat) : Int) = _ from L2.atI_nat rfl)
  have i1 : ∀ s, gIx (.tup [.str "below", .int (m : Nat)]) (.int 1) s = .ok (.int (m : Nat)) s := fun s => gIx_seq (xs := [.str "below", .int (m : Nat)]) rfl (show L2.atI _ ((1 : Nat) : Int) = _ from L2.atI_nat rfl)
  have p9 : (500 : Nat) ≤ 2 ^ 256 := Nat.le_trans (by decide : 500 ≤ 2 ^ 9) (Nat.pow_le_pow_right (by decide) (by decide))
  have nd : F_s5_need [.int (m : Nat), .int 1, .int MB] s = .ok .non s := need5_t (i := (m : Nat)) (lo := 1) (hi := MB) s (by omega) (leMB (by omega))
  have nb : ("below" : Str) ≠ "bits" := by decide
  have nf : ("below" : Str) ≠ "fraction" := by decide
  have c1 : ((m : Nat) : Int) - 1 = ((m - 1 : Nat) : Int) := by omega
  have a1 : F_s5_need_draw [.tup [.str "below", .int (m : Nat)]] s = .ok .non s := by
    refine gc0 ?_ (by simp)
    simp! only [B_s5_need_draw, st, i0, i1, nd, if_neg nb, if_neg nf]
  have a2 : F_s5_number_for [.tup [.str "below", .int (m : Nat)], .int (v : Nat)] s = .ok (.int (v : Nat)) s := by
    refine gc0 ?_ (by simp)
    have e := s5int (i := (v : Nat)) (lo := 0) (hi := ((m - 1 : Nat) : Int)) s (by omega) (by omega)
    have d1 : decide (("below" : Str) = "bits") = false := by decide
    have d2 : decide (("below" : Str) = "below") = true := by decide
    simp! only [B_s5_number_for, i0, i1, d1, d2, c1, e]
  have a3 : F_s5_bits_for [.tup [.str "below", .int (m : Nat)]] s = .ok (.int (TW.len (m - 1) : Nat)) s := by
    refine gc0 ?_ (by simp)
    have e := digits_okN (n := m - 1) s
    simp! only [B_s5_bits_for, i0, i1, if_neg nb, if_neg nf, c1, e]
  have l1 : TW.len (m - 1) ≤ 9 := TW.len_le (by omega)
  have l0 : 0 < TW.len (m - 1) := by
    rw [TW.len_pos (by omega)]
    omega
  obtain ⟨k, hk⟩ : ∃ k, k = TW.len (m - 1) := ⟨_, rfl⟩
  have e0 : w1O m v = v * 2 ^ (32 - k) := by rw [hk]; rfl
  rw [e0]
  rw [← hk] at a3 l1 l0
  refine gc0' ?_
  have wf := wordsfor_ok (k := k) s (by omega)
  rw [show (k + 31) / 32 = 1 by omega] at wf
  have wf : F_words_for [.int (k : Nat)] s = .ok (.int 1) s := wf
  have z0 : ((0 : Nat) ≤ sizeLine) = True := eq_true (Nat.zero_le _)
  have wf2 : F_words_for [.int (k : Nat)] (s.new (.lst [])) = .ok (.int 1) (s.new (.lst [])) := by
    have := wordsfor_ok (k := k) (s.new (.lst [])) (by omega)
    rwa [show (k + 31) / 32 = 1 by omega] at this
  simp! [B_row_for, a1, a2, a3, z0, wf, wf2]
  refine ⟨by decide, ?_⟩
  refine for_rng (n := 1) (fun i σ s' => s' = s.new (.lst (if i = 0 then [] else [.int ((v * 2 ^ (32 - k) : Nat) : Int)])) ∧ ∃ x5 x6 x7, σ = [some (.tup [.str "below", .int (m : Nat)]), some (.int (v : Nat)), some (.int (v : Nat)), some (.int (k : Nat)), some (.obj s.n), x5, x6, x7]) ⟨rfl, _, _, _, rfl⟩ ?_ ?_
  · rintro i σ s' hi ⟨rfl, x5, x6, x7, rfl⟩
    refine ⟨trivial, ?_⟩
    obtain rfl : i = 0 := by omega
    have sh0 : ∀ s, gShr (.int (v : Nat)) (.int 0) s = .ok (.int ((v : Nat) : Int)) s := fun s => by
      have := shrN (a := v) (i := 0) s
      rw [Nat.pow_zero, Nat.div_one] at this
      exact this
    have m0 : ∀ s, gMul (.int 32) (.int 0) s = .ok (.int 0) s := fun s => gMul_ok (m := 6) (n := 1) (by decide) (by decide) (by decide)
    have md : ∀ s, gMod (.int (v : Nat)) (.int 4294967296) s = .ok (.int (v : Nat)) s := fun s => by
      have := gMod_int (i := (v : Nat)) (j := 4294967296) (s := s) (by decide)
      rwa [Int.emod_eq_of_lt (by omega) (by omega)] at this
    have d1 : decide (((k : Nat) : Int) < 32) = true := decide_eq_true (by omega)
    have c3 : (32 : Int) - ((k : Nat) : Int) = ((32 - k : Nat) : Int) := by omega
    have sh := fun s => shlN (a := v) (k := 32 - k) s (by omega) (by omega)
    have sq := isSeqL_obj (s := s.new (.lst [])) (i := s.n) (xs := []) Sto.new_at
    have ap := gAppend_obj (s := s.new (.lst [])) (i := s.n) (xs := []) (y := .int ((v * 2 ^ (32 - k) : Nat) : Int)) Sto.new_at (by decide)
    rw [new_set] at ap
    have sb : ((k : Nat) : Int) - 0 = ((k : Nat) : Int) := by omega
    have z9 : (0 : Int) + ((0 : Nat) : Int) = 0 := rfl
    simp! [z9, m0, sb, sq, sh0, md, d1, c3, sh, ap]
    exact ⟨_, _, _, rfl⟩
  · rintro σ s' ⟨rfl, x5, x6, x7, rfl⟩
    refine ⟨trivial, ?_⟩
    have tp := gTuple_seq (s := s.new (.lst [.int ((v * 2 ^ (32 - k) : Nat) : Int)])) (x := .obj s.n) (seqOf_obj Sto.new_at)
    simp! [tp]
    exact (Gb.refl s).new
theorem scriptof_ok (hn : n = vs.length + 1) (hr : RwOk (n - 1) vs) (hv : vs.length ≤ 400) : F_script_of [.tup (iN (ord n vs))] s = .ok (.tup (iN (wsO n vs))) s := by
  refine gc0' ?_
  have z0 : ((0 : Nat) ≤ sizeLine) = True := eq_true (Nat.zero_le _)
  have big : (1000 : Nat) ≤ sizeLine := by decide
  have ro := rowof_ok (s := s.new (.lst [])) hn hr hv
  have ln := fun u => gLen_seq (s := u) (x := .tup (iN (ord n vs))) (seqOf_tup)
  simp only [iN_len, ord_len] at ln
  simp! [B_script_of, z0, ro]
  refine for_A (fun i σ s' => s' = s.new (.lst (iN (wsO n (vs.take i)))) ∧ ∃ x2 x3, σ = [some (.tup (iN (ord n vs))), some (.obj s.n), x2, x3]) ⟨rfl, _, _, rfl⟩ ?_ ?_
  · rintro i x σ s' hx ⟨rfl, x2, x3, rfl⟩
    refine ⟨trivial, ?_⟩
    obtain ⟨y, hy, rfl⟩ := enumA_get hx
    obtain ⟨v, hv', rfl⟩ := iN_get hy
    have h0 := hr i v hv'
    have hi := (List.getElem?_eq_some_iff.mp hv').1
    have ce : ((n : Nat) : Int) - ((i : Nat) : Int) = ((n - i : Nat) : Int) := by omega
    have rf := rowfor_ok (m := n - i) (v := v) (s.new (.lst (iN (wsO n (vs.take i))))) (by omega) (by omega) (by omega)
    have sq := isSeqL_obj (s := s.new (.lst (iN (wsO n (vs.take i))))) (i := s.n) Sto.new_at
    have tl : (vs.take i).length = i := by rw [List.length_take]; omega
    have ex := gExtendT_obj (s := s.new (.lst (iN (wsO n (vs.take i))))) (i := s.n) (xs := iN (wsO n (vs.take i))) (zs := [.int (w1O (n - i) v : Nat)]) Sto.new_at (by rw [iN_len, wsO_len, List.length_singleton]; omega)
    rw [new_set] at ex
    simp! [sq, ln, ce, rf, ex, -gLen_tup]
    refine ⟨?_, _, _, rfl⟩
    rw [List.take_succ, hv']
    show _ = s.new (.lst (iN (wsO n (vs.take i ++ [v]))))
    rw [wsO_app, tl]
    unfold iN
    rw [List.map_append]
    rfl
  · rintro σ s' ⟨rfl, x2, x3, rfl⟩
    refine ⟨trivial, ?_⟩
    rw [enumA_len, iN_len, List.take_length]
    have tp := gTuple_seq (s := s.new (.lst (iN (wsO n vs)))) (x := .obj s.n) (seqOf_obj Sto.new_at)
    simp! [tp]
    exact ⟨by simp [iNcl2], (Gb.refl s).new⟩
end
theorem rwok_gives {n : Nat} {vs ws : List Nat} (G : Gives (bnds n (n - 1)) vs ws) : RwOk (n - 1) vs := fun i v hv => by
  have vl : vs.length = n - 1 := G.same_len.trans (bnds_len n (n - 1))
  have hi := (List.getElem?_eq_some_iff.mp hv).1
  have := G.ltA i (n - i) v (bnds_get (by omega)) hv
  omega
section
variable {s : Sto} {o w p u : Nat} {ws w1 vs : List Nat} {th : AV} {xs : List AV} {P : AV → Sto → Prop} {R : String → List Str → List AV → Sto → Prop}
theorem shuffled_p (D : DW s o w ws p u) (A : AtW ws p w1) (Q : Sq s th xs) (G : Gives (bnds xs.length (xs.length - 1)) vs w1) (hn : xs.length ≤ 500) (q : ∀ s' K, s.n ≤ K → K < s'.n → s'.c K = .lst (go .non xs (xs.length - 1) vs) → DW s' o w ws (p + w1.length) (u + w1.length) → (∀ j, j < s.n → j ≠ o → j ≠ w → s'.c j = s.c j) → P (.obj K) s') : (F_shuffled [.obj w, th] s).Post P R := by
  have nd := need_d D.h2
  have nt := things_ok Q (by omega)
  have gl := gList_seq Q.sq
  have hr := rwok_gives G
  obtain ⟨n, hN⟩ : ∃ n, n = xs.length := ⟨_, rfl⟩
  rw [← hN] at hn G hr
  have vl : vs.length = n - 1 := G.same_len.trans (bnds_len n (n - 1))
  have p6 : (512 : Nat) ≤ 2 ^ 256 := Nat.le_trans (by decide : 512 ≤ 2 ^ 9) (Nat.pow_le_pow_right (by decide) (by decide))
  unfold F_shuffled
  refine gcF_n ?_
  simp! [B_shuffled, nd, nt, gl, newL]
  have ho := D.ho
  have hw := D.hw
  have cM0 : (s.new (.lst xs)).c s.n = .lst xs := Sto.new_at
  have DW0 : DW (s.new (.lst xs)) o w ws p u := D.gb' (Gb.refl s).new
  have o0 : ∀ i, i < s.n → (s.new (.lst xs)).c i = s.c i := fun i hi => at_new hi
  have n0 : (s.new (.lst xs)).n = s.n + 1 := rfl
  generalize s.new (.lst xs) = t0 at cM0 DW0 o0 n0 ⊢
  have ln0 := gLen_seq (s := t0) (x := .obj s.n) (seqOf_obj cM0)
  rw [← hN] at ln0
  have rg := rngdn (fr := aCons (aOp gMinus (aCB gLen (aCons (aVar 2) aNil)) (aC (.int 1))) (aCons (aC (.int 0)) (aCons (aUn gNeg (aC (.int 1))) aNil))) (σ := [some (.obj w), some th, some (.obj s.n), none]) (s := t0) (s1 := t0) (i := ((n : Nat) : Int) - 1) (by simp! only [ln0]) (by omega) (by omega)
  rw [rg, show (((n : Nat) : Int) - 1).toNat = n - 1 by omega]
  simp! [eq_self]
  refine for_A (fun i σ s' => ∃ wa wb x3, w1 = wa ++ wb ∧ Gives ((bnds n (n - 1)).drop i) (vs.drop i) wb ∧ DW s' o w ws (p + wa.length) (u + wa.length) ∧ s'.c s.n = .lst (go .non xs (n - 1) (vs.take i)) ∧ s'.n = s.n + 1 ∧ (∀ j, j < s.n → j ≠ o → j ≠ w → s'.c j = s.c j) ∧ σ = [some (.obj w), some th, some (.obj s.n), x3]) ⟨[], w1, none, rfl, G, DW0, cM0, n0, (fun j h _ _ => o0 j h), rfl⟩ ?_ ?_
  · rintro i x σ s' hx ⟨wa, wb, x3, hw1, G', D', cM, n', old, rfl⟩
    refine ⟨trivial, ?_⟩
    obtain ⟨hi, rfl⟩ := rngC_at hx
    obtain ⟨v, w2, w3, hv, rfl, T, G2⟩ := G'.next (bnds_get hi)
    have h0 := hr i v hv
    have c1 : ((n : Nat) : Int) - 1 - ((i : Nat) : Int) = ((n - 1 - i : Nat) : Int) := by omega
    have c2 : ((n - 1 - i : Nat) : Int) + 1 = ((n - i : Nat) : Int) := by omega
    have kc := D'.kc (m := "below") (by decide) (by decide)
    have A2 : AtW ws (p + wa.length) w2 := by
      rw [hw1] at A
      exact A.snd.fst
    have e := belowf_t D' A2 T (by omega)
    obtain ⟨s2, hs2⟩ : ∃ s2, s2 = stt s' o w ws (p + wa.length + w2.length) (u + wa.length + w2.length) := ⟨_, rfl⟩
    have D2 : DW s2 o w ws (p + wa.length + w2.length) (u + wa.length + w2.length) := hs2 ▸ D'.st _ _
    rw [← hs2] at e
    have st8 : ∀ j, j ≠ o → j ≠ w → s2.c j = s'.c j := fun j h1 h2 => by rw [hs2]; exact (Sto.set_ne h2).trans (Sto.set_ne h1)
    have n2 : s2.n = s'.n := hs2 ▸ rfl
    have cM2 := (st8 s.n (by omega) (by omega)).trans cM
    have gs := go_snoc AV.non (L := xs) (k := n - 1) hv
    obtain ⟨L, hL⟩ : ∃ L, L = go .non xs (n - 1) (vs.take i) := ⟨_, rfl⟩
    have ll : L.length = n := by rw [hL, go_len, hN]
    rw [← hL] at gs cM2
    have ex := exch_ok (s := s2) (L := s.n) (a := n - 1 - i) (b := v) cM2 (by omega) (by omega) (by omega)
    rw [← gs] at ex
    simp! [c1, c2, kc, e, ex]
    refine ⟨wa ++ w2, w3, _, by rw [hw1, List.append_assoc], G2, ?_, by rw [n2]; exact n', fun j h1 h2 h3 => ?_, rfl⟩
    · rw [List.length_append, ← Nat.add_assoc, ← Nat.add_assoc]
      exact ⟨(Sto.set_ne (by omega)).trans D2.h, (Sto.set_ne (by omega)).trans D2.h2, D2.ne, D2.ho, D2.hw, D2.hr⟩
    · exact (Sto.set_ne (by omega)).trans ((st8 j h2 h3).trans (old j h1 h2 h3))
  · rintro σ s' ⟨wa, wb, x3, hw1, G', D', cM, n', old, rfl⟩
    refine ⟨trivial, ?_⟩
    rw [rngC_ln, List.drop_eq_nil_of_le (by rw [bnds_len]; exact Nat.le_refl _), List.drop_eq_nil_of_le (by omega)] at G'
    cases (show wb = [] from G')
    rw [List.append_nil] at hw1
    subst hw1
    rw [rngC_ln, ← vl, List.take_length, vl] at cM
    simp! [eq_self]
    rw [hN] at cM
    exact ⟨by omega, q _ s.n (Nat.le_refl _) (by omega) cM D' old⟩
end
end Pf
set_option Elab.async false
set_option linter.all false
set_option maxRecDepth 100000
set_option maxHeartbeats 1000000
set_option exponentiation.threshold 3000
namespace Pf
open PySem Ab
local macro_rules | `(tactic| simp! [$xs,*]) => `(tactic| try simp (config := {maxSteps := 1000000}) only [k_bind, k_Kb, k_st, k_Kst, k_Rst, k_thn, k_loop, k_fn, k_forget, k_clr, k_noX, k_try, k_stuck, k_Astuck, d_thn_nx, d_thn_bk, d_thn_ct, d_thn_rt, d_thn_er, d_lp_nx, d_lp_bk, d_lp_ct, d_lp_rt, d_lp_er, d_fg_nx, d_fg_bk, d_fg_ct, d_fg_rt, d_fg_er, d_cl_nx, d_cl_bk, d_cl_ct, d_cl_rt, d_cl_er, d_tr_nx, d_tr_bk, d_tr_ct, d_tr_rt, d_tr_er, d_nX_nx, d_nX_bk, d_nX_ct, d_nX_rt, d_nX_er, d_fn_nx, d_fn_bk, d_fn_ct, d_fn_rt, d_fn_er, A_nx, A_bk, A_ct, A_rt, A_err, post_ok, post_err, post_noErr, e_op, e_opK, e_un, e_cb, e_nil, e_c, e_cons, e_consK, e_consK2, e_and, e_or, e_andK, e_orK, e_not, e_notK, e_test, e_testK, e_tand, e_tandK, e_tor, e_torK, e_tnot, e_tnotK, e_yes, e_if, e_ifK, e_ch, e_chK1, e_chK2, e_chK3, e_tup, e_tupK, e_lst, e_lstK, e_newL, e_call, e_callK, e_meth, e_methK, e_methK2, e_prop, e_propK, e_make, e_makeK, e_makeK2, e_makeV, e_sm, e_smK, e_smK2, e_cm, e_cmK, e_cmK2, e_sl, e_slK1, e_slK2, e_slK3, e_part, e_partK, e_nopart, e_rev, e_bm, e_bmK, e_pr, e_pr0, e_prK1, e_prK2, e_prK3, e_disp, e_dnew, e_own, e_ownK, e_lc, e_lcK, e_iter, e_rng1, e_rng1K, e_rng2, e_rng2K, e_enum, s_drop, s_dropK, s_ret, s_retK, s_retN, s_next, s_break, s_cont, s_seq, s_if, s_ifK, s_asg, s_asgK, s_name, s_par, s_parK, s_par3, s_parK3, s_gnil, s_gcons, s_gtup, s_for, s_forK, s_raise, s_raiseK, s_sf, s_sfK1, s_sfK2, s_dp, s_dpK1, s_dpK2, s_dpK3, s_forget, s_def, s_fld, e_enumU, e_enumUT, e_match, e_mcase, e_mcase2, e_many, e_mnil, e_lcX, e_lcXK, e_get2, e_methS, e_methS1, e_methS2, s_augS, s_augS1, gEqS_int, gEqS_str, gEqS_bl, gEqS_tup, eq_self, beq_self_eq_true, k_grd, k_grdS, k_ite, k_Aite, true_implies, false_implies, implies_true, List.map_cons, List.map_nil, List.nil_append, List.cons_append, List.append_nil, List.replicate_succ, List.replicate_zero, List.getElem?_cons_zero, List.getElem?_cons_succ, List.length_cons, List.length_nil, List.set_cons_zero, List.set_cons_succ, ↓reduceIte, ↓reduceDIte, Nat.reduceAdd, Nat.reduceLeDiff, Nat.reduceEqDiff, Nat.zero_add, if_true, if_false, aVar, gMinus_int, gLt_int, gLe_int, gGt_int, gGe_int, gEq_int, gNe_int, gEq_str, gNe_str, gEq_bl, gNe_bl, gXor_int, gAnd_int, gOr_int, gAdd_int, gIsN_non, gNotN_non, gIsB_bl, gNotB_bl, gNeg_int, gLen_tup, gLen_scr, gMax2_int, gMin2_int, gBits_int, gSl_tup, gSl_scr, Bool.not_true, Bool.not_false, Bool.true_eq_false, Bool.false_eq_true, Bool.true_and, Bool.false_and, Bool.and_true, Bool.and_false, Bool.true_or, Bool.false_or, decide_true, decide_false, and_self, and_true, true_and, and_false, false_and, not_true_eq_false, not_false_eq_true, reduceCtorEq, kz, z1, z2, z3, z4, z5, z6, z7, z8, z9, z10, z11, z12, z13, z14, z15, z16, isCls, isNon, aForget, aHand, toKey, keysA, iterOf_tup, iterOf_scr, oNx_some, noErr_ok, decide_eq_true_eq, decide_eq_false_iff_not, Sto.new_n, Sto.set_n, Sto.set_at, Sto.new_at, Nat.zero_le, aMakeV, Cl_non, Cl_bl, Cl_int, Cl_str, Cl_cls, Cl_obj, Cl_tup, ClL_nil, ClL_cons, $xs,*])
local macro_rules | `(tactic| simp! only [$xs,*]) => `(tactic| simp only [e_op, e_opK, e_un, e_cb, e_nil, e_c, e_cons, e_consK, e_consK2, e_and, e_or, e_andK, e_orK, e_not, e_notK, e_test, e_testK, e_tand, e_tandK, e_tor, e_torK, e_tnot, e_tnotK, e_yes, e_if, e_ifK, e_ch, e_chK1, e_chK2, e_chK3, e_tup, e_tupK, e_lst, e_lstK, e_newL, e_call, e_callK, e_meth, e_methK, e_methK2, e_prop, e_propK, e_make, e_makeK, e_makeK2, e_makeV, e_sm, e_smK, e_smK2, e_cm, e_cmK, e_cmK2, e_sl, e_slK1, e_slK2, e_slK3, e_part, e_partK, e_nopart, e_rev, e_bm, e_bmK, e_pr, e_pr0, e_prK1, e_prK2, e_prK3, e_disp, e_dnew, e_own, e_ownK, e_lc, e_lcK, e_iter, e_rng1, e_rng1K, e_rng2, e_rng2K, e_enum, s_drop, s_dropK, s_ret, s_retK, s_retN, s_next, s_break, s_cont, s_seq, s_if, s_ifK, s_asg, s_asgK, s_name, s_par, s_parK, s_par3, s_parK3, s_gnil, s_gcons, s_gtup, s_for, s_forK, s_raise, s_raiseK, s_sf, s_sfK1, s_sfK2, s_dp, s_dpK1, s_dpK2, s_dpK3, s_forget, s_def, s_fld, e_enumU, e_enumUT, e_match, e_mcase, e_mcase2, e_many, e_mnil, e_lcX, e_lcXK, e_get2, e_methS, e_methS1, e_methS2, s_augS, s_augS1, gEqS_int, gEqS_str, gEqS_bl, gEqS_tup, eq_self, beq_self_eq_true, true_implies, false_implies, implies_true, List.map_cons, List.map_nil, List.nil_append, List.cons_append, List.append_nil, List.replicate_succ, List.replicate_zero, List.getElem?_cons_zero, List.getElem?_cons_succ, List.length_cons, List.length_nil, List.set_cons_zero, List.set_cons_succ, ↓reduceIte, ↓reduceDIte, Nat.reduceAdd, Nat.reduceLeDiff, Nat.reduceEqDiff, Nat.zero_add, if_true, if_false, aVar, gMinus_int, gLt_int, gLe_int, gGt_int, gGe_int, gEq_int, gNe_int, gEq_str, gNe_str, gEq_bl, gNe_bl, gXor_int, gAnd_int, gOr_int, gAdd_int, gIsN_non, gNotN_non, gIsB_bl, gNotB_bl, gNeg_int, gLen_tup, gLen_scr, gMax2_int, gMin2_int, gBits_int, gSl_tup, gSl_scr, Bool.not_true, Bool.not_false, Bool.true_eq_false, Bool.false_eq_true, Bool.true_and, Bool.false_and, Bool.and_true, Bool.and_false, Bool.true_or, Bool.false_or, decide_true, decide_false, and_self, and_true, true_and, and_false, false_and, not_true_eq_false, not_false_eq_true, reduceCtorEq, kz, z1, z2, z3, z4, z5, z6, z7, z8, z9, z10, z11, z12, z13, z14, z15, z16, isCls, isNon, aForget, aHand, toKey, keysA, iterOf_tup, iterOf_scr, oNx_some, noErr_ok, decide_eq_true_eq, decide_eq_false_iff_not, Sto.new_n, Sto.set_n, Sto.set_at, Sto.new_at, Nat.zero_le, aMakeV, Cl_non, Cl_bl, Cl_int, Cl_str, Cl_cls, Cl_obj, Cl_tup, ClL_nil, ClL_cons, grd_pos, grdS_pos, Res.bind_ok, Res.bind_err, Res.st_ok, Res.st_err, SRes.thn_nx, SRes.thn_rt, SRes.thn_err, SRes.fn_rt, SRes.fn_nx, SRes.fn_err, SRes.loop_nx, SRes.loop_rt, SRes.loop_err, SRes.loop_ct, SRes.loop_bk, SRes.forget_nx, SRes.forget_rt, SRes.forget_err, SRes.clr_nx, SRes.clr_rt, SRes.noX_nx, SRes.noX_rt, aTry, sizeLine_ge, $xs,*])
theorem gd_sto {d : Nat} {s s' : Sto} {i : Nat} {x : Cell} (g : Gd d s s') (h : s.n ≤ i) : Gd d s (s'.set i x) := ⟨g.n, fun j hj hd => (Sto.set_ne (by omega)).trans (g.c j hj hd)⟩
def Ts (x : AV) : Prop := x = .str "a" ∨ x = .int 5 ∨ x = .non ∨ x = .tup [.int 1, .int 2] ∨ x = .str "b" ∨ x = .int 0 ∨ x = .bl true ∨ x = .str "c"
theorem smEa1 : Gx.SmE (.str "a") := by simp only [Gx.SmE]; decide +kernel
theorem smEb1 : Gx.SmE (.str "b") := by simp only [Gx.SmE]; decide +kernel
theorem smEc1 : Gx.SmE (.str "c") := by simp only [Gx.SmE]; decide +kernel
theorem Ts.de {x : AV} (h : Ts x) (s : Sto) : De s 1 3 x := by
  rcases h with rfl | rfl | rfl | rfl | rfl | rfl | rfl | rfl
  · exact (de_str smEa1).mono (by decide) (by decide)
  · exact (de_int (by decide)).mono (by decide) (by decide)
  · exact de_non.mono (by decide) (by decide)
  · exact (de_tup (l := 0) (c := 1) (deL fun x hx => by
      simp only [List.mem_cons, List.not_mem_nil, or_false] at hx
      rcases hx with rfl | rfl <;> exact de_int (by decide))).mono (by decide) (by decide)
  · exact (de_str smEb1).mono (by decide) (by decide)
  · exact (de_int (by decide)).mono (by decide) (by decide)
  · exact (de_bl true).mono (by decide) (by decide)
  · exact (de_str smEc1).mono (by decide) (by decide)
theorem go_mem {α : Type} {z : α} : ∀ (vs : List Nat) (L : List α) (k : Nat) (x : α), x ∈ go z L k vs → x ∈ L ∨ x = z
  | [], L, k, x, h => .inl h
  | v :: vs, L, k, x, h => by
    have sm : ∀ i y, y ∈ L.set i (L.getD v z) → y ∈ L ∨ y = z := fun i y hy => by
      rcases List.mem_or_eq_of_mem_set hy with hy | rfl
      · exact .inl hy
      · rw [List.getD_eq_getElem?_getD]
        cases e : L[v]? with
        | none => exact .inr rfl
        | some u => exact .inl (List.mem_of_getElem? e)
    rcases go_mem vs _ _ x h with h | h
    · unfold sw at h
      rcases List.mem_or_eq_of_mem_set h with h | rfl
      · exact sm _ _ h
      · rw [List.getD_eq_getElem?_getD]
        cases e : L[k]? with
        | none => exact .inr rfl
        | some u => exact .inl (List.mem_of_getElem? e)
    · exact .inr h
theorem go_ts {xs : List AV} {k : Nat} {vs : List Nat} (h : ∀ x ∈ xs, Ts x) : ∀ x ∈ go .non xs k vs, Ts x := fun x hx => by
  rcases go_mem vs xs k x hx with hx | rfl
  · exact h x hx
  · exact .inr (.inr (.inl rfl))
theorem dnA_bnds (n : Nat) : dnA ((n : Nat) : Int) (n - 1) = iN (bnds n (n - 1)) := by
  unfold dnA iN bnds
  rw [List.map_map]
  refine List.map_congr_left fun i hi => ?_
  have := List.mem_range.mp hi
  show AV.int (((n : Nat) : Int) - ((i : Nat) : Int)) = AV.int ((n - i : Nat) : Int)
  congr 1
  omega
theorem bnds_ok {z m : Nat} (h : m ≤ z - 1) (hz : z ≤ 10) : (∀ b ∈ bnds z m, 1 ≤ b ∧ b ≤ 2 ^ 256) ∧ ∀ b ∈ bnds z m, b ≤ 2 ^ (32 * 1) := by
  have p1 : (10 : Nat) ≤ 2 ^ 256 := Nat.le_trans (by decide : 10 ≤ 2 ^ 4) (Nat.pow_le_pow_right (by decide) (by decide))
  refine ⟨fun b hb => ?_, fun b hb => ?_⟩ <;> obtain ⟨i, hi, rfl⟩ := List.mem_map.mp hb
  · have := List.mem_range.mp hi
    exact ⟨by omega, by omega⟩
  · exact Nat.le_trans (show z - i ≤ 10 by omega) (by decide)
theorem I1.like {d B o : Nat} {s s' t : Sto} (S : I1 d B t s) (hn : s.n ≤ s'.n) (h : ∀ i, i < s.n → i ≠ o → s'.c i = s.c i) (ho : t.n ≤ o) : I1 d B t s' := by
  have lt := S.lt
  have ld := S.ld
  have gn := S.gd.n
  exact ⟨⟨by omega, fun i hi hd => (h i (by omega) (by omega)).trans (S.gd.c i hi hd)⟩, S.dr.of (h d lt (by omega)) (by omega), ld⟩
section
variable {d B : Nat} {s t : Sto} {P : AV → Sto → Prop} {R : String → List Str → List AV → Sto → Prop}
theorem w1_shuffle (S : I1 d B t s) (hB : B ≤ 10000000) (q : ∀ s', I1 d (B + 6000) t s' → Gd d s s' → P (.bl true) s') : (F__law_shuffle_right [.obj d] s).Post P R := by
  unfold F__law_shuffle_right
  refine gcF_1 S.lt ?_
  have lt0 := S.lt
  have tsn := S.gd.n
  have z0 : ((0 : Nat) ≤ sizeLine) = True := eq_true (Nat.zero_le _)
  have big : (1000 : Nat) ≤ sizeLine := by decide
  have fin : ∀ s' C, C ≤ B + 6000 → I1 d C t s' → Gd d s s' → (Cl s.n (.bl true) ∧ Gd d s s' ∧ ∃ C, Dr d s' C ∧ ∀ s2, Dr d s2 C → Upto d s s2 → P (.bl true) s2) := fun s' C hC I g => ⟨by simp, g, C, I.dr, fun s2 D u => q s2 ((S.step u.gd D).mono hC) u.gd⟩
  simp! [B__law_shuffle_right]
  refine w1_digit (n := 10) S (by omega) (by decide) (by decide) fun z s2 hz S2 u2 => ?_
  have z10 : z ≤ 9 := by omega
  have rz : -(2 ^ 62) ≤ ((z : Nat) : Int) ∧ ((z : Nat) : Int) < 2 ^ 62 := by omega
  have tz : ((z : Nat) : Int).toNat = z := by omega
  have n2 : s2.n = s.n := u2.1
  have g2 : Gd d s s2 := u2.gd
  simp! [rz, tz]
  refine lc_P (fun i acc s' => acc.length = i ∧ (∀ x ∈ acc, Ts x) ∧ s2.n < s'.n ∧ I1 d (B + 8 + 4 * i) t s' ∧ Gd d s2 s') ⟨rfl, (fun x h => by cases h), Nat.lt_succ_self _, S2.new.mono (by omega), (Gd.refl d s2).new⟩ Sto.new_at (by rw [rngA_len]; omega) ?_ ?_
  · rintro i x acc s' hx ⟨a1, a2, n', S', g'⟩ hc
    obtain ⟨hi, rfl⟩ := rngA_get hx
    refine ⟨trivial, ?_⟩
    simp! [wipeA, z9]
    refine w1_digit (n := 9) S'.new (by omega) (by decide) (by decide) fun j s3 hj S3 u3 => ?_
    have cP := (u3.2 s'.n (by have := S'.lt; omega)).trans Sto.new_at
    refine post_ix (seqOf_obj cP) (by omega) (by simpa using hj) fun y hy => ?_
    have n3 : s3.n = s'.n + 1 := u3.1
    refine ⟨(u3.2 s2.n (by omega)).trans (at_old n' hc), by rw [List.length_append, List.length_singleton, a1], fun x hx => ?_, by show s2.n < s3.n; omega, (S3.set (by omega)).mono (by omega), gd_sto (g'.new.trans u3.gd) (Nat.le_refl _)⟩
    rcases List.mem_append.mp hx with hx | hx
    · exact a2 x hx
    · rw [List.mem_singleton.mp hx]
      simp only [List.mem_cons, List.not_mem_nil, or_false] at hy
      unfold Ts
      rcases hy with h | h | h | h | h | h | h | h | h <;> simp [h]
  · rintro xs s3 ⟨xl, xT, n3, S3, g3⟩ cL
    refine ⟨trivial, ?_⟩
    rw [rngA_len] at xl S3
    have qL : ∃ L, L = s2.n := ⟨_, rfl⟩
    refine qL.elim ?_
    intro L hL
    rw [← hL] at cL n3
    have lt3 := S3.lt
    have g03 : Gd d s s3 := g2.trans g3
    have m1 : (0 : Int) - 1 = -1 := rfl
    have ld := listDn_ok (fa := aCons (aVar 1) (aCons (aC (.int 1)) (aCons (aOp gMinus (aC (.int 0)) (aC (.int 1))) aNil))) (σ := [some (.obj d), some (.int (z : Nat)), some (.obj L), none, none, none, none, none, none]) (s := s3) (s1 := s3) (m := z) (k := 1) (by simp! only [m1]; rfl) (by omega) (by omega)
    rw [dnA_bnds] at ld
    simp! [← hL, ld]
    obtain ⟨bk1, bk2⟩ := bnds_ok (z := z) (m := z - 1) (Nat.le_refl _) (by omega)
    refine w1_script (bs := bnds z (z - 1)) (Lb := s3.n) (M := 1) S3.new (by omega) Sto.new_at (Nat.lt_succ_self _) (by omega) bk1 bk2 (by rw [bnds_len]; omega) (by rw [bnds_len]; omega) ?_
    intro ws0 vs Ln s5 G wlen Ln0 Ln1 cN S5 g5
    rw [bnds_len] at wlen
    have vl : vs.length = z - 1 := G.same_len.trans (bnds_len z (z - 1))
    have hrw := rwok_gives G
    have wlt := G.lt
    obtain ⟨ws, hws⟩ : ∃ ws, ws = ws0 ++ [7, 8] := ⟨_, rfl⟩
    have ad : ∀ s, gAdd (.tup (iN ws0)) (.tup [.int 7, .int 8]) s = .ok (.tup (iN ws)) s := fun s => by
      rw [gAdd_tup (by rw [iN_len]; show _ + 2 ≤ _; omega), hws]
      unfold iN
      rw [List.map_append]
      rfl
    have wsl : ws.length = ws0.length + 2 := by rw [hws]; simp
    have hr : RowW ws := ⟨fun x hx => by
      rw [hws] at hx
      rcases List.mem_append.mp hx with hx | hx
      · exact wlt x hx
      · simp only [List.mem_cons, List.not_mem_nil, or_false] at hx
        rcases hx with rfl | rfl <;> decide, by omega⟩
    have e1 := sc_init hr s5
    obtain ⟨s6, hs6⟩ : ∃ s6, s6 = s5.new (scC ws 0) := ⟨_, rfl⟩
    obtain ⟨o, ho⟩ : ∃ o, o = s5.n := ⟨_, rfl⟩
    have n5 : s3.n + 1 ≤ s5.n := g5.n
    have n6 : s6.n = s5.n + 1 := hs6 ▸ rfl
    have S6 : I1 d (B + 5000) t s6 := (hs6 ▸ S5.new).mono (by omega)
    have g6 : Gd d s3 s6 := hs6 ▸ ((Gd.refl d s3).new.trans g5).new
    have cL6 := (g6.c L n3 (by omega)).trans cL
    have co6 : s6.c o = scC ws 0 := by rw [hs6, ho]; exact Sto.new_at
    have cN6 : s6.c Ln = .lst (iN vs) := by rw [hs6]; exact at_old Ln1 cN
    have Ln0' : s3.n + 1 ≤ Ln := Ln0
    rw [← hs6, ← ho] at e1
    have tp := gTuple_seq (s := s6) (x := .obj L) (seqOf_obj cL6)
    simp! [ad, ← ho, e1, ← hs6, tp, z2]
    refine w1_digit (n := 2) S6.new (by omega) (by decide) (by decide) fun v s7 hv S7 u7 => ?_
    have cP := (u7.2 s6.n (by have := S6.lt; omega)).trans Sto.new_at
    have n7 : s7.n = s6.n + 1 := u7.1
    have cL7 : s7.c L = .lst xs := (u7.2 L (by omega)).trans (at_old (by omega) cL6)
    have co7 : s7.c o = scC ws 0 := (u7.2 o (by omega)).trans (at_old (by omega) co6)
    have cN7 : s7.c Ln = .lst (iN vs) := (u7.2 Ln (by omega)).trans (at_old (by omega) cN6)
    refine post_ix (seqOf_obj cP) (by omega) (by simpa using hv) fun y hy => ?_
    have hY : ∀ S, S.c L = .lst xs → Sq S y xs := fun S h => by
      simp only [List.mem_cons, List.not_mem_nil, or_false] at hy
      rcases hy with rfl | rfl
      · exact Sq.lst h
      · exact Sq.tup
    have g7 : Gd d s s7 := (g03.trans g6).new.trans u7.gd
    clear hy cP tp
    have e2 := dr_init (s := s7) (o := o) (p := 0) (ws := ws) co7 (by omega)
    obtain ⟨s8, hs8⟩ : ∃ s8, s8 = s7.new (dwC o 0) := ⟨_, rfl⟩
    obtain ⟨w, hw⟩ : ∃ w, w = s7.n := ⟨_, rfl⟩
    have n8 : s8.n = s7.n + 1 := hs8 ▸ rfl
    have D8 : DW s8 o w ws 0 0 := ⟨by rw [hs8]; exact at_old (by omega) co7, by rw [hs8, hw]; exact Sto.new_at, by omega, by omega, by omega, hr⟩
    have S8 : I1 d (B + 5004) t s8 := hs8 ▸ S7.new
    have g8 : Gd d s s8 := hs8 ▸ g7.new
    have cL8 : s8.c L = .lst xs := by rw [hs8]; exact at_old (by omega) cL7
    have cN8 : s8.c Ln = .lst (iN vs) := by rw [hs8]; exact at_old (by omega) cN7
    rw [← hs8, ← hw] at e2
    simp! [← hw, ← hs8, e2]
    refine shuffled_p (w1 := ws0) (vs := vs) D8 ⟨[], [7, 8], by rw [hws]; simp, rfl⟩ (hY _ cL8) (by rw [xl]; exact G) (by omega) fun s9 K K0 K1 cK D9 old9 => ?_
    have cL9 := (old9 L (by omega) (by omega) (by omega)).trans cL8
    have cN9 := (old9 Ln (by omega) (by omega) (by omega)).trans cN8
    have n9 : s8.n ≤ s9.n := by omega
    have co9 := D9.h
    have mv := moved_ok (s := s9) (th := .obj L) (nu := .obj Ln) (xs := xs) (vs := vs) (Nu.lst cL9 (by omega)) (Nu.lst cN9 (by omega)) (by rw [xl]; exact hrw) (by omega) (by omega)
    have Kx := go_ts (k := xs.length - 1) (vs := vs) xT
    obtain ⟨zz, hzz⟩ := (deL (s := s9) (l := 1) (c := 3) fun x hx => (Kx x hx).de s9).rep (by decide) (by rw [go_len]; omega)
    have r1 := hzz s9 K (Gb.refl _) cK
    have r2 := hzz (s9.new (.lst (go .non xs (xs.length - 1) vs))) s9.n (Gb.refl _).new Sto.new_at
    have dz : decide (zz = zz) = true := decide_eq_true rfl
    have il : gIsi (kitB "list") [.obj K, .ty "list"] s9 = .ok (.bl true) s9 := isi_ty (a := "list") (by simp [tyN, cK]) (by decide) (by decide)
    have lf := left_w co9
    have cl1 : ((ws.length : Nat) : Int) - ((0 + ws0.length : Nat) : Int) = 2 := by omega
    rw [cl1] at lf
    have ii := isI_obj co9
    have gl := gList_seq (hY _ cL9).sq
    obtain ⟨z3', hz3⟩ := (deL (s := s9) (l := 1) (c := 3) fun x hx => (xT x hx).de s9).rep (by decide) (by omega)
    have q1 := hz3 (s9.new (.lst xs)) s9.n (Gb.refl _).new Sto.new_at
    have q2 := hz3 (s9.new (.lst xs)) L (Gb.refl _).new (at_old (by omega) cL9)
    have dz3 : decide (z3' = z3') = true := decide_eq_true rfl
    have old7 : ∀ i, i < s7.n → i ≠ o → s9.c i = s7.c i := fun i h1 h2 => (old9 i (by omega) h2 (by omega)).trans (by rw [hs8]; exact at_new h1)
    have I9 : I1 d (B + 5004) t s9 := S7.like (o := o) (by omega) old7 (by omega)
    have G9 : Gd d s s9 := ⟨by omega, fun i h1 h2 => (old7 i (by omega) (by omega)).trans (g7.c i h1 h2)⟩
    simp! [eq_self]
    refine gcT_g ?_
    simp! [r1, mv, r2, dz]
    refine ⟨(Gb.refl s9).new, ?_⟩
    simp! [ii, lf, il, gl, newL, q1, q2, dz3]
    exact (fin _ _ (by omega) I9.new G9.new).2
end
end Pf
set_option Elab.async false
set_option linter.all false
set_option maxRecDepth 100000
set_option maxHeartbeats 1000000
set_option exponentiation.threshold 3000
namespace Pf
open PySem Ab
local macro_rules | `(tactic| simp! [$xs,*]) => `(tactic| try simp (config := {maxSteps := 1000000}) only [k_bind, k_Kb, k_st, k_Kst, k_Rst, k_thn, k_loop, k_fn, k_forget, k_clr, k_noX, k_try, k_stuck, k_Astuck, d_thn_nx, d_thn_bk, d_thn_ct, d_thn_rt, d_thn_er, d_lp_nx, d_lp_bk, d_lp_ct, d_lp_rt, d_lp_er, d_fg_nx, d_fg_bk, d_fg_ct, d_fg_rt, d_fg_er, d_cl_nx, d_cl_bk, d_cl_ct, d_cl_rt, d_cl_er, d_tr_nx, d_tr_bk, d_tr_ct, d_tr_rt, d_tr_er, d_nX_nx, d_nX_bk, d_nX_ct, d_nX_rt, d_nX_er, d_fn_nx, d_fn_bk, d_fn_ct, d_fn_rt, d_fn_er, A_nx, A_bk, A_ct, A_rt, A_err, post_ok, post_err, post_noErr, e_op, e_opK, e_un, e_cb, e_nil, e_c, e_cons, e_consK, e_consK2, e_and, e_or, e_andK, e_orK, e_not, e_notK, e_test, e_testK, e_tand, e_tandK, e_tor, e_torK, e_tnot, e_tnotK, e_yes, e_if, e_ifK, e_ch, e_chK1, e_chK2, e_chK3, e_tup, e_tupK, e_lst, e_lstK, e_newL, e_call, e_callK, e_meth, e_methK, e_methK2, e_prop, e_propK, e_make, e_makeK, e_makeK2, e_makeV, e_sm, e_smK, e_smK2, e_cm, e_cmK, e_cmK2, e_sl, e_slK1, e_slK2, e_slK3, e_part, e_partK, e_nopart, e_rev, e_bm, e_bmK, e_pr, e_pr0, e_prK1, e_prK2, e_prK3, e_disp, e_dnew, e_own, e_ownK, e_lc, e_lcK, e_iter, e_rng1, e_rng1K, e_rng2, e_rng2K, e_enum, s_drop, s_dropK, s_ret, s_retK, s_retN, s_next, s_break, s_cont, s_seq, s_if, s_ifK, s_asg, s_asgK, s_name, s_par, s_parK, s_par3, s_parK3, s_gnil, s_gcons, s_gtup, s_for, s_forK, s_raise, s_raiseK, s_sf, s_sfK1, s_sfK2, s_dp, s_dpK1, s_dpK2, s_dpK3, s_forget, s_def, s_fld, e_enumU, e_enumUT, e_match, e_mcase, e_mcase2, e_many, e_mnil, e_lcX, e_lcXK, e_get2, e_methS, e_methS1, e_methS2, s_augS, s_augS1, gEqS_int, gEqS_str, gEqS_bl, gEqS_tup, eq_self, beq_self_eq_true, k_grd, k_grdS, k_ite, k_Aite, true_implies, false_implies, implies_true, List.map_cons, List.map_nil, List.nil_append, List.cons_append, List.append_nil, List.replicate_succ, List.replicate_zero, List.getElem?_cons_zero, List.getElem?_cons_succ, List.length_cons, List.length_nil, List.set_cons_zero, List.set_cons_succ, ↓reduceIte, ↓reduceDIte, Nat.reduceAdd, Nat.reduceLeDiff, Nat.reduceEqDiff, Nat.zero_add, if_true, if_false, aVar, gMinus_int, gLt_int, gLe_int, gGt_int, gGe_int, gEq_int, gNe_int, gEq_str, gNe_str, gEq_bl, gNe_bl, gXor_int, gAnd_int, gOr_int, gAdd_int, gIsN_non, gNotN_non, gIsB_bl, gNotB_bl, gNeg_int, gLen_tup, gLen_scr, gMax2_int, gMin2_int, gBits_int, gSl_tup, gSl_scr, Bool.not_true, Bool.not_false, Bool.true_eq_false, Bool.false_eq_true, Bool.true_and, Bool.false_and, Bool.and_true, Bool.and_false, Bool.true_or, Bool.false_or, decide_true, decide_false, and_self, and_true, true_and, and_false, false_and, not_true_eq_false, not_false_eq_true, reduceCtorEq, kz, z1, z2, z3, z4, z5, z6, z7, z8, z9, z10, z11, z12, z13, z14, z15, z16, isCls, isNon, aForget, aHand, toKey, keysA, iterOf_tup, iterOf_scr, oNx_some, noErr_ok, decide_eq_true_eq, decide_eq_false_iff_not, Sto.new_n, Sto.set_n, Sto.set_at, Sto.new_at, Nat.zero_le, aMakeV, Cl_non, Cl_bl, Cl_int, Cl_str, Cl_cls, Cl_obj, Cl_tup, ClL_nil, ClL_cons, $xs,*])
local macro_rules | `(tactic| simp! only [$xs,*]) => `(tactic| simp only [e_op, e_opK, e_un, e_cb, e_nil, e_c, e_cons, e_consK, e_consK2, e_and, e_or, e_andK, e_orK, e_not, e_notK, e_test, e_testK, e_tand, e_tandK, e_tor, e_torK, e_tnot, e_tnotK, e_yes, e_if, e_ifK, e_ch, e_chK1, e_chK2, e_chK3, e_tup, e_tupK, e_lst, e_lstK, e_newL, e_call, e_callK, e_meth, e_methK, e_methK2, e_prop, e_propK, e_make, e_makeK, e_makeK2, e_makeV, e_sm, e_smK, e_smK2, e_cm, e_cmK, e_cmK2, e_sl, e_slK1, e_slK2, e_slK3, e_part, e_partK, e_nopart, e_rev, e_bm, e_bmK, e_pr, e_pr0, e_prK1, e_prK2, e_prK3, e_disp, e_dnew, e_own, e_ownK, e_lc, e_lcK, e_iter, e_rng1, e_rng1K, e_rng2, e_rng2K, e_enum, s_drop, s_dropK, s_ret, s_retK, s_retN, s_next, s_break, s_cont, s_seq, s_if, s_ifK, s_asg, s_asgK, s_name, s_par, s_parK, s_par3, s_parK3, s_gnil, s_gcons, s_gtup, s_for, s_forK, s_raise, s_raiseK, s_sf, s_sfK1, s_sfK2, s_dp, s_dpK1, s_dpK2, s_dpK3, s_forget, s_def, s_fld, e_enumU, e_enumUT, e_match, e_mcase, e_mcase2, e_many, e_mnil, e_lcX, e_lcXK, e_get2, e_methS, e_methS1, e_methS2, s_augS, s_augS1, gEqS_int, gEqS_str, gEqS_bl, gEqS_tup, eq_self, beq_self_eq_true, true_implies, false_implies, implies_true, List.map_cons, List.map_nil, List.nil_append, List.cons_append, List.append_nil, List.replicate_succ, List.replicate_zero, List.getElem?_cons_zero, List.getElem?_cons_succ, List.length_cons, List.length_nil, List.set_cons_zero, List.set_cons_succ, ↓reduceIte, ↓reduceDIte, Nat.reduceAdd, Nat.reduceLeDiff, Nat.reduceEqDiff, Nat.zero_add, if_true, if_false, aVar, gMinus_int, gLt_int, gLe_int, gGt_int, gGe_int, gEq_int, gNe_int, gEq_str, gNe_str, gEq_bl, gNe_bl, gXor_int, gAnd_int, gOr_int, gAdd_int, gIsN_non, gNotN_non, gIsB_bl, gNotB_bl, gNeg_int, gLen_tup, gLen_scr, gMax2_int, gMin2_int, gBits_int, gSl_tup, gSl_scr, Bool.not_true, Bool.not_false, Bool.true_eq_false, Bool.false_eq_true, Bool.true_and, Bool.false_and, Bool.and_true, Bool.and_false, Bool.true_or, Bool.false_or, decide_true, decide_false, and_self, and_true, true_and, and_false, false_and, not_true_eq_false, not_false_eq_true, reduceCtorEq, kz, z1, z2, z3, z4, z5, z6, z7, z8, z9, z10, z11, z12, z13, z14, z15, z16, isCls, isNon, aForget, aHand, toKey, keysA, iterOf_tup, iterOf_scr, oNx_some, noErr_ok, decide_eq_true_eq, decide_eq_false_iff_not, Sto.new_n, Sto.set_n, Sto.set_at, Sto.new_at, Nat.zero_le, aMakeV, Cl_non, Cl_bl, Cl_int, Cl_str, Cl_cls, Cl_obj, Cl_tup, ClL_nil, ClL_cons, grd_pos, grdS_pos, Res.bind_ok, Res.bind_err, Res.st_ok, Res.st_err, SRes.thn_nx, SRes.thn_rt, SRes.thn_err, SRes.fn_rt, SRes.fn_nx, SRes.fn_err, SRes.loop_nx, SRes.loop_rt, SRes.loop_err, SRes.loop_ct, SRes.loop_bk, SRes.forget_nx, SRes.forget_rt, SRes.forget_err, SRes.clr_nx, SRes.clr_rt, SRes.noX_nx, SRes.noX_rt, aTry, sizeLine_ge, $xs,*])
theorem gcT_c {f : AT} {Q : Bool → Sto → Prop} {R : String → List Str → List AV → Sto → Prop} {σ : ASt} {s : Sto} (h : (f σ s).Post (fun v s' => Clean s s' ∧ Q v (s'.cut s)) R) : (gcT f σ s).Post Q R :=
  post_gcT.mpr (h.mono (fun v s' z => by rw [if_pos z.1]; exact z.2) fun _ _ _ _ z => z)
theorem clean_o {s s' : Sto} {o p : Nat} {ws : List Nat} (hn : s.n ≤ s'.n) (h1 : s'.c o = scC ws p) (h3 : ∀ i, i < s.n → i ≠ o → s'.c i = s.c i) : Clean s s' := ⟨hn, fun i hi => by
  by_cases e1 : i = o
  · subst e1; exact .inr (h1 ▸ sc_cl _ _ _)
  · exact .inl (h3 i hi e1)⟩
theorem cut_c {s s' : Sto} {i : Nat} (h : i < s.n) : (s'.cut s).c i = s'.c i := if_pos h
theorem eq_iN (l : List Nat) (s : Sto) : gEq (.tup (iN l)) (.tup (iN l)) s = .ok (.bl true) s := by
  rw [gEq_b (eqB_dat (by rfl) (dat_nT l s) (dat_nT l s) (sh_nT l) (sh_nT l)), PySem.SeqAt.eqv_refl _ (SeqAt.canLay_of_shaped (sh_nT l))]
section
variable {d B : Nat} {s t : Sto} {P : AV → Sto → Prop} {R : String → List Str → List AV → Sto → Prop}
theorem w1_inverse (S : I1 d B t s) (hB : B ≤ 10000000) (q : ∀ s', I1 d (B + 6000) t s' → Gd d s s' → P (.bl true) s') : (F__law_inverse_right [.obj d] s).Post P R := by
  unfold F__law_inverse_right
  refine gcF_1 S.lt ?_
  have lt0 := S.lt
  have tsn := S.gd.n
  have z0 : ((0 : Nat) ≤ sizeLine) = True := eq_true (Nat.zero_le _)
  have big : (1000 : Nat) ≤ sizeLine := by decide
  have fin : ∀ s' C, C ≤ B + 6000 → I1 d C t s' → Gd d s s' → (Cl s.n (.bl true) ∧ Gd d s s' ∧ ∃ C, Dr d s' C ∧ ∀ s2, Dr d s2 C → Upto d s s2 → P (.bl true) s2) := fun s' C hC I g => ⟨by simp, g, C, I.dr, fun s2 D u => q s2 ((S.step u.gd D).mono hC) u.gd⟩
  simp! [B__law_inverse_right]
  refine w1_digit (n := 9) S (by omega) (by decide) (by decide) fun z0' s2 hz S2 u2 => ?_
  obtain ⟨n, hn⟩ : ∃ n, n = 1 + z0' := ⟨_, rfl⟩
  have cn : (1 : Int) + ((z0' : Nat) : Int) = ((n : Nat) : Int) := by omega
  have n9 : n ≤ 9 := by omega
  have n1 : 1 ≤ n := by omega
  have nn2 : s2.n = s.n := u2.1
  have g2 : Gd d s s2 := u2.gd
  have m1 : (0 : Int) - 1 = -1 := rfl
  have cn1 : ((n : Nat) : Int) - 1 = ((n - 1 : Nat) : Int) := by omega
  have rg := fun (x : Option AV) (u : Sto) => rngdn (fr := aCons (aOp gMinus (aVar 1) (aC (.int 1))) (aCons (aC (.int 0)) (aCons (aOp gMinus (aC (.int 0)) (aC (.int 1))) aNil))) (σ := [some (.obj d), some (.int (n : Nat)), none, x, none, none, none, none, none]) (s := u) (s1 := u) (i := ((n - 1 : Nat) : Int)) (by simp! only [m1, cn1]) (by omega) (by omega)
  simp only [Int.toNat_natCast] at rg
  simp! [cn]
  rw [rg]
  simp! [eq_self]
  refine lc_P (fun i acc s' => ∃ vs : List Nat, acc = iN vs ∧ vs.length = i ∧ (∀ j v, vs[j]? = some v → v < n - j) ∧ s2.n < s'.n ∧ I1 d (B + 8 + 4 * i) t s' ∧ Gd d s2 s') ⟨[], rfl, rfl, (fun j v h => by simp at h), Nat.lt_succ_self _, S2.new.mono (by omega), (Gd.refl d s2).new⟩ Sto.new_at (by rw [rngC_ln]; omega) ?_ ?_
  · rintro i x acc s' hx ⟨vs, rfl, vl, hv, n', S', g'⟩ hc
    refine ⟨trivial, ?_⟩
    obtain ⟨hi, rfl⟩ := rngC_at hx
    have ci : ((n - 1 : Nat) : Int) - ((i : Nat) : Int) + 1 = ((n - i : Nat) : Int) := by omega
    have lz : ((n - i : Nat) : Int).natAbs.log2 < 9000 := log_lt (by have : (2 : Nat) ^ 5 ≤ 2 ^ 600 := Nat.pow_le_pow_right (by decide) (by decide); omega)
    simp! [wipeA, ci]
    refine w1_digit (n := ((n - i : Nat) : Int)) S' (by omega) (by omega) lz ?_
    intro y s3 hy S3 u3
    have n3 : s3.n = s'.n := u3.1
    refine ⟨(u3.2 s2.n (by omega)).trans hc, vs ++ [y], by simp [iN], by rw [List.length_append, vl]; rfl, fun j v hj => ?_, by show s2.n < s3.n; omega, (S3.set (by omega)).mono (by omega), gd_sto (g'.trans u3.gd) (Nat.le_refl _)⟩
    by_cases hjl : j < vs.length
    · rw [List.getElem?_append_left hjl] at hj
      exact hv j v hj
    · have : j < vs.length + 1 := by
        have := (List.getElem?_eq_some_iff.mp hj).1
        simpa using this
      obtain rfl : j = vs.length := by omega
      rw [List.getElem?_append_right (Nat.le_refl _), Nat.sub_self] at hj
      cases hj
      omega
  rintro acc s3 ⟨vs, rfl, vl, hv, n3, S3, g3⟩ cL
  refine ⟨trivial, ?_⟩
  rw [rngC_ln] at vl S3
  have hr : RwOk (n - 1) vs := fun i v h => by
    have := hv i v h
    have := (List.getElem?_eq_some_iff.mp h).1
    omega
  have hn1 : n = vs.length + 1 := by omega
  have tp0 := gTuple_seq (s := s3) (x := .obj s2.n) (seqOf_obj cL)
  have g03 : Gd d s s3 := g2.trans g3
  have lr := fun u => listRg1_ok (fa := aVar 1) (σ := [some (.obj d), some (.int (n : Nat)), some (.tup (iN vs)), none, none, none, none, none, none]) (s := u) (s1 := u) (m := n) (by simp! only [eq_self]) (by omega)
  simp only [rngA_iN] at lr
  have mv := moved_ok (s := s3.new (.lst (iN (List.range n)))) (th := .obj s3.n) (nu := .tup (iN vs)) (xs := iN (List.range n)) (vs := vs) (Nu.lst Sto.new_at (Nat.lt_succ_self _)) Nu.tup (by rw [iN_len, List.length_range]; exact hr) (by rw [iN_len, List.length_range]; omega) (by omega)
  rw [iN_len, List.length_range, go_iN hr (by omega)] at mv
  obtain ⟨b0, hb0⟩ : ∃ b, b = (s3.new (.lst (iN (List.range n)))).new (.lst (iN (ord n vs))) := ⟨_, rfl⟩
  rw [← hb0] at mv
  have cM : b0.c (s3.new (.lst (iN (List.range n)))).n = .lst (iN (ord n vs)) := by rw [hb0]; exact Sto.new_at
  have tp1 := gTuple_seq (s := b0) (x := .obj (s3.new (.lst (iN (List.range n)))).n) (seqOf_obj cM)
  simp only [Sto.new_n] at mv tp1
  have I0 : I1 d (B + 8 + 4 * (n - 1)) t b0 := hb0 ▸ S3.new.new
  have G0 : Gd d s b0 := hb0 ▸ g03.new.new
  simp! [tp0, lr, mv, tp1]
  clear hb0 cM tp1 mv tp0
  have oo1 := order_ok (s := b0) (nu := .tup (iN vs)) Nu.tup hn1 hr (by omega)
  have ne1 := fun l u => ne_iN l u
  have gl : gList [.tup (iN vs)] b0 = .ok (.obj b0.n) (b0.new (.lst (iN vs))) := gList_seq seqOf_tup
  have oo2 := order_ok (s := b0.new (.lst (iN vs))) (nu := .obj b0.n) (Nu.lst Sto.new_at (Nat.lt_succ_self _)) hn1 hr (by omega)
  have ro := rowof_ok (s := b0.new (.lst (iN vs))) hn1 hr (by omega)
  refine gcT_g ?_
  simp! [oo1, ne1, gl, oo2, ro]
  refine ⟨(Gb.refl b0).new, ?_⟩
  have so := scriptof_ok (s := b0) hn1 hr (by omega)
  obtain ⟨ws, hws⟩ : ∃ ws, ws = wsO n vs := ⟨_, rfl⟩
  have gv := gives_wsO vs n hr (.inl (by omega)) (by omega)
  rw [← hws] at so gv
  rw [vl] at gv
  have wsl : ws.length = n - 1 := by rw [hws, wsO_len, vl]
  have hrw : RowW ws := ⟨gv.lt, by omega⟩
  have e1 := sc_init hrw b0
  obtain ⟨b1, hb1⟩ : ∃ b, b = b0.new (scC ws 0) := ⟨_, rfl⟩
  obtain ⟨o, ho⟩ : ∃ o, o = b0.n := ⟨_, rfl⟩
  have nb1 : b1.n = b0.n + 1 := hb1 ▸ rfl
  have co1 : b1.c o = scC ws 0 := by rw [hb1, ho]; exact Sto.new_at
  have J1 : I1 d (B + 8 + 4 * (n - 1)) t b1 := hb1 ▸ I0.new
  have H1 : Gd d s b1 := hb1 ▸ G0.new
  rw [← hb1, ← ho] at e1
  simp! [so, e1, ← ho, ← hb1]
  have ltb1 := J1.lt
  have tb0 := I0.gd.n
  have e2 := dr_init (s := b1) (o := o) (p := 0) (ws := ws) co1 (by omega)
  obtain ⟨b2, hb2⟩ : ∃ b, b = b1.new (dwC o 0) := ⟨_, rfl⟩
  obtain ⟨w, hw⟩ : ∃ w, w = b1.n := ⟨_, rfl⟩
  have nb2 : b2.n = b1.n + 1 := hb2 ▸ rfl
  have co2 : b2.c o = scC ws 0 := by rw [hb2]; exact at_old (by omega) co1
  have cw2 : b2.c w = dwC o 0 := by rw [hb2, hw]; exact Sto.new_at
  have old2 : ∀ i, i < b1.n → b2.c i = b1.c i := fun i hi => by rw [hb2]; exact at_new hi
  rw [← hb2, ← hw] at e2
  have lr2 := fun σ' (hσ : σ' = ([some (.obj d), some (.int (n : Nat)), some (.tup (iN vs)), none, some (.tup (iN (ord n vs))), some (.obj o), none, none, none] : ASt)) => listRg1_ok (fa := aVar 1) (σ := σ') (s := b2) (s1 := b2) (m := n) (by rw [hσ]; simp! only [eq_self]) (by omega)
  simp only [rngA_iN] at lr2
  obtain ⟨b3, hb3⟩ : ∃ b, b = b2.new (.lst (iN (List.range n))) := ⟨_, rfl⟩
  have nb3 : b3.n = b2.n + 1 := hb3 ▸ rfl
  simp only [← hb3] at lr2
  have D3 : DW b3 o w ws 0 0 := ⟨by rw [hb3]; exact at_old (by omega) co2, by rw [hb3]; exact at_old (by omega) cw2, by omega, by omega, by omega, hrw⟩
  have cR : b3.c b2.n = .lst (iN (List.range n)) := by rw [hb3]; exact Sto.new_at
  have old3 : ∀ i, i < b1.n → b3.c i = b1.c i := fun i hi => by rw [hb3]; exact (at_new (by omega)).trans (old2 i hi)
  refine gcT_c ?_
  simp! [← hw, ← hb2, e2, lr2 _ rfl]
  refine shuffled_p (w1 := ws) (vs := vs) (xs := iN (List.range n)) D3 ⟨[], [], by simp, rfl⟩ (Sq.lst cR) (by rw [iN_len, List.length_range]; exact gv) (by rw [iN_len, List.length_range]; omega) fun b4 K K0 K1 cK D4 old4 => ?_
  rw [iN_len, List.length_range, go_iN hr (by omega)] at cK
  have tp := gTuple_seq (s := b4) (x := .obj K) (seqOf_obj cK)
  have co4 := D4.h
  have lf := left_w co4
  have cl1 : ((ws.length : Nat) : Int) - ((0 + ws.length : Nat) : Int) = 0 := by omega
  rw [cl1] at lf
  have ii := isI_obj co4
  have o4 : ∀ i, i < b1.n → i ≠ o → b4.c i = b1.c i := fun i h1 h2 => (old4 i (by omega) h2 (by omega)).trans (old3 i h1)
  simp! [tp, ne1, ii, lf]
  refine ⟨clean_o (by omega) co4 o4, ?_⟩
  obtain ⟨b5, hb5⟩ : ∃ b, b = b4.cut b1 := ⟨_, rfl⟩
  have nb5 : b5.n = b1.n := hb5 ▸ rfl
  have c5 : ∀ i, i < b1.n → b5.c i = b4.c i := fun i hi => by rw [hb5]; exact cut_c hi
  have J5 : I1 d (B + 8 + 4 * (n - 1)) t b5 := J1.like (o := o) (by omega) (fun i h1 h2 => (c5 i h1).trans (o4 i h1 h2)) (by omega)
  have H5 : Gd d s b5 := ⟨by have := H1.n; omega, fun i h1 h2 => by
    have := H1.n
    have := G0.n
    exact (c5 i (by omega)).trans ((o4 i (by omega) (by omega)).trans (H1.c i h1 h2))⟩
  rw [← hb5]
  simp! [z0]
  have big2 : (1000 : Nat) ≤ sizeLine := by decide
  refine for_A (fun i σ s' => s' = b5.new (.lst (iN (wsO n (vs.take i)))) ∧ ∃ x7 x8, σ = [some (.obj d), some (.int (n : Nat)), some (.tup (iN vs)), none, some (.tup (iN (ord n vs))), some (.obj o), some (.obj b5.n), x7, x8]) ⟨rfl, _, _, rfl⟩ ?_ ?_
  · rintro i x σ s' hx ⟨rfl, x7, x8, rfl⟩
    refine ⟨trivial, ?_⟩
    obtain ⟨y, hy, rfl⟩ := enumA_get hx
    obtain ⟨v, hv', rfl⟩ := iN_get hy
    have h0 := hr i v hv'
    have hi := (List.getElem?_eq_some_iff.mp hv').1
    have ce : ((n : Nat) : Int) - ((i : Nat) : Int) = ((n - i : Nat) : Int) := by omega
    have rf := rowfor_ok (m := n - i) (v := v) (b5.new (.lst (iN (wsO n (vs.take i))))) (by omega) (by omega) (by omega)
    have sq := isSeqL_obj (s := b5.new (.lst (iN (wsO n (vs.take i))))) (i := b5.n) Sto.new_at
    have tl : (vs.take i).length = i := by rw [List.length_take]; omega
    have ex := gExtendT_obj (s := b5.new (.lst (iN (wsO n (vs.take i))))) (i := b5.n) (xs := iN (wsO n (vs.take i))) (zs := [.int (w1O (n - i) v : Nat)]) Sto.new_at (by rw [iN_len, wsO_len, List.length_singleton]; omega)
    rw [new_set] at ex
    simp! [sq, ce, rf, ex]
    refine ⟨?_, _, _, rfl⟩
    rw [List.take_succ, hv']
    show _ = b5.new (.lst (iN (wsO n (vs.take i ++ [v]))))
    rw [wsO_app, tl]
    unfold iN
    rw [List.map_append]
    rfl
  · rintro σ s' ⟨rfl, x7, x8, rfl⟩
    refine ⟨trivial, ?_⟩
    rw [enumA_len, iN_len, List.take_length, ← hws]
    have tp2 := gTuple_seq (s := b5.new (.lst (iN ws))) (x := .obj b5.n) (seqOf_obj Sto.new_at)
    have so2 := scriptof_ok (s := b5.new (.lst (iN ws))) hn1 hr (by omega)
    rw [← hws] at so2
    have eqi := eq_iN ws (b5.new (.lst (iN ws)))
    simp! [so2, tp2, eqi]
    exact (fin _ _ (by omega) J5.new H5.new).2
end
end Pf
set_option Elab.async false
set_option linter.all false
set_option maxRecDepth 100000
set_option maxHeartbeats 1000000
set_option exponentiation.threshold 3000
namespace Pf
open PySem Ab
local macro_rules | `(tactic| simp! [$xs,*]) => `(tactic| try simp (config := {maxSteps := 1000000}) only [k_bind, k_Kb, k_st, k_Kst, k_Rst, k_thn, k_loop, k_fn, k_forget, k_clr, k_noX, k_try, k_stuck, k_Astuck, d_thn_nx, d_thn_bk, d_thn_ct, d_thn_rt, d_thn_er, d_lp_nx, d_lp_bk, d_lp_ct, d_lp_rt, d_lp_er, d_fg_nx, d_fg_bk, d_fg_ct, d_fg_rt, d_fg_er, d_cl_nx, d_cl_bk, d_cl_ct, d_cl_rt, d_cl_er, d_tr_nx, d_tr_bk, d_tr_ct, d_tr_rt, d_tr_er, d_nX_nx, d_nX_bk, d_nX_ct, d_nX_rt, d_nX_er, d_fn_nx, d_fn_bk, d_fn_ct, d_fn_rt, d_fn_er, A_nx, A_bk, A_ct, A_rt, A_err, post_ok, post_err, post_noErr, e_op, e_opK, e_un, e_cb, e_nil, e_c, e_cons, e_consK, e_consK2, e_and, e_or, e_andK, e_orK, e_not, e_notK, e_test, e_testK, e_tand, e_tandK, e_tor, e_torK, e_tnot, e_tnotK, e_yes, e_if, e_ifK, e_ch, e_chK1, e_chK2, e_chK3, e_tup, e_tupK, e_lst, e_lstK, e_newL, e_call, e_callK, e_meth, e_methK, e_methK2, e_prop, e_propK, e_make, e_makeK, e_makeK2, e_makeV, e_sm, e_smK, e_smK2, e_cm, e_cmK, e_cmK2, e_sl, e_slK1, e_slK2, e_slK3, e_part, e_partK, e_nopart, e_rev, e_bm, e_bmK, e_pr, e_pr0, e_prK1, e_prK2, e_prK3, e_disp, e_dnew, e_own, e_ownK, e_lc, e_lcK, e_iter, e_rng1, e_rng1K, e_rng2, e_rng2K, e_enum, s_drop, s_dropK, s_ret, s_retK, s_retN, s_next, s_break, s_cont, s_seq, s_if, s_ifK, s_asg, s_asgK, s_name, s_par, s_parK, s_par3, s_parK3, s_gnil, s_gcons, s_gtup, s_for, s_forK, s_raise, s_raiseK, s_sf, s_sfK1, s_sfK2, s_dp, s_dpK1, s_dpK2, s_dpK3, s_forget, s_def, s_fld, e_enumU, e_enumUT, e_match, e_mcase, e_mcase2, e_many, e_mnil, e_lcX, e_lcXK, e_get2, e_methS, e_methS1, e_methS2, s_augS, s_augS1, gEqS_int, gEqS_str, gEqS_bl, gEqS_tup, eq_self, beq_self_eq_true, k_grd, k_grdS, k_ite, k_Aite, true_implies, false_implies, implies_true, List.map_cons, List.map_nil, List.nil_append, List.cons_append, List.append_nil, List.replicate_succ, List.replicate_zero, List.getElem?_cons_zero, List.getElem?_cons_succ, List.length_cons, List.length_nil, List.set_cons_zero, List.set_cons_succ, ↓reduceIte, ↓reduceDIte, Nat.reduceAdd, Nat.reduceLeDiff, Nat.reduceEqDiff, Nat.zero_add, if_true, if_false, aVar, gMinus_int, gLt_int, gLe_int, gGt_int, gGe_int, gEq_int, gNe_int, gEq_str, gNe_str, gEq_bl, gNe_bl, gXor_int, gAnd_int, gOr_int, gAdd_int, gIsN_non, gNotN_non, gIsB_bl, gNotB_bl, gNeg_int, gLen_tup, gLen_scr, gMax2_int, gMin2_int, gBits_int, gSl_tup, gSl_scr, Bool.not_true, Bool.not_false, Bool.true_eq_false, Bool.false_eq_true, Bool.true_and, Bool.false_and, Bool.and_true, Bool.and_false, Bool.true_or, Bool.false_or, decide_true, decide_false, and_self, and_true, true_and, and_false, false_and, not_true_eq_false, not_false_eq_true, reduceCtorEq, kz, z1, z2, z3, z4, z5, z6, z7, z8, z9, z10, z11, z12, z13, z14, z15, z16, isCls, isNon, aForget, aHand, toKey, keysA, iterOf_tup, iterOf_scr, oNx_some, noErr_ok, decide_eq_true_eq, decide_eq_false_iff_not, Sto.new_n, Sto.set_n, Sto.set_at, Sto.new_at, Nat.zero_le, aMakeV, Cl_non, Cl_bl, Cl_int, Cl_str, Cl_cls, Cl_obj, Cl_tup, ClL_nil, ClL_cons, $xs,*])
local macro_rules | `(tactic| simp! only [$xs,*]) => `(tactic| simp only [e_op, e_opK, e_un, e_cb, e_nil, e_c, e_cons, e_consK, e_consK2, e_and, e_or, e_andK, e_orK, e_not, e_notK, e_test, e_testK, e_tand, e_tandK, e_tor, e_torK, e_tnot, e_tnotK, e_yes, e_if, e_ifK, e_ch, e_chK1, e_chK2, e_chK3, e_tup, e_tupK, e_lst, e_lstK, e_newL, e_call, e_callK, e_meth, e_methK, e_methK2, e_prop, e_propK, e_make, e_makeK, e_makeK2, e_makeV, e_sm, e_smK, e_smK2, e_cm, e_cmK, e_cmK2, e_sl, e_slK1, e_slK2, e_slK3, e_part, e_partK, e_nopart, e_rev, e_bm, e_bmK, e_pr, e_pr0, e_prK1, e_prK2, e_prK3, e_disp, e_dnew, e_own, e_ownK, e_lc, e_lcK, e_iter, e_rng1, e_rng1K, e_rng2, e_rng2K, e_enum, s_drop, s_dropK, s_ret, s_retK, s_retN, s_next, s_break, s_cont, s_seq, s_if, s_ifK, s_asg, s_asgK, s_name, s_par, s_parK, s_par3, s_parK3, s_gnil, s_gcons, s_gtup, s_for, s_forK, s_raise, s_raiseK, s_sf, s_sfK1, s_sfK2, s_dp, s_dpK1, s_dpK2, s_dpK3, s_forget, s_def, s_fld, e_enumU, e_enumUT, e_match, e_mcase, e_mcase2, e_many, e_mnil, e_lcX, e_lcXK, e_get2, e_methS, e_methS1, e_methS2, s_augS, s_augS1, gEqS_int, gEqS_str, gEqS_bl, gEqS_tup, eq_self, beq_self_eq_true, true_implies, false_implies, implies_true, List.map_cons, List.map_nil, List.nil_append, List.cons_append, List.append_nil, List.replicate_succ, List.replicate_zero, List.getElem?_cons_zero, List.getElem?_cons_succ, List.length_cons, List.length_nil, List.set_cons_zero, List.set_cons_succ, ↓reduceIte, ↓reduceDIte, Nat.reduceAdd, Nat.reduceLeDiff, Nat.reduceEqDiff, Nat.zero_add, if_true, if_false, aVar, gMinus_int, gLt_int, gLe_int, gGt_int, gGe_int, gEq_int, gNe_int, gEq_str, gNe_str, gEq_bl, gNe_bl, gXor_int, gAnd_int, gOr_int, gAdd_int, gIsN_non, gNotN_non, gIsB_bl, gNotB_bl, gNeg_int, gLen_tup, gLen_scr, gMax2_int, gMin2_int, gBits_int, gSl_tup, gSl_scr, Bool.not_true, Bool.not_false, Bool.true_eq_false, Bool.false_eq_true, Bool.true_and, Bool.false_and, Bool.and_true, Bool.and_false, Bool.true_or, Bool.false_or, decide_true, decide_false, and_self, and_true, true_and, and_false, false_and, not_true_eq_false, not_false_eq_true, reduceCtorEq, kz, z1, z2, z3, z4, z5, z6, z7, z8, z9, z10, z11, z12, z13, z14, z15, z16, isCls, isNon, aForget, aHand, toKey, keysA, iterOf_tup, iterOf_scr, oNx_some, noErr_ok, decide_eq_true_eq, decide_eq_false_iff_not, Sto.new_n, Sto.set_n, Sto.set_at, Sto.new_at, Nat.zero_le, aMakeV, Cl_non, Cl_bl, Cl_int, Cl_str, Cl_cls, Cl_obj, Cl_tup, ClL_nil, ClL_cons, grd_pos, grdS_pos, Res.bind_ok, Res.bind_err, Res.st_ok, Res.st_err, SRes.thn_nx, SRes.thn_rt, SRes.thn_err, SRes.fn_rt, SRes.fn_nx, SRes.fn_err, SRes.loop_nx, SRes.loop_rt, SRes.loop_err, SRes.loop_ct, SRes.loop_bk, SRes.forget_nx, SRes.forget_rt, SRes.forget_err, SRes.clr_nx, SRes.clr_rt, SRes.noX_nx, SRes.noX_rt, aTry, sizeLine_ge, $xs,*])
def v24 (i : Nat) : List Nat := [i / 6, i / 2 % 3, i % 2]
def o24 (i : Nat) : List Nat := ord 4 (v24 i)
def T24 (i : Nat) : AV := .tup (iN (o24 i))
theorem v24_ok {i : Nat} (h : i < 24) : RwOk (4 - 1) (v24 i) := fun j v hv => by
  unfold v24 at hv
  match j, hv with
  | 0, hv => cases hv; omega
  | 1, hv => cases hv; omega
  | 2, hv => cases hv; omega
  | j + 3, hv => simp at hv
theorem o24_srt {i : Nat} (h : i < 24) : srt ((o24 i).map fun n => ((n : Nat) : Int)) = [0, 1, 2, 3] := by
  have p := (ord_perm (n := 4) (v24_ok h) (by decide)).map fun n => ((n : Nat) : Int)
  exact (srt_uniq (l := [0, 1, 2, 3]) p.symm (by decide)).symm
theorem o24_nd : ((List.range 24).map fun i => (o24 i).map fun n => ((n : Nat) : Int)).Nodup := by decide +kernel
theorem T24_rows : (List.range 24).map T24 = ((List.range 24).map fun i => (o24 i).map fun n => ((n : Nat) : Int)).map fun r => AV.tup (r.map AV.int) := by
  rw [List.map_map]
  refine List.map_congr_left fun i _ => ?_
  show AV.tup _ = AV.tup _
  rw [iN_ints]
theorem dat_objs {s : Sto} {A : Nat} {L : List Nat} {l : List Nat} (h : s.c A = .lst (L.map .obj)) (hl : ∀ a ∈ L, s.c a = .lst (iN l)) : dat 12 s (.obj A) = some (.list (List.replicate L.length (.list (l.map fun k => PyData.int (k : Nat))))) := by
  have q : ∀ a ∈ L, dat 11 s (.obj a) = some (.list (l.map fun k => PyData.int (k : Nat))) := fun a ha => by
    show (match s.c a with | .lst xs => (optL (dat 10 s) xs).map PyData.list | _ => none) = _
    rw [hl a ha]
    have : ∀ l : List Nat, optL (dat 10 s) (iN l) = some (l.map fun k => PyData.int (k : Nat)) := by
      intro l
      induction l with
      | nil => rfl
      | cons z l ih =>
        show (match dat 10 s (.int (z : Nat)), optL (dat 10 s) (iN l) with | some d, some ds => some (d :: ds) | _, _ => none) = _
        rw [ih]; rfl
    show (optL (dat 10 s) (iN l)).map PyData.list = _
    rw [this]; rfl
  show (match s.c A with | .lst xs => (optL (dat 11 s) xs).map PyData.list | _ => none) = _
  rw [h]
  show (optL (dat 11 s) (L.map .obj)).map PyData.list = _
  have k : ∀ L : List Nat, (∀ a ∈ L, dat 11 s (.obj a) = some (.list (l.map fun k => PyData.int (k : Nat)))) → optL (dat 11 s) (L.map .obj) = some (List.replicate L.length (.list (l.map fun k => PyData.int (k : Nat)))) := by
    intro L
    induction L with
    | nil => exact fun _ => rfl
    | cons a L ih =>
      intro h
      show (match dat 11 s (.obj a), optL (dat 11 s) (L.map .obj) with | some d, some ds => some (d :: ds) | _, _ => none) = _
      rw [h a List.mem_cons_self, ih fun b hb => h b (List.mem_cons_of_mem _ hb)]
      rfl
  rw [k L q]
  rfl
theorem sh_objs (m : Nat) (l : List Nat) : SeqAt.shaped (.list (List.replicate m (.list (l.map fun k => PyData.int (k : Nat))))) = true := by
  have k : PyData.canLayAll0 (l.map fun k => PyData.int (k : Nat)) = true ∧ PyData.depthAll (l.map fun k => PyData.int (k : Nat)) = 0 := by
    induction l with
    | nil => simp [PyData.canLayAll0, PyData.depthAll]
    | cons z l ih => simp [PyData.canLayAll0, PyData.canLay0, PyData.depthAll, PyData.depth, ih.1, ih.2]
  have k2 : PyData.canLayAll0 (List.replicate m (PyData.list (l.map fun k => PyData.int (k : Nat)))) = true ∧ PyData.depthAll (List.replicate m (PyData.list (l.map fun k => PyData.int (k : Nat)))) ≤ 1 := by
    induction m with
    | zero => simp [PyData.canLayAll0, PyData.depthAll]
    | succ m ih =>
      rw [List.replicate_succ]
      refine ⟨by simp [PyData.canLayAll0, PyData.canLay0, k.1, ih.1], ?_⟩
      simp only [PyData.depthAll, PyData.depth, k.2]
      omega
  have k3 := k2.2
  simp only [SeqAt.shaped, PyData.canLay0, PyData.depth, k2.1]
  simp
  omega
theorem rowof0 (s : Sto) : F_row_of [.tup []] s = .ok (.tup []) s := by
  refine gc0' ?_
  have nd := needord_ok (s := s) (l := []) (List.nodup_nil) (fun x hx => by cases hx) (by decide)
  have nd : F_need_order [.tup []] s = .ok .non s := nd
  have ln := fun u => gLen_seq (s := u) (x := .tup []) (seqOf_tup)
  simp only [List.length_nil] at ln
  have lr := listRg1_ok (fa := aCB gLen (aCons (aVar 0) aNil)) (σ := [some (.tup []), none, none, none, none]) (s := s) (s1 := s) (m := 0) (by simp! only [ln, -gLen_tup]) (by omega)
  have lr : aListRg1 (aCB gLen (aCons (aVar 0) aNil)) [some (.tup []), none, none, none, none] s = .ok (.obj s.n) (s.new (.lst [])) := lr
  have z0 : ((0 : Nat) ≤ sizeLine) = True := eq_true (Nat.zero_le _)
  simp! [B_row_of, nd, lr, z0, -gLen_tup]
  obtain ⟨t0, ht0⟩ : ∃ t, t = (s.new (.lst [])).new (.lst []) := ⟨_, rfl⟩
  rw [← ht0]
  have ce : (((0 : Nat) : Int)) - 1 = -1 := rfl
  have rg := rngdn (fr := aCons (aOp gMinus (aCB gLen (aCons (aVar 0) aNil)) (aC (.int 1))) (aCons (aC (.int 0)) (aCons (aUn gNeg (aC (.int 1))) aNil))) (σ := [some (.tup []), some (.obj s.n), some (.obj (s.n + 1)), none, none]) (s := t0) (s1 := t0) (i := -1) (by simp! only [ln, ce, -gLen_tup]) (by omega) (by omega)
  have rg : aRng3 (aCons (aOp gMinus (aCB gLen (aCons (aVar 0) aNil)) (aC (.int 1))) (aCons (aC (.int 0)) (aCons (aUn gNeg (aC (.int 1))) aNil))) [some (.tup []), some (.obj s.n), some (.obj (s.n + 1)), none, none] t0 = .ok ([], fun _ => True) t0 := rg
  rw [rg]
  simp! [eq_self]
  refine for_A (fun i σ s' => s' = t0 ∧ σ = [some (.tup []), some (.obj s.n), some (.obj (s.n + 1)), none, none]) ⟨rfl, rfl⟩ ?_ ?_
  · rintro i x σ s' hx _
    simp at hx
  · rintro σ s' ⟨rfl, rfl⟩
    refine ⟨trivial, ?_⟩
    have cF : s'.c (s.n + 1) = .lst [] := by rw [ht0]; exact Sto.new_at
    have tp := gTuple_seq (seqOf_obj cF)
    simp! [tp]
    rw [ht0]
    exact (Gb.refl s).new.new
theorem scriptof0 (s : Sto) : F_script_of [.tup []] s = .ok (.tup []) s := by
  refine gc0' ?_
  have z0 : ((0 : Nat) ≤ sizeLine) = True := eq_true (Nat.zero_le _)
  have ro := rowof0 (s.new (.lst []))
  simp! [B_script_of, z0, ro]
  refine for_A (fun i σ s' => s' = s.new (.lst []) ∧ σ = [some (.tup []), some (.obj s.n), none, none]) ⟨rfl, rfl⟩ ?_ ?_
  · rintro i x σ s' hx _
    simp [enumA] at hx
  · rintro σ s' ⟨rfl, rfl⟩
    refine ⟨trivial, ?_⟩
    have tp := gTuple_seq (s := s.new (.lst [])) (x := .obj s.n) (seqOf_obj Sto.new_at)
    simp! [tp]
    exact (Gb.refl s).new
theorem td_nT (l : List Nat) (s : Sto) : ∃ d, dat 11 s (.tup (iN l)) = some d ∧ PyData.canLay0 d = true ∧ d.depth ≤ 3 := by
  have k : PyData.canLayAll0 (l.map fun k => PyData.int (k : Nat)) = true ∧ PyData.depthAll (l.map fun k => PyData.int (k : Nat)) = 0 := by
    induction l with
    | nil => simp [PyData.canLayAll0, PyData.depthAll]
    | cons z l ih => simp [PyData.canLayAll0, PyData.canLay0, PyData.depthAll, PyData.depth, ih.1, ih.2]
  have e : ∀ l : List Nat, optL (dat 10 s) (iN l) = some (l.map fun k => PyData.int (k : Nat)) := by
    intro l
    induction l with
    | nil => rfl
    | cons z l ih =>
      show (match dat 10 s (.int (z : Nat)), optL (dat 10 s) (iN l) with | some d, some ds => some (d :: ds) | _, _ => none) = _
      rw [ih]; rfl
  refine ⟨.tuple (l.map fun k => PyData.int (k : Nat)), ?_, by simp [PyData.canLay0, k.1], by simp [PyData.depth, k.2]⟩
  show (optL (dat 10 s) (iN l)).map PyData.tuple = _
  rw [e]
  rfl
theorem all_right (s : Sto) : F__law_all_right [] s = .ok (.bl true) s := by
  refine gc0' ?_
  have z0 : ((0 : Nat) ≤ sizeLine) = True := eq_true (Nat.zero_le _)
  have big : (1000 : Nat) ≤ sizeLine := by decide
  simp! [B__law_all_right, z0]
  refine ⟨by decide, ?_⟩
  refine for_rng (n := 4) (fun i σ s' => s' = s.new (.lst ((List.range (6 * i)).map T24)) ∧ ∃ x1 x2 x3, σ = [some (.obj s.n), x1, x2, x3, none]) ⟨rfl, _, _, _, rfl⟩ ?_ ?_
  · rintro a σ s1 ha ⟨rfl, x1, x2, x3, rfl⟩
    refine ⟨trivial, ?_⟩
    simp! [eq_self]
    refine ⟨by decide, ?_⟩
    refine for_rng (n := 3) (fun j σ s' => s' = s.new (.lst ((List.range (6 * a + 2 * j)).map T24)) ∧ ∃ x2 x3, σ = [some (.obj s.n), some (.int (0 + (a : Nat))), x2, x3, none]) ⟨rfl, _, _, rfl⟩ ?_ ?_
    · rintro b σ s2 hb ⟨rfl, x2, x3, rfl⟩
      refine ⟨trivial, ?_⟩
      simp! [eq_self]
      refine ⟨by decide, ?_⟩
      refine for_rng (n := 2) (fun k σ s' => s' = s.new (.lst ((List.range (6 * a + 2 * b + k)).map T24)) ∧ ∃ x3, σ = [some (.obj s.n), some (.int (0 + (a : Nat))), some (.int (0 + (b : Nat))), x3, none]) ⟨rfl, _, rfl⟩ ?_ ?_
      · rintro c σ s3 hc ⟨rfl, x3, rfl⟩
        refine ⟨trivial, ?_⟩
        obtain ⟨i, hi⟩ : ∃ i, i = 6 * a + 2 * b + c := ⟨_, rfl⟩
        have i24 : i < 24 := by omega
        have va : v24 i = [a, b, c] := by
          unfold v24
          rw [show i / 6 = a by omega, show i / 2 % 3 = b by omega, show i % 2 = c by omega]
        rw [← hi]
        obtain ⟨u, hu⟩ : ∃ u, u = s.new (.lst ((List.range i).map T24)) := ⟨_, rfl⟩
        have cu : u.c s.n = .lst ((List.range i).map T24) := by rw [hu]; exact Sto.new_at
        rw [← hu]
        have oo := order_ok (s := u) (n := 4) (nu := .tup (iN (v24 i))) (vs := v24 i) Nu.tup (by rw [va]; rfl) (v24_ok i24) (by rw [va]; show 3 ≤ 500; decide)
        have e3 : iN (v24 i) = [.int ((0 : Int) + ((a : Nat) : Int)), .int ((0 : Int) + ((b : Nat) : Int)), .int ((0 : Int) + ((c : Nat) : Int))] := by
          rw [va]
          show [AV.int ((a : Nat) : Int), AV.int ((b : Nat) : Int), AV.int ((c : Nat) : Int)] = _
          rw [Int.zero_add, Int.zero_add, Int.zero_add]
        rw [e3] at oo
        have sq := isSeqL_obj cu
        have ap := gAppend_obj (y := .tup (iN (ord 4 (v24 i)))) cu (by rw [List.length_map, List.length_range]; omega)
        have fin : u.set s.n (.lst ((List.range i).map T24 ++ [.tup (iN (ord 4 (v24 i)))])) = s.new (.lst ((List.range (6 * a + 2 * b + (c + 1))).map T24)) := by
          rw [hu, new_set, show 6 * a + 2 * b + (c + 1) = i + 1 by omega, List.range_succ, List.map_append]
          rfl
        rw [fin] at ap
        simp! [sq, oo, ap]
        exact ⟨_, rfl⟩
      · rintro σ s3 ⟨rfl, x3, rfl⟩
        exact ⟨trivial, rfl, _, _, rfl⟩
    · rintro σ s2 ⟨rfl, x2, x3, rfl⟩
      exact ⟨trivial, rfl, _, _, _, rfl⟩
  · rintro σ s1 ⟨rfl, x1, x2, x3, rfl⟩
    refine ⟨trivial, ?_⟩
    obtain ⟨u, hu⟩ : ∃ u, u = s.new (.lst ((List.range 24).map T24)) := ⟨_, rfl⟩
    have cu : u.c s.n = .lst ((List.range 24).map T24) := by rw [hu]; exact Sto.new_at
    have un : u.n = s.n + 1 := hu ▸ rfl
    have gu : Gb s u := hu ▸ (Gb.refl s).new
    show (aSeq _ _ _ (s.new (.lst ((List.range 24).map T24)))).A _
    rw [← hu]
    clear hu
    have ls : gLenSet (.obj s.n) u = .ok (.int 24) u := by
      have := gLenSet_ok (x := .obj s.n) (s := u) (rows := (List.range 24).map fun i => (o24 i).map fun n => ((n : Nat) : Int)) (by rw [lstOf_obj cu, T24_rows]) o24_nd (by rw [List.length_map, List.length_range]; decide)
      rw [List.length_map, List.length_range] at this
      exact this
    have it := iterOf_l (lstOf_obj cu)
    have it2 := iterOf_l (s := u.new (.lst [])) (lstOf_obj (at_old (by omega) cu))
    simp! [eq_self]
    refine gcT_g ?_
    simp! [ls, it, it2]
    refine lc_P (fun i acc s' => acc = ((List.range i).map fun j => u.n + 1 + j).map .obj ∧ s'.n = u.n + 1 + i ∧ (∀ j, j < i → s'.c (u.n + 1 + j) = .lst (iN [0, 1, 2, 3])) ∧ Gb u s') ⟨rfl, rfl, (fun j h => absurd h (by omega)), (Gb.refl u).new⟩ Sto.new_at (by rw [List.length_map, List.length_range]; decide) ?_ ?_
    · rintro i x acc s' hx ⟨rfl, n', hc', g'⟩ hc
      refine ⟨lstOf_obj ((g'.c s.n (by omega)).trans cu), ?_⟩
      have hi : i < 24 := by
        have := (List.getElem?_eq_some_iff.mp hx).1
        rw [List.length_map, List.length_range] at this
        exact this
      obtain rfl : x = T24 i := by
        rw [List.getElem?_map, List.getElem?_range hi] at hx
        exact (Option.some.inj hx).symm
      have so : gSortedT [T24 i] s' = .ok (.obj s'.n) (s'.new (.lst (iN [0, 1, 2, 3]))) := by
        unfold T24
        rw [iN_ints, gSortedT_ok, o24_srt hi]
        rfl
      simp! [wipeA, so]
      refine ⟨(at_new (by omega)).trans hc, ?_, by omega, fun j hj => ?_, (g'.new).set (Nat.le_refl _)⟩
      · rw [List.range_succ, List.map_append, List.map_append, n']
        rfl
      · refine Eq.trans (Sto.set_ne (by omega)) ?_
        by_cases h : j = i
        · rw [h, ← n']
          exact Sto.new_at
        · exact (at_new (by omega)).trans (hc' j (by omega))
    rintro acc s' ⟨rfl, n', hc', g'⟩ hc
    rw [List.length_map, List.length_range] at n' hc' hc
    refine ⟨lstOf_obj ((g'.c s.n (by omega)).trans cu), ?_⟩
    obtain ⟨t1, ht1⟩ : ∃ t1, t1 = s'.new (.lst [.int 0, .int 1, .int 2, .int 3]) := ⟨_, rfl⟩
    obtain ⟨t2, ht2⟩ : ∃ t2, t2 = t1.new (.lst [.obj s'.n]) := ⟨_, rfl⟩
    obtain ⟨t3, ht3⟩ : ∃ t3, t3 = t2.new (.lst ((List.replicate 24 s'.n).map .obj)) := ⟨_, rfl⟩
    have nt1 : t1.n = s'.n + 1 := ht1 ▸ rfl
    have nt2 : t2.n = t1.n + 1 := ht2 ▸ rfl
    have k2 : t2.c t1.n = .lst [.obj s'.n] := by rw [ht2]; exact Sto.new_at
    have ml : gMul (.obj t1.n) (.int 24) t2 = .ok (.obj t2.n) t3 := by
      rw [gMul_lst (k := 24) k2 ⟨by decide, by decide, by show 1 * 24 ≤ _; omega⟩, show (24 : Int).toNat = 24 from rfl, rep_one, ht3, List.map_replicate]
      rfl
    have ct3 : t3.c t2.n = .lst ((List.replicate 24 s'.n).map .obj) := by rw [ht3]; exact Sto.new_at
    have c3 : ∀ i, i < s'.n → t3.c i = s'.c i := fun i h => by rw [ht3, ht2, ht1]; exact (at_new (by show i < s'.n + 2; omega)).trans ((at_new (by show i < s'.n + 1; omega)).trans (at_new h))
    have cq : t3.c s'.n = .lst (iN [0, 1, 2, 3]) := by rw [ht3, ht2, ht1]; exact (at_new (by show s'.n < s'.n + 2; omega)).trans ((at_new (by show s'.n < s'.n + 1; omega)).trans Sto.new_at)
    have dl := dat_objs (s := t3) (A := u.n) (L := (List.range 24).map fun j => u.n + 1 + j) (l := [0, 1, 2, 3]) ((c3 u.n (by omega)).trans hc) (fun a ha => by
      obtain ⟨j, hj, rfl⟩ := List.mem_map.mp ha
      have := List.mem_range.mp hj
      exact (c3 _ (by omega)).trans (hc' j this))
    have dr := dat_objs (s := t3) (A := t2.n) (L := List.replicate 24 s'.n) (l := [0, 1, 2, 3]) ct3 (fun a ha => by rw [List.eq_of_mem_replicate ha]; exact cq)
    rw [List.length_map, List.length_range] at dl
    rw [List.length_replicate] at dr
    have ne : gNe (.obj u.n) (.obj t2.n) t3 = .ok (.bl false) t3 := by
      rw [gNe_b (eqB_dat (by rfl) dl dr (sh_objs 24 _) (sh_objs 24 _)), PySem.SeqAt.eqv_refl _ (SeqAt.canLay_of_shaped (sh_objs 24 _))]
      rfl
    have gt3 : Gb u t3 := by rw [ht3, ht2, ht1]; exact g'.new.new.new
    have o0 : F_order_by [.tup []] u = .ok (.tup [.int 0]) u := order_ok (s := u) (n := 1) (nu := .tup (iN [])) (vs := []) Nu.tup rfl (fun i v h => by simp at h) (by decide)
    have r0 := rowof0 u
    have r1 : F_row_of [.tup [.int 0]] u = .ok (.tup []) u := rowof_ok (s := u) (n := 1) (vs := []) rfl (fun i v h => by simp at h) (by decide)
    have q0 := scriptof0 u
    have nt : t1.n = s'.n + 1 := nt1
    simp! [z4, ← ht1, z1, ← ht2, ← nt1, ml, ne]
    refine ⟨gt3, ?_⟩
    simp! [o0, r0, r1, q0, z4]
    refine post_eqL (xs := [.tup [.int 0], .tup [], .tup [], .tup []]) (at_old (Nat.lt_succ_self _) Sto.new_at) Sto.new_at (fun x hx => ?_) ?_
    · simp only [List.mem_cons, List.not_mem_nil, or_false] at hx
      rcases hx with rfl | rfl | rfl | rfl
      · exact td_nT [0] _
      · exact td_nT [] _
      · exact td_nT [] _
      · exact td_nT [] _
    · exact ⟨rfl, gu.new.new⟩
end Pf
set_option Elab.async false
set_option linter.all false
set_option maxRecDepth 100000
set_option maxHeartbeats 1000000
set_option exponentiation.threshold 3000
namespace Pf
open PySem Ab
local macro_rules | `(tactic| simp! [$xs,*]) => `(tactic| try simp (config := {maxSteps := 1000000}) only [k_bind, k_Kb, k_st, k_Kst, k_Rst, k_thn, k_loop, k_fn, k_forget, k_clr, k_noX, k_try, k_stuck, k_Astuck, d_thn_nx, d_thn_bk, d_thn_ct, d_thn_rt, d_thn_er, d_lp_nx, d_lp_bk, d_lp_ct, d_lp_rt, d_lp_er, d_fg_nx, d_fg_bk, d_fg_ct, d_fg_rt, d_fg_er, d_cl_nx, d_cl_bk, d_cl_ct, d_cl_rt, d_cl_er, d_tr_nx, d_tr_bk, d_tr_ct, d_tr_rt, d_tr_er, d_nX_nx, d_nX_bk, d_nX_ct, d_nX_rt, d_nX_er, d_fn_nx, d_fn_bk, d_fn_ct, d_fn_rt, d_fn_er, A_nx, A_bk, A_ct, A_rt, A_err, post_ok, post_err, post_noErr, e_op, e_opK, e_un, e_cb, e_nil, e_c, e_cons, e_consK, e_consK2, e_and, e_or, e_andK, e_orK, e_not, e_notK, e_test, e_testK, e_tand, e_tandK, e_tor, e_torK, e_tnot, e_tnotK, e_yes, e_if, e_ifK, e_ch, e_chK1, e_chK2, e_chK3, e_tup, e_tupK, e_lst, e_lstK, e_newL, e_call, e_callK, e_meth, e_methK, e_methK2, e_prop, e_propK, e_make, e_makeK, e_makeK2, e_makeV, e_sm, e_smK, e_smK2, e_cm, e_cmK, e_cmK2, e_sl, e_slK1, e_slK2, e_slK3, e_part, e_partK, e_nopart, e_rev, e_bm, e_bmK, e_pr, e_pr0, e_prK1, e_prK2, e_prK3, e_disp, e_dnew, e_own, e_ownK, e_lc, e_lcK, e_iter, e_rng1, e_rng1K, e_rng2, e_rng2K, e_enum, s_drop, s_dropK, s_ret, s_retK, s_retN, s_next, s_break, s_cont, s_seq, s_if, s_ifK, s_asg, s_asgK, s_name, s_par, s_parK, s_par3, s_parK3, s_gnil, s_gcons, s_gtup, s_for, s_forK, s_raise, s_raiseK, s_sf, s_sfK1, s_sfK2, s_dp, s_dpK1, s_dpK2, s_dpK3, s_forget, s_def, s_fld, e_enumU, e_enumUT, e_match, e_mcase, e_mcase2, e_many, e_mnil, e_lcX, e_lcXK, e_get2, e_methS, e_methS1, e_methS2, s_augS, s_augS1, gEqS_int, gEqS_str, gEqS_bl, gEqS_tup, eq_self, beq_self_eq_true, k_grd, k_grdS, k_ite, k_Aite, true_implies, false_implies, implies_true, List.map_cons, List.map_nil, List.nil_append, List.cons_append, List.append_nil, List.replicate_succ, List.replicate_zero, List.getElem?_cons_zero, List.getElem?_cons_succ, List.length_cons, List.length_nil, List.set_cons_zero, List.set_cons_succ, ↓reduceIte, ↓reduceDIte, Nat.reduceAdd, Nat.reduceLeDiff, Nat.reduceEqDiff, Nat.zero_add, if_true, if_false, aVar, gMinus_int, gLt_int, gLe_int, gGt_int, gGe_int, gEq_int, gNe_int, gEq_str, gNe_str, gEq_bl, gNe_bl, gXor_int, gAnd_int, gOr_int, gAdd_int, gIsN_non, gNotN_non, gIsB_bl, gNotB_bl, gNeg_int, gLen_tup, gLen_scr, gMax2_int, gMin2_int, gBits_int, gSl_tup, gSl_scr, Bool.not_true, Bool.not_false, Bool.true_eq_false, Bool.false_eq_true, Bool.true_and, Bool.false_and, Bool.and_true, Bool.and_false, Bool.true_or, Bool.false_or, decide_true, decide_false, and_self, and_true, true_and, and_false, false_and, not_true_eq_false, not_false_eq_true, reduceCtorEq, kz, z1, z2, z3, z4, z5, z6, z7, z8, z9, z10, z11, z12, z13, z14, z15, z16, isCls, isNon, aForget, aHand, toKey, keysA, iterOf_tup, iterOf_scr, oNx_some, noErr_ok, decide_eq_true_eq, decide_eq_false_iff_not, Sto.new_n, Sto.set_n, Sto.set_at, Sto.new_at, Nat.zero_le, aMakeV, Cl_non, Cl_bl, Cl_int, Cl_str, Cl_cls, Cl_obj, Cl_tup, ClL_nil, ClL_cons, $xs,*])
theorem cutTo (xs : List AV) (k : Nat) : cutA xs none (some ((k : Nat) : Int)) = xs.take k := by
  unfold cutA
  rw [HT.sIx_none, HT.sIx_nat, List.drop_zero, Nat.sub_zero]
  rcases Nat.le_total k xs.length with h | h
  · rw [Nat.min_eq_left h]
  · rw [Nat.min_eq_right h, List.take_length, List.take_of_length_le h]
structure Base (ys : List AV) (s : Sto) : Prop where
  n : 3 ≤ s.n
  c2 : s.c 2 = .lst ys
theorem Base.gd {ys : List AV} {d : Nat} {s t : Sto} (b : Base ys s) (g : Gd d s t) (h : 3 ≤ d) : Base ys t :=
  ⟨Nat.le_trans b.n g.n, (g.c 2 (by have := b.n; omega) (by omega)).trans b.c2⟩
theorem law_true (ns : List Int) (hl : ns.length ≤ 63) (hbit : ∀ z ∈ ns, Builtin.Int.intBits z ≤ 1048576) : ∃ s', F_law [.scr (ns.map .int)] s0 = .ok (.bl true) s' := by
  refine ok_of_post ?_
  unfold F_law
  have gs : ∀ s, gSum [.scr (ns.map .int)] s = .ok (.int ns.sum) s := fun s => gSum_lst lstOf_scr
  have z1 : ((1 : Nat) ≤ sizeLine) = True := eq_true (by decide)
  have ct : cutA (ns.map AV.int) none (some 4) = (ns.map AV.int).take 4 := cutTo (ns.map AV.int) 4
  simp! [B_law, gs, z1, ct]
  refine post_addL (at_old (Nat.lt_succ_self _) Sto.new_at) Sto.new_at ?_ ?_
  · simp only [List.length_map, List.length_take, List.length_cons, List.length_nil]; omega
  have en := e_enumUL (x := .obj (s0.n + 1 + 1)) (s := ((s0.new (.lst ((ns.map AV.int).take 4))).new (.lst [.int ns.sum])).new (.lst ((ns.map AV.int).take 4 ++ [.int ns.sum]))) (ys := (ns.map AV.int).take 4 ++ [.int ns.sum]) (lstOf_obj Sto.new_at)
  have hb : Base ((ns.map AV.int).take 4 ++ [.int ns.sum]) (((s0.new (.lst ((ns.map AV.int).take 4))).new (.lst [.int ns.sum])).new (.lst ((ns.map AV.int).take 4 ++ [.int ns.sum]))) := ⟨by simp only [Sto.new_n]; decide, rfl⟩
  simp! [en]
  generalize ((s0.new (.lst ((ns.map AV.int).take 4))).new (.lst [.int ns.sum])).new (.lst ((ns.map AV.int).take 4 ++ [.int ns.sum])) = S0 at hb
  refine for_A (fun i σ s => Base ((ns.map AV.int).take 4 ++ [.int ns.sum]) s ∧ ∃ a b c d, σ = [some (.scr (ns.map .int)), a, b, c, d]) ⟨hb, _, _, _, _, rfl⟩ ?_ ?_
  · rintro i x σ s hx ⟨hb, a, b, c, d, rfl⟩
    refine ⟨lstOf_obj hb.c2, ?_⟩
    obtain ⟨y, hy, rfl⟩ := enumA_get hx
    have hy' : ∃ z, y = .int z ∧ i < 5 := by
      have h1 := List.mem_of_getElem? hy
      have h2 := (List.getElem?_eq_some_iff.mp hy).1
      simp only [List.length_append, List.length_map, List.length_take, List.length_cons, List.length_nil] at h2
      rcases List.mem_append.mp h1 with h1 | h1
      · obtain ⟨z, _, rfl⟩ := List.mem_map.mp (List.mem_of_mem_take h1)
        exact ⟨z, rfl, by omega⟩
      · exact ⟨_, List.mem_singleton.mp h1, by omega⟩
    obtain ⟨z, rfl, hi⟩ := hy'
    obtain ⟨l0, l1, dr⟩ := draw_spec z i s (by omega)
    simp! [dr]
    have S0 : I1 s.n 5000 (s.new (drC l0 z (1000 * i))) (s.new (drC l0 z (1000 * i))) := I1.start ⟨Nat.lt_succ_self _, _, _, _, Sto.new_at, l1, by omega, by omega⟩
    have hd6 := hb.n
    have hb0 := hb.gd (d := s.n) (t := s.new (drC l0 z (1000 * i))) (Gd.refl _ _).new hb.n
    clear dr hb hx hy
    generalize s.new (drC l0 z (1000 * i)) = t at *
    generalize s.n = dd at *
    refine ⟨by decide, ?_⟩
    refine for_rng (n := 3) (fun j σ s' => I1 dd (5000 + 12000 * j) t s' ∧ ∃ d, σ = [some (.scr (ns.map .int)), some (.int i), some (.int z), some (.obj dd), d]) ⟨S0, _, rfl⟩ ?_ ?_
    · rintro j σ s' hj ⟨S1, d, rfl⟩
      refine ⟨trivial, ?_⟩
      simp! [eq_self]
      refine gcT_1 S1.lt ?_
      simp! [eq_self]
      refine w1_shuffle S1 (by omega) fun s2 S2 g2 => ?_
      simp! [eq_self]
      refine w1_inverse S2 (by omega) fun s3 S3 g3 => ?_
      simp! [eq_self]
      refine ⟨g2.trans g3, _, S3.dr, fun s4 D4 u4 => ?_⟩
      exact ⟨(S1.step u4.gd D4).mono (by omega), _, rfl⟩
    rintro σ s1 ⟨S1, d, rfl⟩
    exact ⟨trivial, hb0.gd S1.gd (by omega), _, _, _, _, rfl⟩
  · rintro σ s ⟨hb, a, b, c, d, rfl⟩
    refine ⟨lstOf_obj hb.c2, ?_⟩
    have ar := all_right s
    simp! [ar]
end Pf
set_option Elab.async false
set_option linter.all false
set_option maxRecDepth 100000
set_option maxHeartbeats 4000000
set_option exponentiation.threshold 3000
namespace Pf
open PySem PySem.Spec PyProof.Rows L2 Ab
def kap (C_Source C_Scripted C_Draws : Addr) : String → Addr := fun n => if n = "Source" then C_Source else if n = "Scripted" then C_Scripted else if n = "Draws" then C_Draws else 0
theorem txt_kap {w : World} {K : PySem.W.Frag} {mg : Str → Option Value} {C_Source C_Scripted C_Draws R_SIZES : Addr} (T : Txt K mg w C_Source C_Scripted C_Draws R_SIZES) : Txt K mg w ((kap C_Source C_Scripted C_Draws) "Source") ((kap C_Source C_Scripted C_Draws) "Scripted") ((kap C_Source C_Scripted C_Draws) "Draws") R_SIZES := by
  have e0 : (kap C_Source C_Scripted C_Draws) "Source" = C_Source := by unfold kap; simp
  have e1 : (kap C_Source C_Scripted C_Draws) "Scripted" = C_Scripted := by unfold kap; simp
  have e2 : (kap C_Source C_Scripted C_Draws) "Draws" = C_Draws := by unfold kap; simp
  rw [e0, e1, e2]
  exact T
theorem law_mk {l : PySem.W.OpenLaw} {w : World} {K : PySem.W.Frag} {mg : Str → Option Value} {fa C_Source C_Scripted C_Draws R_SIZES  : Addr} {h : Heap} (hmg : mg "law" = some (.ref fa)) (T : Txt K mg w C_Source C_Scripted C_Draws R_SIZES) : Gx.LawF l w K 9 "_law_script_here" mg fa h := by
  have T := txt_kap T
  obtain ⟨f, fd, F, b, hb⟩ := T.d_law
  have e := hmg.symm.trans F.mgf
  cases e
  exact ⟨fd, [], spLaw K, fun p hp => (nomatch hp), fun p hp => (nomatch hp), fun p hp => (nomatch hp), hb, fun H a ns hl hbit _ hS => ⟨a, ns, rfl, hS, fun p hp => (nomatch hp), law_true ns hl hbit, fun _ => rfl⟩, fun base _ _ _ => fn_law T F⟩
set_option maxHeartbeats 4000000 in
theorem txt_mk {K : PySem.W.Frag} {h : Heap} {mg : Str → Option Value} {f_is_integer f_is_word f_need_source f_is_script f_need_script_state f_script_after f_Scripted___init__ f_Scripted_next_word f_Scripted_left f_s5_need f_s5_digits f_words_for f_need_step f_Draws___init__ f_Draws_s5_word f_Draws_s5_bits f_Draws_s5_below f_Draws_below f_s5_need_draw f_s5_is_integer f_s5_bits_for f_s5_number_for f_row_for f_s6_is_integer f_need_draws f_need_things f_need_order f_s6_exchange f_shuffled f_row_of f_order_by f_script_of f__law_mixed f__law_draw f__law_digit f__law_binary f__law_number f__law_row f__law_script f__law_moved f__law_shuffle_right f__law_inverse_right f__law_all_right f_law p_Scripted_left C_Source C_Scripted C_Draws R_SIZES : Addr} {od_is_integer an_is_integer od_is_word an_is_word od_need_source an_need_source od_is_script an_is_script od_need_script_state an_need_script_state od_script_after an_script_after od_Scripted___init__ an_Scripted___init__ od_Scripted_next_word an_Scripted_next_word od_Scripted_left an_Scripted_left od_s5_need an_s5_need od_s5_digits an_s5_digits od_words_for an_words_for od_need_step an_need_step od_Draws___init__ an_Draws___init__ od_Draws_s5_word an_Draws_s5_word od_Draws_s5_bits an_Draws_s5_bits od_Draws_s5_below an_Draws_s5_below od_Draws_below an_Draws_below od_s5_need_draw an_s5_need_draw od_s5_is_integer an_s5_is_integer od_s5_bits_for an_s5_bits_for od_s5_number_for an_s5_number_for od_row_for an_row_for od_s6_is_integer an_s6_is_integer od_need_draws an_need_draws od_need_things an_need_things od_need_order an_need_order od_s6_exchange an_s6_exchange od_shuffled an_shuffled od_row_of an_row_of od_order_by an_order_by od_script_of an_script_of od__law_mixed an__law_mixed od__law_draw an__law_draw od__law_digit an__law_digit od__law_binary an__law_binary od__law_number an__law_number od__law_row an__law_row od__law_script an__law_script od__law_moved an__law_moved od__law_shuffle_right an__law_shuffle_right od__law_inverse_right an__law_inverse_right od__law_all_right an__law_all_right od_law an_law : Option Addr} {sl_is_integer sl_is_word sl_need_source sl_is_script sl_need_script_state sl_script_after sl_Scripted___init__ sl_Scripted_next_word sl_Scripted_left sl_s5_need sl_s5_digits sl_words_for sl_need_step sl_Draws___init__ sl_Draws_s5_word sl_Draws_s5_bits sl_Draws_s5_below sl_Draws_below sl_s5_need_draw sl_s5_is_integer sl_s5_bits_for sl_s5_number_for sl_row_for sl_s6_is_integer sl_need_draws sl_need_things sl_need_order sl_s6_exchange sl_shuffled sl_row_of sl_order_by sl_script_of sl__law_mixed sl__law_draw sl__law_digit sl__law_binary sl__law_number sl__law_row sl__law_script sl__law_moved sl__law_shuffle_right sl__law_inverse_right sl__law_all_right sl_law : Array (Option Value)} {oc_is_integer kV_is_integer dc_is_integer pm_is_integer cd_is_integer ct_is_integer oc_is_word kV_is_word dc_is_word pm_is_word cd_is_word ct_is_word oc_need_source kV_need_source dc_need_source pm_need_source cd_need_source ct_need_source oc_is_script kV_is_script dc_is_script pm_is_script cd_is_script ct_is_script oc_need_script_state kV_need_script_state dc_need_script_state pm_need_script_state cd_need_script_state ct_need_script_state oc_script_after kV_script_after dc_script_after pm_script_after cd_script_after ct_script_after oc_Scripted___init__ kV_Scripted___init__ dc_Scripted___init__ pm_Scripted___init__ cd_Scripted___init__ ct_Scripted___init__ oc_Scripted_next_word kV_Scripted_next_word dc_Scripted_next_word pm_Scripted_next_word cd_Scripted_next_word ct_Scripted_next_word oc_Scripted_left kV_Scripted_left dc_Scripted_left pm_Scripted_left cd_Scripted_left ct_Scripted_left oc_s5_need kV_s5_need dc_s5_need pm_s5_need cd_s5_need ct_s5_need oc_s5_digits kV_s5_digits dc_s5_digits pm_s5_digits cd_s5_digits ct_s5_digits oc_words_for kV_words_for dc_words_for pm_words_for cd_words_for ct_words_for oc_need_step kV_need_step dc_need_step pm_need_step cd_need_step ct_need_step oc_Draws___init__ kV_Draws___init__ dc_Draws___init__ pm_Draws___init__ cd_Draws___init__ ct_Draws___init__ oc_Draws_s5_word kV_Draws_s5_word dc_Draws_s5_word pm_Draws_s5_word cd_Draws_s5_word ct_Draws_s5_word oc_Draws_s5_bits kV_Draws_s5_bits dc_Draws_s5_bits pm_Draws_s5_bits cd_Draws_s5_bits ct_Draws_s5_bits oc_Draws_s5_below kV_Draws_s5_below dc_Draws_s5_below pm_Draws_s5_below cd_Draws_s5_below ct_Draws_s5_below oc_Draws_below kV_Draws_below dc_Draws_below pm_Draws_below cd_Draws_below ct_Draws_below oc_s5_need_draw kV_s5_need_draw dc_s5_need_draw pm_s5_need_draw cd_s5_need_draw ct_s5_need_draw oc_s5_is_integer kV_s5_is_integer dc_s5_is_integer pm_s5_is_integer cd_s5_is_integer ct_s5_is_integer oc_s5_bits_for kV_s5_bits_for dc_s5_bits_for pm_s5_bits_for cd_s5_bits_for ct_s5_bits_for oc_s5_number_for kV_s5_number_for dc_s5_number_for pm_s5_number_for cd_s5_number_for ct_s5_number_for oc_row_for kV_row_for dc_row_for pm_row_for cd_row_for ct_row_for oc_s6_is_integer kV_s6_is_integer dc_s6_is_integer pm_s6_is_integer cd_s6_is_integer ct_s6_is_integer oc_need_draws kV_need_draws dc_need_draws pm_need_draws cd_need_draws ct_need_draws oc_need_things kV_need_things dc_need_things pm_need_things cd_need_things ct_need_things oc_need_order kV_need_order dc_need_order pm_need_order cd_need_order ct_need_order oc_s6_exchange kV_s6_exchange dc_s6_exchange pm_s6_exchange cd_s6_exchange ct_s6_exchange oc_shuffled kV_shuffled dc_shuffled pm_shuffled cd_shuffled ct_shuffled oc_row_of kV_row_of dc_row_of pm_row_of cd_row_of ct_row_of oc_order_by kV_order_by dc_order_by pm_order_by cd_order_by ct_order_by oc_script_of kV_script_of dc_script_of pm_script_of cd_script_of ct_script_of oc__law_mixed kV__law_mixed dc__law_mixed pm__law_mixed cd__law_mixed ct__law_mixed oc__law_draw kV__law_draw dc__law_draw pm__law_draw cd__law_draw ct__law_draw oc__law_digit kV__law_digit dc__law_digit pm__law_digit cd__law_digit ct__law_digit oc__law_binary kV__law_binary dc__law_binary pm__law_binary cd__law_binary ct__law_binary oc__law_number kV__law_number dc__law_number pm__law_number cd__law_number ct__law_number oc__law_row kV__law_row dc__law_row pm__law_row cd__law_row ct__law_row oc__law_script kV__law_script dc__law_script pm__law_script cd__law_script ct__law_script oc__law_moved kV__law_moved dc__law_moved pm__law_moved cd__law_moved ct__law_moved oc__law_shuffle_right kV__law_shuffle_right dc__law_shuffle_right pm__law_shuffle_right cd__law_shuffle_right ct__law_shuffle_right oc__law_inverse_right kV__law_inverse_right dc__law_inverse_right pm__law_inverse_right cd__law_inverse_right ct__law_inverse_right oc__law_all_right kV__law_all_right dc__law_all_right pm__law_all_right cd__law_all_right ct__law_all_right oc_law kV_law dc_law pm_law cd_law ct_law : Value} {rs_Scripted_left : List Value} {tk_WORDS tk_MOST_SCRIPT tk_WORD_BITS tk_MOST_BITS tk_MOST_BOUND tk_MOST_ITEMS oT_SIZES_0 oT_SIZES_1 oT_SIZES_2 oT_SIZES_3 oT_SIZES_4 oT_SIZES_5 oK_SIZES_0 oK_SIZES_1 oK_SIZES_2 oK_SIZES_3 oK_SIZES_4 oK_SIZES_5 : Tok} {oN_SIZES : Nat} {hh_SIZES_0 hh_SIZES_1 hh_SIZES_2 hh_SIZES_3 hh_SIZES_4 hh_SIZES_5 : Int} {D_Scripted___init__ : Addr} {dO_Scripted___init__ : Value} {dP_Scripted___init__ : Option Addr} {dN_Scripted___init__ : Nat} {dS_Scripted___init__ : Array (Option Value)} {dT_Scripted___init___0 : Tok} {vt_Scripted_KIND : Tok} {w : World} (X : K.In h) (G : h.Ns mainGlobals mg)
    (a_is_integer : PySem.W.nsIn K mainGlobals "is_integer" = some (some (.ref f_is_integer)))
    (l_is_integer : K.lookup f_is_integer = some ⟨oc_is_integer, od_is_integer, .func (PySem.W.fnOf "is_integer" "is_integer" (C8.fnArgs s_is_integer) (C8.fnBody s_is_integer) (C8.fnScope s_is_integer) .none kV_is_integer dc_is_integer pm_is_integer an_is_integer cd_is_integer ct_is_integer), sl_is_integer⟩)
    (c_is_integer : PySem.W.codeIn K cd_is_integer "is_integer" = true)
    (k_is_integer : PySem.W.keepIn K (.ref f_is_integer) = true)
    (a_is_word : PySem.W.nsIn K mainGlobals "is_word" = some (some (.ref f_is_word)))
    (l_is_word : K.lookup f_is_word = some ⟨oc_is_word, od_is_word, .func (PySem.W.fnOf "is_word" "is_word" (C8.fnArgs s_is_word) (C8.fnBody s_is_word) (C8.fnScope s_is_word) .none kV_is_word dc_is_word pm_is_word an_is_word cd_is_word ct_is_word), sl_is_word⟩)
    (c_is_word : PySem.W.codeIn K cd_is_word "is_word" = true)
    (k_is_word : PySem.W.keepIn K (.ref f_is_word) = true)
    (a_need_source : PySem.W.nsIn K mainGlobals "need_source" = some (some (.ref f_need_source)))
    (l_need_source : K.lookup f_need_source = some ⟨oc_need_source, od_need_source, .func (PySem.W.fnOf "need_source" "need_source" (C8.fnArgs s_need_source) (C8.fnBody s_need_source) (C8.fnScope s_need_source) .none kV_need_source dc_need_source pm_need_source an_need_source cd_need_source ct_need_source), sl_need_source⟩)
    (c_need_source : PySem.W.codeIn K cd_need_source "need_source" = true)
    (k_need_source : PySem.W.keepIn K (.ref f_need_source) = true)
    (a_is_script : PySem.W.nsIn K mainGlobals "is_script" = some (some (.ref f_is_script)))
    (l_is_script : K.lookup f_is_script = some ⟨oc_is_script, od_is_script, .func (PySem.W.fnOf "is_script" "is_script" (C8.fnArgs s_is_script) (C8.fnBody s_is_script) (C8.fnScope s_is_script) .none kV_is_script dc_is_script pm_is_script an_is_script cd_is_script ct_is_script), sl_is_script⟩)
    (c_is_script : PySem.W.codeIn K cd_is_script "is_script" = true)
    (k_is_script : PySem.W.keepIn K (.ref f_is_script) = true)
    (a_need_script_state : PySem.W.nsIn K mainGlobals "need_script_state" = some (some (.ref f_need_script_state)))
    (l_need_script_state : K.lookup f_need_script_state = some ⟨oc_need_script_state, od_need_script_state, .func (PySem.W.fnOf "need_script_state" "need_script_state" (C8.fnArgs s_need_script_state) (C8.fnBody s_need_script_state) (C8.fnScope s_need_script_state) .none kV_need_script_state dc_need_script_state pm_need_script_state an_need_script_state cd_need_script_state ct_need_script_state), sl_need_script_state⟩)
    (c_need_script_state : PySem.W.codeIn K cd_need_script_state "need_script_state" = true)
    (k_need_script_state : PySem.W.keepIn K (.ref f_need_script_state) = true)
    (a_script_after : PySem.W.nsIn K mainGlobals "script_after" = some (some (.ref f_script_after)))
    (l_script_after : K.lookup f_script_after = some ⟨oc_script_after, od_script_after, .func (PySem.W.fnOf "script_after" "script_after" (C8.fnArgs s_script_after) (C8.fnBody s_script_after) (C8.fnScope s_script_after) .none kV_script_after dc_script_after pm_script_after an_script_after cd_script_after ct_script_after), sl_script_after⟩)
    (c_script_after : PySem.W.codeIn K cd_script_after "script_after" = true)
    (k_script_after : PySem.W.keepIn K (.ref f_script_after) = true)
    (a_Scripted___init__ : PySem.W.findIn K (.ref C_Scripted) "__init__" = some (some (.ref f_Scripted___init__)))
    (i_Scripted___init__ : PySem.W.isFn K (.ref f_Scripted___init__) = true)
    (l_Scripted___init__ : K.lookup f_Scripted___init__ = some ⟨oc_Scripted___init__, od_Scripted___init__, .func (PySem.W.fnOf "__init__" "Scripted.__init__" (C8.fnArgs s_Scripted___init__) (C8.fnBody s_Scripted___init__) (C8.fnScope s_Scripted___init__) (.ref D_Scripted___init__) kV_Scripted___init__ dc_Scripted___init__ pm_Scripted___init__ an_Scripted___init__ cd_Scripted___init__ ct_Scripted___init__), sl_Scripted___init__⟩)
    (c_Scripted___init__ : PySem.W.codeIn K cd_Scripted___init__ "Scripted.__init__" = true)
    (k_Scripted___init__ : PySem.W.keepIn K (.ref f_Scripted___init__) = true)
    (dl_Scripted___init__ : K.lookup D_Scripted___init__ = some ⟨dO_Scripted___init__, dP_Scripted___init__, .seq #[.int 0 dT_Scripted___init___0] dN_Scripted___init__, dS_Scripted___init__⟩)
    (mk_Scripted___init__ : PySem.W.makesIn K C_Scripted = true)
    (kc_Scripted___init__ : PySem.W.keepIn K (.ref C_Scripted) = true)
    (a_Scripted_next_word : PySem.W.findIn K (.ref C_Scripted) "next_word" = some (some (.ref f_Scripted_next_word)))
    (i_Scripted_next_word : PySem.W.isFn K (.ref f_Scripted_next_word) = true)
    (l_Scripted_next_word : K.lookup f_Scripted_next_word = some ⟨oc_Scripted_next_word, od_Scripted_next_word, .func (PySem.W.fnOf "next_word" "Scripted.next_word" (C8.fnArgs s_Scripted_next_word) (C8.fnBody s_Scripted_next_word) (C8.fnScope s_Scripted_next_word) .none kV_Scripted_next_word dc_Scripted_next_word pm_Scripted_next_word an_Scripted_next_word cd_Scripted_next_word ct_Scripted_next_word), sl_Scripted_next_word⟩)
    (c_Scripted_next_word : PySem.W.codeIn K cd_Scripted_next_word "Scripted.next_word" = true)
    (k_Scripted_next_word : PySem.W.keepIn K (.ref f_Scripted_next_word) = true)
    (a_Scripted_left : PySem.W.findIn K (.ref C_Scripted) "left" = some (some (.ref p_Scripted_left)))
    (g_Scripted_left : PySem.W.specialIn K (.ref p_Scripted_left) "__get__" = some (some (.builtin "property.__get__")))
    (t_Scripted_left : PySem.W.takesIn K (.ref p_Scripted_left) = some true)
    (r_Scripted_left : PySem.W.recIn K p_Scripted_left "property" = some (.ref f_Scripted_left :: rs_Scripted_left))
    (l_Scripted_left : K.lookup f_Scripted_left = some ⟨oc_Scripted_left, od_Scripted_left, .func (PySem.W.fnOf "left" "Scripted.left" (C8.fnArgs s_Scripted_left) (C8.fnBody s_Scripted_left) (C8.fnScope s_Scripted_left) .none kV_Scripted_left dc_Scripted_left pm_Scripted_left an_Scripted_left cd_Scripted_left ct_Scripted_left), sl_Scripted_left⟩)
    (c_Scripted_left : PySem.W.codeIn K cd_Scripted_left "Scripted.left" = true)
    (k_Scripted_left : PySem.W.keepIn K (.ref f_Scripted_left) = true)
    (a_s5_need : PySem.W.nsIn K mainGlobals "s5_need" = some (some (.ref f_s5_need)))
    (l_s5_need : K.lookup f_s5_need = some ⟨oc_s5_need, od_s5_need, .func (PySem.W.fnOf "s5_need" "s5_need" (C8.fnArgs s_s5_need) (C8.fnBody s_s5_need) (C8.fnScope s_s5_need) .none kV_s5_need dc_s5_need pm_s5_need an_s5_need cd_s5_need ct_s5_need), sl_s5_need⟩)
    (c_s5_need : PySem.W.codeIn K cd_s5_need "s5_need" = true)
    (k_s5_need : PySem.W.keepIn K (.ref f_s5_need) = true)
    (a_s5_digits : PySem.W.nsIn K mainGlobals "s5_digits" = some (some (.ref f_s5_digits)))
    (l_s5_digits : K.lookup f_s5_digits = some ⟨oc_s5_digits, od_s5_digits, .func (PySem.W.fnOf "s5_digits" "s5_digits" (C8.fnArgs s_s5_digits) (C8.fnBody s_s5_digits) (C8.fnScope s_s5_digits) .none kV_s5_digits dc_s5_digits pm_s5_digits an_s5_digits cd_s5_digits ct_s5_digits), sl_s5_digits⟩)
    (c_s5_digits : PySem.W.codeIn K cd_s5_digits "s5_digits" = true)
    (k_s5_digits : PySem.W.keepIn K (.ref f_s5_digits) = true)
    (a_words_for : PySem.W.nsIn K mainGlobals "words_for" = some (some (.ref f_words_for)))
    (l_words_for : K.lookup f_words_for = some ⟨oc_words_for, od_words_for, .func (PySem.W.fnOf "words_for" "words_for" (C8.fnArgs s_words_for) (C8.fnBody s_words_for) (C8.fnScope s_words_for) .none kV_words_for dc_words_for pm_words_for an_words_for cd_words_for ct_words_for), sl_words_for⟩)
    (c_words_for : PySem.W.codeIn K cd_words_for "words_for" = true)
    (k_words_for : PySem.W.keepIn K (.ref f_words_for) = true)
    (a_need_step : PySem.W.nsIn K mainGlobals "need_step" = some (some (.ref f_need_step)))
    (l_need_step : K.lookup f_need_step = some ⟨oc_need_step, od_need_step, .func (PySem.W.fnOf "need_step" "need_step" (C8.fnArgs s_need_step) (C8.fnBody s_need_step) (C8.fnScope s_need_step) .none kV_need_step dc_need_step pm_need_step an_need_step cd_need_step ct_need_step), sl_need_step⟩)
    (c_need_step : PySem.W.codeIn K cd_need_step "need_step" = true)
    (k_need_step : PySem.W.keepIn K (.ref f_need_step) = true)
    (a_Draws___init__ : PySem.W.findIn K (.ref C_Draws) "__init__" = some (some (.ref f_Draws___init__)))
    (i_Draws___init__ : PySem.W.isFn K (.ref f_Draws___init__) = true)
    (l_Draws___init__ : K.lookup f_Draws___init__ = some ⟨oc_Draws___init__, od_Draws___init__, .func (PySem.W.fnOf "__init__" "Draws.__init__" (C8.fnArgs s_Draws___init__) (C8.fnBody s_Draws___init__) (C8.fnScope s_Draws___init__) .none kV_Draws___init__ dc_Draws___init__ pm_Draws___init__ an_Draws___init__ cd_Draws___init__ ct_Draws___init__), sl_Draws___init__⟩)
    (c_Draws___init__ : PySem.W.codeIn K cd_Draws___init__ "Draws.__init__" = true)
    (k_Draws___init__ : PySem.W.keepIn K (.ref f_Draws___init__) = true)
    (mk_Draws___init__ : PySem.W.makesIn K C_Draws = true)
    (kc_Draws___init__ : PySem.W.keepIn K (.ref C_Draws) = true)
    (a_Draws_s5_word : PySem.W.findIn K (.ref C_Draws) "s5_word" = some (some (.ref f_Draws_s5_word)))
    (i_Draws_s5_word : PySem.W.isFn K (.ref f_Draws_s5_word) = true)
    (l_Draws_s5_word : K.lookup f_Draws_s5_word = some ⟨oc_Draws_s5_word, od_Draws_s5_word, .func (PySem.W.fnOf "s5_word" "Draws.s5_word" (C8.fnArgs s_Draws_s5_word) (C8.fnBody s_Draws_s5_word) (C8.fnScope s_Draws_s5_word) .none kV_Draws_s5_word dc_Draws_s5_word pm_Draws_s5_word an_Draws_s5_word cd_Draws_s5_word ct_Draws_s5_word), sl_Draws_s5_word⟩)
    (c_Draws_s5_word : PySem.W.codeIn K cd_Draws_s5_word "Draws.s5_word" = true)
    (k_Draws_s5_word : PySem.W.keepIn K (.ref f_Draws_s5_word) = true)
    (a_Draws_s5_bits : PySem.W.findIn K (.ref C_Draws) "s5_bits" = some (some (.ref f_Draws_s5_bits)))
    (i_Draws_s5_bits : PySem.W.isFn K (.ref f_Draws_s5_bits) = true)
    (l_Draws_s5_bits : K.lookup f_Draws_s5_bits = some ⟨oc_Draws_s5_bits, od_Draws_s5_bits, .func (PySem.W.fnOf "s5_bits" "Draws.s5_bits" (C8.fnArgs s_Draws_s5_bits) (C8.fnBody s_Draws_s5_bits) (C8.fnScope s_Draws_s5_bits) .none kV_Draws_s5_bits dc_Draws_s5_bits pm_Draws_s5_bits an_Draws_s5_bits cd_Draws_s5_bits ct_Draws_s5_bits), sl_Draws_s5_bits⟩)
    (c_Draws_s5_bits : PySem.W.codeIn K cd_Draws_s5_bits "Draws.s5_bits" = true)
    (k_Draws_s5_bits : PySem.W.keepIn K (.ref f_Draws_s5_bits) = true)
    (a_Draws_s5_below : PySem.W.findIn K (.ref C_Draws) "s5_below" = some (some (.ref f_Draws_s5_below)))
    (i_Draws_s5_below : PySem.W.isFn K (.ref f_Draws_s5_below) = true)
    (l_Draws_s5_below : K.lookup f_Draws_s5_below = some ⟨oc_Draws_s5_below, od_Draws_s5_below, .func (PySem.W.fnOf "s5_below" "Draws.s5_below" (C8.fnArgs s_Draws_s5_below) (C8.fnBody s_Draws_s5_below) (C8.fnScope s_Draws_s5_below) .none kV_Draws_s5_below dc_Draws_s5_below pm_Draws_s5_below an_Draws_s5_below cd_Draws_s5_below ct_Draws_s5_below), sl_Draws_s5_below⟩)
    (c_Draws_s5_below : PySem.W.codeIn K cd_Draws_s5_below "Draws.s5_below" = true)
    (k_Draws_s5_below : PySem.W.keepIn K (.ref f_Draws_s5_below) = true)
    (a_Draws_below : PySem.W.findIn K (.ref C_Draws) "below" = some (some (.ref f_Draws_below)))
    (i_Draws_below : PySem.W.isFn K (.ref f_Draws_below) = true)
    (l_Draws_below : K.lookup f_Draws_below = some ⟨oc_Draws_below, od_Draws_below, .func (PySem.W.fnOf "below" "Draws.below" (C8.fnArgs s_Draws_below) (C8.fnBody s_Draws_below) (C8.fnScope s_Draws_below) .none kV_Draws_below dc_Draws_below pm_Draws_below an_Draws_below cd_Draws_below ct_Draws_below), sl_Draws_below⟩)
    (c_Draws_below : PySem.W.codeIn K cd_Draws_below "Draws.below" = true)
    (k_Draws_below : PySem.W.keepIn K (.ref f_Draws_below) = true)
    (a_s5_need_draw : PySem.W.nsIn K mainGlobals "s5_need_draw" = some (some (.ref f_s5_need_draw)))
    (l_s5_need_draw : K.lookup f_s5_need_draw = some ⟨oc_s5_need_draw, od_s5_need_draw, .func (PySem.W.fnOf "s5_need_draw" "s5_need_draw" (C8.fnArgs s_s5_need_draw) (C8.fnBody s_s5_need_draw) (C8.fnScope s_s5_need_draw) .none kV_s5_need_draw dc_s5_need_draw pm_s5_need_draw an_s5_need_draw cd_s5_need_draw ct_s5_need_draw), sl_s5_need_draw⟩)
    (c_s5_need_draw : PySem.W.codeIn K cd_s5_need_draw "s5_need_draw" = true)
    (k_s5_need_draw : PySem.W.keepIn K (.ref f_s5_need_draw) = true)
    (a_s5_is_integer : PySem.W.nsIn K mainGlobals "s5_is_integer" = some (some (.ref f_s5_is_integer)))
    (l_s5_is_integer : K.lookup f_s5_is_integer = some ⟨oc_s5_is_integer, od_s5_is_integer, .func (PySem.W.fnOf "s5_is_integer" "s5_is_integer" (C8.fnArgs s_s5_is_integer) (C8.fnBody s_s5_is_integer) (C8.fnScope s_s5_is_integer) .none kV_s5_is_integer dc_s5_is_integer pm_s5_is_integer an_s5_is_integer cd_s5_is_integer ct_s5_is_integer), sl_s5_is_integer⟩)
    (c_s5_is_integer : PySem.W.codeIn K cd_s5_is_integer "s5_is_integer" = true)
    (k_s5_is_integer : PySem.W.keepIn K (.ref f_s5_is_integer) = true)
    (a_s5_bits_for : PySem.W.nsIn K mainGlobals "s5_bits_for" = some (some (.ref f_s5_bits_for)))
    (l_s5_bits_for : K.lookup f_s5_bits_for = some ⟨oc_s5_bits_for, od_s5_bits_for, .func (PySem.W.fnOf "s5_bits_for" "s5_bits_for" (C8.fnArgs s_s5_bits_for) (C8.fnBody s_s5_bits_for) (C8.fnScope s_s5_bits_for) .none kV_s5_bits_for dc_s5_bits_for pm_s5_bits_for an_s5_bits_for cd_s5_bits_for ct_s5_bits_for), sl_s5_bits_for⟩)
    (c_s5_bits_for : PySem.W.codeIn K cd_s5_bits_for "s5_bits_for" = true)
    (k_s5_bits_for : PySem.W.keepIn K (.ref f_s5_bits_for) = true)
    (a_s5_number_for : PySem.W.nsIn K mainGlobals "s5_number_for" = some (some (.ref f_s5_number_for)))
    (l_s5_number_for : K.lookup f_s5_number_for = some ⟨oc_s5_number_for, od_s5_number_for, .func (PySem.W.fnOf "s5_number_for" "s5_number_for" (C8.fnArgs s_s5_number_for) (C8.fnBody s_s5_number_for) (C8.fnScope s_s5_number_for) .none kV_s5_number_for dc_s5_number_for pm_s5_number_for an_s5_number_for cd_s5_number_for ct_s5_number_for), sl_s5_number_for⟩)
    (c_s5_number_for : PySem.W.codeIn K cd_s5_number_for "s5_number_for" = true)
    (k_s5_number_for : PySem.W.keepIn K (.ref f_s5_number_for) = true)
    (a_row_for : PySem.W.nsIn K mainGlobals "row_for" = some (some (.ref f_row_for)))
    (l_row_for : K.lookup f_row_for = some ⟨oc_row_for, od_row_for, .func (PySem.W.fnOf "row_for" "row_for" (C8.fnArgs s_row_for) (C8.fnBody s_row_for) (C8.fnScope s_row_for) .none kV_row_for dc_row_for pm_row_for an_row_for cd_row_for ct_row_for), sl_row_for⟩)
    (c_row_for : PySem.W.codeIn K cd_row_for "row_for" = true)
    (k_row_for : PySem.W.keepIn K (.ref f_row_for) = true)
    (a_s6_is_integer : PySem.W.nsIn K mainGlobals "s6_is_integer" = some (some (.ref f_s6_is_integer)))
    (l_s6_is_integer : K.lookup f_s6_is_integer = some ⟨oc_s6_is_integer, od_s6_is_integer, .func (PySem.W.fnOf "s6_is_integer" "s6_is_integer" (C8.fnArgs s_s6_is_integer) (C8.fnBody s_s6_is_integer) (C8.fnScope s_s6_is_integer) .none kV_s6_is_integer dc_s6_is_integer pm_s6_is_integer an_s6_is_integer cd_s6_is_integer ct_s6_is_integer), sl_s6_is_integer⟩)
    (c_s6_is_integer : PySem.W.codeIn K cd_s6_is_integer "s6_is_integer" = true)
    (k_s6_is_integer : PySem.W.keepIn K (.ref f_s6_is_integer) = true)
    (a_need_draws : PySem.W.nsIn K mainGlobals "need_draws" = some (some (.ref f_need_draws)))
    (l_need_draws : K.lookup f_need_draws = some ⟨oc_need_draws, od_need_draws, .func (PySem.W.fnOf "need_draws" "need_draws" (C8.fnArgs s_need_draws) (C8.fnBody s_need_draws) (C8.fnScope s_need_draws) .none kV_need_draws dc_need_draws pm_need_draws an_need_draws cd_need_draws ct_need_draws), sl_need_draws⟩)
    (c_need_draws : PySem.W.codeIn K cd_need_draws "need_draws" = true)
    (k_need_draws : PySem.W.keepIn K (.ref f_need_draws) = true)
    (a_need_things : PySem.W.nsIn K mainGlobals "need_things" = some (some (.ref f_need_things)))
    (l_need_things : K.lookup f_need_things = some ⟨oc_need_things, od_need_things, .func (PySem.W.fnOf "need_things" "need_things" (C8.fnArgs s_need_things) (C8.fnBody s_need_things) (C8.fnScope s_need_things) .none kV_need_things dc_need_things pm_need_things an_need_things cd_need_things ct_need_things), sl_need_things⟩)
    (c_need_things : PySem.W.codeIn K cd_need_things "need_things" = true)
    (k_need_things : PySem.W.keepIn K (.ref f_need_things) = true)
    (a_need_order : PySem.W.nsIn K mainGlobals "need_order" = some (some (.ref f_need_order)))
    (l_need_order : K.lookup f_need_order = some ⟨oc_need_order, od_need_order, .func (PySem.W.fnOf "need_order" "need_order" (C8.fnArgs s_need_order) (C8.fnBody s_need_order) (C8.fnScope s_need_order) .none kV_need_order dc_need_order pm_need_order an_need_order cd_need_order ct_need_order), sl_need_order⟩)
    (c_need_order : PySem.W.codeIn K cd_need_order "need_order" = true)
    (k_need_order : PySem.W.keepIn K (.ref f_need_order) = true)
    (a_s6_exchange : PySem.W.nsIn K mainGlobals "s6_exchange" = some (some (.ref f_s6_exchange)))
    (l_s6_exchange : K.lookup f_s6_exchange = some ⟨oc_s6_exchange, od_s6_exchange, .func (PySem.W.fnOf "s6_exchange" "s6_exchange" (C8.fnArgs s_s6_exchange) (C8.fnBody s_s6_exchange) (C8.fnScope s_s6_exchange) .none kV_s6_exchange dc_s6_exchange pm_s6_exchange an_s6_exchange cd_s6_exchange ct_s6_exchange), sl_s6_exchange⟩)
    (c_s6_exchange : PySem.W.codeIn K cd_s6_exchange "s6_exchange" = true)
    (k_s6_exchange : PySem.W.keepIn K (.ref f_s6_exchange) = true)
    (a_shuffled : PySem.W.nsIn K mainGlobals "shuffled" = some (some (.ref f_shuffled)))
    (l_shuffled : K.lookup f_shuffled = some ⟨oc_shuffled, od_shuffled, .func (PySem.W.fnOf "shuffled" "shuffled" (C8.fnArgs s_shuffled) (C8.fnBody s_shuffled) (C8.fnScope s_shuffled) .none kV_shuffled dc_shuffled pm_shuffled an_shuffled cd_shuffled ct_shuffled), sl_shuffled⟩)
    (c_shuffled : PySem.W.codeIn K cd_shuffled "shuffled" = true)
    (k_shuffled : PySem.W.keepIn K (.ref f_shuffled) = true)
    (a_row_of : PySem.W.nsIn K mainGlobals "row_of" = some (some (.ref f_row_of)))
    (l_row_of : K.lookup f_row_of = some ⟨oc_row_of, od_row_of, .func (PySem.W.fnOf "row_of" "row_of" (C8.fnArgs s_row_of) (C8.fnBody s_row_of) (C8.fnScope s_row_of) .none kV_row_of dc_row_of pm_row_of an_row_of cd_row_of ct_row_of), sl_row_of⟩)
    (c_row_of : PySem.W.codeIn K cd_row_of "row_of" = true)
    (k_row_of : PySem.W.keepIn K (.ref f_row_of) = true)
    (a_order_by : PySem.W.nsIn K mainGlobals "order_by" = some (some (.ref f_order_by)))
    (l_order_by : K.lookup f_order_by = some ⟨oc_order_by, od_order_by, .func (PySem.W.fnOf "order_by" "order_by" (C8.fnArgs s_order_by) (C8.fnBody s_order_by) (C8.fnScope s_order_by) .none kV_order_by dc_order_by pm_order_by an_order_by cd_order_by ct_order_by), sl_order_by⟩)
    (c_order_by : PySem.W.codeIn K cd_order_by "order_by" = true)
    (k_order_by : PySem.W.keepIn K (.ref f_order_by) = true)
    (a_script_of : PySem.W.nsIn K mainGlobals "script_of" = some (some (.ref f_script_of)))
    (l_script_of : K.lookup f_script_of = some ⟨oc_script_of, od_script_of, .func (PySem.W.fnOf "script_of" "script_of" (C8.fnArgs s_script_of) (C8.fnBody s_script_of) (C8.fnScope s_script_of) .none kV_script_of dc_script_of pm_script_of an_script_of cd_script_of ct_script_of), sl_script_of⟩)
    (c_script_of : PySem.W.codeIn K cd_script_of "script_of" = true)
    (k_script_of : PySem.W.keepIn K (.ref f_script_of) = true)
    (a__law_mixed : PySem.W.nsIn K mainGlobals "_law_mixed" = some (some (.ref f__law_mixed)))
    (l__law_mixed : K.lookup f__law_mixed = some ⟨oc__law_mixed, od__law_mixed, .func (PySem.W.fnOf "_law_mixed" "_law_mixed" (C8.fnArgs s__law_mixed) (C8.fnBody s__law_mixed) (C8.fnScope s__law_mixed) .none kV__law_mixed dc__law_mixed pm__law_mixed an__law_mixed cd__law_mixed ct__law_mixed), sl__law_mixed⟩)
    (c__law_mixed : PySem.W.codeIn K cd__law_mixed "_law_mixed" = true)
    (k__law_mixed : PySem.W.keepIn K (.ref f__law_mixed) = true)
    (a__law_draw : PySem.W.nsIn K mainGlobals "_law_draw" = some (some (.ref f__law_draw)))
    (l__law_draw : K.lookup f__law_draw = some ⟨oc__law_draw, od__law_draw, .func (PySem.W.fnOf "_law_draw" "_law_draw" (C8.fnArgs s__law_draw) (C8.fnBody s__law_draw) (C8.fnScope s__law_draw) .none kV__law_draw dc__law_draw pm__law_draw an__law_draw cd__law_draw ct__law_draw), sl__law_draw⟩)
    (c__law_draw : PySem.W.codeIn K cd__law_draw "_law_draw" = true)
    (k__law_draw : PySem.W.keepIn K (.ref f__law_draw) = true)
    (a__law_digit : PySem.W.nsIn K mainGlobals "_law_digit" = some (some (.ref f__law_digit)))
    (l__law_digit : K.lookup f__law_digit = some ⟨oc__law_digit, od__law_digit, .func (PySem.W.fnOf "_law_digit" "_law_digit" (C8.fnArgs s__law_digit) (C8.fnBody s__law_digit) (C8.fnScope s__law_digit) .none kV__law_digit dc__law_digit pm__law_digit an__law_digit cd__law_digit ct__law_digit), sl__law_digit⟩)
    (c__law_digit : PySem.W.codeIn K cd__law_digit "_law_digit" = true)
    (k__law_digit : PySem.W.keepIn K (.ref f__law_digit) = true)
    (a__law_binary : PySem.W.nsIn K mainGlobals "_law_binary" = some (some (.ref f__law_binary)))
    (l__law_binary : K.lookup f__law_binary = some ⟨oc__law_binary, od__law_binary, .func (PySem.W.fnOf "_law_binary" "_law_binary" (C8.fnArgs s__law_binary) (C8.fnBody s__law_binary) (C8.fnScope s__law_binary) .none kV__law_binary dc__law_binary pm__law_binary an__law_binary cd__law_binary ct__law_binary), sl__law_binary⟩)
    (c__law_binary : PySem.W.codeIn K cd__law_binary "_law_binary" = true)
    (k__law_binary : PySem.W.keepIn K (.ref f__law_binary) = true)
    (a__law_number : PySem.W.nsIn K mainGlobals "_law_number" = some (some (.ref f__law_number)))
    (l__law_number : K.lookup f__law_number = some ⟨oc__law_number, od__law_number, .func (PySem.W.fnOf "_law_number" "_law_number" (C8.fnArgs s__law_number) (C8.fnBody s__law_number) (C8.fnScope s__law_number) .none kV__law_number dc__law_number pm__law_number an__law_number cd__law_number ct__law_number), sl__law_number⟩)
    (c__law_number : PySem.W.codeIn K cd__law_number "_law_number" = true)
    (k__law_number : PySem.W.keepIn K (.ref f__law_number) = true)
    (a__law_row : PySem.W.nsIn K mainGlobals "_law_row" = some (some (.ref f__law_row)))
    (l__law_row : K.lookup f__law_row = some ⟨oc__law_row, od__law_row, .func (PySem.W.fnOf "_law_row" "_law_row" (C8.fnArgs s__law_row) (C8.fnBody s__law_row) (C8.fnScope s__law_row) .none kV__law_row dc__law_row pm__law_row an__law_row cd__law_row ct__law_row), sl__law_row⟩)
    (c__law_row : PySem.W.codeIn K cd__law_row "_law_row" = true)
    (k__law_row : PySem.W.keepIn K (.ref f__law_row) = true)
    (a__law_script : PySem.W.nsIn K mainGlobals "_law_script" = some (some (.ref f__law_script)))
    (l__law_script : K.lookup f__law_script = some ⟨oc__law_script, od__law_script, .func (PySem.W.fnOf "_law_script" "_law_script" (C8.fnArgs s__law_script) (C8.fnBody s__law_script) (C8.fnScope s__law_script) .none kV__law_script dc__law_script pm__law_script an__law_script cd__law_script ct__law_script), sl__law_script⟩)
    (c__law_script : PySem.W.codeIn K cd__law_script "_law_script" = true)
    (k__law_script : PySem.W.keepIn K (.ref f__law_script) = true)
    (a__law_moved : PySem.W.nsIn K mainGlobals "_law_moved" = some (some (.ref f__law_moved)))
    (l__law_moved : K.lookup f__law_moved = some ⟨oc__law_moved, od__law_moved, .func (PySem.W.fnOf "_law_moved" "_law_moved" (C8.fnArgs s__law_moved) (C8.fnBody s__law_moved) (C8.fnScope s__law_moved) .none kV__law_moved dc__law_moved pm__law_moved an__law_moved cd__law_moved ct__law_moved), sl__law_moved⟩)
    (c__law_moved : PySem.W.codeIn K cd__law_moved "_law_moved" = true)
    (k__law_moved : PySem.W.keepIn K (.ref f__law_moved) = true)
    (a__law_shuffle_right : PySem.W.nsIn K mainGlobals "_law_shuffle_right" = some (some (.ref f__law_shuffle_right)))
    (l__law_shuffle_right : K.lookup f__law_shuffle_right = some ⟨oc__law_shuffle_right, od__law_shuffle_right, .func (PySem.W.fnOf "_law_shuffle_right" "_law_shuffle_right" (C8.fnArgs s__law_shuffle_right) (C8.fnBody s__law_shuffle_right) (C8.fnScope s__law_shuffle_right) .none kV__law_shuffle_right dc__law_shuffle_right pm__law_shuffle_right an__law_shuffle_right cd__law_shuffle_right ct__law_shuffle_right), sl__law_shuffle_right⟩)
    (c__law_shuffle_right : PySem.W.codeIn K cd__law_shuffle_right "_law_shuffle_right" = true)
    (k__law_shuffle_right : PySem.W.keepIn K (.ref f__law_shuffle_right) = true)
    (a__law_inverse_right : PySem.W.nsIn K mainGlobals "_law_inverse_right" = some (some (.ref f__law_inverse_right)))
    (l__law_inverse_right : K.lookup f__law_inverse_right = some ⟨oc__law_inverse_right, od__law_inverse_right, .func (PySem.W.fnOf "_law_inverse_right" "_law_inverse_right" (C8.fnArgs s__law_inverse_right) (C8.fnBody s__law_inverse_right) (C8.fnScope s__law_inverse_right) .none kV__law_inverse_right dc__law_inverse_right pm__law_inverse_right an__law_inverse_right cd__law_inverse_right ct__law_inverse_right), sl__law_inverse_right⟩)
    (c__law_inverse_right : PySem.W.codeIn K cd__law_inverse_right "_law_inverse_right" = true)
    (k__law_inverse_right : PySem.W.keepIn K (.ref f__law_inverse_right) = true)
    (a__law_all_right : PySem.W.nsIn K mainGlobals "_law_all_right" = some (some (.ref f__law_all_right)))
    (l__law_all_right : K.lookup f__law_all_right = some ⟨oc__law_all_right, od__law_all_right, .func (PySem.W.fnOf "_law_all_right" "_law_all_right" (C8.fnArgs s__law_all_right) (C8.fnBody s__law_all_right) (C8.fnScope s__law_all_right) .none kV__law_all_right dc__law_all_right pm__law_all_right an__law_all_right cd__law_all_right ct__law_all_right), sl__law_all_right⟩)
    (c__law_all_right : PySem.W.codeIn K cd__law_all_right "_law_all_right" = true)
    (k__law_all_right : PySem.W.keepIn K (.ref f__law_all_right) = true)
    (a_law : PySem.W.nsIn K mainGlobals "law" = some (some (.ref f_law)))
    (l_law : K.lookup f_law = some ⟨oc_law, od_law, .func (PySem.W.fnOf "law" "law" (C8.fnArgs s_law) (C8.fnBody s_law) (C8.fnScope s_law) .none kV_law dc_law pm_law an_law cd_law ct_law), sl_law⟩)
    (c_law : PySem.W.codeIn K cd_law "law" = true)
    (k_law : PySem.W.keepIn K (.ref f_law) = true)
    (e_WORDS : PySem.W.nsIn K mainGlobals "WORDS" = some (some (.int 4294967296 tk_WORDS)))
    (e_MOST_SCRIPT : PySem.W.nsIn K mainGlobals "MOST_SCRIPT" = some (some (.int 10000 tk_MOST_SCRIPT)))
    (e_WORD_BITS : PySem.W.nsIn K mainGlobals "WORD_BITS" = some (some (.int 32 tk_WORD_BITS)))
    (e_MOST_BITS : PySem.W.nsIn K mainGlobals "MOST_BITS" = some (some (.int 512 tk_MOST_BITS)))
    (e_MOST_BOUND : PySem.W.nsIn K mainGlobals "MOST_BOUND" = some (some (.int 115792089237316195423570985008687907853269984665640564039457584007913129639936 tk_MOST_BOUND)))
    (e_SIZES : PySem.W.nsIn K mainGlobals "SIZES" = some (some (.ref R_SIZES)))
    (g_SIZES : K.lookup R_SIZES = some ⟨.type "dict", none, .dict #[⟨hh_SIZES_0, .str "bits" oK_SIZES_0, .int 2 oT_SIZES_0⟩, ⟨hh_SIZES_1, .str "below" oK_SIZES_1, .int 2 oT_SIZES_1⟩, ⟨hh_SIZES_2, .str "between" oK_SIZES_2, .int 3 oT_SIZES_2⟩, ⟨hh_SIZES_3, .str "choice" oK_SIZES_3, .int 2 oT_SIZES_3⟩, ⟨hh_SIZES_4, .str "coin" oK_SIZES_4, .int 3 oT_SIZES_4⟩, ⟨hh_SIZES_5, .str "fraction" oK_SIZES_5, .int 2 oT_SIZES_5⟩] oN_SIZES, #[]⟩)
    (rv_SIZES_0 : hh_SIZES_0 = hashStr w "bits")
    (rv_SIZES_1 : hh_SIZES_1 = hashStr w "below")
    (rv_SIZES_2 : hh_SIZES_2 = hashStr w "between")
    (rv_SIZES_3 : hh_SIZES_3 = hashStr w "choice")
    (rv_SIZES_4 : hh_SIZES_4 = hashStr w "coin")
    (rv_SIZES_5 : hh_SIZES_5 = hashStr w "fraction")
    (rv_SIZES : (R_SIZES == sysModules) = false)
    (e_MOST_ITEMS : PySem.W.nsIn K mainGlobals "MOST_ITEMS" = some (some (.int 1000 tk_MOST_ITEMS)))
    (q_Source : PySem.W.nsIn K mainGlobals "Source" = some (some (.ref C_Source)))
    (pg_Source : PySem.W.plainGet K C_Source Str.empty = true)
    (hd_Source : PySem.W.hasDictIn K C_Source = true)
    (po_Source : PySem.W.plainOver K C_Source = true)
    (sa_Source : PySem.W.findIn K (.ref C_Source) "__setattr__" = some (some (.builtin "object.__setattr__")))
    (ha_Source : PySem.W.findIn K (.ref C_Source) "__class__" = some (some (.builtin "object.__class__")))
    (hn_Source : PySem.W.specialIn K (.builtin "object.__class__") "__get__" = some (some (.builtin "getset_descriptor.__get__")))
    (ht_Source : PySem.W.takesIn K (.builtin "object.__class__") = some true)
    (hm_Source : PySem.W.mroIn K C_Source (.type "object") = some true)
    (q_Scripted : PySem.W.nsIn K mainGlobals "Scripted" = some (some (.ref C_Scripted)))
    (pg_Scripted : PySem.W.plainGet K C_Scripted Str.empty = true)
    (hd_Scripted : PySem.W.hasDictIn K C_Scripted = true)
    (po_Scripted : PySem.W.plainOver K C_Scripted = true)
    (sa_Scripted : PySem.W.findIn K (.ref C_Scripted) "__setattr__" = some (some (.builtin "object.__setattr__")))
    (ha_Scripted : PySem.W.findIn K (.ref C_Scripted) "__class__" = some (some (.builtin "object.__class__")))
    (hn_Scripted : PySem.W.specialIn K (.builtin "object.__class__") "__get__" = some (some (.builtin "getset_descriptor.__get__")))
    (ht_Scripted : PySem.W.takesIn K (.builtin "object.__class__") = some true)
    (hm_Scripted : PySem.W.mroIn K C_Scripted (.type "object") = some true)
    (na_Scripted_s1_script : PySem.W.findIn K (.ref C_Scripted) "s1_script" = some none)
    (na_Scripted_s1_place : PySem.W.findIn K (.ref C_Scripted) "s1_place" = some none)
    (q_Draws : PySem.W.nsIn K mainGlobals "Draws" = some (some (.ref C_Draws)))
    (pg_Draws : PySem.W.plainGet K C_Draws Str.empty = true)
    (hd_Draws : PySem.W.hasDictIn K C_Draws = true)
    (po_Draws : PySem.W.plainOver K C_Draws = true)
    (sa_Draws : PySem.W.findIn K (.ref C_Draws) "__setattr__" = some (some (.builtin "object.__setattr__")))
    (ha_Draws : PySem.W.findIn K (.ref C_Draws) "__class__" = some (some (.builtin "object.__class__")))
    (hn_Draws : PySem.W.specialIn K (.builtin "object.__class__") "__get__" = some (some (.builtin "getset_descriptor.__get__")))
    (ht_Draws : PySem.W.takesIn K (.builtin "object.__class__") = some true)
    (hm_Draws : PySem.W.mroIn K C_Draws (.type "object") = some true)
    (na_Draws_s5_source : PySem.W.findIn K (.ref C_Draws) "s5_source" = some none)
    (na_Draws_s5_used : PySem.W.findIn K (.ref C_Draws) "s5_used" = some none)
    (vf_Scripted_KIND : PySem.W.findIn K (.ref C_Scripted) "KIND" = some (some (.str "script" vt_Scripted_KIND)))
    (vs_Scripted_KIND : PySem.W.specialIn K (.str "script" vt_Scripted_KIND) "__get__" = some none)
    (z_all : PySem.W.nsIn K mainGlobals "all" = some none)
    (z_bool : PySem.W.nsIn K mainGlobals "bool" = some none)
    (z_enumerate : PySem.W.nsIn K mainGlobals "enumerate" = some none)
    (z_int : PySem.W.nsIn K mainGlobals "int" = some none)
    (z_isinstance : PySem.W.nsIn K mainGlobals "isinstance" = some none)
    (z_len : PySem.W.nsIn K mainGlobals "len" = some none)
    (z_list : PySem.W.nsIn K mainGlobals "list" = some none)
    (z_range : PySem.W.nsIn K mainGlobals "range" = some none)
    (z_repr : PySem.W.nsIn K mainGlobals "repr" = some none)
    (z_set : PySem.W.nsIn K mainGlobals "set" = some none)
    (z_sorted : PySem.W.nsIn K mainGlobals "sorted" = some none)
    (z_str : PySem.W.nsIn K mainGlobals "str" = some none)
    (z_sum : PySem.W.nsIn K mainGlobals "sum" = some none)
    (z_tuple : PySem.W.nsIn K mainGlobals "tuple" = some none)
    (ob_kt_Source_int : PySem.W.kitOne K (.ref C_Source) (.type "int") = some false)
    (ob_kt_Scripted_int : PySem.W.kitOne K (.ref C_Scripted) (.type "int") = some false)
    (ob_kt_Draws_int : PySem.W.kitOne K (.ref C_Draws) (.type "int") = some false)
    (ob_kt_Source_bool : PySem.W.kitOne K (.ref C_Source) (.type "bool") = some false)
    (ob_kt_Scripted_bool : PySem.W.kitOne K (.ref C_Scripted) (.type "bool") = some false)
    (ob_kt_Draws_bool : PySem.W.kitOne K (.ref C_Draws) (.type "bool") = some false)
    (ob_kt_NoneType_Source : PySem.W.kitOne K (.type "NoneType") (.ref C_Source) = some false)
    (ob_kt_bool_Source : PySem.W.kitOne K (.type "bool") (.ref C_Source) = some false)
    (ob_kt_int_Source : PySem.W.kitOne K (.type "int") (.ref C_Source) = some false)
    (ob_kt_str_Source : PySem.W.kitOne K (.type "str") (.ref C_Source) = some false)
    (ob_kt_tuple_Source : PySem.W.kitOne K (.type "tuple") (.ref C_Source) = some false)
    (ob_kt_list_Source : PySem.W.kitOne K (.type "list") (.ref C_Source) = some false)
    (ob_kt_dict_Source : PySem.W.kitOne K (.type "dict") (.ref C_Source) = some false)
    (ob_kt_Scripted_Source : PySem.W.kitOne K (.ref C_Scripted) (.ref C_Source) = some true)
    (ob_kt_Draws_Source : PySem.W.kitOne K (.ref C_Draws) (.ref C_Source) = some false)
    (ob_kt_Source_tuple : PySem.W.kitOne K (.ref C_Source) (.type "tuple") = some false)
    (ob_kt_Scripted_tuple : PySem.W.kitOne K (.ref C_Scripted) (.type "tuple") = some false)
    (ob_kt_Draws_tuple : PySem.W.kitOne K (.ref C_Draws) (.type "tuple") = some false)
    (ob_kt_Source_str : PySem.W.kitOne K (.ref C_Source) (.type "str") = some false)
    (ob_kt_Scripted_str : PySem.W.kitOne K (.ref C_Scripted) (.type "str") = some false)
    (ob_kt_Draws_str : PySem.W.kitOne K (.ref C_Draws) (.type "str") = some false)
    (ob_kt_NoneType_Draws : PySem.W.kitOne K (.type "NoneType") (.ref C_Draws) = some false)
    (ob_kt_bool_Draws : PySem.W.kitOne K (.type "bool") (.ref C_Draws) = some false)
    (ob_kt_int_Draws : PySem.W.kitOne K (.type "int") (.ref C_Draws) = some false)
    (ob_kt_str_Draws : PySem.W.kitOne K (.type "str") (.ref C_Draws) = some false)
    (ob_kt_tuple_Draws : PySem.W.kitOne K (.type "tuple") (.ref C_Draws) = some false)
    (ob_kt_list_Draws : PySem.W.kitOne K (.type "list") (.ref C_Draws) = some false)
    (ob_kt_dict_Draws : PySem.W.kitOne K (.type "dict") (.ref C_Draws) = some false)
    (ob_kt_Source_Draws : PySem.W.kitOne K (.ref C_Source) (.ref C_Draws) = some false)
    (ob_kt_Scripted_Draws : PySem.W.kitOne K (.ref C_Scripted) (.ref C_Draws) = some false)
    (ob_kt_Source_list : PySem.W.kitOne K (.ref C_Source) (.type "list") = some false)
    (ob_kt_Scripted_list : PySem.W.kitOne K (.ref C_Scripted) (.type "list") = some false)
    (ob_kt_Draws_list : PySem.W.kitOne K (.ref C_Draws) (.type "list") = some false)
    : Txt K mg w C_Source C_Scripted C_Draws R_SIZES :=
  { d_is_integer := ⟨f_is_integer, _, ⟨⟨⟨oc_is_integer, od_is_integer, .none, kV_is_integer, dc_is_integer, pm_is_integer, an_is_integer, cd_is_integer, ct_is_integer, sl_is_integer, rfl, l_is_integer, c_is_integer⟩⟩, PySem.W.mg_of X G a_is_integer, k_is_integer⟩, C8.Fun.binds (x := "is_integer") (qual := "is_integer") (st := s_is_integer) (f := f_is_integer) ⟨⟨oc_is_integer, od_is_integer, .none, kV_is_integer, dc_is_integer, pm_is_integer, an_is_integer, cd_is_integer, ct_is_integer, sl_is_integer, rfl, l_is_integer, c_is_integer⟩⟩ rfl (fun _ _ _ _ _ _ us hl => match us, hl with | [_], _ => rfl)⟩,
    d_is_word := ⟨f_is_word, _, ⟨⟨⟨oc_is_word, od_is_word, .none, kV_is_word, dc_is_word, pm_is_word, an_is_word, cd_is_word, ct_is_word, sl_is_word, rfl, l_is_word, c_is_word⟩⟩, PySem.W.mg_of X G a_is_word, k_is_word⟩, C8.Fun.binds (x := "is_word") (qual := "is_word") (st := s_is_word) (f := f_is_word) ⟨⟨oc_is_word, od_is_word, .none, kV_is_word, dc_is_word, pm_is_word, an_is_word, cd_is_word, ct_is_word, sl_is_word, rfl, l_is_word, c_is_word⟩⟩ rfl (fun _ _ _ _ _ _ us hl => match us, hl with | [_], _ => rfl)⟩,
    d_need_source := ⟨f_need_source, _, ⟨⟨⟨oc_need_source, od_need_source, .none, kV_need_source, dc_need_source, pm_need_source, an_need_source, cd_need_source, ct_need_source, sl_need_source, rfl, l_need_source, c_need_source⟩⟩, PySem.W.mg_of X G a_need_source, k_need_source⟩, C8.Fun.binds (x := "need_source") (qual := "need_source") (st := s_need_source) (f := f_need_source) ⟨⟨oc_need_source, od_need_source, .none, kV_need_source, dc_need_source, pm_need_source, an_need_source, cd_need_source, ct_need_source, sl_need_source, rfl, l_need_source, c_need_source⟩⟩ rfl (fun _ _ _ _ _ _ us hl => match us, hl with | [_], _ => rfl)⟩,
    d_is_script := ⟨f_is_script, _, ⟨⟨⟨oc_is_script, od_is_script, .none, kV_is_script, dc_is_script, pm_is_script, an_is_script, cd_is_script, ct_is_script, sl_is_script, rfl, l_is_script, c_is_script⟩⟩, PySem.W.mg_of X G a_is_script, k_is_script⟩, C8.Fun.binds (x := "is_script") (qual := "is_script") (st := s_is_script) (f := f_is_script) ⟨⟨oc_is_script, od_is_script, .none, kV_is_script, dc_is_script, pm_is_script, an_is_script, cd_is_script, ct_is_script, sl_is_script, rfl, l_is_script, c_is_script⟩⟩ rfl (fun _ _ _ _ _ _ us hl => match us, hl with | [_], _ => rfl)⟩,
    d_need_script_state := ⟨f_need_script_state, _, ⟨⟨⟨oc_need_script_state, od_need_script_state, .none, kV_need_script_state, dc_need_script_state, pm_need_script_state, an_need_script_state, cd_need_script_state, ct_need_script_state, sl_need_script_state, rfl, l_need_script_state, c_need_script_state⟩⟩, PySem.W.mg_of X G a_need_script_state, k_need_script_state⟩, C8.Fun.binds (x := "need_script_state") (qual := "need_script_state") (st := s_need_script_state) (f := f_need_script_state) ⟨⟨oc_need_script_state, od_need_script_state, .none, kV_need_script_state, dc_need_script_state, pm_need_script_state, an_need_script_state, cd_need_script_state, ct_need_script_state, sl_need_script_state, rfl, l_need_script_state, c_need_script_state⟩⟩ rfl (fun _ _ _ _ _ _ us hl => match us, hl with | [_], _ => rfl)⟩,
    d_script_after := ⟨f_script_after, _, ⟨⟨⟨oc_script_after, od_script_after, .none, kV_script_after, dc_script_after, pm_script_after, an_script_after, cd_script_after, ct_script_after, sl_script_after, rfl, l_script_after, c_script_after⟩⟩, PySem.W.mg_of X G a_script_after, k_script_after⟩, C8.Fun.binds (x := "script_after") (qual := "script_after") (st := s_script_after) (f := f_script_after) ⟨⟨oc_script_after, od_script_after, .none, kV_script_after, dc_script_after, pm_script_after, an_script_after, cd_script_after, ct_script_after, sl_script_after, rfl, l_script_after, c_script_after⟩⟩ rfl (fun _ _ _ _ _ _ us hl => match us, hl with | [_, _, _], _ => rfl)⟩,
    d_Scripted___init__ := ⟨f_Scripted___init__, _, ⟨mk_Scripted___init__, a_Scripted___init__, i_Scripted___init__, kc_Scripted___init__⟩, ⟨⟨oc_Scripted___init__, od_Scripted___init__, .ref D_Scripted___init__, kV_Scripted___init__, dc_Scripted___init__, pm_Scripted___init__, an_Scripted___init__, cd_Scripted___init__, ct_Scripted___init__, sl_Scripted___init__, rfl, l_Scripted___init__, c_Scripted___init__⟩⟩, (by obtain ⟨ds, hv, hb⟩ := FunD.binds1 (⟨⟨oc_Scripted___init__, od_Scripted___init__, .ref D_Scripted___init__, kV_Scripted___init__, dc_Scripted___init__, pm_Scripted___init__, an_Scripted___init__, cd_Scripted___init__, ct_Scripted___init__, sl_Scripted___init__, rfl, l_Scripted___init__, c_Scripted___init__, .inr ⟨by simp, D_Scripted___init__, _, [.int 0 dT_Scripted___init___0], _, rfl, dl_Scripted___init__, rfl, (.cons ⟨_, rfl⟩ .nil)⟩, .inl rfl⟩, k_Scripted___init__⟩ : FunD K "__init__" "Scripted.__init__" (C8.fnArgs s_Scripted___init__) (C8.fnBody s_Scripted___init__) (C8.fnScope s_Scripted___init__) [.int 0] [] f_Scripted___init__ _) (ps := ["self", "script", "place"]) 3 1 (by simp) rfl (fun _ _ _ _ _ _ _ us its hu hi => match us, its, hu, hi with | [_, _, _], [_], _, _ => ⟨_, rfl, rfl⟩); cases hv; exact hb), FunD.binds1 (⟨⟨oc_Scripted___init__, od_Scripted___init__, .ref D_Scripted___init__, kV_Scripted___init__, dc_Scripted___init__, pm_Scripted___init__, an_Scripted___init__, cd_Scripted___init__, ct_Scripted___init__, sl_Scripted___init__, rfl, l_Scripted___init__, c_Scripted___init__, .inr ⟨by simp, D_Scripted___init__, _, [.int 0 dT_Scripted___init___0], _, rfl, dl_Scripted___init__, rfl, (.cons ⟨_, rfl⟩ .nil)⟩, .inl rfl⟩, k_Scripted___init__⟩ : FunD K "__init__" "Scripted.__init__" (C8.fnArgs s_Scripted___init__) (C8.fnBody s_Scripted___init__) (C8.fnScope s_Scripted___init__) [.int 0] [] f_Scripted___init__ _) (ps := ["self", "script", "place"]) 2 0 (by simp) rfl (fun _ _ _ _ _ _ _ us its hu hi => match us, its, hu, hi with | [_, _], [_], _, _ => ⟨_, rfl, rfl⟩)⟩,
    d_Scripted_next_word := ⟨f_Scripted_next_word, _, ⟨a_Scripted_next_word, i_Scripted_next_word, k_Scripted_next_word⟩, ⟨⟨oc_Scripted_next_word, od_Scripted_next_word, .none, kV_Scripted_next_word, dc_Scripted_next_word, pm_Scripted_next_word, an_Scripted_next_word, cd_Scripted_next_word, ct_Scripted_next_word, sl_Scripted_next_word, rfl, l_Scripted_next_word, c_Scripted_next_word⟩⟩, C8.Fun.binds (x := "next_word") (qual := "Scripted.next_word") (st := s_Scripted_next_word) (f := f_Scripted_next_word) ⟨⟨oc_Scripted_next_word, od_Scripted_next_word, .none, kV_Scripted_next_word, dc_Scripted_next_word, pm_Scripted_next_word, an_Scripted_next_word, cd_Scripted_next_word, ct_Scripted_next_word, sl_Scripted_next_word, rfl, l_Scripted_next_word, c_Scripted_next_word⟩⟩ rfl (fun _ _ _ _ _ _ us hl => match us, hl with | [_], _ => rfl)⟩,
    d_Scripted_left := ⟨p_Scripted_left, f_Scripted_left, _, ⟨a_Scripted_left, g_Scripted_left, t_Scripted_left, _, r_Scripted_left⟩, ⟨⟨oc_Scripted_left, od_Scripted_left, .none, kV_Scripted_left, dc_Scripted_left, pm_Scripted_left, an_Scripted_left, cd_Scripted_left, ct_Scripted_left, sl_Scripted_left, rfl, l_Scripted_left, c_Scripted_left⟩⟩, C8.Fun.binds (x := "left") (qual := "Scripted.left") (st := s_Scripted_left) (f := f_Scripted_left) ⟨⟨oc_Scripted_left, od_Scripted_left, .none, kV_Scripted_left, dc_Scripted_left, pm_Scripted_left, an_Scripted_left, cd_Scripted_left, ct_Scripted_left, sl_Scripted_left, rfl, l_Scripted_left, c_Scripted_left⟩⟩ rfl (fun _ _ _ _ _ _ us hl => match us, hl with | [_], _ => rfl)⟩,
    d_s5_need := ⟨f_s5_need, _, ⟨⟨⟨oc_s5_need, od_s5_need, .none, kV_s5_need, dc_s5_need, pm_s5_need, an_s5_need, cd_s5_need, ct_s5_need, sl_s5_need, rfl, l_s5_need, c_s5_need⟩⟩, PySem.W.mg_of X G a_s5_need, k_s5_need⟩, C8.Fun.binds (x := "s5_need") (qual := "s5_need") (st := s_s5_need) (f := f_s5_need) ⟨⟨oc_s5_need, od_s5_need, .none, kV_s5_need, dc_s5_need, pm_s5_need, an_s5_need, cd_s5_need, ct_s5_need, sl_s5_need, rfl, l_s5_need, c_s5_need⟩⟩ rfl (fun _ _ _ _ _ _ us hl => match us, hl with | [_, _, _], _ => rfl)⟩,
    d_s5_digits := ⟨f_s5_digits, _, ⟨⟨⟨oc_s5_digits, od_s5_digits, .none, kV_s5_digits, dc_s5_digits, pm_s5_digits, an_s5_digits, cd_s5_digits, ct_s5_digits, sl_s5_digits, rfl, l_s5_digits, c_s5_digits⟩⟩, PySem.W.mg_of X G a_s5_digits, k_s5_digits⟩, C8.Fun.binds (x := "s5_digits") (qual := "s5_digits") (st := s_s5_digits) (f := f_s5_digits) ⟨⟨oc_s5_digits, od_s5_digits, .none, kV_s5_digits, dc_s5_digits, pm_s5_digits, an_s5_digits, cd_s5_digits, ct_s5_digits, sl_s5_digits, rfl, l_s5_digits, c_s5_digits⟩⟩ rfl (fun _ _ _ _ _ _ us hl => match us, hl with | [_], _ => rfl)⟩,
    d_words_for := ⟨f_words_for, _, ⟨⟨⟨oc_words_for, od_words_for, .none, kV_words_for, dc_words_for, pm_words_for, an_words_for, cd_words_for, ct_words_for, sl_words_for, rfl, l_words_for, c_words_for⟩⟩, PySem.W.mg_of X G a_words_for, k_words_for⟩, C8.Fun.binds (x := "words_for") (qual := "words_for") (st := s_words_for) (f := f_words_for) ⟨⟨oc_words_for, od_words_for, .none, kV_words_for, dc_words_for, pm_words_for, an_words_for, cd_words_for, ct_words_for, sl_words_for, rfl, l_words_for, c_words_for⟩⟩ rfl (fun _ _ _ _ _ _ us hl => match us, hl with | [_], _ => rfl)⟩,
    d_need_step := ⟨f_need_step, _, ⟨⟨⟨oc_need_step, od_need_step, .none, kV_need_step, dc_need_step, pm_need_step, an_need_step, cd_need_step, ct_need_step, sl_need_step, rfl, l_need_step, c_need_step⟩⟩, PySem.W.mg_of X G a_need_step, k_need_step⟩, C8.Fun.binds (x := "need_step") (qual := "need_step") (st := s_need_step) (f := f_need_step) ⟨⟨oc_need_step, od_need_step, .none, kV_need_step, dc_need_step, pm_need_step, an_need_step, cd_need_step, ct_need_step, sl_need_step, rfl, l_need_step, c_need_step⟩⟩ rfl (fun _ _ _ _ _ _ us hl => match us, hl with | [_], _ => rfl)⟩,
    d_Draws___init__ := ⟨f_Draws___init__, _, ⟨mk_Draws___init__, a_Draws___init__, i_Draws___init__, kc_Draws___init__⟩, ⟨⟨oc_Draws___init__, od_Draws___init__, .none, kV_Draws___init__, dc_Draws___init__, pm_Draws___init__, an_Draws___init__, cd_Draws___init__, ct_Draws___init__, sl_Draws___init__, rfl, l_Draws___init__, c_Draws___init__⟩⟩, C8.Fun.binds (x := "__init__") (qual := "Draws.__init__") (st := s_Draws___init__) (f := f_Draws___init__) ⟨⟨oc_Draws___init__, od_Draws___init__, .none, kV_Draws___init__, dc_Draws___init__, pm_Draws___init__, an_Draws___init__, cd_Draws___init__, ct_Draws___init__, sl_Draws___init__, rfl, l_Draws___init__, c_Draws___init__⟩⟩ rfl (fun _ _ _ _ _ _ us hl => match us, hl with | [_, _], _ => rfl)⟩,
    d_Draws_s5_word := ⟨f_Draws_s5_word, _, ⟨a_Draws_s5_word, i_Draws_s5_word, k_Draws_s5_word⟩, ⟨⟨oc_Draws_s5_word, od_Draws_s5_word, .none, kV_Draws_s5_word, dc_Draws_s5_word, pm_Draws_s5_word, an_Draws_s5_word, cd_Draws_s5_word, ct_Draws_s5_word, sl_Draws_s5_word, rfl, l_Draws_s5_word, c_Draws_s5_word⟩⟩, C8.Fun.binds (x := "s5_word") (qual := "Draws.s5_word") (st := s_Draws_s5_word) (f := f_Draws_s5_word) ⟨⟨oc_Draws_s5_word, od_Draws_s5_word, .none, kV_Draws_s5_word, dc_Draws_s5_word, pm_Draws_s5_word, an_Draws_s5_word, cd_Draws_s5_word, ct_Draws_s5_word, sl_Draws_s5_word, rfl, l_Draws_s5_word, c_Draws_s5_word⟩⟩ rfl (fun _ _ _ _ _ _ us hl => match us, hl with | [_], _ => rfl)⟩,
    d_Draws_s5_bits := ⟨f_Draws_s5_bits, _, ⟨a_Draws_s5_bits, i_Draws_s5_bits, k_Draws_s5_bits⟩, ⟨⟨oc_Draws_s5_bits, od_Draws_s5_bits, .none, kV_Draws_s5_bits, dc_Draws_s5_bits, pm_Draws_s5_bits, an_Draws_s5_bits, cd_Draws_s5_bits, ct_Draws_s5_bits, sl_Draws_s5_bits, rfl, l_Draws_s5_bits, c_Draws_s5_bits⟩⟩, C8.Fun.binds (x := "s5_bits") (qual := "Draws.s5_bits") (st := s_Draws_s5_bits) (f := f_Draws_s5_bits) ⟨⟨oc_Draws_s5_bits, od_Draws_s5_bits, .none, kV_Draws_s5_bits, dc_Draws_s5_bits, pm_Draws_s5_bits, an_Draws_s5_bits, cd_Draws_s5_bits, ct_Draws_s5_bits, sl_Draws_s5_bits, rfl, l_Draws_s5_bits, c_Draws_s5_bits⟩⟩ rfl (fun _ _ _ _ _ _ us hl => match us, hl with | [_, _], _ => rfl)⟩,
    d_Draws_s5_below := ⟨f_Draws_s5_below, _, ⟨a_Draws_s5_below, i_Draws_s5_below, k_Draws_s5_below⟩, ⟨⟨oc_Draws_s5_below, od_Draws_s5_below, .none, kV_Draws_s5_below, dc_Draws_s5_below, pm_Draws_s5_below, an_Draws_s5_below, cd_Draws_s5_below, ct_Draws_s5_below, sl_Draws_s5_below, rfl, l_Draws_s5_below, c_Draws_s5_below⟩⟩, C8.Fun.binds (x := "s5_below") (qual := "Draws.s5_below") (st := s_Draws_s5_below) (f := f_Draws_s5_below) ⟨⟨oc_Draws_s5_below, od_Draws_s5_below, .none, kV_Draws_s5_below, dc_Draws_s5_below, pm_Draws_s5_below, an_Draws_s5_below, cd_Draws_s5_below, ct_Draws_s5_below, sl_Draws_s5_below, rfl, l_Draws_s5_below, c_Draws_s5_below⟩⟩ rfl (fun _ _ _ _ _ _ us hl => match us, hl with | [_, _], _ => rfl)⟩,
    d_Draws_below := ⟨f_Draws_below, _, ⟨a_Draws_below, i_Draws_below, k_Draws_below⟩, ⟨⟨oc_Draws_below, od_Draws_below, .none, kV_Draws_below, dc_Draws_below, pm_Draws_below, an_Draws_below, cd_Draws_below, ct_Draws_below, sl_Draws_below, rfl, l_Draws_below, c_Draws_below⟩⟩, C8.Fun.binds (x := "below") (qual := "Draws.below") (st := s_Draws_below) (f := f_Draws_below) ⟨⟨oc_Draws_below, od_Draws_below, .none, kV_Draws_below, dc_Draws_below, pm_Draws_below, an_Draws_below, cd_Draws_below, ct_Draws_below, sl_Draws_below, rfl, l_Draws_below, c_Draws_below⟩⟩ rfl (fun _ _ _ _ _ _ us hl => match us, hl with | [_, _], _ => rfl)⟩,
    d_s5_need_draw := ⟨f_s5_need_draw, _, ⟨⟨⟨oc_s5_need_draw, od_s5_need_draw, .none, kV_s5_need_draw, dc_s5_need_draw, pm_s5_need_draw, an_s5_need_draw, cd_s5_need_draw, ct_s5_need_draw, sl_s5_need_draw, rfl, l_s5_need_draw, c_s5_need_draw⟩⟩, PySem.W.mg_of X G a_s5_need_draw, k_s5_need_draw⟩, C8.Fun.binds (x := "s5_need_draw") (qual := "s5_need_draw") (st := s_s5_need_draw) (f := f_s5_need_draw) ⟨⟨oc_s5_need_draw, od_s5_need_draw, .none, kV_s5_need_draw, dc_s5_need_draw, pm_s5_need_draw, an_s5_need_draw, cd_s5_need_draw, ct_s5_need_draw, sl_s5_need_draw, rfl, l_s5_need_draw, c_s5_need_draw⟩⟩ rfl (fun _ _ _ _ _ _ us hl => match us, hl with | [_], _ => rfl)⟩,
    d_s5_is_integer := ⟨f_s5_is_integer, _, ⟨⟨⟨oc_s5_is_integer, od_s5_is_integer, .none, kV_s5_is_integer, dc_s5_is_integer, pm_s5_is_integer, an_s5_is_integer, cd_s5_is_integer, ct_s5_is_integer, sl_s5_is_integer, rfl, l_s5_is_integer, c_s5_is_integer⟩⟩, PySem.W.mg_of X G a_s5_is_integer, k_s5_is_integer⟩, C8.Fun.binds (x := "s5_is_integer") (qual := "s5_is_integer") (st := s_s5_is_integer) (f := f_s5_is_integer) ⟨⟨oc_s5_is_integer, od_s5_is_integer, .none, kV_s5_is_integer, dc_s5_is_integer, pm_s5_is_integer, an_s5_is_integer, cd_s5_is_integer, ct_s5_is_integer, sl_s5_is_integer, rfl, l_s5_is_integer, c_s5_is_integer⟩⟩ rfl (fun _ _ _ _ _ _ us hl => match us, hl with | [_, _, _], _ => rfl)⟩,
    d_s5_bits_for := ⟨f_s5_bits_for, _, ⟨⟨⟨oc_s5_bits_for, od_s5_bits_for, .none, kV_s5_bits_for, dc_s5_bits_for, pm_s5_bits_for, an_s5_bits_for, cd_s5_bits_for, ct_s5_bits_for, sl_s5_bits_for, rfl, l_s5_bits_for, c_s5_bits_for⟩⟩, PySem.W.mg_of X G a_s5_bits_for, k_s5_bits_for⟩, C8.Fun.binds (x := "s5_bits_for") (qual := "s5_bits_for") (st := s_s5_bits_for) (f := f_s5_bits_for) ⟨⟨oc_s5_bits_for, od_s5_bits_for, .none, kV_s5_bits_for, dc_s5_bits_for, pm_s5_bits_for, an_s5_bits_for, cd_s5_bits_for, ct_s5_bits_for, sl_s5_bits_for, rfl, l_s5_bits_for, c_s5_bits_for⟩⟩ rfl (fun _ _ _ _ _ _ us hl => match us, hl with | [_], _ => rfl)⟩,
    d_s5_number_for := ⟨f_s5_number_for, _, ⟨⟨⟨oc_s5_number_for, od_s5_number_for, .none, kV_s5_number_for, dc_s5_number_for, pm_s5_number_for, an_s5_number_for, cd_s5_number_for, ct_s5_number_for, sl_s5_number_for, rfl, l_s5_number_for, c_s5_number_for⟩⟩, PySem.W.mg_of X G a_s5_number_for, k_s5_number_for⟩, C8.Fun.binds (x := "s5_number_for") (qual := "s5_number_for") (st := s_s5_number_for) (f := f_s5_number_for) ⟨⟨oc_s5_number_for, od_s5_number_for, .none, kV_s5_number_for, dc_s5_number_for, pm_s5_number_for, an_s5_number_for, cd_s5_number_for, ct_s5_number_for, sl_s5_number_for, rfl, l_s5_number_for, c_s5_number_for⟩⟩ rfl (fun _ _ _ _ _ _ us hl => match us, hl with | [_, _], _ => rfl)⟩,
    d_row_for := ⟨f_row_for, _, ⟨⟨⟨oc_row_for, od_row_for, .none, kV_row_for, dc_row_for, pm_row_for, an_row_for, cd_row_for, ct_row_for, sl_row_for, rfl, l_row_for, c_row_for⟩⟩, PySem.W.mg_of X G a_row_for, k_row_for⟩, C8.Fun.binds (x := "row_for") (qual := "row_for") (st := s_row_for) (f := f_row_for) ⟨⟨oc_row_for, od_row_for, .none, kV_row_for, dc_row_for, pm_row_for, an_row_for, cd_row_for, ct_row_for, sl_row_for, rfl, l_row_for, c_row_for⟩⟩ rfl (fun _ _ _ _ _ _ us hl => match us, hl with | [_, _], _ => rfl)⟩,
    d_s6_is_integer := ⟨f_s6_is_integer, _, ⟨⟨⟨oc_s6_is_integer, od_s6_is_integer, .none, kV_s6_is_integer, dc_s6_is_integer, pm_s6_is_integer, an_s6_is_integer, cd_s6_is_integer, ct_s6_is_integer, sl_s6_is_integer, rfl, l_s6_is_integer, c_s6_is_integer⟩⟩, PySem.W.mg_of X G a_s6_is_integer, k_s6_is_integer⟩, C8.Fun.binds (x := "s6_is_integer") (qual := "s6_is_integer") (st := s_s6_is_integer) (f := f_s6_is_integer) ⟨⟨oc_s6_is_integer, od_s6_is_integer, .none, kV_s6_is_integer, dc_s6_is_integer, pm_s6_is_integer, an_s6_is_integer, cd_s6_is_integer, ct_s6_is_integer, sl_s6_is_integer, rfl, l_s6_is_integer, c_s6_is_integer⟩⟩ rfl (fun _ _ _ _ _ _ us hl => match us, hl with | [_, _, _], _ => rfl)⟩,
    d_need_draws := ⟨f_need_draws, _, ⟨⟨⟨oc_need_draws, od_need_draws, .none, kV_need_draws, dc_need_draws, pm_need_draws, an_need_draws, cd_need_draws, ct_need_draws, sl_need_draws, rfl, l_need_draws, c_need_draws⟩⟩, PySem.W.mg_of X G a_need_draws, k_need_draws⟩, C8.Fun.binds (x := "need_draws") (qual := "need_draws") (st := s_need_draws) (f := f_need_draws) ⟨⟨oc_need_draws, od_need_draws, .none, kV_need_draws, dc_need_draws, pm_need_draws, an_need_draws, cd_need_draws, ct_need_draws, sl_need_draws, rfl, l_need_draws, c_need_draws⟩⟩ rfl (fun _ _ _ _ _ _ us hl => match us, hl with | [_], _ => rfl)⟩,
    d_need_things := ⟨f_need_things, _, ⟨⟨⟨oc_need_things, od_need_things, .none, kV_need_things, dc_need_things, pm_need_things, an_need_things, cd_need_things, ct_need_things, sl_need_things, rfl, l_need_things, c_need_things⟩⟩, PySem.W.mg_of X G a_need_things, k_need_things⟩, C8.Fun.binds (x := "need_things") (qual := "need_things") (st := s_need_things) (f := f_need_things) ⟨⟨oc_need_things, od_need_things, .none, kV_need_things, dc_need_things, pm_need_things, an_need_things, cd_need_things, ct_need_things, sl_need_things, rfl, l_need_things, c_need_things⟩⟩ rfl (fun _ _ _ _ _ _ us hl => match us, hl with | [_], _ => rfl)⟩,
    d_need_order := ⟨f_need_order, _, ⟨⟨⟨oc_need_order, od_need_order, .none, kV_need_order, dc_need_order, pm_need_order, an_need_order, cd_need_order, ct_need_order, sl_need_order, rfl, l_need_order, c_need_order⟩⟩, PySem.W.mg_of X G a_need_order, k_need_order⟩, C8.Fun.binds (x := "need_order") (qual := "need_order") (st := s_need_order) (f := f_need_order) ⟨⟨oc_need_order, od_need_order, .none, kV_need_order, dc_need_order, pm_need_order, an_need_order, cd_need_order, ct_need_order, sl_need_order, rfl, l_need_order, c_need_order⟩⟩ rfl (fun _ _ _ _ _ _ us hl => match us, hl with | [_], _ => rfl)⟩,
    d_s6_exchange := ⟨f_s6_exchange, _, ⟨⟨⟨oc_s6_exchange, od_s6_exchange, .none, kV_s6_exchange, dc_s6_exchange, pm_s6_exchange, an_s6_exchange, cd_s6_exchange, ct_s6_exchange, sl_s6_exchange, rfl, l_s6_exchange, c_s6_exchange⟩⟩, PySem.W.mg_of X G a_s6_exchange, k_s6_exchange⟩, C8.Fun.binds (x := "s6_exchange") (qual := "s6_exchange") (st := s_s6_exchange) (f := f_s6_exchange) ⟨⟨oc_s6_exchange, od_s6_exchange, .none, kV_s6_exchange, dc_s6_exchange, pm_s6_exchange, an_s6_exchange, cd_s6_exchange, ct_s6_exchange, sl_s6_exchange, rfl, l_s6_exchange, c_s6_exchange⟩⟩ rfl (fun _ _ _ _ _ _ us hl => match us, hl with | [_, _, _], _ => rfl)⟩,
    d_shuffled := ⟨f_shuffled, _, ⟨⟨⟨oc_shuffled, od_shuffled, .none, kV_shuffled, dc_shuffled, pm_shuffled, an_shuffled, cd_shuffled, ct_shuffled, sl_shuffled, rfl, l_shuffled, c_shuffled⟩⟩, PySem.W.mg_of X G a_shuffled, k_shuffled⟩, C8.Fun.binds (x := "shuffled") (qual := "shuffled") (st := s_shuffled) (f := f_shuffled) ⟨⟨oc_shuffled, od_shuffled, .none, kV_shuffled, dc_shuffled, pm_shuffled, an_shuffled, cd_shuffled, ct_shuffled, sl_shuffled, rfl, l_shuffled, c_shuffled⟩⟩ rfl (fun _ _ _ _ _ _ us hl => match us, hl with | [_, _], _ => rfl)⟩,
    d_row_of := ⟨f_row_of, _, ⟨⟨⟨oc_row_of, od_row_of, .none, kV_row_of, dc_row_of, pm_row_of, an_row_of, cd_row_of, ct_row_of, sl_row_of, rfl, l_row_of, c_row_of⟩⟩, PySem.W.mg_of X G a_row_of, k_row_of⟩, C8.Fun.binds (x := "row_of") (qual := "row_of") (st := s_row_of) (f := f_row_of) ⟨⟨oc_row_of, od_row_of, .none, kV_row_of, dc_row_of, pm_row_of, an_row_of, cd_row_of, ct_row_of, sl_row_of, rfl, l_row_of, c_row_of⟩⟩ rfl (fun _ _ _ _ _ _ us hl => match us, hl with | [_], _ => rfl)⟩,
    d_order_by := ⟨f_order_by, _, ⟨⟨⟨oc_order_by, od_order_by, .none, kV_order_by, dc_order_by, pm_order_by, an_order_by, cd_order_by, ct_order_by, sl_order_by, rfl, l_order_by, c_order_by⟩⟩, PySem.W.mg_of X G a_order_by, k_order_by⟩, C8.Fun.binds (x := "order_by") (qual := "order_by") (st := s_order_by) (f := f_order_by) ⟨⟨oc_order_by, od_order_by, .none, kV_order_by, dc_order_by, pm_order_by, an_order_by, cd_order_by, ct_order_by, sl_order_by, rfl, l_order_by, c_order_by⟩⟩ rfl (fun _ _ _ _ _ _ us hl => match us, hl with | [_], _ => rfl)⟩,
    d_script_of := ⟨f_script_of, _, ⟨⟨⟨oc_script_of, od_script_of, .none, kV_script_of, dc_script_of, pm_script_of, an_script_of, cd_script_of, ct_script_of, sl_script_of, rfl, l_script_of, c_script_of⟩⟩, PySem.W.mg_of X G a_script_of, k_script_of⟩, C8.Fun.binds (x := "script_of") (qual := "script_of") (st := s_script_of) (f := f_script_of) ⟨⟨oc_script_of, od_script_of, .none, kV_script_of, dc_script_of, pm_script_of, an_script_of, cd_script_of, ct_script_of, sl_script_of, rfl, l_script_of, c_script_of⟩⟩ rfl (fun _ _ _ _ _ _ us hl => match us, hl with | [_], _ => rfl)⟩,
    d__law_mixed := ⟨f__law_mixed, _, ⟨⟨⟨oc__law_mixed, od__law_mixed, .none, kV__law_mixed, dc__law_mixed, pm__law_mixed, an__law_mixed, cd__law_mixed, ct__law_mixed, sl__law_mixed, rfl, l__law_mixed, c__law_mixed⟩⟩, PySem.W.mg_of X G a__law_mixed, k__law_mixed⟩, C8.Fun.binds (x := "_law_mixed") (qual := "_law_mixed") (st := s__law_mixed) (f := f__law_mixed) ⟨⟨oc__law_mixed, od__law_mixed, .none, kV__law_mixed, dc__law_mixed, pm__law_mixed, an__law_mixed, cd__law_mixed, ct__law_mixed, sl__law_mixed, rfl, l__law_mixed, c__law_mixed⟩⟩ rfl (fun _ _ _ _ _ _ us hl => match us, hl with | [_, _], _ => rfl)⟩,
    d__law_draw := ⟨f__law_draw, _, ⟨⟨⟨oc__law_draw, od__law_draw, .none, kV__law_draw, dc__law_draw, pm__law_draw, an__law_draw, cd__law_draw, ct__law_draw, sl__law_draw, rfl, l__law_draw, c__law_draw⟩⟩, PySem.W.mg_of X G a__law_draw, k__law_draw⟩, C8.Fun.binds (x := "_law_draw") (qual := "_law_draw") (st := s__law_draw) (f := f__law_draw) ⟨⟨oc__law_draw, od__law_draw, .none, kV__law_draw, dc__law_draw, pm__law_draw, an__law_draw, cd__law_draw, ct__law_draw, sl__law_draw, rfl, l__law_draw, c__law_draw⟩⟩ rfl (fun _ _ _ _ _ _ us hl => match us, hl with | [_, _], _ => rfl)⟩,
    d__law_digit := ⟨f__law_digit, _, ⟨⟨⟨oc__law_digit, od__law_digit, .none, kV__law_digit, dc__law_digit, pm__law_digit, an__law_digit, cd__law_digit, ct__law_digit, sl__law_digit, rfl, l__law_digit, c__law_digit⟩⟩, PySem.W.mg_of X G a__law_digit, k__law_digit⟩, C8.Fun.binds (x := "_law_digit") (qual := "_law_digit") (st := s__law_digit) (f := f__law_digit) ⟨⟨oc__law_digit, od__law_digit, .none, kV__law_digit, dc__law_digit, pm__law_digit, an__law_digit, cd__law_digit, ct__law_digit, sl__law_digit, rfl, l__law_digit, c__law_digit⟩⟩ rfl (fun _ _ _ _ _ _ us hl => match us, hl with | [_, _], _ => rfl)⟩,
    d__law_binary := ⟨f__law_binary, _, ⟨⟨⟨oc__law_binary, od__law_binary, .none, kV__law_binary, dc__law_binary, pm__law_binary, an__law_binary, cd__law_binary, ct__law_binary, sl__law_binary, rfl, l__law_binary, c__law_binary⟩⟩, PySem.W.mg_of X G a__law_binary, k__law_binary⟩, C8.Fun.binds (x := "_law_binary") (qual := "_law_binary") (st := s__law_binary) (f := f__law_binary) ⟨⟨oc__law_binary, od__law_binary, .none, kV__law_binary, dc__law_binary, pm__law_binary, an__law_binary, cd__law_binary, ct__law_binary, sl__law_binary, rfl, l__law_binary, c__law_binary⟩⟩ rfl (fun _ _ _ _ _ _ us hl => match us, hl with | [_], _ => rfl)⟩,
    d__law_number := ⟨f__law_number, _, ⟨⟨⟨oc__law_number, od__law_number, .none, kV__law_number, dc__law_number, pm__law_number, an__law_number, cd__law_number, ct__law_number, sl__law_number, rfl, l__law_number, c__law_number⟩⟩, PySem.W.mg_of X G a__law_number, k__law_number⟩, C8.Fun.binds (x := "_law_number") (qual := "_law_number") (st := s__law_number) (f := f__law_number) ⟨⟨oc__law_number, od__law_number, .none, kV__law_number, dc__law_number, pm__law_number, an__law_number, cd__law_number, ct__law_number, sl__law_number, rfl, l__law_number, c__law_number⟩⟩ rfl (fun _ _ _ _ _ _ us hl => match us, hl with | [_, _], _ => rfl)⟩,
    d__law_row := ⟨f__law_row, _, ⟨⟨⟨oc__law_row, od__law_row, .none, kV__law_row, dc__law_row, pm__law_row, an__law_row, cd__law_row, ct__law_row, sl__law_row, rfl, l__law_row, c__law_row⟩⟩, PySem.W.mg_of X G a__law_row, k__law_row⟩, C8.Fun.binds (x := "_law_row") (qual := "_law_row") (st := s__law_row) (f := f__law_row) ⟨⟨oc__law_row, od__law_row, .none, kV__law_row, dc__law_row, pm__law_row, an__law_row, cd__law_row, ct__law_row, sl__law_row, rfl, l__law_row, c__law_row⟩⟩ rfl (fun _ _ _ _ _ _ us hl => match us, hl with | [_, _, _], _ => rfl)⟩,
    d__law_script := ⟨f__law_script, _, ⟨⟨⟨oc__law_script, od__law_script, .none, kV__law_script, dc__law_script, pm__law_script, an__law_script, cd__law_script, ct__law_script, sl__law_script, rfl, l__law_script, c__law_script⟩⟩, PySem.W.mg_of X G a__law_script, k__law_script⟩, C8.Fun.binds (x := "_law_script") (qual := "_law_script") (st := s__law_script) (f := f__law_script) ⟨⟨oc__law_script, od__law_script, .none, kV__law_script, dc__law_script, pm__law_script, an__law_script, cd__law_script, ct__law_script, sl__law_script, rfl, l__law_script, c__law_script⟩⟩ rfl (fun _ _ _ _ _ _ us hl => match us, hl with | [_, _], _ => rfl)⟩,
    d__law_moved := ⟨f__law_moved, _, ⟨⟨⟨oc__law_moved, od__law_moved, .none, kV__law_moved, dc__law_moved, pm__law_moved, an__law_moved, cd__law_moved, ct__law_moved, sl__law_moved, rfl, l__law_moved, c__law_moved⟩⟩, PySem.W.mg_of X G a__law_moved, k__law_moved⟩, C8.Fun.binds (x := "_law_moved") (qual := "_law_moved") (st := s__law_moved) (f := f__law_moved) ⟨⟨oc__law_moved, od__law_moved, .none, kV__law_moved, dc__law_moved, pm__law_moved, an__law_moved, cd__law_moved, ct__law_moved, sl__law_moved, rfl, l__law_moved, c__law_moved⟩⟩ rfl (fun _ _ _ _ _ _ us hl => match us, hl with | [_, _], _ => rfl)⟩,
    d__law_shuffle_right := ⟨f__law_shuffle_right, _, ⟨⟨⟨oc__law_shuffle_right, od__law_shuffle_right, .none, kV__law_shuffle_right, dc__law_shuffle_right, pm__law_shuffle_right, an__law_shuffle_right, cd__law_shuffle_right, ct__law_shuffle_right, sl__law_shuffle_right, rfl, l__law_shuffle_right, c__law_shuffle_right⟩⟩, PySem.W.mg_of X G a__law_shuffle_right, k__law_shuffle_right⟩, C8.Fun.binds (x := "_law_shuffle_right") (qual := "_law_shuffle_right") (st := s__law_shuffle_right) (f := f__law_shuffle_right) ⟨⟨oc__law_shuffle_right, od__law_shuffle_right, .none, kV__law_shuffle_right, dc__law_shuffle_right, pm__law_shuffle_right, an__law_shuffle_right, cd__law_shuffle_right, ct__law_shuffle_right, sl__law_shuffle_right, rfl, l__law_shuffle_right, c__law_shuffle_right⟩⟩ rfl (fun _ _ _ _ _ _ us hl => match us, hl with | [_], _ => rfl)⟩,
    d__law_inverse_right := ⟨f__law_inverse_right, _, ⟨⟨⟨oc__law_inverse_right, od__law_inverse_right, .none, kV__law_inverse_right, dc__law_inverse_right, pm__law_inverse_right, an__law_inverse_right, cd__law_inverse_right, ct__law_inverse_right, sl__law_inverse_right, rfl, l__law_inverse_right, c__law_inverse_right⟩⟩, PySem.W.mg_of X G a__law_inverse_right, k__law_inverse_right⟩, C8.Fun.binds (x := "_law_inverse_right") (qual := "_law_inverse_right") (st := s__law_inverse_right) (f := f__law_inverse_right) ⟨⟨oc__law_inverse_right, od__law_inverse_right, .none, kV__law_inverse_right, dc__law_inverse_right, pm__law_inverse_right, an__law_inverse_right, cd__law_inverse_right, ct__law_inverse_right, sl__law_inverse_right, rfl, l__law_inverse_right, c__law_inverse_right⟩⟩ rfl (fun _ _ _ _ _ _ us hl => match us, hl with | [_], _ => rfl)⟩,
    d__law_all_right := ⟨f__law_all_right, _, ⟨⟨⟨oc__law_all_right, od__law_all_right, .none, kV__law_all_right, dc__law_all_right, pm__law_all_right, an__law_all_right, cd__law_all_right, ct__law_all_right, sl__law_all_right, rfl, l__law_all_right, c__law_all_right⟩⟩, PySem.W.mg_of X G a__law_all_right, k__law_all_right⟩, C8.Fun.binds (x := "_law_all_right") (qual := "_law_all_right") (st := s__law_all_right) (f := f__law_all_right) ⟨⟨oc__law_all_right, od__law_all_right, .none, kV__law_all_right, dc__law_all_right, pm__law_all_right, an__law_all_right, cd__law_all_right, ct__law_all_right, sl__law_all_right, rfl, l__law_all_right, c__law_all_right⟩⟩ rfl (fun _ _ _ _ _ _ us hl => match us, hl with | [], _ => rfl)⟩,
    d_law := ⟨f_law, _, ⟨⟨⟨oc_law, od_law, .none, kV_law, dc_law, pm_law, an_law, cd_law, ct_law, sl_law, rfl, l_law, c_law⟩⟩, PySem.W.mg_of X G a_law, k_law⟩, C8.Fun.binds (x := "law") (qual := "law") (st := s_law) (f := f_law) ⟨⟨oc_law, od_law, .none, kV_law, dc_law, pm_law, an_law, cd_law, ct_law, sl_law, rfl, l_law, c_law⟩⟩ rfl (fun _ _ _ _ _ _ us hl => match us, hl with | [_], _ => rfl), fun s v => .of_eq rfl⟩,
    c_WORDS := ⟨_, PySem.W.mg_of X G e_WORDS, _, rfl⟩,
    c_MOST_SCRIPT := ⟨_, PySem.W.mg_of X G e_MOST_SCRIPT, _, rfl⟩,
    c_WORD_BITS := ⟨_, PySem.W.mg_of X G e_WORD_BITS, _, rfl⟩,
    c_MOST_BITS := ⟨_, PySem.W.mg_of X G e_MOST_BITS, _, rfl⟩,
    c_MOST_BOUND := ⟨_, PySem.W.mg_of X G e_MOST_BOUND, _, rfl⟩,
    c_SIZES := ⟨_, PySem.W.mg_of X G e_SIZES, rfl⟩,
    s_SIZES := ⟨_, g_SIZES, rv_SIZES, fun _ => Cd.DicO.mk (kvs := [(Sum.inr "bits", V.int 2), (Sum.inr "below", V.int 2), (Sum.inr "between", V.int 3), (Sum.inr "choice", V.int 2), (Sum.inr "coin", V.int 3), (Sum.inr "fraction", V.int 2)]) (.cons rv_SIZES_0 ⟨_, rfl⟩ (.cons rv_SIZES_1 ⟨_, rfl⟩ (.cons rv_SIZES_2 ⟨_, rfl⟩ (.cons rv_SIZES_3 ⟨_, rfl⟩ (.cons rv_SIZES_4 ⟨_, rfl⟩ (.cons rv_SIZES_5 ⟨_, rfl⟩ .nil)))))) (by decide +kernel)⟩,
    c_MOST_ITEMS := ⟨_, PySem.W.mg_of X G e_MOST_ITEMS, _, rfl⟩,
    k_Source := ⟨_, PySem.W.mg_of X G q_Source, rfl⟩,
    cl_Source := ⟨pg_Source, hd_Source, po_Source, sa_Source⟩,
    is_Source := ⟨⟨pg_Source, hd_Source, po_Source, sa_Source⟩, ha_Source, hn_Source, ht_Source, hm_Source, Rd.kit_self K C_Source⟩,
    k_Scripted := ⟨_, PySem.W.mg_of X G q_Scripted, rfl⟩,
    cl_Scripted := ⟨pg_Scripted, hd_Scripted, po_Scripted, sa_Scripted⟩,
    is_Scripted := ⟨⟨pg_Scripted, hd_Scripted, po_Scripted, sa_Scripted⟩, ha_Scripted, hn_Scripted, ht_Scripted, hm_Scripted, Rd.kit_self K C_Scripted⟩,
    n_Scripted_s1_script := na_Scripted_s1_script,
    n_Scripted_s1_place := na_Scripted_s1_place,
    k_Draws := ⟨_, PySem.W.mg_of X G q_Draws, rfl⟩,
    cl_Draws := ⟨pg_Draws, hd_Draws, po_Draws, sa_Draws⟩,
    is_Draws := ⟨⟨pg_Draws, hd_Draws, po_Draws, sa_Draws⟩, ha_Draws, hn_Draws, ht_Draws, hm_Draws, Rd.kit_self K C_Draws⟩,
    n_Draws_s5_source := na_Draws_s5_source,
    n_Draws_s5_used := na_Draws_s5_used,
    v_Scripted_KIND := ⟨⟨_, vf_Scripted_KIND, vs_Scripted_KIND, by first | rfl | decide +kernel, ⟨_, rfl⟩⟩, by decide +kernel⟩,
    b_all := PySem.W.mg_none_of X G z_all,
    b_bool := PySem.W.mg_none_of X G z_bool,
    b_enumerate := PySem.W.mg_none_of X G z_enumerate,
    b_int := PySem.W.mg_none_of X G z_int,
    b_isinstance := PySem.W.mg_none_of X G z_isinstance,
    b_len := PySem.W.mg_none_of X G z_len,
    b_list := PySem.W.mg_none_of X G z_list,
    b_range := PySem.W.mg_none_of X G z_range,
    b_repr := PySem.W.mg_none_of X G z_repr,
    b_set := PySem.W.mg_none_of X G z_set,
    b_sorted := PySem.W.mg_none_of X G z_sorted,
    b_str := PySem.W.mg_none_of X G z_str,
    b_sum := PySem.W.mg_none_of X G z_sum,
    b_tuple := PySem.W.mg_none_of X G z_tuple,
    kt_Source_int := ob_kt_Source_int,
    kt_Scripted_int := ob_kt_Scripted_int,
    kt_Draws_int := ob_kt_Draws_int,
    kt_Source_bool := ob_kt_Source_bool,
    kt_Scripted_bool := ob_kt_Scripted_bool,
    kt_Draws_bool := ob_kt_Draws_bool,
    kt_NoneType_Source := ob_kt_NoneType_Source,
    kt_bool_Source := ob_kt_bool_Source,
    kt_int_Source := ob_kt_int_Source,
    kt_str_Source := ob_kt_str_Source,
    kt_tuple_Source := ob_kt_tuple_Source,
    kt_list_Source := ob_kt_list_Source,
    kt_dict_Source := ob_kt_dict_Source,
    kt_Scripted_Source := ob_kt_Scripted_Source,
    kt_Draws_Source := ob_kt_Draws_Source,
    kt_Source_tuple := ob_kt_Source_tuple,
    kt_Scripted_tuple := ob_kt_Scripted_tuple,
    kt_Draws_tuple := ob_kt_Draws_tuple,
    kt_Source_str := ob_kt_Source_str,
    kt_Scripted_str := ob_kt_Scripted_str,
    kt_Draws_str := ob_kt_Draws_str,
    kt_NoneType_Draws := ob_kt_NoneType_Draws,
    kt_bool_Draws := ob_kt_bool_Draws,
    kt_int_Draws := ob_kt_int_Draws,
    kt_str_Draws := ob_kt_str_Draws,
    kt_tuple_Draws := ob_kt_tuple_Draws,
    kt_list_Draws := ob_kt_list_Draws,
    kt_dict_Draws := ob_kt_dict_Draws,
    kt_Source_Draws := ob_kt_Source_Draws,
    kt_Scripted_Draws := ob_kt_Scripted_Draws,
    kt_Source_list := ob_kt_Source_list,
    kt_Scripted_list := ob_kt_Scripted_list,
    kt_Draws_list := ob_kt_Draws_list }
end Pf
open PySem PySem.W PyProof.Rows
set_option maxRecDepth 100000 in
set_option maxHeartbeats 0 in
theorem PySem.Challenge.cw_drawstate_k49_shuffles_and_their_rows_holds : PySem.Challenge.rw_drawstate_k49_shuffles_and_their_rows.Holds := by
  refine Pf.hd ?_
  k_fill
  refine Gx.walkF (l := PySem.Challenge.rw_drawstate_k49_shuffles_and_their_rows) (k := 9) (x := "_law_script_here") rfl rfl ⟨rfl, by decide, by decide⟩ (fun w h Y => PySem.W.kIn_of Y) ?F
  case F =>
    intro w mg fa h Y KX G hmg
    refine' Pf.law_mk hmg (Pf.txt_mk KX G ?a_is_integer ?l_is_integer ?c_is_integer ?k_is_integer ?a_is_word ?l_is_word ?c_is_word ?k_is_word ?a_need_source ?l_need_source ?c_need_source ?k_need_source ?a_is_script ?l_is_script ?c_is_script ?k_is_script ?a_need_script_state ?l_need_script_state ?c_need_script_state ?k_need_script_state ?a_script_after ?l_script_after ?c_script_after ?k_script_after ?a_Scripted___init__ ?i_Scripted___init__ ?l_Scripted___init__ ?c_Scripted___init__ ?k_Scripted___init__ ?dl_Scripted___init__ ?mk_Scripted___init__ ?kc_Scripted___init__ ?a_Scripted_next_word ?i_Scripted_next_word ?l_Scripted_next_word ?c_Scripted_next_word ?k_Scripted_next_word ?a_Scripted_left ?g_Scripted_left ?t_Scripted_left ?r_Scripted_left ?l_Scripted_left ?c_Scripted_left ?k_Scripted_left ?a_s5_need ?l_s5_need ?c_s5_need ?k_s5_need ?a_s5_digits ?l_s5_digits ?c_s5_digits ?k_s5_digits ?a_words_for ?l_words_for ?c_words_for ?k_words_for ?a_need_step ?l_need_step ?c_need_step ?k_need_step ?a_Draws___init__ ?i_Draws___init__ ?l_Draws___init__ ?c_Draws___init__ ?k_Draws___init__ ?mk_Draws___init__ ?kc_Draws___init__ ?a_Draws_s5_word ?i_Draws_s5_word ?l_Draws_s5_word ?c_Draws_s5_word ?k_Draws_s5_word ?a_Draws_s5_bits ?i_Draws_s5_bits ?l_Draws_s5_bits ?c_Draws_s5_bits ?k_Draws_s5_bits ?a_Draws_s5_below ?i_Draws_s5_below ?l_Draws_s5_below ?c_Draws_s5_below ?k_Draws_s5_below ?a_Draws_below ?i_Draws_below ?l_Draws_below ?c_Draws_below ?k_Draws_below ?a_s5_need_draw ?l_s5_need_draw ?c_s5_need_draw ?k_s5_need_draw ?a_s5_is_integer ?l_s5_is_integer ?c_s5_is_integer ?k_s5_is_integer ?a_s5_bits_for ?l_s5_bits_for ?c_s5_bits_for ?k_s5_bits_for ?a_s5_number_for ?l_s5_number_for ?c_s5_number_for ?k_s5_number_for ?a_row_for ?l_row_for ?c_row_for ?k_row_for ?a_s6_is_integer ?l_s6_is_integer ?c_s6_is_integer ?k_s6_is_integer ?a_need_draws ?l_need_draws ?c_need_draws ?k_need_draws ?a_need_things ?l_need_things ?c_need_things ?k_need_things ?a_need_order ?l_need_order ?c_need_order ?k_need_order ?a_s6_exchange ?l_s6_exchange ?c_s6_exchange ?k_s6_exchange ?a_shuffled ?l_shuffled ?c_shuffled ?k_shuffled ?a_row_of ?l_row_of ?c_row_of ?k_row_of ?a_order_by ?l_order_by ?c_order_by ?k_order_by ?a_script_of ?l_script_of ?c_script_of ?k_script_of ?a__law_mixed ?l__law_mixed ?c__law_mixed ?k__law_mixed ?a__law_draw ?l__law_draw ?c__law_draw ?k__law_draw ?a__law_digit ?l__law_digit ?c__law_digit ?k__law_digit ?a__law_binary ?l__law_binary ?c__law_binary ?k__law_binary ?a__law_number ?l__law_number ?c__law_number ?k__law_number ?a__law_row ?l__law_row ?c__law_row ?k__law_row ?a__law_script ?l__law_script ?c__law_script ?k__law_script ?a__law_moved ?l__law_moved ?c__law_moved ?k__law_moved ?a__law_shuffle_right ?l__law_shuffle_right ?c__law_shuffle_right ?k__law_shuffle_right ?a__law_inverse_right ?l__law_inverse_right ?c__law_inverse_right ?k__law_inverse_right ?a__law_all_right ?l__law_all_right ?c__law_all_right ?k__law_all_right ?a_law ?l_law ?c_law ?k_law ?e_WORDS ?e_MOST_SCRIPT ?e_WORD_BITS ?e_MOST_BITS ?e_MOST_BOUND ?e_SIZES ?g_SIZES ?rv_SIZES_0 ?rv_SIZES_1 ?rv_SIZES_2 ?rv_SIZES_3 ?rv_SIZES_4 ?rv_SIZES_5 ?rv_SIZES ?e_MOST_ITEMS ?q_Source ?pg_Source ?hd_Source ?po_Source ?sa_Source ?ha_Source ?hn_Source ?ht_Source ?hm_Source ?q_Scripted ?pg_Scripted ?hd_Scripted ?po_Scripted ?sa_Scripted ?ha_Scripted ?hn_Scripted ?ht_Scripted ?hm_Scripted ?na_Scripted_s1_script ?na_Scripted_s1_place ?q_Draws ?pg_Draws ?hd_Draws ?po_Draws ?sa_Draws ?ha_Draws ?hn_Draws ?ht_Draws ?hm_Draws ?na_Draws_s5_source ?na_Draws_s5_used ?vf_Scripted_KIND ?vs_Scripted_KIND ?z_all ?z_bool ?z_enumerate ?z_int ?z_isinstance ?z_len ?z_list ?z_range ?z_repr ?z_set ?z_sorted ?z_str ?z_sum ?z_tuple ?ob_kt_Source_int ?ob_kt_Scripted_int ?ob_kt_Draws_int ?ob_kt_Source_bool ?ob_kt_Scripted_bool ?ob_kt_Draws_bool ?ob_kt_NoneType_Source ?ob_kt_bool_Source ?ob_kt_int_Source ?ob_kt_str_Source ?ob_kt_tuple_Source ?ob_kt_list_Source ?ob_kt_dict_Source ?ob_kt_Scripted_Source ?ob_kt_Draws_Source ?ob_kt_Source_tuple ?ob_kt_Scripted_tuple ?ob_kt_Draws_tuple ?ob_kt_Source_str ?ob_kt_Scripted_str ?ob_kt_Draws_str ?ob_kt_NoneType_Draws ?ob_kt_bool_Draws ?ob_kt_int_Draws ?ob_kt_str_Draws ?ob_kt_tuple_Draws ?ob_kt_list_Draws ?ob_kt_dict_Draws ?ob_kt_Source_Draws ?ob_kt_Scripted_Draws ?ob_kt_Source_list ?ob_kt_Scripted_list ?ob_kt_Draws_list)
    (case q_Source => k_is)
    (case q_Scripted => k_is)
    (case q_Draws => k_is)
    (case a_is_integer => k_is)
    (case l_is_integer => k_is)
    (case c_is_integer => k_is)
    (case k_is_integer => k_is)
    (case a_is_word => k_is)
    (case l_is_word => k_is)
    (case c_is_word => k_is)
    (case k_is_word => k_is)
    (case a_need_source => k_is)
    (case l_need_source => k_is)
    (case c_need_source => k_is)
    (case k_need_source => k_is)
    (case a_is_script => k_is)
    (case l_is_script => k_is)
    (case c_is_script => k_is)
    (case k_is_script => k_is)
    (case a_need_script_state => k_is)
    (case l_need_script_state => k_is)
    (case c_need_script_state => k_is)
    (case k_need_script_state => k_is)
    (case a_script_after => k_is)
    (case l_script_after => k_is)
    (case c_script_after => k_is)
    (case k_script_after => k_is)
    (case a_Scripted___init__ => k_is)
    (case i_Scripted___init__ => k_is)
    (case l_Scripted___init__ => k_is)
    (case c_Scripted___init__ => k_is)
    (case k_Scripted___init__ => k_is)
    (case dl_Scripted___init__ => k_is)
    (case mk_Scripted___init__ => k_is)
    (case kc_Scripted___init__ => k_is)
    (case a_Scripted_next_word => k_is)
    (case i_Scripted_next_word => k_is)
    (case l_Scripted_next_word => k_is)
    (case c_Scripted_next_word => k_is)
    (case k_Scripted_next_word => k_is)
    (case a_Scripted_left => k_is)
    (case g_Scripted_left => k_is)
    (case t_Scripted_left => k_is)
    (case r_Scripted_left => k_is)
    (case l_Scripted_left => k_is)
    (case c_Scripted_left => k_is)
    (case k_Scripted_left => k_is)
    (case a_s5_need => k_is)
    (case l_s5_need => k_is)
    (case c_s5_need => k_is)
    (case k_s5_need => k_is)
    (case a_s5_digits => k_is)
    (case l_s5_digits => k_is)
    (case c_s5_digits => k_is)
    (case k_s5_digits => k_is)
    (case a_words_for => k_is)
    (case l_words_for => k_is)
    (case c_words_for => k_is)
    (case k_words_for => k_is)
    (case a_need_step => k_is)
    (case l_need_step => k_is)
    (case c_need_step => k_is)
    (case k_need_step => k_is)
    (case a_Draws___init__ => k_is)
    (case i_Draws___init__ => k_is)
    (case l_Draws___init__ => k_is)
    (case c_Draws___init__ => k_is)
    (case k_Draws___init__ => k_is)
    (case mk_Draws___init__ => k_is)
    (case kc_Draws___init__ => k_is)
    (case a_Draws_s5_word => k_is)
    (case i_Draws_s5_word => k_is)
    (case l_Draws_s5_word => k_is)
    (case c_Draws_s5_word => k_is)
    (case k_Draws_s5_word => k_is)
    (case a_Draws_s5_bits => k_is)
    (case i_Draws_s5_bits => k_is)
    (case l_Draws_s5_bits => k_is)
    (case c_Draws_s5_bits => k_is)
    (case k_Draws_s5_bits => k_is)
    (case a_Draws_s5_below => k_is)
    (case i_Draws_s5_below => k_is)
    (case l_Draws_s5_below => k_is)
    (case c_Draws_s5_below => k_is)
    (case k_Draws_s5_below => k_is)
    (case a_Draws_below => k_is)
    (case i_Draws_below => k_is)
    (case l_Draws_below => k_is)
    (case c_Draws_below => k_is)
    (case k_Draws_below => k_is)
    (case a_s5_need_draw => k_is)
    (case l_s5_need_draw => k_is)
    (case c_s5_need_draw => k_is)
    (case k_s5_need_draw => k_is)
    (case a_s5_is_integer => k_is)
    (case l_s5_is_integer => k_is)
    (case c_s5_is_integer => k_is)
    (case k_s5_is_integer => k_is)
    (case a_s5_bits_for => k_is)
    (case l_s5_bits_for => k_is)
    (case c_s5_bits_for => k_is)
    (case k_s5_bits_for => k_is)
    (case a_s5_number_for => k_is)
    (case l_s5_number_for => k_is)
    (case c_s5_number_for => k_is)
    (case k_s5_number_for => k_is)
    (case a_row_for => k_is)
    (case l_row_for => k_is)
    (case c_row_for => k_is)
    (case k_row_for => k_is)
    (case a_s6_is_integer => k_is)
    (case l_s6_is_integer => k_is)
    (case c_s6_is_integer => k_is)
    (case k_s6_is_integer => k_is)
    (case a_need_draws => k_is)
    (case l_need_draws => k_is)
    (case c_need_draws => k_is)
    (case k_need_draws => k_is)
    (case a_need_things => k_is)
    (case l_need_things => k_is)
    (case c_need_things => k_is)
    (case k_need_things => k_is)
    (case a_need_order => k_is)
    (case l_need_order => k_is)
    (case c_need_order => k_is)
    (case k_need_order => k_is)
    (case a_s6_exchange => k_is)
    (case l_s6_exchange => k_is)
    (case c_s6_exchange => k_is)
    (case k_s6_exchange => k_is)
    (case a_shuffled => k_is)
    (case l_shuffled => k_is)
    (case c_shuffled => k_is)
    (case k_shuffled => k_is)
    (case a_row_of => k_is)
    (case l_row_of => k_is)
    (case c_row_of => k_is)
    (case k_row_of => k_is)
    (case a_order_by => k_is)
    (case l_order_by => k_is)
    (case c_order_by => k_is)
    (case k_order_by => k_is)
    (case a_script_of => k_is)
    (case l_script_of => k_is)
    (case c_script_of => k_is)
    (case k_script_of => k_is)
    (case a__law_mixed => k_is)
    (case l__law_mixed => k_is)
    (case c__law_mixed => k_is)
    (case k__law_mixed => k_is)
    (case a__law_draw => k_is)
    (case l__law_draw => k_is)
    (case c__law_draw => k_is)
    (case k__law_draw => k_is)
    (case a__law_digit => k_is)
    (case l__law_digit => k_is)
    (case c__law_digit => k_is)
    (case k__law_digit => k_is)
    (case a__law_binary => k_is)
    (case l__law_binary => k_is)
    (case c__law_binary => k_is)
    (case k__law_binary => k_is)
    (case a__law_number => k_is)
    (case l__law_number => k_is)
    (case c__law_number => k_is)
    (case k__law_number => k_is)
    (case a__law_row => k_is)
    (case l__law_row => k_is)
    (case c__law_row => k_is)
    (case k__law_row => k_is)
    (case a__law_script => k_is)
    (case l__law_script => k_is)
    (case c__law_script => k_is)
    (case k__law_script => k_is)
    (case a__law_moved => k_is)
    (case l__law_moved => k_is)
    (case c__law_moved => k_is)
    (case k__law_moved => k_is)
    (case a__law_shuffle_right => k_is)
    (case l__law_shuffle_right => k_is)
    (case c__law_shuffle_right => k_is)
    (case k__law_shuffle_right => k_is)
    (case a__law_inverse_right => k_is)
    (case l__law_inverse_right => k_is)
    (case c__law_inverse_right => k_is)
    (case k__law_inverse_right => k_is)
    (case a__law_all_right => k_is)
    (case l__law_all_right => k_is)
    (case c__law_all_right => k_is)
    (case k__law_all_right => k_is)
    (case a_law => k_is)
    (case l_law => k_is)
    (case c_law => k_is)
    (case k_law => k_is)
    (case e_WORDS => k_is)
    (case e_MOST_SCRIPT => k_is)
    (case e_WORD_BITS => k_is)
    (case e_MOST_BITS => k_is)
    (case e_MOST_BOUND => k_is)
    (case e_SIZES => k_is)
    (case g_SIZES => k_is)
    (case rv_SIZES_0 => rfl)
    (case rv_SIZES_1 => rfl)
    (case rv_SIZES_2 => rfl)
    (case rv_SIZES_3 => rfl)
    (case rv_SIZES_4 => rfl)
    (case rv_SIZES_5 => rfl)
    (case rv_SIZES => rfl)
    (case e_MOST_ITEMS => k_is)
    (case pg_Source => k_is)
    (case hd_Source => k_is)
    (case po_Source => k_is)
    (case sa_Source => k_is)
    (case ha_Source => k_is)
    (case hn_Source => k_is)
    (case ht_Source => k_is)
    (case hm_Source => k_is)
    (case pg_Scripted => k_is)
    (case hd_Scripted => k_is)
    (case po_Scripted => k_is)
    (case sa_Scripted => k_is)
    (case ha_Scripted => k_is)
    (case hn_Scripted => k_is)
    (case ht_Scripted => k_is)
    (case hm_Scripted => k_is)
    (case na_Scripted_s1_script => k_is)
    (case na_Scripted_s1_place => k_is)
    (case pg_Draws => k_is)
    (case hd_Draws => k_is)
    (case po_Draws => k_is)
    (case sa_Draws => k_is)
    (case ha_Draws => k_is)
    (case hn_Draws => k_is)
    (case ht_Draws => k_is)
    (case hm_Draws => k_is)
    (case na_Draws_s5_source => k_is)
    (case na_Draws_s5_used => k_is)
    (case vf_Scripted_KIND => k_is)
    (case vs_Scripted_KIND => k_is)
    (case z_all => k_is)
    (case z_bool => k_is)
    (case z_enumerate => k_is)
    (case z_int => k_is)
    (case z_isinstance => k_is)
    (case z_len => k_is)
    (case z_list => k_is)
    (case z_range => k_is)
    (case z_repr => k_is)
    (case z_set => k_is)
    (case z_sorted => k_is)
    (case z_str => k_is)
    (case z_sum => k_is)
    (case z_tuple => k_is)
    (case ob_kt_Source_int => kernel_rfl)
    (case ob_kt_Scripted_int => kernel_rfl)
    (case ob_kt_Draws_int => kernel_rfl)
    (case ob_kt_Source_bool => kernel_rfl)
    (case ob_kt_Scripted_bool => kernel_rfl)
    (case ob_kt_Draws_bool => kernel_rfl)
    (case ob_kt_NoneType_Source => kernel_rfl)
    (case ob_kt_bool_Source => kernel_rfl)
    (case ob_kt_int_Source => kernel_rfl)
    (case ob_kt_str_Source => kernel_rfl)
    (case ob_kt_tuple_Source => kernel_rfl)
    (case ob_kt_list_Source => kernel_rfl)
    (case ob_kt_dict_Source => kernel_rfl)
    (case ob_kt_Scripted_Source => kernel_rfl)
    (case ob_kt_Draws_Source => kernel_rfl)
    (case ob_kt_Source_tuple => kernel_rfl)
    (case ob_kt_Scripted_tuple => kernel_rfl)
    (case ob_kt_Draws_tuple => kernel_rfl)
    (case ob_kt_Source_str => kernel_rfl)
    (case ob_kt_Scripted_str => kernel_rfl)
    (case ob_kt_Draws_str => kernel_rfl)
    (case ob_kt_NoneType_Draws => kernel_rfl)
    (case ob_kt_bool_Draws => kernel_rfl)
    (case ob_kt_int_Draws => kernel_rfl)
    (case ob_kt_str_Draws => kernel_rfl)
    (case ob_kt_tuple_Draws => kernel_rfl)
    (case ob_kt_list_Draws => kernel_rfl)
    (case ob_kt_dict_Draws => kernel_rfl)
    (case ob_kt_Source_Draws => kernel_rfl)
    (case ob_kt_Scripted_Draws => kernel_rfl)
    (case ob_kt_Source_list => kernel_rfl)
    (case ob_kt_Scripted_list => kernel_rfl)
    (case ob_kt_Draws_list => kernel_rfl)
#print axioms PySem.Challenge.cw_drawstate_k49_shuffles_and_their_rows_holds
