import PyProof.Rows.All
import Wide.All
import OpenK.AllK
import Wide.FinOn
import PySem.Challenge.RW_drawstate_k13_whole_digits_and_periods
import HandS.ForMost
import HandS.Exc
import HandS.Codes
import HandS.Wide
import HandS.WideBits
import HandS.IsInst
import HandS.Property
import HandS.Style
import HandS.Flow
import HandS.Small
import HandS.Lambda
import HandS.EndTab
import HandS.Walk
import HandS.GenCall
import HandS.GenList
import KE.KOpsOwn
import HandS.ClsMeth
import HandS.TupAny
import HandS.ExcInit
import HandS.ExcField
import HandS.ExcIs
import KE.KExcInit
import HandS.CallSlots
import HandS.Defaults
import HandS.TryMany
import HandS.Zip
import KE.KTryMore
import PyProof.StrLawsRepr
import HandS.HotCalls
import KE.KDflt
import HandS.TupMul
import HandS.Deep
import HandS.SetFor
import HandS.Star
import HandS.TupSets
import HandS.Iter
import KE.GoesEnum
import HandS.DictSubView
import KE.KDictWalk
import HandS.Conv
import HandS.Comp
import HandS.SortInts
import HandS.GenOver
import PyProof.GenRules
import PyProof.GenQ
def PySem.W.Fast.tw11555140119521726518 : Nat := 0
def PySem.W.Fast.tw13150720157990742905 : Nat := 0
def PySem.W.Fast.tw13739054992867888951 : Nat := 0
def PySem.W.Fast.tw15100326286694050945 : Nat := 0
def PySem.W.Fast.tw15184344341994812789 : Nat := 0
def PySem.W.Fast.tw15650707214663502369 : Nat := 0
def PySem.W.Fast.tw15952896742902015106 : Nat := 0
def PySem.W.Fast.tw1717494907254855979 : Nat := 0
def PySem.W.Fast.tw17194110111808864883 : Nat := 0
def PySem.W.Fast.tw17830467967509165570 : Nat := 0
def PySem.W.Fast.tw3466867089131899770 : Nat := 0
def PySem.W.Fast.tw5634346653857132950 : Nat := 0
def PySem.W.Fast.tw6622490721884031173 : Nat := 0
def PySem.W.Fast.tw681726653861884663 : Nat := 0
def PySem.W.Fast.tw7768234827739251707 : Nat := 0
def PySem.W.Fast.tw8293796183367136505 : Nat := 0
def PySem.W.Fast.tw8867624232619479098 : Nat := 0
def PySem.W.Fast.tw9298945793306557135 : Nat := 0
set_option Elab.async false
set_option linter.all false
namespace Pf
open PySem PySem.W PyProof.Rows
set_option maxRecDepth 100000
set_option maxHeartbeats 0
open_top hd for PySem.Challenge.rw_drawstate_k13_whole_digits_and_periods
end Pf
set_option Elab.async false
set_option linter.all false
set_option maxRecDepth 100000
set_option maxHeartbeats 4000000
namespace Gx
open PySem PySem.Spec PyProof.Rows L2
structure FnG (P : Program) (w : World) (K : PySem.W.Frag) (mg : Str → Option Value) (base : Heap) (k : Nat) (f : Addr) (fd : FuncData) (ps : List Str) (sp : Sp) : Prop where
  len : ∀ vs H Q E, sp vs H Q E → vs.length = ps.length
  run : ∀ (A : Around) (outer : List Env) (s : Shared) (H : Hp) (args : Args) (us : List Value) (vs : List V) (Q : VK), A.guards = some [] → Room k A → Env0 P w K mg base A outer s H →
    BindsTo s fd args (ps.zip us) → Vals vs us → sp vs H Q C8.E0 → codeAny (model P w) A (.call (.ref f) args) (CR C8.CX0 outer P w H s Q C8.E0) s
structure CalG (P : Program) (w : World) (K : PySem.W.Frag) (mg : Str → Option Value) (base : Heap) (k : Nat) (x : Str) (sp : Sp) : Prop where
  ex : ∃ (f : Addr) (fd : FuncData) (ps : List Str), FnG P w K mg base k f fd ps sp ∧ mg x = some (.ref f) ∧ PySem.W.keepIn K (.ref f) = true ∧ Binds K fd ps []
section
variable {P : Program} {w : World} {K : PySem.W.Frag} {mg : Str → Option Value} {base : Heap}
theorem fnG_of {x qual : Str} {st : Stmt} {f : Addr} {fd : FuncData} {N ps : List Str} {k : Nat} {sp : Sp} (F : C8.Fun K x qual st f fd) (S : FnScope N ps (C8.fnScope st)) (len : ∀ vs H Q E, sp vs H Q E → vs.length = ps.length)
    (hbody : ∀ (cdv : Value) (A : Around) (outer : List Env) (s : Shared) (H : Hp) (vs : List V) (Q : VK), A.guards = some [] → Room k (A.deeper (envOfC qual (C8.fnScope st) s.heap.objs.size f cdv)) → sp vs H Q C8.E0 →
      ∃ t, PSs (cxOf C8.CX0 P w K mg base N qual (C8.fnScope st) f cdv A outer s H C8.E0).nox (C8.fnBody st) t ∧ t { nx := fun _ H' => Q .non H', rt := Q } (start N vs) H) : FnG P w K mg base (k + 1) f fd ps sp := by
  obtain ⟨oc, od, dV, kV, doc, pm, an, cdv, ct, osl, rfl, lk, hcd⟩ := F.ex
  refine ⟨len, fun A outer s H args us vs Q hg hr e0 hb r hsp => ?_⟩
  refine LamX.run_ofS (CX := C8.CX0) (E := C8.E0) lk hcd S hr e0 hb r (len _ _ _ _ hsp) fun hr' => ?_
  obtain ⟨t, h, q⟩ := hbody cdv A outer s H vs Q hg hr' hsp
  exact ⟨t, h.nox, q⟩
theorem calG {x : Str} {st : Stmt} {f : Addr} {fd : FuncData} {N ps : List Str} {k : Nat} {sp : Sp} (F : C8.Def K mg x st f fd) (b : Binds K fd ps []) (S : FnScope N ps (C8.fnScope st)) (len : ∀ vs H Q E, sp vs H Q E → vs.length = ps.length)
    (hbody : ∀ (cdv : Value) (A : Around) (outer : List Env) (s : Shared) (H : Hp) (vs : List V) (Q : VK), A.guards = some [] → Room k (A.deeper (envOfC x (C8.fnScope st) s.heap.objs.size f cdv)) → sp vs H Q C8.E0 →
      ∃ t, PSs (cxOf C8.CX0 P w K mg base N x (C8.fnScope st) f cdv A outer s H C8.E0).nox (C8.fnBody st) t ∧ t { nx := fun _ H' => Q .non H', rt := Q } (start N vs) H) : CalG P w K mg base (k + 1) x sp :=
  ⟨f, fd, ps, fnG_of F.fn S len hbody, F.mgf, F.kp, b⟩
end
section
variable {X : Cx} {k j : Nat} {x : Str} {sp : Sp} {p pos : Pos} {e : Expr} {es : List Expr} {t : TA}
theorem runG {f : Addr} {fd : FuncData} {ps : List Str} {pins : List (Addr × Obj)} {σ : L2.St} {H : Hp} {s : Shared} {Q : VK} {us : List Value} {vs : List V} (F : FnG X.prog X.w X.K X.mg X.base k f fd ps sp) (gd : X.A.guards = some []) (hr : Room k X.A) (hb : Binds X.K fd ps [])
    (I : Inv X pins σ H s) (r : Vals vs us) (h : sp vs H Q C8.E0) : wpAny (model X.prog X.w) X.A (call (.ref f) us) (EP X pins σ Q) X.xe s := by
  have hl : us.length = ps.length := r.length.symm.trans (F.len _ _ _ _ h)
  have hbt : BindsTo s fd ⟨us, []⟩ (ps.zip us) := by
    have z := hb s us I.kIn (by rw [List.append_nil]; exact hl)
    rw [List.append_nil] at z
    exact z
  have go := F.run X.A X.stack s H ⟨us, []⟩ us vs Q gd hr I.env0 hbt r h
  refine wpAny_call (codeAny_mono go fun res s2 hres => ?_)
  match res, hres with
  | .ok (.ret u), hq => exact I.after hq
  | .ok .next, hq => exact hq.elim
  | .ok .brk, hq => exact hq.elim
  | .ok .cont, hq => exact hq.elim
  | .error er, hq => exact (show False from hq).elim
theorem pe_g (c : CalG X.prog X.w X.K X.mg X.base k x sp) (gd : X.A.guards = some []) (hr : Room j X.A) (hk : k ≤ j) (hgl : Gl X x) (ha : PA X (e :: es) t)
    (hdb : (x == ("__debug__" : Str)) = false := by decide) (hst : starEach (e :: es) X.env = (false, eval e X.env) :: starEach es X.env := by rfl)
    (hpl : (backTo pos (starEach es X.env)).any (·.1) = false := by rfl) : PE X (.Call (.Name x p) (e :: es) [] pos) (tCall sp [] C8.E0 t) := by
  obtain ⟨f, fd, ps, F, hm, kp, b⟩ := c.ex
  constructor
  intro pins s σ H Q I h
  refine wpAny_Call_Name_kw (ld_glob I hgl hm ?_ hdb)
  refine PySem.W.callWith_K (h₀ := X.base) I.ok.mod.kin kp ?_ hst hpl
  refine thn (ha.run pos pins s σ H _ I h) fun us s1 got => ?_
  obtain ⟨vs, H1, I1, r, q⟩ := got
  refine ⟨I1.kIn, runG F gd (hr.mono hk) b I1 r ?_⟩
  have z : sp (vs ++ []) H1 Q C8.E0 := q
  rw [List.append_nil] at z
  exact z
end
end Gx
set_option Elab.async false
set_option linter.all false
set_option maxRecDepth 100000
set_option maxHeartbeats 4000000
namespace Gx
open PySem PySem.Spec PyProof.Rows L2
structure PrpC (P : Program) (w : World) (K : PySem.W.Frag) (mg : Str → Option Value) (base : Heap) (k : Nat) (C : Addr) (nm : Str) (sp : Sp) : Prop where
  ex : ∃ (p f : Addr) (fd : FuncData) (ps : List Str), Cls K C ∧ PropOf K C nm p f ∧ FnOk P w K mg base C8.CX0 k f fd ps sp ∧ Binds K fd ps []
theorem prp0 {P : Program} {w : World} {K : PySem.W.Frag} {mg : Str → Option Value} {base : Heap} {nm qual : Str} {C p : Addr} {st : Stmt} {f : Addr} {fd : FuncData} {N ps : List Str} {k : Nat} {sp : Sp} (c : Cls K C) (pr : PropOf K C nm p f) (F : C8.Fun K nm qual st f fd) (b : Binds K fd ps [])
    (S : FnScope N ps (C8.fnScope st)) (len : ∀ vs H Q E, sp vs H Q E → vs.length = ps.length)
    (hbody : ∀ (cdv : Value) (A : Around) (outer : List Env) (s : Shared) (H : Hp) (vs : List V) (Q : VK) (E : XK), Room k (A.deeper (envOfC qual (C8.fnScope st) s.heap.objs.size f cdv)) → sp vs H Q E →
      ∃ t, PSs (cxOf C8.CX0 P w K mg base N qual (C8.fnScope st) f cdv A outer s H E).nox (C8.fnBody st) t ∧ t { nx := fun _ H' => Q .non H', rt := Q } (start N vs) H) : PrpC P w K mg base (k + 1) C nm sp :=
  ⟨p, f, fd, ps, c, pr, C8.fn0 F S len hbody, b⟩
theorem pe_propC {X : Cx} {k j : Nat} {C : Addr} {nm : Str} {sp : Sp} {e : Expr} {ta : TE} {pos : Pos} (he : PE X e ta) (c : PrpC X.prog X.w X.K X.mg X.base k C nm sp) (hr : Room j X.A) (hk : k + 1 ≤ j) (hab : attributeBase e nm X.env (eval e X.env) = eval e X.env) :
    PE X (.Attribute e nm pos) (tProp C sp [] C8.E0 ta) := by
  obtain ⟨p, f, fd, ps, cl, pr, F, b⟩ := c.ex
  exact pe_prop he cl pr F (hr.mono hk) b .nil C8.pass0 hab
end Gx
set_option Elab.async false
set_option linter.all false
set_option maxRecDepth 100000
set_option maxHeartbeats 4000000
namespace Rd
open PySem PySem.Spec PyProof.Rows L2
section
variable {D : Ends} {σ : L2.St} {H H1 : Hp} {Q : VK} {QB : Bool → Hp → Prop} {QA : List V → Hp → Prop} {t1 t2 : TS} {te ta tb tc : TE} {t u : TT} {i j : Nat} {v x y : V} {m n : Int} {r r2 : R2} {K : PySem.W.Frag} {A B : Prop} {b : Bool} {p : Prop}
theorem seq (h : t1 { D with nx := t2 D } σ H) : tSeq t1 t2 D σ H := h
theorem next (h : D.nx σ H) : tNext D σ H := h
theorem nm {Qs : L2.St → Hp → Prop} (h : Qs (σ.set i (some v)) H) : gName i v σ H Qs := h
theorem ret (h : te σ H D.rt) : tRet te D σ H := h
theorem drop (h : te σ H fun _ H1 => D.nx σ H1) : tDrop te D σ H := h
theorem par {ta : TA} (h : ta σ H fun vs H1 => ∃ v w, vs = [v, w] ∧ D.nx ((σ.set i (some v)).set j (some w)) H1) : tPar i j ta D σ H := h
theorem un {g : V → Hp → VK → Prop} (h : ta σ H fun x H1 => g x H1 Q) : tUn g ta σ H Q := h
theorem nil (h : QA [] H) : tNil σ H QA := h
theorem cons {tr : TA} (h : ta σ H fun x H1 => tr σ H1 fun xs H2 => QA (x :: xs) H2) : tCons ta tr σ H QA := h
theorem call {sp : Sp} {E : XK} {tr : TA} (h : tr σ H fun vs H1 => sp (vs ++ []) H1 Q E) : tCall sp [] E tr σ H Q := h
theorem cb {g : List V → Hp → VK → Prop} {tr : TA} (h : tr σ H fun vs H1 => g vs H1 Q) : tCB g tr σ H Q := h
theorem tup {tr : TA} (h : tr σ H fun xs H1 => xs.length ≤ sizeLine ∧ ∀ p, H1 p = none → Q (.ref p) (upd H1 p (.tup xs))) : tTup tr σ H Q := h
theorem lst {tr : TA} (h : tr σ H fun xs H1 => xs.length ≤ sizeLine ∧ ∀ p, H1 p = none → Q (.ref p) (upd H1 p (.lst xs))) : tLst tr σ H Q := h
end
def rLenQ (K : PySem.W.Frag) : List V → Hp → VK → Prop := fun xs H Q => ∃ p ys, xs = [.ref p] ∧ (SqL K H p ys ∨ SqT K H p ys) ∧ Q (.int ys.length) H
theorem call_lenQ {X : Cx} : CallR X (.builtin "len") (rLenQ X.K) := call_len_seq
def rMax2 : List V → Hp → VK → Prop := fun xs H Q => ∃ i j, xs = [.int i, .int j] ∧ Q (.int (if j > i then j else i)) H
theorem call_mx2 {X : Cx} (hc : X.calm = true) : CallR X (.builtin "max") rMax2 := call_max2 hc
def rMin2 : List V → Hp → VK → Prop := fun xs H Q => ∃ i j, xs = [.int i, .int j] ∧ Q (.int (if j < i then j else i)) H
theorem call_mn2 {X : Cx} (hc : X.calm = true) : CallR X (.builtin "min") rMin2 := call_min2 hc
theorem kit_self (K : PySem.W.Frag) (C : Addr) : PySem.W.kitOne K (.ref C) (.ref C) = some true := by
  unfold PySem.W.kitOne
  simp
theorem sql {K : PySem.W.Frag} {H : Hp} {a : Addr} {xs : List V} (h : H a = some (.lst xs)) : SqL K H a xs := .inl (.inl h)
theorem make {C : Addr} {sp : Sp} {E : XK} {t : TA} {σ : L2.St} {H : Hp} {Q : VK} (h : t σ H fun vs H1 => ∀ x dx, H1 x = none → H1 dx = none → dx ≠ x →
  sp (.ref x :: (vs ++ [])) (upd (upd H1 dx (.own x)) x (.ins C dx [])) (fun v H2 => v = .non ∧ Q (.ref x) H2) E) : tMake C sp [] E t σ H Q := h
theorem cut {t u : TS} {D : Ends} {σ : L2.St} {H : Hp} (Mid : L2.St → Hp → Prop) (h1 : t { D with nx := Mid } σ H) (h2 : ∀ σ' H', Mid σ' H' → u D σ' H') : C8.tCut t u D σ H := ⟨Mid, h1, h2⟩
theorem bm {K : PySem.W.Frag} {T : String} {r : V → List V → Hp → VK → Prop} {to : TE} {t : TA} {σ : L2.St} {H : Hp} {Q : VK} (h : to σ H fun x H1 => tyV K T x H1 ∧ t σ H1 fun xs H2 => r x xs H2 Q) : tBM K T r to t σ H Q := h
/-- all that was tracked stands -/
abbrev Ex := L2.Same
theorem ex_new {H : Hp} {p : Addr} {o : HO} (h : H p = none) : Ex H (upd H p o) := fun b z e => by
  rw [upd_ne (ne_of_none e h)]
  exact e
theorem ex_t {K : PySem.W.Frag} {H H' : Hp} {a : Addr} {xs : List V} (e : Ex H H') (h : SqT K H a xs) : SqT K H' a xs := by
  rcases h with (h | ⟨o, h⟩) | h
  · exact .inl (.inl (e _ _ h))
  · exact .inl (.inr ⟨o, e _ _ h⟩)
  · exact .inr h
end Rd
set_option Elab.async false
set_option linter.all false
set_option maxRecDepth 100000
set_option maxHeartbeats 4000000
set_option exponentiation.threshold 2000
namespace Gx
open PySem PySem.Spec PyProof.Rows L2
mutual
def nodes : PyData → Nat
  | .list xs => nodesAll xs + 1
  | .tuple xs => nodesAll xs + 1
  | .none => 1
  | .bool _ => 1
  | .int _ => 1
  | .str _ => 1
  | .dict _ => 1
def nodesAll : List PyData → Nat
  | [] => 0
  | x :: xs => nodes x + nodesAll xs
end
theorem log_lt {n k : Nat} (hk : 0 < k) (h : n < 2 ^ k) : n.log2 < k := PySem.Flt.log2_lt_of hk h
/-- what repr asks of the data -/
structure Okd (d : PyData) : Prop where
  sh : d.showable = true
  dp : d.depth ≤ 60
  ln : d.shown.length ≤ sizeLine
end Gx
set_option Elab.async false
set_option linter.all false
set_option maxRecDepth 100000
set_option maxHeartbeats 1000000
namespace Gx
open PySem PySem.Spec PyProof.Rows L2 GenW
def hX (env : Env) (x : Value) : Sem PySem.Fin := (do noteFrame x env; theTreesLotGoes x : Sem Unit).wrap (fun _ => .raise x) .raise id id
theorem seg_forLoop {prog : Program} {w : World} {A : Around} {R : GenEnd} {Y : Protocol} {n : Nat} {s₀ s : Shared} {fs : List Frame} {env : Env} {tg : Expr} {it : Value} {body : List Stmt}
    (h : wpAny (model prog w) (A.over (.forLoop tg it body [] env) fs) (pyNext it) (fun r s1 => match r with
      | none => Seg (model prog w) A R Y n s₀ (.forLoop tg it body [] env) (.pure (.again (.block [] env))) fs s1
      | some v => wpAny (model prog w) (A.over (.forLoop tg it body [] env) fs) (letOwnedTupleGo tg it v) (fun _ s2 =>
          wpAny (model prog w) (A.over (.forLoop tg it body [] env) fs) (assign tg env v) (fun _ s3 =>
            Seg (model prog w) A R Y n s₀ (.forLoop tg it body [] env) ((execs body env).wrap (fun f => match f with
              | .next | .cont => .pure (.again (.forLoop tg it body [] env))
              | .brk => .pure (.done .next)
              | .ret v => .pure (.done (.ret v))) (hX env) id id) fs s3)
            (fun x s' => Seg (model prog w) A R Y n s₀ (.forLoop tg it body [] env) (hX env x) fs s') s2)
          (fun x s' => Seg (model prog w) A R Y n s₀ (.forLoop tg it body [] env) (hX env x) fs s') s1)
      (fun x s' => Seg (model prog w) A R Y n s₀ (.forLoop tg it body [] env) (hX env x) fs s') s) :
    Seg (model prog w) A R Y n s₀ (.forLoop tg it body [] env) ((model prog w).den (.forLoop tg it body [] env)) fs s := by
  have hh : ∀ e, (do noteFrame e env; theTreesLotGoes e : Sem Unit).bind (fun _ => (.raise e : Sem PySem.Fin)) = hX env e := fun e => Sem.bind_eq_wrap _ _
  show Seg _ A R Y n s₀ _ ((forTurn tg it body [] env).onRaise (fun x => do noteFrame x env; theTreesLotGoes x)) fs s
  unfold forTurn
  rw [Sem.onRaise_eq_wrap]
  refine seg_bind_wrap (wpAny_standAt ?_)
  refine seg_bind_wrap (wpAny_onRaise (wpAny_mono h (fun r s1 h1 => ?_) fun x s' hx => wpAny_standAt ?_))
  · cases r with
    | none => exact h1
    | some v =>
      refine seg_bind_wrap (wpAny_mono h1 (fun _ s2 h2 => ?_) fun x s' hx => ?_)
      · refine seg_bind_wrap (wpAny_mono h2 (fun _ s3 h3 => ?_) fun x s' hx => ?_)
        · rw [Sem.bind_eq_wrap', Sem.wrap_wrap]
          rw [Sem.wrap_congr (execs body env) _ _ (K' := fun f => match f with
              | .next | .cont => .pure (.again (.forLoop tg it body [] env))
              | .brk => .pure (.done .next)
              | .ret v => .pure (.done (.ret v))) (H' := hX env) (fun f => by cases f <;> rfl) (fun e => by exact hh e)]
          exact h3
        · rw [← hh] at hx; exact hx
      · rw [← hh] at hx; exact hx
  · rw [← hh] at hx; exact hx
end Gx
set_option Elab.async false
set_option linter.all false
set_option maxRecDepth 100000
set_option maxHeartbeats 1000000
namespace Gx
open PySem PySem.Spec PyProof.Rows L2 GenW
structure SAt (K : PySem.W.Frag) (C : Addr) (m : Str) (f : Addr) : Prop where
  ex : ∃ (mc : Value) (p : Addr) (rest : List Value), ClX.CRead K C mc ∧ PySem.W.findCls K (.ref C) mc m = some (.get (.builtin "staticmethod.__get__") (.ref p) .none (.ref C)) ∧ PySem.W.recIn K p "staticmethod" = some (.ref f :: rest) ∧ PySem.W.keepIn K (.ref f) = true
def gscC (N P : List Str) (sc : Scope) : Bool :=
  decide (sc.kind = .function) && !sc.isCoroutine && sc.isGenerator && decide N.Nodup && decide (N.take P.length = P) && P.all (fun x => decide (sc.names.lookup x = some .local) || decide (sc.names.lookup x = some .cell)) && sc.names.all (fun y => !decide (y.2 = .free))
theorem gscope_by {N P : List Str} {sc : Scope} (h : gscC N P sc = true) : GScope N P sc := by
  simp only [gscC, Bool.and_eq_true, decide_eq_true_eq, Bool.not_eq_true', List.all_eq_true, Bool.or_eq_true, decide_eq_false_iff_not] at h
  obtain ⟨⟨⟨⟨⟨⟨h1, h2⟩, h3⟩, h4⟩, h5⟩, h6⟩, h7⟩ := h
  exact ⟨h1, h2, h3, h4, h5, h6, h7⟩
end Gx
namespace Gx
open PySem PySem.Spec PyProof.Rows L2 GenW
theorem isTup {K : PySem.W.Frag} {a : Addr} {xs : List V} {H : Hp} {Q : VK} (h : H a = some (.tup xs)) (q : Q (.bl true) H) : rIsi K [.ref a, .ty "tuple"] H Q :=
  ⟨_, _, .type "tuple", _, true, rfl, .ty _, .base (.tup h), by first | rfl | decide +kernel | kernel_rfl, q⟩
section
variable {t u : TGn} {tp : TS} {te : TE} {D : GEnds} {ys : List V} {σ : L2.St} {H : Hp}
theorem lg {tg : TGen} {Q : VK} (h : tg σ H fun out H2 => ∀ p, H2 p = none → Q (.ref p) (upd H2 p (.lst out))) : tListG tg σ H Q := h
theorem mg {C : Addr} {m : Str} {sp : SpG} {E : XK} {ta : TE} {t : TA} {cont : List V → Hp → Prop} (h : ta σ H fun x H1 => ∃ a dx fs, x = .ref a ∧ H1 a = some (.ins C dx fs) ∧ fs.lookup m = none ∧ t σ H1 fun vs H2 => sp (x :: (vs ++ [])) H2 cont E) : tMethG C m sp [] E ta t σ H cont := h
end
end Gx
namespace Gx
open PySem PySem.Spec PyProof.Rows L2 GenW
end Gx
set_option Elab.async false
set_option linter.all false
set_option maxRecDepth 100000
set_option maxHeartbeats 1000000
namespace Gx
open PySem PySem.Spec PyProof.Rows L2 GenW HT
end Gx
set_option Elab.async false
set_option linter.all false
set_option maxRecDepth 100000
set_option maxHeartbeats 1000000
namespace Gx
open PySem PySem.Spec PyProof.Rows L2 GenW
/-- the promise of such a class's __init__ -/
def spExc (C : Addr) (fl : Str) : Sp := fun vs H Q _ => ∃ (p : Addr) (v : V), vs = [.ref p, v] ∧ H p = some (exo p C none) ∧ ∀ dx, H dx = none → dx ≠ p → Q .non (upd (upd H dx (exd dx [(fl, v)])) p (exo p C (some dx)))
/-- the exception is made: its dict holds the value -/
theorem mkO {C : Addr} {fl : Str} {v : V} {H : Hp} {Q : XK} (q : ∀ d H', H d = none → Rd.Ex H H' → H' d = some (.xd [(fl, v)]) → Q (.ref C) (some d) H') :
    [v].length ≤ 1000 ∧ ∀ a, H a = none → spExc C fl (.ref a :: ([v] ++ [])) (upd H a (exo a C none))
      (fun r H2 => r = .non ∧ ∃ (d : Addr) (fs : List (Str × V)), H2 a = some (exo a C (some d)) ∧ H2 d = some (exd d fs) ∧ H d = none ∧ Q (.ref C) (some d) (upd (del H2 a) d (.xd fs))) (fun _ _ _ => False) := by
  refine ⟨Nat.le_of_ble_eq_true rfl, fun a ha => ⟨a, v, rfl, upd_same, fun dx hd ne => ⟨rfl, dx, [(fl, v)], upd_same, ?_, ?_, ?_⟩⟩⟩
  · rw [upd_ne ne, upd_same]
  · rw [upd_ne ne] at hd; exact hd
  · have hd' : H dx = none := by rw [upd_ne ne] at hd; exact hd
    refine q dx _ hd' (fun c o h => ?_) upd_same
    have n1 : c ≠ a := ne_of_none h ha
    have n2 : c ≠ dx := ne_of_none h hd'
    rw [upd_ne n2, del_ne n1, upd_ne n1, upd_ne n2, upd_ne n1]
    exact h
structure CalX (P : Program) (w : World) (K : PySem.W.Frag) (mg : Str → Option Value) (base : Heap) (k : Nat) (x : Str) (sp : Sp) : Prop where
  ex : ∃ (f : Addr) (fd : FuncData) (ps : List Str), FnOk P w K mg base (CX P w) k f fd ps sp ∧ mg x = some (.ref f) ∧ PySem.W.keepIn K (.ref f) = true ∧ Binds K fd ps []
theorem takes_cx {P : Program} {w : World} {K : PySem.W.Frag} {mg : Str → Option Value} {base : Heap} {N : List Str} {qual : Str} {scope : Scope} {f : Addr} {cd : Value} {A : Around} {outer : List Env} {s : Shared} {H : Hp} {E : XK} :
    Takes (cxOf (CX P w) P w K mg base N qual scope f cd A outer s H E) (fun cls d _ H' => E cls d H') := takes_of rfl rfl rfl rfl
theorem calX {P : Program} {w : World} {K : PySem.W.Frag} {mg : Str → Option Value} {base : Heap} {x : Str} {st : Stmt} {f : Addr} {fd : FuncData} {N ps : List Str} {k : Nat} {sp : Sp} (F : C8.Def K mg x st f fd) (b : Binds K fd ps []) (S : FnScope N ps (C8.fnScope st)) (len : ∀ vs H Q E, sp vs H Q E → vs.length = ps.length)
    (hbody : ∀ (cdv : Value) (A : Around) (outer : List Env) (s : Shared) (H : Hp) (vs : List V) (Q : VK) (E : XK), Room k (A.deeper (envOfC x (C8.fnScope st) s.heap.objs.size f cdv)) → sp vs H Q E →
      ∃ t, PSs (cxOf (CX P w) P w K mg base N x (C8.fnScope st) f cdv A outer s H E) (C8.fnBody st) t ∧ t { nx := fun _ H' => Q .non H', rt := Q } (start N vs) H) : CalX P w K mg base (k + 1) x sp := by
  obtain ⟨oc, od, dV, kV, doc, pm, an, cdv, ct, osl, rfl, lk, hcd⟩ := F.fn.ex
  exact ⟨f, _, ps, fn_of lk hcd S len (hbody cdv), F.mgf, F.kp, b⟩
section
variable {X : Cx} {k j : Nat} {x : Str} {sp : Sp} {p pos : Pos} {e : Expr} {es : List Expr} {t : TA} {W : WX} {E : XK}
theorem pe_cx (c : CalX X.prog X.w X.K X.mg X.base k x sp) (tk : Takes X W) (hW : ∀ cls d σ H, E cls d H → W cls d σ H) (hr : Room j X.A) (hk : k ≤ j) (hg : Gl X x) (ha : PA X (e :: es) t)
    (hdb : (x == ("__debug__" : Str)) = false := by decide) (he : starEach (e :: es) X.env = (false, eval e X.env) :: starEach es X.env := by rfl) (hpl : (backTo pos (starEach es X.env)).any (·.1) = false := by rfl) :
    PE X (.Call (.Name x p) (e :: es) [] pos) (tCall sp [] E t) := by
  obtain ⟨f, fd, ps, F, hm, kp, b⟩ := c.ex
  exact pe_call F (hr.mono hk) hg hm kp b .nil (passes_call tk hW) ha hdb he hpl
end
end Gx
set_option Elab.async false
set_option linter.all false
set_option maxRecDepth 100000
set_option maxHeartbeats 1000000
namespace Gx
open PySem PySem.Spec PySem.Calls PyProof.Rows PySem.W
section
variable {prog : Program} {w : World} {A : Around} {E : Value → Shared → Prop} {s : Shared} {K : Frag} {a D : Addr} {oa odict : Obj}
/-- e.__class__ -/
theorem cls_of_exc {Q : Option Value → Shared → Prop} (G : L2.ExcC K D) (KI : K.In s.heap) (J : InstAt s.heap a oa D (some odict)) (q : Q (some (.ref D)) { s with toks := s.toks + 1 }) : wpAny (model prog w) A (getAttr? (.ref a) "__class__") Q E s := by
  have some1 : (clsIn K D).isSome = true := by
    obtain ⟨_, e, _⟩ := any_some G.hd
    rw [e]; rfl
  have found := findObj_data (od := odict) some1 G.ha G.hn G.ht
  obtain ⟨hp, gs, dr, tk, oss⟩ := s
  have M1 : Looks (model prog w) hp (typeOf (.ref a)) (.ref D) := J.type
  have M2 := looks_findIn (M := model prog w) KI G.hg
  have M3 := looks_findIn (M := model prog w) KI G.hk
  have M4 := looks_find (M := model prog w) KI J found
  have M5 : Looks (model prog w) hp (isInstance (.ref a) (.type "BaseException")) true := M1.andThen (looks_subIn KI G.hs)
  have other : (Value.builtin "BaseException.__getattribute__" == Value.builtin "object.__getattribute__") = false := by decide +kernel
  have b1 : (onTheHeap (Value.ref D) && Value.builtin "BaseException.__getattribute__" == Value.builtin "object.__getattribute__") = false := by rw [other]; rfl
  unfold getAttr? getAttrBy? getAttrBy
  refine wpAny_bind (wpAny_mkText (wpAny_bind (wpAny_attempt (wpAny_holding (wpAny_bind (M1.at (wpAny_bind (M2.at ?a1))))))))
  case a1 =>
    show wpAny _ _ (if (onTheHeap (Value.ref D) && Value.builtin "BaseException.__getattribute__" == Value.builtin "object.__getattribute__") = true then _ else _) _ _ _
    rw [b1, if_neg Bool.false_ne_true]
    unfold getAttrByItsOwn hookBefore
    refine wpAny_bind ?a2
    case a2 =>
      rw [if_pos (show onTheHeap (Value.ref D) = true from rfl)]
      refine M3.at (wpAny_bind (wpAny_attempt (wpAny_holding ?a3)))
      case a3 =>
        unfold callGetattribute
        rw [show (false && onTheHeap (Value.builtin "BaseException.__getattribute__")) = false from rfl, if_neg Bool.false_ne_true]
        unfold boundAndCalled
        rw [PySem.F.excAttr_ValueError.ga.bind (.ref a)]
        refine wpAny_bind (wpAny_pure ?a4)
        case a4 =>
          show wpAny _ _ (call (.builtin "BaseException.__getattribute__") [.ref a, .str "__class__" tk]) _ _ _
          refine wpAny_call (codeAny_call_builtin PySem.F.excAttr_ValueError.ga.plain PySem.F.entry_bexc_ga (@check_slot (model prog w) _ _ ⟨hp, gs, dr, tk + 1, oss⟩ "BaseException.__getattribute__" "BaseException" "__getattribute__" (.ref a) [.str "__class__" tk] [] _
            (by decide +kernel) (by decide +kernel) M5 (PySem.F.args_bexc_ga (.ref a) (.str "__class__" tk)) ?a5))
          case a5 =>
            unfold Builtin.«object.__getattribute__»
            refine wpAny_bind (wpAny_of_eq (a := ((Value.ref a : Value), [Value.str "__class__" tk])) (by first | rfl | (simp only [slotArgs]; rfl)) (wpAny_bind (wpAny_pure (wpAny_bind (M1.at (wpAny_bind (M4.at ?a6)))))))
            case a6 =>
              show wpAny _ _ (holding [Value.builtin "object.__class__"] (call (.builtin "getset_descriptor.__get__") [.builtin "object.__class__", .ref a, .ref D]) >>= ret) _ _ _
              refine wpAny_bind (wpAny_holding (wpAny_call (class_get (s := ⟨hp, gs, dr, tk + 1, oss⟩) KI J G.hm (wpAny_pure ?a7))))
              case a7 =>
                show wpAny _ _ (handedOut (.ref D)) _ _ _
                rw [handedOut_of (v := .ref D) rfl]
                first
                  | exact wpAny_pure (wpAny_pure q)
                  | exact wpAny_pure q
                  | exact wpAny_pure (wpAny_bind (wpAny_pure (wpAny_pure q)))
theorem kit_exc (G : L2.ExcC K D) : KitX K (.ref a) (.ref D) (fun h => InstAt h a oa D (some odict)) := by
  have atK : ∃ c d cd sl, K.lookup D = some ⟨c, d, .cls cd, sl⟩ := by
    obtain ⟨_, e, _⟩ := any_some G.hd
    unfold clsIn at e
    split at e
    · exact ⟨_, _, _, _, by assumption⟩
    · cases e
  obtain ⟨c, d, cd, sl, eD⟩ := atK
  refine ⟨fun _ _ _ J => J.type, fun _ _ KI _ => ?_, fun h tp dd its n sl' KI e => ?_, fun KI J q => cls_of_exc G KI J q⟩
  · intro A' Q' E' s' k q
    unfold isType loadHead
    exact wpAny_bind (wpAny_loadPart (k _ _ (KI _ _ eD)) (wpAny_pure q))
  · refine Bool.eq_false_iff.mpr fun z => ?_
    obtain rfl : D = tp := Value.ref.inj (beq_iff_eq.mp z)
    cases (KI _ _ eD).symm.trans e
end
open L2
end Gx
set_option Elab.async false
set_option linter.all false
set_option maxRecDepth 100000
set_option maxHeartbeats 1000000
namespace Gx
open PySem PySem.Spec PyProof.Rows L2
end Gx
set_option Elab.async false
set_option linter.all false
set_option maxRecDepth 100000
set_option maxHeartbeats 1000000
namespace Gx
open PySem PySem.Spec PyProof.Rows L2
end Gx
set_option Elab.async false
set_option linter.all false
set_option maxRecDepth 100000
set_option maxHeartbeats 4000000
namespace Au
open PySem PySem.Spec PyProof.Rows L2
def ExP (p : Addr) (H H' : Hp) : Prop := ∀ c o, H c = some o → c ≠ p → H' c = some o
theorem ExP.refl {p : Addr} (H : Hp) : ExP p H H := fun _ _ e _ => e
theorem ExP.of {p : Addr} {H H' : Hp} (e : Rd.Ex H H') : ExP p H H' := fun c o h _ => e c o h
theorem ExP.trans {p : Addr} {H H1 H2 : Hp} (a : ExP p H H1) (b : ExP p H1 H2) : ExP p H H2 := fun c o h n => b c o (a c o h n) n
section
variable {H H' : Hp} {p b c : Addr} {o o' z : HO}
theorem alloc {Q : VK} (q : ∀ p H', H p = none → Rd.Ex H H' → H' p = some o → Q (.ref p) H') : ∀ p, H p = none → Q (.ref p) (upd H p o) := fun p hp => q p _ hp (Rd.ex_new hp) upd_same
end
theorem rep {H : Hp} {Q : VK} {l : Addr} {k : Int} {xs : List V} (h1 : H l = some (.lst xs)) (hk : 0 ≤ k ∧ k < 100) (hl : xs.length ≤ 10) (q : ∀ p H', H p = none → Rd.Ex H H' → H' p = some (.lst (List.replicate k.toNat xs).flatten) → Q (.ref p) H') : rRep (.ref l) (.int k) H Q :=
  ⟨l, k, xs, rfl, rfl, h1, by omega, by omega, Nat.le_trans (Nat.mul_le_mul hl (show k.toNat ≤ 100 by omega)) (Nat.le_of_ble_eq_true rfl), fun p hp => q p _ hp (Rd.ex_new hp) upd_same⟩
def NewO (H : Hp) (o : HO) (Q : VK) : Prop := ∀ p, H p = none → Q (.ref p) (upd H p o)
section
variable {σ : L2.St} {H : Hp} {Q : VK} {K : PySem.W.Frag} {tr : TA} {te ti : TE} {o : HO} {a C dx : Addr} {fs : List (Str × V)} {xs : List V} {v : V}
theorem new (q : ∀ p H', H p = none → Rd.Ex H H' → H' p = some o → Q (.ref p) H') : NewO H o Q := fun p hp => q p _ hp (Rd.ex_new hp) upd_same
theorem tup (h : tr σ H fun xs H1 => xs.length ≤ sizeLine ∧ NewO H1 (.tup xs) Q) : tTup tr σ H Q := h
theorem lst (h : tr σ H fun xs H1 => xs.length ≤ sizeLine ∧ NewO H1 (.lst xs) Q) : tLst tr σ H Q := h
theorem sum {ns : List Int} (h : SqL K H a (ns.map V.int)) (q : Q (.int ns.sum) H) : rSum K [.ref a] H Q := ⟨a, ns, rfl, h, q⟩
end
end Au
set_option maxRecDepth 100000
namespace ML
def A : Int := 205891132094649
def M : Int := 281474976710656
def S : Nat → Int
  | 0 => 0
  | n + 1 => A * S n + 1
theorem pow_ge (n : Nat) : A ^ n = 1 + (A - 1) * S n := by
  induction n with
  | zero => simp [S]
  | succ n ih => rw [Int.pow_succ, ih]; simp only [S]; grind
theorem S_add (a b : Nat) : S (a + b) = A ^ b * S a + S b := by
  induction b with
  | zero => simp [S]
  | succ b ih => rw [← Nat.add_assoc]; simp only [S]; rw [ih, Int.pow_succ]; grind
/-- the state after n steps, as an integer -/
def raw (n : Nat) (x : Int) : Int := A ^ n * x + 11 * S n
theorem raw_add (a b : Nat) (x : Int) : raw (a + b) x = raw b (raw a x) := by
  unfold raw
  rw [S_add, Int.pow_add]
  grind
theorem raw_sub (n : Nat) (x : Int) : raw n x - x = S n * ((A - 1) * x + 11) := by
  unfold raw
  rw [pow_ge]
  grind
def mv (n : Nat) (x : Int) : Int := raw n x % 281474976710656
def m1 (n : Nat) : Int := A ^ n % 281474976710656
def m2 (n : Nat) : Int := 11 * S n % 281474976710656
theorem m1_rng (n : Nat) : 0 ≤ m1 n ∧ m1 n < 281474976710656 := by unfold m1; omega
theorem m2_rng (n : Nat) : 0 ≤ m2 n ∧ m2 n < 281474976710656 := by unfold m2; omega
theorem mv_rng (n : Nat) (x : Int) : 0 ≤ mv n x ∧ mv n x < 281474976710656 := by unfold mv; omega
theorem mul_add_mod (a b x m : Int) : ((a % m) * x + b % m) % m = (a * x + b) % m := by
  rw [Int.add_emod, Int.emod_emod_of_dvd _ (Int.dvd_refl m), Int.mul_emod, Int.emod_emod_of_dvd _ (Int.dvd_refl m), ← Int.mul_emod, ← Int.add_emod]
theorem mul_add_mod2 (a b x m : Int) : (a * (x % m) + b % m) % m = (a * x + b) % m := by
  rw [Int.mul_comm, mul_add_mod, Int.mul_comm]
theorem mul_mod2 (a x m : Int) : ((a % m) * (x % m)) % m = (a * x) % m := by rw [← Int.mul_emod]
theorem mapped (n : Nat) (x : Int) : (m1 n * x + m2 n) % 281474976710656 = mv n x := by
  unfold m1 m2 mv raw
  exact mul_add_mod _ _ _ _
theorem join1 (a b : Nat) : m1 a * m1 b % 281474976710656 = m1 (a + b) := by
  unfold m1
  rw [mul_mod2, Int.pow_add]
theorem join2 (a b : Nat) : (m2 a * m1 b + m2 b) % 281474976710656 = m2 (a + b) := by
  unfold m2 m1
  rw [mul_add_mod2, S_add, Int.add_emod, Int.mul_emod, Int.emod_emod_of_dvd _ (Int.dvd_refl _), ← Int.mul_emod, ← Int.add_emod]
  congr 1
  grind
theorem mv_add (a b : Nat) (x : Int) : mv b (mv a x) = mv (a + b) x := by
  unfold mv
  rw [raw_add]
  unfold raw
  rw [Int.add_emod, Int.mul_emod, Int.emod_emod_of_dvd _ (Int.dvd_refl _), ← Int.mul_emod, ← Int.add_emod]
theorem mv_zero {x : Int} (h0 : 0 ≤ x) (h1 : x < 281474976710656) : mv 0 x = x := by
  unfold mv raw S
  rw [Int.pow_zero]
  omega
theorem m_one : m1 1 = 205891132094649 ∧ m2 1 = 11 := by
  constructor <;> rfl
theorem S_double (n : Nat) : S (2 * n) = S n * (2 * (1 + 102945566047324 * S n)) := by
  rw [Nat.two_mul, S_add, pow_ge]
  have e : A - 1 = 205891132094648 := by decide
  rw [e]
  grind
theorem S_odd (n : Nat) : S (2 * n + 1) % 2 = 1 := by
  show (A * S (2 * n) + 1) % 2 = 1
  rw [S_double]
  have : A * (S n * (2 * (1 + 102945566047324 * S n))) = 2 * (A * (S n * (1 + 102945566047324 * S n))) := by grind
  rw [this]
  omega
theorem dvd_odd {k : Nat} {a c : Int} (h : c % 2 = 1) : (2 ^ k : Int) ∣ a * c ↔ (2 ^ k : Int) ∣ a := by
  constructor
  · intro hd
    induction k with
    | zero => exact Int.one_dvd _
    | succ k ih =>
      have h1 : (2 ^ k : Int) ∣ a * c := Int.dvd_trans ⟨2, by rw [Int.pow_succ]⟩ hd
      obtain ⟨z, hz⟩ := ih h1
      obtain ⟨y, hy⟩ := hd
      have p : (0 : Int) < 2 ^ k := Int.pow_pos (by decide)
      have e : (2 : Int) ^ k * (z * c) = 2 ^ k * (2 * y) := by rw [Int.pow_succ] at hy; grind
      have e2 := Int.eq_of_mul_eq_mul_left (Int.ne_of_gt p) e
      have hz2 : z % 2 = 0 := by
        have h5 : (z * c) % 2 = 0 := by omega
        rw [Int.mul_emod, h] at h5
        omega
      exact ⟨z / 2, by rw [Int.pow_succ, hz]; have : z = 2 * (z / 2) := by omega
                       rw [Int.mul_assoc, ← this]⟩
  · intro hd
    obtain ⟨z, hz⟩ := hd
    exact ⟨z * c, by rw [hz, Int.mul_assoc]⟩
theorem S_dvd : ∀ (k n : Nat), (2 ^ k : Int) ∣ S n ↔ (2 ^ k : Nat) ∣ n
  | 0, n => ⟨fun _ => ⟨n, by simp⟩, fun _ => Int.one_dvd _⟩
  | k + 1, n => by
    rcases Nat.mod_two_eq_zero_or_one n with h | h
    · have e : n = 2 * (n / 2) := by omega
      rw [e, S_double]
      have ih := S_dvd k (n / 2)
      have od : (1 + 102945566047324 * S (n / 2)) % 2 = 1 := by omega
      constructor
      · intro hd
        have h2 : (2 ^ k : Int) ∣ S (n / 2) * (1 + 102945566047324 * S (n / 2)) := by
          obtain ⟨y, hy⟩ := hd
          exact ⟨y, by
            rw [Int.pow_succ] at hy
            have : (2 : Int) * (S (n / 2) * (1 + 102945566047324 * S (n / 2))) = 2 * (2 ^ k * y) := by grind
            exact Int.eq_of_mul_eq_mul_left (by decide) this⟩
        obtain ⟨z, hz⟩ := ih.mp ((dvd_odd od).mp h2)
        exact ⟨z, by rw [Nat.pow_succ, hz]; simp only [Nat.mul_comm, Nat.mul_left_comm]⟩
      · rintro ⟨z, hz⟩
        have h3 : (2 ^ k : Nat) ∣ n / 2 := ⟨z, by
          rw [Nat.pow_succ, Nat.mul_comm (2 ^ k) 2, Nat.mul_assoc] at hz
          omega⟩
        obtain ⟨y, hy⟩ := ih.mpr h3
        exact ⟨y * (1 + 102945566047324 * S (n / 2)), by rw [Int.pow_succ]; rw [hy]; grind⟩
    · have e : n = 2 * (n / 2) + 1 := by omega
      constructor
      · intro hd
        have h1 := S_odd (n / 2)
        rw [← e] at h1
        obtain ⟨y, hy⟩ := hd
        rw [Int.pow_succ, Int.mul_comm _ 2, Int.mul_assoc] at hy
        omega
      · rintro ⟨z, hz⟩
        rw [Nat.pow_succ, Nat.mul_comm (2 ^ k) 2, Nat.mul_assoc] at hz
        omega
/-- n steps leave the lowest k digits as they are exactly if 2 ^ k divides n -/
theorem low_iff (k n : Nat) (x : Int) : (2 ^ k : Int) ∣ raw n x - x ↔ (2 ^ k : Nat) ∣ n := by
  rw [raw_sub, dvd_odd (by have : A - 1 = 205891132094648 := by decide
                           rw [this]; omega)]
  exact S_dvd k n
theorem mv_low {k : Nat} (hk : k ≤ 48) (n : Nat) (x : Int) : (2 ^ k : Int) ∣ mv n x - x ↔ (2 ^ k : Nat) ∣ n := by
  rw [← low_iff k n x]
  have e : (2 ^ k : Int) ∣ raw n x - mv n x := by
    unfold mv
    have h1 : (281474976710656 : Int) ∣ raw n x - raw n x % 281474976710656 := ⟨raw n x / 281474976710656, by omega⟩
    have h2 : (2 ^ k : Int) ∣ 281474976710656 := ⟨2 ^ (48 - k), by rw [← Int.pow_add, show k + (48 - k) = 48 by omega]; decide⟩
    exact Int.dvd_trans h2 h1
  constructor
  · intro h
    have := Int.dvd_add e h
    rwa [show raw n x - mv n x + (mv n x - x) = raw n x - x by omega] at this
  · intro h
    have := Int.dvd_sub h e
    rwa [show raw n x - x - (raw n x - mv n x) = mv n x - x by omega] at this
theorem mv_period (n : Nat) {x : Int} (h0 : 0 ≤ x) (h1 : x < 281474976710656) : mv (281474976710656 * n) x = x := by
  have d : (2 ^ 48 : Int) ∣ mv (281474976710656 * n) x - x := (mv_low (Nat.le_refl 48) _ _).mpr ⟨n, by rfl⟩
  have r := mv_rng (281474976710656 * n) x
  obtain ⟨z, hz⟩ := d
  have : (2 ^ 48 : Int) = 281474976710656 := by decide
  rw [this] at hz
  omega
theorem mv_mod (n : Nat) (x : Int) : mv (n % 281474976710656) x = mv n x := by
  have e : n = 281474976710656 * (n / 281474976710656) + n % 281474976710656 := by omega
  have r := mv_rng (n % 281474976710656) x
  calc mv (n % 281474976710656) x = mv (281474976710656 * (n / 281474976710656)) (mv (n % 281474976710656) x) := (mv_period _ r.1 r.2).symm
    _ = mv (n % 281474976710656 + 281474976710656 * (n / 281474976710656)) x := mv_add _ _ _
    _ = mv n x := by congr 1; omega
end ML
namespace ML
theorem mod_eq_iff {m a b : Nat} : a % m = b % m ↔ (m : Int) ∣ (a : Int) - b := by
  constructor
  · intro h
    refine ⟨(a / m : Nat) - (b / m : Nat), ?_⟩
    have e1 := Nat.div_add_mod a m
    have e2 := Nat.div_add_mod b m
    rw [h] at e1
    have e3 : ((m * (a / m) + b % m : Nat) : Int) - ((m * (b / m) + b % m : Nat) : Int) = (a : Int) - b := by rw [e1, e2]
    rw [← e3, Int.mul_sub]
    push_cast
    omega
  · intro h
    have h2 := Int.emod_eq_emod_iff_emod_sub_eq_zero.mpr (Int.emod_eq_zero_of_dvd h)
    have h3 : ((a % m : Nat) : Int) = ((b % m : Nat) : Int) := by rw [Int.natCast_emod, Int.natCast_emod]; exact h2
    exact Int.ofNat.inj h3
/-- the digit i of the exclusive or tells whether two numbers that are equal below it differ there -/
theorem bit_xor {i : Nat} {a b : Nat} (h : (2 ^ i : Int) ∣ (a : Int) - b) : (a ^^^ b) / 2 ^ i % 2 = 1 ↔ ¬ (2 ^ (i + 1) : Int) ∣ (a : Int) - b := by
  have hm : a % 2 ^ i = b % 2 ^ i := mod_eq_iff.mpr (by push_cast; exact h)
  have hx : ∀ x : Nat, x / 2 ^ i % 2 = (x.testBit i).toNat := fun x => by
    rw [Nat.testBit_eq_decide_div_mod_eq]
    rcases Nat.mod_two_eq_zero_or_one (x / 2 ^ i) with q | q <;> rw [q] <;> rfl
  have hs : (2 ^ (i + 1) : Int) ∣ (a : Int) - b ↔ a % 2 ^ (i + 1) = b % 2 ^ (i + 1) := by
    rw [mod_eq_iff]; push_cast; exact Iff.rfl
  rw [hs, Nat.mod_pow_succ, Nat.mod_pow_succ, hm, hx, hx, hx, Nat.testBit_xor]
  have p := Nat.pow_pos (n := i) (show 0 < 2 by decide)
  cases a.testBit i <;> cases b.testBit i <;> simp <;> omega
end ML
set_option linter.all false
namespace MX
def xs (k n : Nat) : Nat := n ^^^ (n / 2 ^ k)
def F : Nat := 3486784401
def tmp (n : Nat) : Nat := xs 16 (xs 13 n * F % 4294967296)
def bk (s : Nat) (p : Nat × Nat) : Nat × Nat := (p.2 ^^^ tmp ((p.1 + 1000003 * s) % 4294967296), p.1)
def ok (p : Nat × Nat) : Prop := p.1 < 2 ^ 32 ∧ p.2 < 2 ^ 32
end MX
set_option Elab.async false
set_option linter.all false
set_option maxRecDepth 100000
set_option maxHeartbeats 4000000
set_option exponentiation.threshold 2000
namespace Pr
open PySem PySem.Spec PyProof.Rows L2
def NonInt (H : Hp) (v : V) : Prop := v = .non ∨ (∃ b, v = .bl b) ∨ (∃ s, v = .str s) ∨ (∃ a xs, v = .ref a ∧ H a = some (.tup xs)) ∨ (∃ a xs, v = .ref a ∧ H a = some (.lst xs)) ∨ ∃ a kvs, v = .ref a ∧ H a = some (.dK kvs)
/-- is the value a number in its bounds -/
abbrev spIs (lo hi : Int) : Sp := fun vs H Q _ => ∃ v, vs = [v] ∧ ((∃ n : Int, v = .int n ∧ Q (.bl (decide (lo ≤ n ∧ n ≤ hi))) H) ∨ (NonInt H v ∧ Q (.bl false) H))
def MapAt (K : PySem.W.Frag) (H : Hp) (a : Addr) (n : Nat) : Prop := SqT K H a [.int (ML.m1 n), .int (ML.m2 n)]
theorem MapAt.ex {K : PySem.W.Frag} {H H' : Hp} {a : Addr} {n : Nat} (e : Rd.Ex H H') (h : MapAt K H a n) : MapAt K H' a n := Rd.ex_t e h
end Pr
set_option Elab.async false
set_option linter.all false
set_option maxRecDepth 100000
set_option maxHeartbeats 4000000
namespace Gx
open PySem PySem.Spec PyProof.Rows L2
def gFld (K : PySem.W.Frag) (to : TE) (f : Str) : TG := fun v σ H Q => to σ H fun x H1 => ∃ a C dx fs, x = .ref a ∧ H1 a = some (.ins C dx fs) ∧ Cls K C ∧ NoAttr K C f ∧ fs.length < 1000 ∧ Q σ (upd H1 a (.ins C dx (putF f v fs)))
end Gx
set_option Elab.async false
set_option linter.all false
set_option maxRecDepth 100000
set_option maxHeartbeats 1000000
namespace Gx
open PySem PySem.Spec PyProof.Rows L2 GenW Builtin Builtin.ObjectAttr
structure YexC (K : PySem.W.Frag) (C : Addr) (initId : String) : Prop where
  cls : ∃ (B newId : String) (bmB : List Value), ExcBaseFacts B newId initId bmB ∧ PySem.StoreFacts B bmB "object.__setattr__" "object" ∧ PySem.W.excInitIn K C bmB newId = true ∧ PySem.W.excOver K C bmB = true
  hd : PySem.W.hasDictIn K C = true
  sa : PySem.W.findIn K (.ref C) "__setattr__" = some (some (.builtin "object.__setattr__"))
  exC : PySem.W.subIn K (.ref C) (.type "BaseException") = some true
  tyC : PySem.W.typeIn K (.ref C) = some (.type "type")
  kC : PySem.W.keepIn K (.ref C) = true
section
variable {X : Cx} {pins : List (Addr × Obj)} {σ : L2.St} {H : Hp} {s : Shared} {a C dx : Addr} {f : Str} {y : V} {u : Value} {initId : String} {A : Around} {E : Value → Shared → Prop}
theorem ostY {Q : Unit → Shared → Prop} (T : YexC X.K C initId) (I : Inv X pins σ H s) (ea : H a = some (exo a C none)) (tf : PySem.W.takerIn X.K C f = some none) (ry : RelV y u)
    (next : ∀ dx s', H dx = none → dx ≠ a → Inv X pins σ (upd (upd H dx (exd dx [(f, y)])) a (exo a C (some dx))) s' → Q () s') : wpAny (model X.prog X.w) A (setAttr (.ref a) f u) Q E s := by
  obtain ⟨B, newId, bmB, FB, SF, hin, hov⟩ := T.cls
  obtain ⟨t1, ho⟩ := exo_at I.hok ea
  obtain ⟨cd, hcd, hdict⟩ := PySem.W.any_some T.hd
  have lcd : PySem.W.Looks (model X.prog X.w) s.heap (classData C) cd := PySem.W.looks_clsIn I.kIn hcd
  obtain ⟨hp, g, dr, t, os⟩ := s
  have inst : PySem.W.InstAt hp a ({ cls := .ref C, dict := none, data := .fields #[.ref t1, .none, .none, .none, .bool false, .none] } : Obj) C none := ⟨ho, rfl, rfl, trivial⟩
  refine PySem.W.set_plain I.kIn (od := none) inst T.sa (PySem.W.osa_openX SF I.kIn inst hov tf fun b => ?_)
  obtain ⟨c1, c2, c3, c4, c5, c6, c7, c8, c9, c10, c11⟩ := cd
  have c6t : c6 = true := hdict
  subst c6t
  have apart : a ≠ hp.objs.size := Nat.ne_of_lt (Heap.lt_size ho)
  show wpAny _ _ (storeInOwnDict _ _ _ _ _ _) _ _ _
  unfold storeInOwnDict ownDictForStores
  repeat (first | with_reducible refine PySem.HandSPX.store_in_new ?_ ?_ | with_reducible refine wpAny_loadPart_at ho ?_ | with_reducible refine lcd.at ?_ | wp_step)
  · exact ⟨_, #[], _, (Heap.get?_update_ne _ _ _ _ (Ne.symm apart)).trans (Heap.get?_push_at rfl rfl), rfl, fun en hen => absurd hen (by simp), fun _ => rfl⟩
  intro h' tk' ns' sb
  have free : H hp.objs.size = none := I.hok.fresh (Nat.le_refl _)
  have off : ∀ {b : Addr}, H b = none → b ≠ a := fun {b} hb z => by rw [z, ea] at hb; cases hb
  have low : ∀ {b : Addr} {o : Obj}, hp.get? b = some o → b ≠ hp.objs.size := fun {b o} hb => Nat.ne_of_lt (Heap.lt_size hb)
  have stays : ∀ b o, b ≠ a → hp.get? b = some o → h'.get? b = some o := fun b o hb ho => by
    rw [sb.2 b (low ho), Heap.get?_update_ne _ _ _ _ hb]
    exact Heap.get?_push_of_some _ ho
  have atA : h'.get? a = some ({ cls := .ref C, dict := some hp.objs.size, data := .fields #[.ref t1, .none, .none, .none, .bool false, .none] } : Obj) := by
    rw [sb.2 a apart]
    exact Heap.get?_update_self _ (Heap.get?_push_of_some _ ho) rfl
  have nTup : ∀ {b : Addr} {xs : List V}, H b = some (.tup xs) → b ≠ a := fun {b xs} hb z => by rw [z, ea] at hb; exact exo_tup (Option.some.inj hb)
  have nFrz : ∀ {b : Addr} {o : Obj} {v : HO}, H b = some (.frz o v) → b ≠ a := fun {b o v} hb z => by rw [z, ea] at hb; exact exo_frz (Option.some.inj hb)
  have nTbl : ∀ {b : Addr} {ps : Array Value}, H b = some (.tbl ps) → b ≠ a := fun {b ps} hb z => by rw [z, ea] at hb; exact exo_tbl (Option.some.inj hb)
  have nOwn : ∀ {b c : Addr}, H b = some (.own c) → b ≠ a := fun {b c} hb z => by rw [z, ea] at hb; exact exo_own (Option.some.inj hb)
  have both : ∀ {b : Addr} {o : HO}, H b = some o → b ≠ a → upd (upd H hp.objs.size (exd hp.objs.size [(f, y)])) a (exo a C (some hp.objs.size)) b = some o := fun {b o} hb n => by
    rw [upd_ne n, upd_ne (ne_of_none hb free)]
    exact hb
  have U : Un X.fs [] H (upd (upd H hp.objs.size (exd hp.objs.size [(f, y)])) a (exo a C (some hp.objs.size))) hp h' := by
    refine ⟨fun b o ho hb _ _ => stays b o (off hb) ho, fun b o ho hb _ _ => ⟨o.slots, stays b o (off hb) ho⟩, fun b o ho hb _ => ?_, fun b o ho _ => ?_, fun b xs hb => both hb (nTup hb), fun b o v hb => both hb (nFrz hb), fun b ps hb => ⟨#[], by rw [Array.append_empty]; exact both hb (nTbl hb)⟩⟩
    · rw [upd_ne (off hb), upd_ne (low ho)]; exact hb
    · by_cases z : b = a
      · exact ⟨_, z ▸ atA⟩
      · exact ⟨o, stays b o z ho⟩
  refine next hp.objs.size _ free (Ne.symm apart) (I.un (t' := tk') U fun b o hb => ?_)
  by_cases z : b = a
  · rw [z, upd_same] at hb
    cases hb
    rw [z]
    exact exo_ok atA
  rw [upd_ne z] at hb
  by_cases z2 : b = hp.objs.size
  · rw [z2, upd_same] at hb
    cases hb
    rw [z2]
    exact exd_ok ns' (relO_put (fs := []) ry fun _ => True.intro)
  rw [upd_ne z2] at hb
  refine (I.hok b o hb).stay (fun c v hc hv => stays c v ?_ hv) (fun c hc => both hc (nOwn hc)) fun c xs hc => both hc (nTup hc)
  rcases hc with hc | hc
  · exact hc ▸ z
  · exact nOwn hc
theorem initY {us : List Value} {Q : Value → Shared → Prop} (T : YexC X.K C initId) (I : Inv X pins σ H s) (ea : H a = some (exo a C none)) (hl : us.length ≤ sizeLine) (next : ∀ s', Inv X pins σ H s' → Q .none s') :
    wpAny (model X.prog X.w) A (call (.builtin initId) (.ref a :: us)) Q E s := by
  obtain ⟨B, newId, bmB, FB, SF, hin, hov⟩ := T.cls
  obtain ⟨nm, N, qn, bs, bm, hdct, sn, sub, ab, col, dd, k0, k1, k2, k3, k5, hC, hT⟩ := PySem.W.excInit_of I.kIn hin
  obtain ⟨t1, ho⟩ := exo_at I.hok ea
  obtain ⟨hp, g, dr, t, os⟩ := s
  refine wpAny_call (PySem.HandSPX.init_base FB hT hC ho hl fun h' t2 kept hx => ?_)
  have same : upd H a (exo a C none) = H := funext fun b => by
    by_cases z : b = a
    · rw [z, upd_same, ea]
    · rw [upd_ne z]
  have J := I.write (t' := t) (x := a) (e := a) (o := exo a C none) (by rw [ea]; trivial) (.inl rfl) kept ⟨_, hx⟩ (exo_ok hx)
  rw [same] at J
  exact next _ J
end
def tBI (K : PySem.W.Frag) (initId : String) (ta : TA) : TE := fun σ H Q => ta σ H fun vs H1 => ∃ (a C : Addr) (ws : List V), vs = .ref a :: ws ∧ ws.length ≤ 1000 ∧ YexC K C initId ∧ H1 a = some (exo a C none) ∧ Q .non H1
def tOstY (K : PySem.W.Frag) (initId : String) (f : Str) (to te : TE) : TS := fun D σ H => te σ H fun y H1 => to σ H1 fun x H2 => ∃ a C : Addr, x = .ref a ∧ YexC K C initId ∧ PySem.W.takerIn K C f = some none ∧
  H2 a = some (exo a C none) ∧ ∀ dx, H2 dx = none → dx ≠ a → D.nx σ (upd (upd H2 dx (exd dx [(f, y)])) a (exo a C (some dx)))
section
variable {X : Cx} {x f : Str} {e o : Expr} {es : List Expr} {ta : TA} {to te : TE} {p p' p1 p2 pos : Pos} {initId : String}
/-- B.__init__(self, ..), B an own class over a built-in one, without an __init__ of its own -/
theorem pe_bi {pl : Sem Bool} {B : Addr} {mc : Value} (hg : Gl X x) (hm : X.mg x = some (.ref B)) (r : ClX.CRead X.K B mc) (hv : PySem.W.findCls X.K (.ref B) mc "__init__" = some (.val (.builtin initId))) (hh : PySem.W.handedIn (.builtin initId) = true) (ha : PA X (e :: es) ta)
    (hdb : (x == ("__debug__" : Str)) = false := by decide)
    (hc : eval (.Call (.Attribute (.Name x p1) "__init__" p2) (e :: es) [] pos) X.env = (do
      let ov ← eval (.Name x p1) X.env
      standAt p2.atName
      let (f, first) ← holding [ov] (getMethod ov "__init__" pl)
      callWith pos f first (backTo pos (starEach (e :: es) X.env)) (backToKw pos (keywordEach [] X.env))) := by rfl)
    (he : starEach (e :: es) X.env = (false, eval e X.env) :: starEach es X.env := by rfl) (hpl : (backTo pos (starEach es X.env)).any (·.1) = false := by rfl) :
    PE X (.Call (.Attribute (.Name x p1) "__init__" p2) (e :: es) [] pos) (tBI X.K initId ta) := by
  refine ⟨fun pins s σ H Q I h => PySem.W.methodCall_KW (ld_glob I hg hm ?_ hdb) hc⟩
  refine PySem.W.method_cls I.kIn r.ga (PySem.W.cls_value I.kIn r.rd hv hh ?_)
  refine PyProof.Rows.callWith_method1 (thn (ha.run pos pins _ σ H _ (I.tok _) h) fun us s1 got => ?_) he hpl
  obtain ⟨vs, H1, I1, r1, a, C, ws, ev, hl, T, ea, q⟩ := got
  subst ev
  cases r1 with
  | @cons _ u _ ur ra rr =>
    obtain rfl : u = Value.ref a := ra
    exact initY T I1 ea (by rw [← Paired.length rr, sizeLine_eq]; omega) fun s' J => ⟨.non, H1, J, rfl, q⟩
theorem ps_ostY (ho : PE X o to) (he : PE X e te) (hs : swapsWith e (some (.Attribute o f p')) pos.line X.env = pure false := by rfl) : PS X (.Assign [.Attribute o f p'] e pos) (tOstY X.K initId f to te) := by
  refine ⟨fun pins s σ H D I h => plainObj_wpAny_Assign_Attribute (thn (he.run pins s σ H _ I h) fun v s1 got => ?_) hs⟩
  obtain ⟨y, H1, I1, r1, q1⟩ := got
  refine thn (ho.run pins s1 σ H1 _ I1 q1) fun u s2 got => ?_
  obtain ⟨z, H2, I2, r2, a, C, ez, T, tf, ea, q⟩ := got
  subst ez
  obtain rfl : u = Value.ref a := r2
  exact ostY T I2 ea tf r1 fun dx s' n ne J => ⟨σ, _, J, q dx n ne⟩
/-- C(e, ..), C's own __init__ keeping sp -/
theorem pmkY {CX : CXT} {C fI : Addr} {k : Nat} {fd : FuncData} {ps : List Str} {sp : Sp} (T : YexC X.K C initId) (iC : PySem.W.findIn X.K (.ref C) "__init__" = some (some (.ref fI))) (tI : PySem.W.typeIn X.K (.ref fI) = some (.type "function"))
    (F1 : FnOk X.prog X.w X.K X.mg X.base CX k fI fd ps sp) (hr : Room (k + 1) X.A) (hb : Binds X.K fd ps []) (hx : Passes CX X (fun _ _ _ => False)) (hg : Gl X x) (hm : X.mg x = some (.ref C)) (ha : PA X (e :: es) ta)
    (hdb : (x == ("__debug__" : Str)) = false := by decide) (he : starEach (e :: es) X.env = (false, eval e X.env) :: starEach es X.env := by rfl) (hpl : (backTo pos (starEach es X.env)).any (·.1) = false := by rfl) :
    PMk X (.Call (.Name x p) (e :: es) [] pos) (tMkO C sp [] ta) := by
  intro pins s σ H Q I h
  obtain ⟨B, newId, bmB, FB, SF, hin, hov⟩ := T.cls
  refine wpAny_Call_Name_kw (ld_glob I hg hm (PySem.W.callWith_K (h₀ := X.base) I.ok.mod.kin T.kC (thn (ha.run pos pins s σ H _ I h) fun us s1 got => ?_) he hpl) hdb)
  obtain ⟨vs, H1, I1, r1, hz, q1⟩ := got
  refine ⟨I1.kIn, ?_⟩
  obtain ⟨nm, N, qn, bs, bm, hdct, sn, sub, ab, col, dd, k0, k1, k2, k3, k5, hC, hT⟩ := PySem.W.excInit_of I1.kIn hin
  show wpAny _ _ (call (.ref C) us) _ _ _
  obtain ⟨hp, g, dr, tk, os⟩ := s1
  generalize hE : hp.objs.size + 1 = ex at *
  have above : hp.objs.size ≤ ex := by omega
  have fresh : H1 ex = none := I1.hok.fresh above
  have wish := q1 ex fresh
  have old : ∀ b o, hp.get? b = some o → ((hp.push (PySem.W.kdv_tup us)).push (PySem.HandSPX.excO C hp.objs.size)).get? b = some o := fun b o hb => Heap.get?_push_of_some _ (Heap.get?_push_of_some _ hb)
  have made : ((hp.push (PySem.W.kdv_tup us)).push (PySem.HandSPX.excO C hp.objs.size)).get? ex = some (PySem.HandSPX.excO C hp.objs.size) := by subst hE; heap_get
  have J : Inv X pins σ (upd H1 ex (exo ex C none)) ⟨(hp.push (PySem.W.kdv_tup us)).push (PySem.HandSPX.excO C hp.objs.size), g, dr, tk, os⟩ := I1.laid (t' := tk) old above (exo_ok made)
  have vals : Vals (V.ref ex :: (vs ++ [])) (Value.ref ex :: (us ++ [])) := .cons rfl (r1.append .nil)
  have len : (Value.ref ex :: us ++ []).length = ps.length := (F1.len _ _ _ _ wish ▸ vals.length).symm
  have lus : us.length ≤ sizeLine := by rw [← Paired.length r1, sizeLine_eq]; omega
  have go := F1.run _ X.stack _ _ ⟨Value.ref ex :: us, []⟩ (Value.ref ex :: (us ++ [])) _ _ (fun _ _ _ => False) (hr.make C us []) (J.env0.make C us []) (by rw [← List.cons_append]; exact hb _ (Value.ref ex :: us) J.kIn len) vals wish
  subst hE
  refine wpAny_call (PySem.HandSPX.call_own FB hT hC (PySem.W.looks_findIn I1.kIn iC) (fun self => PySem.W.bind_fn I1.kIn self tI) lus (codeAny_mono go fun r s' res => ?_))
  match r, res with
  | .error er, res => exact hx pins σ _ _ er s' J res
  | .ok (.ret u), res =>
    obtain ⟨v, H2, os2, bare2, un2, hok2, rv, ev, d, fs, e1, e2, e3, q2⟩ := res
    subst ev
    obtain ⟨h2, g2, d2, t2, os'⟩ := s'
    exact ⟨rv, mk_end (raises_own T.exC T.tyC) I1 above old un2 hok2 os2 bare2 e1 e2 e3 q2⟩
  | .ok .next, res => exact False.elim res
  | .ok .brk, res => exact False.elim res
  | .ok .cont, res => exact False.elim res
end
/-- an own exception class and what its __init__ promises -/
structure ExcMkY (P : Program) (w : World) (K : PySem.W.Frag) (mg : Str → Option Value) (base : Heap) (k : Nat) (x : Str) (C : Addr) (fl : Str) : Prop where
  ex : ∃ (f : Addr) (fd : FuncData) (ps : List Str) (initId : String), YexC K C initId ∧ PySem.W.findIn K (.ref C) "__init__" = some (some (.ref f)) ∧ PySem.W.typeIn K (.ref f) = some (.type "function") ∧ FnOk P w K mg base C8.CX0 k f fd ps (spExc C fl) ∧ Binds K fd ps [] ∧ mg x = some (.ref C)
theorem pmk_exY {X : Cx} {x : Str} {e : Expr} {ta : TA} {p pos : Pos} {k j : Nat} {C : Addr} {fl : Str} (c : ExcMkY X.prog X.w X.K X.mg X.base k x C fl) (hr : Room j X.A) (hk : k + 1 ≤ j) (hg : Gl X x) (ha : PA X [e] ta) (hdb : (x == ("__debug__" : Str)) = false := by decide)
    (he : starEach [e] X.env = (false, eval e X.env) :: starEach [] X.env := by rfl) (hpl : (backTo pos (starEach [] X.env)).any (·.1) = false := by rfl) : PMk X (.Call (.Name x p) [e] [] pos) (tMkO C (spExc C fl) [] ta) := by
  obtain ⟨f, fd, ps, initId, T, i, t, F, b, hm⟩ := c.ex
  exact pmkY T i t F (hr.mono hk) b C8.pass0 hg hm ha hdb he hpl
end Gx
set_option Elab.async false
set_option linter.all false
set_option maxRecDepth 100000
set_option maxHeartbeats 1000000
namespace Gx
open PySem PySem.Spec PyProof.Rows L2 GenW
structure MetX (P : Program) (w : World) (K : PySem.W.Frag) (mg : Str → Option Value) (base : Heap) (k : Nat) (C : Addr) (m : Str) (sp : Sp) : Prop where
  ex : ∃ (f : Addr) (fd : FuncData) (ps : List Str), Cls K C ∧ Meth K C m f ∧ FnOk P w K mg base (CX P w) k f fd ps sp ∧ Binds K fd ps []
theorem metX {P : Program} {w : World} {K : PySem.W.Frag} {mg : Str → Option Value} {base : Heap} {m qual : Str} {C : Addr} {st : Stmt} {f : Addr} {fd : FuncData} {N ps : List Str} {k : Nat} {sp : Sp} (c : Cls K C) (me : Meth K C m f) (F : C8.Fun K m qual st f fd) (b : Binds K fd ps [])
    (S : FnScope N ps (C8.fnScope st)) (len : ∀ vs H Q E, sp vs H Q E → vs.length = ps.length)
    (hbody : ∀ (cdv : Value) (A : Around) (outer : List Env) (s : Shared) (H : Hp) (vs : List V) (Q : VK) (E : XK), Room k (A.deeper (envOfC qual (C8.fnScope st) s.heap.objs.size f cdv)) → sp vs H Q E →
      ∃ t, PSs (cxOf (CX P w) P w K mg base N qual (C8.fnScope st) f cdv A outer s H E) (C8.fnBody st) t ∧ t { nx := fun _ H' => Q .non H', rt := Q } (start N vs) H) : MetX P w K mg base (k + 1) C m sp := by
  obtain ⟨oc, od, dV, kV, doc, pm, an, cdv, ct, osl, rfl, lk, hcd⟩ := F.ex
  exact ⟨f, _, ps, c, me, fn_of lk hcd S len (hbody cdv), b⟩
section
variable {X : Cx} {k j : Nat} {C : Addr} {x m : Str} {sp : Sp} {p pos apos : Pos} {e o : Expr} {es : List Expr} {ta : TE} {t : TA} {W : WX} {E : XK} {pl : Sem Bool}
theorem pe_mx (c : MetX X.prog X.w X.K X.mg X.base k C m sp) (tk : Takes X W) (hW : ∀ cls d σ H, E cls d H → W cls d σ H) (hr : Room j X.A) (hk : k ≤ j) (he : PE X o ta) (ha : PA X (e :: es) t)
    (hst : starEach (e :: es) X.env = (false, eval e X.env) :: starEach es X.env := by rfl) (hpl : (backTo pos (starEach es X.env)).any (·.1) = false := by rfl)
    (ht : eval (.Call (.Attribute o m apos) (e :: es) [] pos) X.env = (do
      let ov ← eval o X.env
      standAt apos.atName
      let (f, first) ← holding [ov] (getMethod ov m pl)
      callWith pos f first (backTo pos (starEach (e :: es) X.env)) (backToKw pos (keywordEach [] X.env))) := by rfl) :
    PE X (.Call (.Attribute o m apos) (e :: es) [] pos) (tMeth C m sp [] E ta t) := by
  obtain ⟨f, fd, ps, hc, hm, F, b⟩ := c.ex
  exact pe_meth (pl := pl) he hc hm F (hr.mono hk) b .nil (passes_call tk hW) ha hst hpl ht
theorem pe_mx0 (c : MetX X.prog X.w X.K X.mg X.base k C m sp) (tk : Takes X W) (hW : ∀ cls d σ H, E cls d H → W cls d σ H) (hr : Room j X.A) (hk : k ≤ j) (he : PE X o ta)
    (ht : eval (.Call (.Attribute o m apos) [] [] pos) X.env = (do
      let ov ← eval o X.env
      standAt apos.atName
      let (f, first) ← holding [ov] (getMethod ov m pl)
      callWith pos f first (backTo pos (starEach [] X.env)) (backToKw pos (keywordEach [] X.env))) := by rfl) :
    PE X (.Call (.Attribute o m apos) [] [] pos) (tMeth C m sp [] E ta tNil) := by
  obtain ⟨f, fd, ps, hc, hm, F, b⟩ := c.ex
  exact pe_meth0 (pl := pl) he hc hm F (hr.mono hk) b .nil (passes_call tk hW) ht
end
end Gx
set_option Elab.async false
set_option linter.all false
set_option maxRecDepth 100000
set_option maxHeartbeats 1000000
namespace Gx
open PySem PySem.Spec PyProof.Rows L2 GenW
def rTupOf (K : PySem.W.Frag) : List V → Hp → VK → Prop := fun xs H Q => ∃ p ys, xs = [.ref p] ∧ ((SqL K H p ys ∧ ∀ l, H l = none → Q (.ref l) (upd H l (.tup ys))) ∨ (SqT K H p ys ∧ Q (.ref p) H))
def rLstOf (K : PySem.W.Frag) : List V → Hp → VK → Prop := fun xs H Q => ∃ p ys, xs = [.ref p] ∧ (SqL K H p ys ∨ SqT K H p ys) ∧ ∀ l, H l = none → Q (.ref l) (upd H l (.lst ys))
section
variable {H : Hp} {Q : VK} {K : PySem.W.Frag} {a b : Addr} {xs zs : List V}
theorem ext (h : H a = some (.lst xs)) (h2 : H b = some (.lst zs)) (hl : xs.length + zs.length ≤ 1000000) (q : ∀ H', Au.ExP a H H' → H' a = some (.lst (xs ++ zs)) → Q .non H') : rExtend (.ref a) [.ref b] H Q :=
  ⟨a, b, xs, zs, rfl, rfl, h, h2, Nat.le_trans hl (Nat.le_of_ble_eq_true rfl), q _ (fun c z h n => by rw [upd_ne n]; exact h) upd_same⟩
theorem frz {ta : TA} {g : TG} {tb : TS} {D : Ends} {σ : L2.St} (h : ta σ H fun vs H1 => ∃ a b xs ys, vs = [.ref a, .ref b] ∧ SqL K H1 a xs ∧ SqL K H1 b ys ∧ ∃ W : Nat → Nat → L2.St → Hp → Prop, (∃ m, W 0 m σ H1) ∧ ∀ i m σ H, W i m σ H →
    ((Itz K a b).stop i H ∧ D.nx σ H) ∨ ((Itz K a b).go i H ∧ ∃ N : L2.St → Hp → Prop, (∀ σ' H', N σ' H' → ∃ m', m' < m ∧ W (i + 1) m' σ' H') ∧ ∀ x H', (Itz K a b).yld i H x H' → g x σ H' fun σ2 H2 => tb { D with nx := N, ct := N, bk := D.nx } σ2 H2)) :
    tFor (iZip K ta) g tb D σ H := h
end
end Gx
set_option Elab.async false
set_option linter.all false
set_option maxRecDepth 100000
set_option maxHeartbeats 1000000
namespace Pr
open PySem PySem.Spec PyProof.Rows L2
/-- all but two objects stand -/
def ExQ (p r : Addr) (H H' : Hp) : Prop := ∀ c o, H c = some o → c ≠ p → c ≠ r → H' c = some o
theorem ExQ.refl {p r : Addr} (H : Hp) : ExQ p r H H := fun _ _ e _ _ => e
abbrev ScrO (C dx sa : Addr) (pl : Nat) : HO := .ins C dx [("s1_script", .ref sa), ("s1_place", .int (pl : Int))]
abbrev DrwO (C dx so : Addr) (n : Nat) : HO := .ins C dx [("s5_source", .ref so), ("s5_used", .int (n : Int))]
abbrev words (ws : List Nat) : List V := ws.map fun (w : Nat) => V.int (w : Int)
/-- a script at its object -/
structure SAt (C : Addr) (H : Hp) (o dx a : Addr) (ws : List Nat) (pl : Nat) : Prop where
  obj : H o = some (ScrO C dx a pl)
  tup : H a = some (.tup (words ws))
  le : pl ≤ ws.length
/-- draws over a script -/
structure DAt (C S : Addr) (H : Hp) (p dx o dy a : Addr) (ws : List Nat) (pl n : Nat) : Prop where
  drw : H p = some (DrwO C dx o n)
  scr : SAt S H o dy a ws pl
theorem DAt.ne {C S p dx o dy a : Addr} {H : Hp} {ws : List Nat} {pl n : Nat} (h : DAt C S H p dx o dy a ws pl n) : p ≠ o ∧ a ≠ p ∧ a ≠ o := by
  refine ⟨ne_of h.drw h.scr.obj (fun z => ?_), ne_of h.scr.tup h.drw (fun z => by cases z), ne_of h.scr.tup h.scr.obj (fun z => by cases z)⟩
  have e : ("s5_source" : Str) = "s1_script" := congrArg (fun o => match o with | HO.ins _ _ ((f, _) :: _) => f | _ => "") z
  exact absurd e (by decide +kernel)
end Pr
set_option Elab.async false
set_option linter.all false
set_option maxRecDepth 100000
set_option maxHeartbeats 1000000
namespace Gx
open PySem PySem.Spec PyProof.Rows L2 GenW
end Gx
set_option Elab.async false
set_option linter.all false
set_option maxRecDepth 100000
set_option maxHeartbeats 1000000
namespace Gx
open PySem PySem.Spec PyProof.Rows L2
section
variable {σ : L2.St} {H : Hp} {Q : VK} {te : TE} {j : Nat} {z : Str}
def rLenS : List V → Hp → VK → Prop := fun xs H Q => ∃ z, xs = [.str z] ∧ z.length ≤ sizeLine ∧ Q (.int (z.length : Nat)) H
theorem call_lenS {X : Cx} : CallR X (.builtin "len") rLenS := call_len_str
end
end Gx
set_option Elab.async false
set_option linter.all false
set_option maxRecDepth 100000
set_option maxHeartbeats 1000000
namespace Gx
open PySem PySem.Spec PyProof.Rows L2
/-- an exception that is kept: at a, of the class cls, its dict at d -/
def xob (a : Addr) (cls : Value) (d : Option Addr) : HO := .ext fun h => ∃ (oe : Obj) (vs : Array Value), h.get? a = some oe ∧ oe.cls = cls ∧ oe.dict = d ∧ oe.data = .fields vs
theorem xob_at {P : Program} {w : World} {H : Hp} {h : Heap} {a : Addr} {cls : Value} {d : Option Addr} (ok : HOk P w H h) (e : H a = some (xob a cls d)) : ∃ (oe : Obj) (vs : Array Value), h.get? a = some oe ∧ oe.cls = cls ∧ oe.dict = d ∧ oe.data = .fields vs := (ok a _ e).1
def rIsK (K : PySem.W.Frag) : List V → Hp → VK → Prop := fun xs H Q => ∃ (a D dd : Addr) (fs : List (Str × V)) (c : V) (cv : Value) (b : Bool), xs = [.ref a, c] ∧ ExcC K D ∧ H a = some (xob a (.ref D) (some dd)) ∧ H dd = some (.xd fs) ∧ (∀ u, RelV c u → u = cv) ∧ PySem.W.kitOne K (.ref D) cv = some b ∧ Q (.bl b) H
theorem call_isK {X : Cx} : CallR X (.builtin "isinstance") (rIsK X.K) := by
  intro pins s σ H xs us Q I r h
  obtain ⟨a, D, dd, fs, c, cv, b, rfl, G, ha, hd, hcv, e, q⟩ := h
  cases r with
  | cons rx rr =>
    cases rr with
    | cons rt rr =>
      cases rr
      cases rx
      obtain rfl := hcv _ rt
      obtain ⟨oe, vs, e1, e2, e3, e4⟩ := xob_at I.hok ha
      obtain ⟨mA, ns, _⟩ := (show ObjOk X.prog X.w H s.heap dd (.xd fs) from I.hok dd _ hd)
      obtain ⟨od, ho, _⟩ := lookIn_ns ns
      have J : PySem.W.InstAt s.heap a oe D (some od) := ⟨e1, e2, by unfold PySem.W.notCls; rw [e4] <;> rfl, by rw [e3]; exact ho⟩
      exact PySem.W.kia_one (kit_exc G) I.kIn J e (fun z => nomatch z) fun tk => ⟨.bl b, H, I.kept (t' := tk) fun _ _ z => z, rfl, q⟩
end Gx
set_option Elab.async false
set_option linter.all false
set_option maxRecDepth 100000
set_option maxHeartbeats 1000000
namespace Gx
open PySem PySem.Spec PyProof.Rows L2
end Gx
set_option Elab.async false
set_option linter.all false
set_option maxRecDepth 100000
set_option maxHeartbeats 1000000
namespace Pr
open PySem PySem.Spec PyProof.Rows L2
/-- a value as a number in its bounds -/
inductive Nm (lo hi : Int) (H : Hp) : V → Option Int → Prop
  | int (n : Int) : Nm lo hi H (.int n) (if lo ≤ n ∧ n ≤ hi then some n else none)
  | non {v : V} (h : NonInt H v) : Nm lo hi H v none
theorem Nm.bad {lo hi n : Int} {H : Hp} (h : ¬ (lo ≤ n ∧ n ≤ hi)) : Nm lo hi H (.int n) none := by
  have z := Nm.int (lo := lo) (hi := hi) (H := H) n
  rwa [if_neg h] at z
/-- what is refused -/
abbrev Out (lo hi : Int) (H : Hp) (v : V) : Prop := Nm lo hi H v none
theorem NonInt.ex {H H' : Hp} {v : V} (e : Rd.Ex H H') (h : NonInt H v) : NonInt H' v := by
  rcases h with h | h | h | ⟨a, xs, h, k⟩ | ⟨a, xs, h, k⟩ | ⟨a, xs, h, k⟩
  · exact .inl h
  · exact .inr (.inl h)
  · exact .inr (.inr (.inl h))
  · exact .inr (.inr (.inr (.inl ⟨a, xs, h, e _ _ k⟩)))
  · exact .inr (.inr (.inr (.inr (.inl ⟨a, xs, h, e _ _ k⟩))))
  · exact .inr (.inr (.inr (.inr (.inr ⟨a, xs, h, e _ _ k⟩))))
theorem Nm.ex {lo hi : Int} {H H' : Hp} {v : V} {r : Option Int} (e : Rd.Ex H H') (h : Nm lo hi H v r) : Nm lo hi H' v r := by
  cases h with
  | int n => exact .int n
  | non h => exact .non (NonInt.ex e h)
theorem Nm.inv {lo hi : Int} {H : Hp} {v : V} {r : Option Int} (h : Nm lo hi H v r) : (∃ n, v = .int n ∧ r = some n ∧ lo ≤ n ∧ n ≤ hi) ∨ (∃ n, v = .int n ∧ r = none ∧ ¬ (lo ≤ n ∧ n ≤ hi)) ∨ (NonInt H v ∧ r = none) := by
  cases h with
  | int n =>
    by_cases c : lo ≤ n ∧ n ≤ hi
    · exact .inl ⟨n, rfl, if_pos c, c⟩
    · exact .inr (.inl ⟨n, rfl, if_neg c, c⟩)
  | non h => exact .inr (.inr ⟨h, rfl⟩)
/-- exception of the class CE with the value v in its field fl -/
def Xs (CE : Addr) (fl : Str) (v : V) (H : Hp) (E : XK) : Prop := ∀ d H', H d = none → Rd.Ex H H' → H' d = some (.xd [(fl, v)]) → E (.ref CE) (some d) H'
theorem ex_none {H H1 : Hp} {p : Addr} (e : Rd.Ex H H1) (h : H1 p = none) : H p = none := by
  cases hh : H p with
  | none => rfl
  | some o => rw [e p o hh] at h; cases h
theorem Xs.ex {CE : Addr} {fl : Str} {v : V} {H H' : Hp} {E : XK} (e : Rd.Ex H H') (h : Xs CE fl v H E) : Xs CE fl v H' E := fun d H2 hd e2 k => h d H2 (ex_none e hd) (e.trans e2) k
theorem Xs.mk {C : Addr} {fl : Str} {v : V} {H : Hp} {Q : XK} (h : Xs C fl v H Q) :
    [v].length ≤ 1000 ∧ ∀ a, H a = none → Gx.spExc C fl (.ref a :: ([v] ++ [])) (upd H a (exo a C none))
      (fun r H2 => r = .non ∧ ∃ (d : Addr) (fs : List (Str × V)), H2 a = some (exo a C (some d)) ∧ H2 d = some (exd d fs) ∧ H d = none ∧ Q (.ref C) (some d) (upd (del H2 a) d (.xd fs))) (fun _ _ _ => False) := Gx.mkO h
theorem Out.is {lo hi : Int} {H : Hp} {v : V} {Q : VK} {E : XK} (h : Out lo hi H v) (q : Q (.bl false) H) : spIs lo hi ([v] ++ []) H Q E := by
  refine ⟨v, rfl, ?_⟩
  rcases h.inv with ⟨n, _, z, _⟩ | ⟨n, rfl, _, c⟩ | ⟨h', _⟩
  · cases z
  · exact .inl ⟨n, rfl, by rw [decide_eq_false c]; exact q⟩
  · exact .inr ⟨h', q⟩
theorem Nm.is {lo hi : Int} {H : Hp} {v : V} {r : Option Int} {Q : VK} {E : XK} (h : Nm lo hi H v r) (q : Q (.bl r.isSome) H) : spIs lo hi ([v] ++ []) H Q E := by
  refine ⟨v, rfl, ?_⟩
  rcases h.inv with ⟨n, rfl, rfl, c⟩ | ⟨n, rfl, rfl, c⟩ | ⟨h', rfl⟩
  · exact .inl ⟨n, rfl, by rw [decide_eq_true c]; exact q⟩
  · exact .inl ⟨n, rfl, by rw [decide_eq_false c]; exact q⟩
  · exact .inr ⟨h', q⟩
end Pr
namespace Gx
open PySem PySem.Spec PyProof.Rows L2
/-- written objects that stand -/
def Hold (L : List (Addr × HO)) (H : Hp) : Prop := ∀ x ∈ L, H x.1 = some x.2
def Plain (L : List (Addr × HO)) : Prop := ∀ x ∈ L, (∃ xs, x.2 = .tup xs) ∨ ∃ xs, x.2 = .lst xs
section
variable {L : List (Addr × HO)} {H H' : Hp}
theorem Hold.ex (h : Hold L H) (e : Rd.Ex H H') : Hold L H' := fun x hx => e _ _ (h x hx)
/-- an object that was not there then is changed -/
theorem Hold.new {H0 : Hp} (h : Hold L H) (h0 : Hold L H0) {d : Addr} (hd : H0 d = none) (e : Au.ExP d H H') : Hold L H' := fun x hx => e _ _ (h x hx) fun z => by
  have k := h0 x hx
  rw [z, hd] at k
  cases k
theorem Hold.cons {a : Addr} {o : HO} (h : Hold L H) (k : H a = some o) : Hold ((a, o) :: L) H := fun x hx => by
  rcases List.mem_cons.mp hx with rfl | hx
  · exact k
  · exact h x hx
theorem Hold.nil : Hold [] H := fun x hx => by cases hx
theorem Plain.nil : Plain [] := fun x hx => by cases hx
theorem Plain.tup {a : Addr} {xs : List V} (h : Plain L) : Plain ((a, .tup xs) :: L) := fun x hx => by
  rcases List.mem_cons.mp hx with rfl | hx
  · exact .inl ⟨_, rfl⟩
  · exact h x hx
theorem Plain.lst {a : Addr} {xs : List V} (h : Plain L) : Plain ((a, .lst xs) :: L) := fun x hx => by
  rcases List.mem_cons.mp hx with rfl | hx
  · exact .inr ⟨_, rfl⟩
  · exact h x hx
theorem Hold.at {a : Addr} {o : HO} (i : Nat) (h : Hold L H) (hi : L[i]? = some (a, o)) : H a = some o := h (a, o) (List.mem_of_getElem? hi)
end
end Gx
set_option Elab.async false
set_option linter.all false
set_option maxRecDepth 100000
set_option maxHeartbeats 1000000
namespace Sx
open PySem PySem.Spec PyProof.Rows L2
/-- a thing that may be written -/
def Mo : HO → Prop
  | .lst _ => True
  | .ins _ _ _ => True
  | .dK _ => True
  | .dT _ => True
  | .set _ _ => True
  | .xd _ => True
  | _ => False
theorem Mo.tup {xs : List V} : ¬ Mo (.tup xs) := fun h => h
theorem Mo.tbl {ps} : ¬ Mo (.tbl ps) := fun h => h
theorem Mo.ext {ps} : ¬ Mo (.ext ps) := fun h => h
/-- tuples stay -/
def Kp (H H' : Hp) : Prop := ∀ c xs, H c = some (.tup xs) → H' c = some (.tup xs)
theorem Kp.ex {H H' : Hp} (e : Rd.Ex H H') : Kp H H' := fun c xs h => e c _ h
theorem Kp.exn {H H' : Hp} (e : LamX.ExtN H H') : Kp H H' := fun c xs h => e c _ h fun _ z => by cases z
theorem Kp.exp {H H' : Hp} {x : Addr} {o : HO} (e : Au.ExP x H H') (hx : H x = some o) (m : Mo o) : Kp H H' := fun c xs h => e c _ h fun z => by
  rw [z, hx] at h
  cases h
  exact m
/-- what is told of a thing -/
structure Cl where
  P : Hp → HO → Prop
  st : ∀ {H H' : Hp} {o : HO}, Kp H H' → P H o → P H' o
def Is (o : HO) : Cl := ⟨fun _ x => x = o, fun _ h => h⟩
/-- read only; new tuple; new and writable; to be written -/
inductive Fl where | ro | nt | nm | mu
def Fl.mut : Fl → Bool
  | .nm => true
  | .mu => true
  | _ => false
abbrev En := Addr × Cl × Fl
structure Bs where
  H0 : Hp
  M : List Addr
  T : List (Addr × Str)
/-- it was not there at the entry -/
def Fr (B : Bs) (a : Addr) : Prop := ∀ o, B.H0 a = some o → B.T ≠ [] ∧ ∃ ps, o = .tbl ps
def Fl.ok (B : Bs) (a : Addr) : Fl → Prop
  | .ro => True
  | .nt => Fr B a
  | .nm => Fr B a
  | .mu => a ∈ B.M
def Df (e e' : En) : Prop := (e.2.2.mut = false ∧ e'.2.2.mut = false) ∨ e.1 ≠ e'.1
theorem Df.symm {e e' : En} (h : Df e e') : Df e' e := h.elim (fun h => .inl ⟨h.2, h.1⟩) (fun h => .inr (Ne.symm h))
structure Hs (B : Bs) (L : List En) (H : Hp) : Prop where
  fr : ∀ c o, B.H0 c = some o → c ∉ B.M → (B.T ≠ [] → ∀ ps, o ≠ .tbl ps) → H c = some o
  mm : ∀ c ∈ B.M, ∃ o, H c = some o ∧ Mo o
  tb : LamX.Tabs B.T H
  df : L.Pairwise Df
  ok : ∀ e ∈ L, e.2.2.ok B e.1 ∧ ∃ o, H e.1 = some o ∧ e.2.1.P H o ∧ (e.2.2.mut = true → Mo o) ∧ ∀ ps, o ≠ .tbl ps
def W (B : Bs) (L : List En) (G : Hp → Prop) : Prop := ∀ H, Hs B L H → G H
section
variable {B : Bs} {L L' L1 L2 : List En} {H H' H1 : Hp} {p x a : Addr} {o : HO} {φ φ' : Cl} {f : Fl} {G G' : Hp → Prop}
theorem Hs.at (S : Hs B L H) (m : (a, Is o, f) ∈ L) : H a = some o := by
  obtain ⟨_, z, h1, h2, _⟩ := S.ok _ m
  cases h2
  exact h1
theorem Hs.fresh (S : Hs B L H) (n : H p = none) : Fr B p := fun o h => by
  refine Classical.byContradiction fun nc => ?_
  by_cases hm : p ∈ B.M
  · obtain ⟨o', h', _⟩ := S.mm p hm
    rw [n] at h'; cases h'
  · have := S.fr p o h hm fun hT ps z => nc ⟨hT, ps, z⟩
    rw [n] at this; cases this
theorem Hs.ex (S : Hs B L H) (e : Rd.Ex H H') : Hs B L H' where
  fr := fun c o h n t => e _ _ (S.fr c o h n t)
  mm := fun c h => by
    obtain ⟨o, h1, h2⟩ := S.mm c h
    exact ⟨o, e _ _ h1, h2⟩
  tb := S.tb.ext e
  df := S.df
  ok := fun z hz => by
    obtain ⟨h0, o, h1, h2, h3⟩ := S.ok z hz
    exact ⟨h0, o, e _ _ h1, z.2.1.st (.ex e) h2, h3⟩
theorem Hs.exn (S : Hs B L H) (hT : B.T ≠ []) (e : LamX.ExtN H H') (t : LamX.Tabs B.T H') : Hs B L H' where
  fr := fun c o h n t => e _ _ (S.fr c o h n t) (t hT)
  mm := fun c h => by
    obtain ⟨o, h1, h2⟩ := S.mm c h
    exact ⟨o, e _ _ h1 (fun ps z => by subst z; exact h2), h2⟩
  tb := t
  df := S.df
  ok := fun z hz => by
    obtain ⟨h0, o, h1, h2, h3, h4⟩ := S.ok z hz
    exact ⟨h0, o, e _ _ h1 h4, z.2.1.st (.exn e) h2, h3, h4⟩
theorem Hs.ad (S : Hs B L H) (n : H p = none) (e : Rd.Ex H H') (k : H' p = some o) (c : φ.P H' o) (hf : f = .nt ∨ f = .nm ∧ Mo o) (nb : ∀ ps, o ≠ .tbl ps) : Hs B ((p, φ, f) :: L) H' where
  fr := (S.ex e).fr
  mm := (S.ex e).mm
  tb := (S.ex e).tb
  df := List.pairwise_cons.mpr ⟨fun z hz => .inr fun q => (by
    obtain ⟨_, o', h1, _⟩ := S.ok z hz
    simp only at q
    rw [← q, n] at h1
    cases h1), S.df⟩
  ok := fun z hz => by
    rcases List.mem_cons.mp hz with rfl | hz
    · refine ⟨?_, o, k, c, ?_, nb⟩
      · rcases hf with rfl | ⟨rfl, _⟩ <;> exact S.fresh n
      · rcases hf with rfl | ⟨rfl, h⟩
        · intro h; cases h
        · exact fun _ => h
    · exact (S.ex e).ok z hz
theorem Hs.nw (S : Hs B L H) (n : H p = none) (e : Rd.Ex H H') (k : H' p = some o) (hf : f = .nt ∨ f = .nm ∧ Mo o) (nb : ∀ ps, o ≠ .tbl ps) : Hs B ((p, Is o, f) :: L) H' := S.ad n e k rfl hf nb
/-- one thing's row is written anew -/
inductive Upd : List En → Addr → Cl → List En → Prop
  | hd {φ φ' : Cl} {f : Fl} {x : Addr} {L : List En} (h : f.mut = true) : Upd ((x, φ, f) :: L) x φ' ((x, φ', f) :: L)
  | tl {e : En} {L L' : List En} {x : Addr} {φ' : Cl} (h : Upd L x φ' L') : Upd (e :: L) x φ' (e :: L')
theorem Upd.mem {L L' : List En} {x : Addr} {φ' : Cl} (u : Upd L x φ' L') (d : L.Pairwise Df) : (∃ φ f, f.mut = true ∧ (x, φ, f) ∈ L) ∧ (∀ e ∈ L', (e.1 = x ∧ e.2.1 = φ' ∧ e.2.2.mut = true ∧ ∃ φ, (x, φ, e.2.2) ∈ L) ∨ (e ∈ L ∧ e.1 ≠ x)) ∧ L'.map (fun e => (e.1, e.2.2)) = L.map (fun e => (e.1, e.2.2)) := by
  induction u with
  | hd h =>
    refine ⟨⟨_, _, h, List.mem_cons_self⟩, fun e he => ?_, rfl⟩
    rcases List.mem_cons.mp he with rfl | he
    · exact .inl ⟨rfl, rfl, h, _, List.mem_cons_self⟩
    · refine .inr ⟨List.mem_cons_of_mem _ he, fun z => ?_⟩
      rcases (List.pairwise_cons.mp d).1 e he with q | q
      · rw [h] at q; cases q.1
      · exact q z.symm
  | @tl e L L' x φ' u ih =>
    obtain ⟨⟨φ, f, h1, h2⟩, h3, h4⟩ := ih (List.pairwise_cons.mp d).2
    refine ⟨⟨φ, f, h1, List.mem_cons_of_mem _ h2⟩, fun z hz => ?_, by simp only [List.map_cons, h4]⟩
    rcases List.mem_cons.mp hz with rfl | hz
    · refine .inr ⟨List.mem_cons_self, fun q => ?_⟩
      rcases (List.pairwise_cons.mp d).1 _ h2 with w | w
      · rw [h1] at w; cases w.2
      · exact w q
    · rcases h3 z hz with ⟨a, b, c, φ, d⟩ | ⟨a, b⟩
      · exact .inl ⟨a, b, c, φ, List.mem_cons_of_mem _ d⟩
      · exact .inr ⟨List.mem_cons_of_mem _ a, b⟩
theorem df_map {L L' : List En} (h : L'.map (fun e => (e.1, e.2.2)) = L.map (fun e => (e.1, e.2.2))) (d : L.Pairwise Df) : L'.Pairwise Df := by
  have e : ∀ K : List En, K.Pairwise Df ↔ (K.map (fun e => (e.1, e.2.2))).Pairwise (fun p q => (p.2.mut = false ∧ q.2.mut = false) ∨ p.1 ≠ q.1) := fun K => by
    rw [List.pairwise_map]; rfl
  rw [e, h, ← e]
  exact d
theorem Hs.set (S : Hs B L H) (u : Upd L x φ L') (e : Au.ExP x H H') (k : H' x = some o) (c : φ.P H' o) (mo : Mo o) : Hs B L' H' := by
  obtain ⟨⟨ψ, f, h1, h2⟩, h3, h4⟩ := u.mem S.df
  obtain ⟨s0, z, s1, s2, s3, s4⟩ := S.ok _ h2
  have mz := s3 h1
  have kp := Kp.exp e s1 mz
  have nb : ∀ ps, o ≠ .tbl ps := fun ps q => by subst q; exact mo
  refine ⟨fun c o' h n t => e _ _ (S.fr c o' h n t) fun q => ?_, fun c hc => ?_, fun q hq => ?_, df_map h4 S.df, fun v hv => ?_⟩
  · subst q
    cases f with
    | ro => cases h1
    | nt => cases h1
    | nm =>
      obtain ⟨hT, ps, q⟩ := s0 _ h
      exact t hT ps q
    | mu => exact n s0
  · by_cases q : c = x
    · exact ⟨o, q ▸ k, mo⟩
    · obtain ⟨o', h1, h2⟩ := S.mm c hc
      exact ⟨o', e _ _ h1 q, h2⟩
  · obtain ⟨ps, t1, t2, t3⟩ := S.tb q hq
    refine ⟨ps, e _ _ t1 (fun w => by rw [w, s1] at t1; cases t1; exact mz), t2, fun pos cv hcv => ?_⟩
    obtain ⟨c', rfl, hc'⟩ := t3 pos cv hcv
    exact ⟨c', rfl, e _ _ hc' (fun w => by rw [w, s1] at hc'; cases hc'; exact mz)⟩
  · rcases h3 v hv with ⟨rfl, rfl, q3, φ0, q4⟩ | ⟨q1, q2⟩
    · exact ⟨(S.ok _ q4).1, o, k, c, fun _ => mo, nb⟩
    · obtain ⟨w0, o', w1, w2, w3⟩ := S.ok v q1
      exact ⟨w0, o', e _ _ w1 q2, v.2.1.st kp w2, w3⟩
inductive Sel : List En → Addr → Cl → List En → Prop
  | hd {φ : Cl} {f : Fl} {x : Addr} {L : List En} (h : f.mut = true) : Sel ((x, φ, f) :: L) x φ L
  | tl {e : En} {L L' : List En} {x : Addr} {φ : Cl} (h : Sel L x φ L') : Sel (e :: L) x φ (e :: L')
inductive FindR : List En → List En → Prop
  | nil {L : List En} : FindR L []
  | cons {L ps : List En} {x : Addr} {φ : Cl} {f : Fl} (m : (x, φ, f) ∈ L) (h : FindR L ps) : FindR L ((x, φ, .ro) :: ps)
/-- first what is to be written, then what is read -/
inductive Find : List En → List En → Prop
  | ros {L ps : List En} (h : FindR L ps) : Find L ps
  | mu {L L1 ps : List En} {x : Addr} {φ : Cl} (m : Sel L x φ L1) (h : Find L1 ps) : Find L ((x, φ, .mu) :: ps)
theorem Sel.mem {L L' : List En} {x : Addr} {φ : Cl} (u : Sel L x φ L') (d : L.Pairwise Df) : (∃ f, f.mut = true ∧ (x, φ, f) ∈ L) ∧ (∀ e ∈ L', e ∈ L ∧ e.1 ≠ x) ∧ L'.Sublist L := by
  induction u with
  | hd h =>
    refine ⟨⟨_, h, List.mem_cons_self⟩, fun e he => ⟨List.mem_cons_of_mem _ he, fun z => ?_⟩, List.sublist_cons_self _ _⟩
    rcases (List.pairwise_cons.mp d).1 e he with q | q
    · rw [h] at q; cases q.1
    · exact q z.symm
  | @tl e L L' x φ u ih =>
    obtain ⟨⟨f, h1, h2⟩, h3, h4⟩ := ih (List.pairwise_cons.mp d).2
    refine ⟨⟨f, h1, List.mem_cons_of_mem _ h2⟩, fun z hz => ?_, h4.cons_cons _⟩
    rcases List.mem_cons.mp hz with rfl | hz
    · refine ⟨List.mem_cons_self, fun q => ?_⟩
      rcases (List.pairwise_cons.mp d).1 _ h2 with w | w
      · rw [h1] at w; cases w.2
      · exact w q
    · exact ⟨List.mem_cons_of_mem _ (h3 z hz).1, (h3 z hz).2⟩
def mus (L : List En) : List Addr := (L.filter fun e => match e.2.2 with | .mu => true | _ => false).map (·.1)
theorem FindR.mem {L ps : List En} (u : FindR L ps) : (∀ e ∈ ps, e.2.2 = .ro ∧ ∃ f, (e.1, e.2.1, f) ∈ L) ∧ ps.Pairwise Df := by
  induction u with
  | nil => exact ⟨fun e h => (by cases h), .nil⟩
  | @cons ps x φ f m h ih =>
    refine ⟨fun e he => ?_, List.pairwise_cons.mpr ⟨fun e he => .inl ⟨rfl, by rw [(ih.1 e he).1]; rfl⟩, ih.2⟩⟩
    rcases List.mem_cons.mp he with rfl | he
    · exact ⟨rfl, f, m⟩
    · exact ih.1 e he
theorem Find.mem {L ps : List En} (u : Find L ps) (d : L.Pairwise Df) : (∀ e ∈ ps, ∃ f, (e.1, e.2.1, f) ∈ L ∧ (e.2.2 = .ro ∨ (e.2.2 = .mu ∧ f.mut = true))) ∧ ps.Pairwise Df := by
  induction u with
  | ros h =>
    refine ⟨fun e he => ?_, h.mem.2⟩
    obtain ⟨h1, f, h2⟩ := h.mem.1 e he
    exact ⟨f, h2, .inl h1⟩
  | @mu L L1 ps x φ m h ih =>
    obtain ⟨⟨f, m1, m2⟩, m3, m4⟩ := m.mem d
    obtain ⟨h1, h2⟩ := ih (d.sublist m4)
    refine ⟨fun e he => ?_, List.pairwise_cons.mpr ⟨fun e he => ?_, h2⟩⟩
    · rcases List.mem_cons.mp he with rfl | he
      · exact ⟨f, m2, .inr ⟨rfl, m1⟩⟩
      · obtain ⟨g, g1, g2⟩ := h1 e he
        exact ⟨g, (m3 _ g1).1, g2⟩
    · obtain ⟨g, g1, g2⟩ := h1 e he
      exact .inr fun z => (m3 _ g1).2 z.symm
/-- what it leaves -/
def Post (H : Hp) (T : List (Addr × Str)) (pre post : List En) (G : Hp → Prop) : Prop := ∀ H', Hs ⟨H, mus pre, T⟩ post H' → G H'
/-- the caller's list behind the call -/
inductive Rep : List En → List En → List En → Prop
  | nil {L : List En} : Rep L [] L
  | ro {L ps L' : List En} {x : Addr} {φ : Cl} (h : Rep L ps L') : Rep L ((x, φ, .ro) :: ps) L'
  | nt {L ps L' : List En} {x : Addr} {φ : Cl} (h : Rep L ps L') : Rep L ((x, φ, .nt) :: ps) ((x, φ, .nt) :: L')
  | nm {L ps L' : List En} {x : Addr} {φ : Cl} (h : Rep L ps L') : Rep L ((x, φ, .nm) :: ps) ((x, φ, .nm) :: L')
  | mu {L ps L' L1 : List En} {x : Addr} {φ : Cl} (u : Upd L x φ L1) (h : Rep L1 ps L') : Rep L ((x, φ, .mu) :: ps) L'
/-- new -/
def Fl.isN : Fl → Prop
  | .nt => True
  | .nm => True
  | _ => False
theorem Rep.mem {L ps L' : List En} (u : Rep L ps L') : L.Pairwise Df → ps.Pairwise Df → (∀ e ∈ ps, e.2.2.isN → ∀ z ∈ L, e.1 ≠ z.1) →
    (∀ e ∈ L', (e ∈ ps ∧ e.2.2.isN) ∨ (∃ φ, (e.1, φ, e.2.2) ∈ L ∧ (e.1, e.2.1, .mu) ∈ ps ∧ e.2.2.mut = true) ∨ (e ∈ L ∧ ∀ φ, (e.1, φ, .mu) ∉ ps)) ∧ L'.Pairwise Df := by
  induction u with
  | nil => exact fun d _ _ => ⟨fun e he => .inr (.inr ⟨he, fun φ h => (by cases h)⟩), d⟩
  | ro h ih =>
    intro d dp hn
    obtain ⟨h1, h2⟩ := ih d (List.pairwise_cons.mp dp).2 fun e he => hn e (List.mem_cons_of_mem _ he)
    refine ⟨fun e he => ?_, h2⟩
    rcases h1 e he with ⟨a, b⟩ | ⟨φ, a, b, c⟩ | ⟨a, b⟩
    · exact .inl ⟨List.mem_cons_of_mem _ a, b⟩
    · exact .inr (.inl ⟨φ, a, List.mem_cons_of_mem _ b, c⟩)
    · refine .inr (.inr ⟨a, fun φ z => ?_⟩)
      rcases List.mem_cons.mp z with z | z
      · cases z
      · exact b φ z
  | @nt L ps L' x φ h ih =>
    intro d dp hn
    obtain ⟨h1, h2⟩ := ih d (List.pairwise_cons.mp dp).2 fun e he => hn e (List.mem_cons_of_mem _ he)
    refine ⟨fun e he => ?_, List.pairwise_cons.mpr ⟨fun e he => ?_, h2⟩⟩
    · rcases List.mem_cons.mp he with rfl | he
      · exact .inl ⟨List.mem_cons_self, trivial⟩
      rcases h1 e he with ⟨a, b⟩ | ⟨φ, a, b, c⟩ | ⟨a, b⟩
      · exact .inl ⟨List.mem_cons_of_mem _ a, b⟩
      · exact .inr (.inl ⟨φ, a, List.mem_cons_of_mem _ b, c⟩)
      · refine .inr (.inr ⟨a, fun φ z => ?_⟩)
        rcases List.mem_cons.mp z with z | z
        · cases z
        · exact b φ z
    · rcases h1 e he with ⟨a, b⟩ | ⟨φ, a, b⟩ | ⟨a, b⟩
      · exact (List.pairwise_cons.mp dp).1 e a
      · exact .inr fun q => hn _ List.mem_cons_self trivial _ a q
      · exact .inr (hn _ List.mem_cons_self trivial _ a)
  | @nm L ps L' x φ h ih =>
    intro d dp hn
    obtain ⟨h1, h2⟩ := ih d (List.pairwise_cons.mp dp).2 fun e he => hn e (List.mem_cons_of_mem _ he)
    refine ⟨fun e he => ?_, List.pairwise_cons.mpr ⟨fun e he => ?_, h2⟩⟩
    · rcases List.mem_cons.mp he with rfl | he
      · exact .inl ⟨List.mem_cons_self, trivial⟩
      rcases h1 e he with ⟨a, b⟩ | ⟨φ, a, b, c⟩ | ⟨a, b⟩
      · exact .inl ⟨List.mem_cons_of_mem _ a, b⟩
      · exact .inr (.inl ⟨φ, a, List.mem_cons_of_mem _ b, c⟩)
      · refine .inr (.inr ⟨a, fun φ z => ?_⟩)
        rcases List.mem_cons.mp z with z | z
        · cases z
        · exact b φ z
    · rcases h1 e he with ⟨a, b⟩ | ⟨φ, a, b⟩ | ⟨a, b⟩
      · exact (List.pairwise_cons.mp dp).1 e a
      · exact .inr fun q => hn _ List.mem_cons_self trivial _ a q
      · exact .inr (hn _ List.mem_cons_self trivial _ a)
  | @mu L ps L' L1 x φ u h ih =>
    intro d dp hn
    obtain ⟨u1, u2, u3⟩ := u.mem d
    have ads : ∀ z ∈ L1, ∃ y ∈ L, y.1 = z.1 := fun z hz => by
      rcases u2 z hz with ⟨a, _, _, φ0, b⟩ | ⟨a, _⟩
      · exact ⟨_, b, a.symm⟩
      · exact ⟨_, a, rfl⟩
    obtain ⟨h1, h2⟩ := ih (df_map u3 d) (List.pairwise_cons.mp dp).2 fun e he hN z hz => by
      obtain ⟨y, y1, y2⟩ := ads z hz
      rw [← y2]
      exact hn e (List.mem_cons_of_mem _ he) hN y y1
    refine ⟨fun e he => ?_, h2⟩
    rcases h1 e he with ⟨a, b⟩ | ⟨φ', a, b, c⟩ | ⟨a, b⟩
    · exact .inl ⟨List.mem_cons_of_mem _ a, b⟩
    · rcases u2 _ a with ⟨w1, w2, _, φ0, w3⟩ | ⟨w1, w2⟩
      · simp only at w1 w2 w3
        refine .inr (.inl ⟨φ0, ?_, List.mem_cons_of_mem _ b, c⟩)
        rw [w1]
        exact w3
      · exact .inr (.inl ⟨φ', w1, List.mem_cons_of_mem _ b, c⟩)
    · rcases u2 _ a with ⟨w1, w2, w3, φ0, w4⟩ | ⟨w1, w2⟩
      · refine .inr (.inl ⟨φ0, by rw [w1]; exact w4, ?_, w3⟩)
        rw [w1, w2]
        exact List.mem_cons_self
      · refine .inr (.inr ⟨w1, fun ψ z => ?_⟩)
        rcases List.mem_cons.mp z with z | z
        · cases z
          exact w2 rfl
        · exact b ψ z
def Cl.le (φ ψ : Cl) : Prop := ∀ H o, φ.P H o → ψ.P H o
theorem Cl.le.rfl {φ : Cl} : Cl.le φ φ := fun _ _ h => h
/-- a row is taken out -/
inductive Rm : List En → Addr → Cl → Fl → List En → Prop
  | hd {φ : Cl} {f : Fl} {x : Addr} {L : List En} : Rm ((x, φ, f) :: L) x φ f L
  | tl {e : En} {L L' : List En} {x : Addr} {φ : Cl} {f : Fl} (h : Rm L x φ f L') : Rm (e :: L) x φ f (e :: L')
theorem Rm.ex {L L' : List En} {x : Addr} {φ : Cl} {f : Fl} (h : Rm L x φ f L') : ∃ L0 R0, L = L0 ++ (x, φ, f) :: R0 ∧ L' = L0 ++ R0 := by
  induction h with
  | hd => exact ⟨[], _, rfl, rfl⟩
  | @tl e L L' x φ f h ih =>
    obtain ⟨L0, R0, h1, h2⟩ := ih
    exact ⟨e :: L0, R0, by rw [h1]; rfl, by rw [h2]; rfl⟩
inductive Sub : List En → List En → Prop
  | nil {L : List En} : Sub [] L
  | rfl {L : List En} : Sub L L
  | cons {L L1 ps : List En} {x : Addr} {φ ψ : Cl} {f : Fl} (m : Rm L x φ f L1) (h : Cl.le φ ψ) (r : Sub ps L1) : Sub ((x, ψ, f) :: ps) L
theorem Sub.mem {L ps : List En} (u : Sub ps L) : L.Pairwise Df → (∀ e ∈ ps, ∃ φ, (e.1, φ, e.2.2) ∈ L ∧ Cl.le φ e.2.1) ∧ ps.Pairwise Df := by
  induction u with
  | nil => exact fun _ => ⟨fun e h => (by cases h), .nil⟩
  | rfl => exact fun d => ⟨fun e h => ⟨_, h, Cl.le.rfl⟩, d⟩
  | @cons L L1 ps x φ ψ f m h r ih =>
    intro d
    obtain ⟨L0, R0, rfl, rfl⟩ := m.ex
    have d' := (List.pairwise_append.mp d)
    have dm : ∀ e ∈ L0 ++ R0, Df (x, φ, f) e := fun e he => by
      rcases List.mem_append.mp he with he | he
      · exact (d'.2.2 e he _ List.mem_cons_self).symm
      · exact (List.pairwise_cons.mp d'.2.1).1 e he
    have sub : (L0 ++ R0).Sublist (L0 ++ (x, φ, f) :: R0) := (List.Sublist.refl L0).append (List.sublist_cons_self _ _)
    obtain ⟨h1, h2⟩ := ih (d.sublist sub)
    refine ⟨fun e he => ?_, List.pairwise_cons.mpr ⟨fun e he => ?_, h2⟩⟩
    · rcases List.mem_cons.mp he with rfl | he
      · exact ⟨φ, by simp, h⟩
      · obtain ⟨φ', a, b⟩ := h1 e he
        exact ⟨φ', sub.mem a, b⟩
    · obtain ⟨φ', a, _⟩ := h1 e he
      rcases dm _ a with q | q
      · exact .inl q
      · exact .inr q
theorem Hs.sub {ps : List En} (S : Hs B L H) (u : Sub ps L) : Hs B ps H where
  fr := S.fr
  mm := S.mm
  tb := S.tb
  df := (u.mem S.df).2
  ok := fun e he => by
    obtain ⟨φ, h1, h2⟩ := (u.mem S.df).1 e he
    obtain ⟨k0, o, k1, k2, k3⟩ := S.ok _ h1
    exact ⟨k0, o, k1, h2 _ _ k2, k3⟩
end
end Sx
set_option Elab.async false
set_option linter.all false
set_option maxRecDepth 100000
set_option maxHeartbeats 1000000
namespace Gx
open PySem PySem.Spec PyProof.Rows L2 GenW
structure MakX (P : Program) (w : World) (K : PySem.W.Frag) (mg : Str → Option Value) (base : Heap) (k : Nat) (x : Str) (C : Addr) (sp : Sp) (dvs : List V) : Prop where
  ex : ∃ (f : Addr) (fd : FuncData) (ps : List Str) (ds : List Value), Mk K C f ∧ FnOk P w K mg base (CX P w) k f fd ps sp ∧ mg x = some (.ref C) ∧ Binds K fd ps ds ∧ Vals dvs ds
section
variable {P : Program} {w : World} {K : PySem.W.Frag} {mg : Str → Option Value} {base : Heap}
theorem fnX {x qual : Str} {st : Stmt} {f : Addr} {fd : FuncData} {N ps : List Str} {k : Nat} {sp : Sp} (F : C8.Fun K x qual st f fd) (S : FnScope N ps (C8.fnScope st)) (len : ∀ vs H Q E, sp vs H Q E → vs.length = ps.length)
    (hbody : ∀ (cdv : Value) (A : Around) (outer : List Env) (s : Shared) (H : Hp) (vs : List V) (Q : VK) (E : XK), Room k (A.deeper (envOfC qual (C8.fnScope st) s.heap.objs.size f cdv)) → sp vs H Q E →
      ∃ t, PSs (cxOf (CX P w) P w K mg base N qual (C8.fnScope st) f cdv A outer s H E) (C8.fnBody st) t ∧ t { nx := fun _ H' => Q .non H', rt := Q } (start N vs) H) : FnOk P w K mg base (CX P w) (k + 1) f fd ps sp := by
  obtain ⟨oc, od, dV, kV, doc, pm, an, cdv, ct, osl, rfl, lk, hcd⟩ := F.ex
  exact fn_of lk hcd S len (hbody cdv)
theorem makX {x qual : Str} {C : Addr} {st : Stmt} {f : Addr} {fd : FuncData} {N ps : List Str} {k : Nat} {sp : Sp} (M : Mk K C f) (hm : mg x = some (.ref C)) (F : C8.Fun K "__init__" qual st f fd) (b : Binds K fd ps []) (S : FnScope N ps (C8.fnScope st)) (len : ∀ vs H Q E, sp vs H Q E → vs.length = ps.length)
    (hbody : ∀ (cdv : Value) (A : Around) (outer : List Env) (s : Shared) (H : Hp) (vs : List V) (Q : VK) (E : XK), Room k (A.deeper (envOfC qual (C8.fnScope st) s.heap.objs.size f cdv)) → sp vs H Q E →
      ∃ t, PSs (cxOf (CX P w) P w K mg base N qual (C8.fnScope st) f cdv A outer s H E) (C8.fnBody st) t ∧ t { nx := fun _ H' => Q .non H', rt := Q } (start N vs) H) : MakX P w K mg base (k + 1) x C sp [] :=
  ⟨f, fd, ps, [], M, fnX F S len hbody, hm, b, .nil⟩
end
section
variable {X : Cx} {k j i : Nat} {C : Addr} {x : Str} {sp : Sp} {dvs : List V} {p pos : Pos} {e : Expr} {es : List Expr} {t : TA} {W : WX} {E : XK}
theorem pe_mkx (c : MakX X.prog X.w X.K X.mg X.base k x C sp dvs) (tk : Takes X W) (hW : ∀ cls d σ H, E cls d H → W cls d σ H) (hr : Room j X.A) (hk : k + 1 ≤ j) (hg : Gl X x) (ha : PA X (e :: es) t)
    (hdb : (x == ("__debug__" : Str)) = false := by decide) (he : starEach (e :: es) X.env = (false, eval e X.env) :: starEach es X.env := by rfl) (hpl : (backTo pos (starEach es X.env)).any (·.1) = false := by rfl) :
    PE X (.Call (.Name x p) (e :: es) [] pos) (tMake C sp dvs E t) := by
  obtain ⟨f, fd, ps, ds, M, F, hm, b, d⟩ := c.ex
  exact pe_make M F (hr.mono hk) hg hm b d (passes_call tk hW) ha hdb he hpl
end
structure OwnT (K : PySem.W.Frag) (C : Addr) (nm T : String) : Prop where
  l1 : ∃ fo, PySem.W.findIn K (.type T) (PySem.dunder nm) = some fo
  l2 : ∃ ro, PySem.W.findIn K (.type T) (dunderR nm) = some ro
  sub : PySem.W.subIn K (.type T) (.ref C) = some false
structure OwnL (K : PySem.W.Frag) (C : Addr) (nm : String) : Prop where
  sf : PySem.W.selfFirst K C = true
  r : PySem.W.findIn K (.ref C) (dunderR nm) = some none
open PySem.W in
theorem bin_right {prog : Program} {w : World} {A : Around} {E : Value → Shared → Prop} {s : Shared} {K : Frag} {x C L f : Addr} {h₀ : Heap} {m : Str → Option Value} {ox : Obj} {od : Option Obj} {T : String} {op : Operator} {b : Value} {fo ro : Option Value} {Q : Value → Shared → Prop}
    (F : Fr h₀ L s.heap m) (X₀ : K.In h₀) (I : InstAt s.heap x ox C od) (hb : Looks (model prog w) s.heap (typeOf b) (.type T)) (o : OwnL K C op.info.2) (hs : findIn K (.ref C) (PySem.dunder op.info.2) = some (some (.ref f))) (hf : isFn K (.ref f) = true)
    (h1 : findIn K (.type T) (PySem.dunder op.info.2) = some fo) (h2 : findIn K (.type T) (dunderR op.info.2) = some ro) (hsub : subIn K (.type T) (.ref C) = some false)
    (h : wpAny (model prog w) A (call (.ref f) [.ref x, b]) (PySem.W.CmpBack Q) E s) : wpAny (model prog w) A (binaryOp op (.ref x) b) Q E s := by
  have KI := X₀.keeps F.keep
  obtain ⟨cd, rest, hcd, hmro⟩ := ksp_first o.sf
  have orr := o.r
  rcases hi : op.info with ⟨sym, nm'⟩
  rw [hi] at hs orr h1 h2
  dsimp only at hs orr h1 h2
  have tried := ksp_try KI I hs hf h
  obtain ⟨hp, gg, dd, tk, oss⟩ := s
  have M1 : Looks (model prog w) hp (typeOf (.ref x)) (.ref C) := I.type
  have M3 : Looks (model prog w) hp (fillsNumberSlot (.ref C) nm') true := fills_K KI hcd hmro hs
  have M4 := ksp_fillsT (M := model prog w) KI h1 h2
  have M5 : Looks (model prog w) hp (isSubtype (.type T) (.ref C)) false := looks_subIn KI hsub
  have M6 : Looks (model prog w) hp (numberSlotInPython (.ref C) nm') true := ksp_inPy KI hs orr (.inl rfl)
  have M7 : Looks (model prog w) hp (numberSlotInPython (.type T) nm') false := Looks.of_pure rfl
  have M8 : Looks (model prog w) hp (typeLookup (.type T) (dunderR nm')) ro := looks_findIn KI h2
  generalize hq : ((fo.isSome && !isSeqSlot fo) || (ro.isSome && !isSeqSlot ro)) = rgt at M4
  have nTC : (Value.ref C == Value.type T) = false := Bool.eq_false_iff.mpr fun z => by cases beq_iff_eq.mp z
  simp only [binaryOp, hi]
  refine wpAny_holding (wpAny_bind ?w0)
  case w0 =>
    unfold binaryOp1
    refine wpAny_bind (M1.at (wpAny_bind (hb.at (wpAny_bind (M3.at ?w1)))))
    case w1 =>
      simp only [nTC, Bool.false_eq_true, if_false]
      cases rgt <;> (ksp_lk; refine wpAny_mono tried (fun r s' hr' => ?_) fun _ _ z => z; obtain ⟨v, rfl, hv⟩ := hr'; ksp_lk; exact hv)
def rOwnX (K : PySem.W.Frag) (C : Addr) (nm : String) (sp : Sp) (E : XK) : V → V → Hp → VK → Prop := fun x y H Q => ∃ (a dx : Addr) (fs : List (Str × V)) (T : String), x = .ref a ∧ TyX K H y (.type T) ∧ OwnT K C nm T ∧ H a = some (.ins C dx fs) ∧ sp ([x, y] ++ []) H (fun v H' => (∃ b, v = .ref b) ∧ Q v H') E
section
variable {X : Cx} {k j : Nat} {C : Addr} {m : Str} {sp : Sp} {W : WX} {E : XK}
theorem op_ownX {op : Operator} (c : MetX X.prog X.w X.K X.mg X.base k C m sp) (tk : Takes X W) (hW : ∀ cls d σ H, E cls d H → W cls d σ H) (hr : Room j X.A) (hk : k ≤ j) (o : OwnL X.K C op.info.2) (hm : PySem.dunder op.info.2 = m) : OpR X (binaryOp op) (rOwnX X.K C op.info.2 sp E) := by
  intro pins s σ H x y v u Q I rx ry h
  obtain ⟨a, dx, fs, T, rfl, ty, ot, ha, q⟩ := h
  obtain rfl : v = Value.ref a := rx
  obtain ⟨f, fd, ps, hc, me, F, b⟩ := c.ex
  obtain ⟨mA, O, rr, _, _, _⟩ := ins_get I.hok ha
  obtain ⟨od, J, hl⟩ := O.look
  obtain ⟨m0, fr⟩ := I.fr
  obtain ⟨fo, h1⟩ := ot.l1
  obtain ⟨ro, h2⟩ := ot.l2
  obtain ⟨Pt, KT, hP, _⟩ := kit_of I ry ty
  subst hm
  refine bin_right fr I.mod.kin J (KT.ty _ _ I.kIn hP) o me.at_ me.fn h1 h2 ot.sub ?_
  refine thn (run_fn (us := [.ref a, u]) (vs := [.ref a, y]) F (hr.mono hk) b .nil (passes_call tk hW) I (.cons rfl (.cons ry .nil)) q) fun v s1 hv => ?_
  obtain ⟨x, H1, I1, r1, ⟨b1, rfl⟩, q1⟩ := hv
  obtain rfl : v = Value.ref b1 := r1
  exact (⟨.ref b1, H1, I1, rfl, q1⟩ : EP X pins σ Q (.ref b1) s1)
end
/-- a text times a number -/
def rMulS : R2 := fun x y H Q => ∃ (z : Str) (n : Int), x = .str z ∧ y = .int n ∧ PySem.MulOk z n ∧ Q (.str (Txt.mul z n)) H
theorem op_mulS {X : Cx} : OpR X (binaryOp .Mult) rMulS := by
  intro pins s σ H x y v u Q I rx ry h
  obtain ⟨z, n, rfl, rfl, ok, q⟩ := h
  obtain ⟨t, rfl⟩ := rx
  obtain ⟨t', rfl⟩ := ry
  exact PySem.SB.mul ok fun a k => ⟨.str _, H, I.tok _, ⟨_, rfl⟩, q⟩
end Gx
set_option Elab.async false
set_option linter.all false
set_option maxRecDepth 100000
set_option maxHeartbeats 1000000
namespace Gx
open PySem PySem.Spec PyProof.Rows L2 L2H
end Gx
set_option Elab.async false
set_option linter.all false
set_option maxRecDepth 100000
set_option maxHeartbeats 4000000
set_option exponentiation.threshold 2000
namespace Gx
open PySem PySem.Spec PyProof.Rows L2
end Gx
set_option Elab.async false
set_option linter.all false
set_option maxRecDepth 100000
set_option maxHeartbeats 1000000
namespace Sx
open PySem PySem.Spec PyProof.Rows L2
/-- a promise is being read -/
def Do (p : Prop) : Prop := p
section
variable {B : Bs} {L L' L1 : List En} {D : Ends} {σ : L2.St} {Q : VK} {QB : Bool → Hp → Prop} {QA : List V → Hp → Prop} {t1 t2 : TS} {te ta tb tc : TE} {tr : TA} {t u : TT} {i j : Nat} {v x y : V} {m n : Int} {r r2 : R2} {K : PySem.W.Frag} {G G1 G2 : Hp → Prop} {b : Bool} {p : Prop} {C a dx : Addr} {fs : List (Str × V)} {f : Str} {fl : Fl} {sp : Sp} {E : XK} {g : TG} {xs : List V}
theorem l1 {G G' : Hp → Prop} (f : ∀ H, G H → G' H) (h : W B L G) : W B L G' := fun H S => f H (h H S)
theorem seq (h : W B L fun H => t1 { D with nx := t2 D } σ H) : W B L fun H => tSeq t1 t2 D σ H := h
theorem next (h : W B L fun H => D.nx σ H) : W B L fun H => tNext D σ H := h
theorem nm {Qs : L2.St → Hp → Prop} (h : W B L fun H => Qs (σ.set i (some v)) H) : W B L fun H => gName i v σ H Qs := h
theorem ret (h : W B L fun H => te σ H D.rt) : W B L fun H => tRet te D σ H := h
theorem brk (h : W B L fun H => D.bk σ H) : W B L fun H => tBreak D σ H := h
theorem drop (h : W B L fun H => te σ H fun _ H1 => D.nx σ H1) : W B L fun H => tDrop te D σ H := h
theorem par (h : W B L fun H => tr σ H fun vs H1 => ∃ v w, vs = [v, w] ∧ D.nx ((σ.set i (some v)).set j (some w)) H1) : W B L fun H => tPar i j tr D σ H := h
theorem un {g : V → Hp → VK → Prop} (h : W B L fun H => ta σ H fun x H1 => g x H1 Q) : W B L fun H => tUn g ta σ H Q := h
/-- is None, is not None -/
theorem isN {G : V → Hp → Prop} (h : W B L fun H => G (.bl (decide (v = .non))) H) : W B L fun H => V.non = .non ∧ G (.bl (decide (v = .non))) H := fun H S => ⟨rfl, h H S⟩
theorem nil (h : W B L fun H => QA [] H) : W B L fun H => tNil σ H QA := h
theorem cons (h : W B L fun H => ta σ H fun x H1 => tr σ H1 fun xs H2 => QA (x :: xs) H2) : W B L fun H => tCons ta tr σ H QA := h
theorem cb {g : List V → Hp → VK → Prop} (h : W B L fun H => tr σ H fun vs H1 => g vs H1 Q) : W B L fun H => tCB g tr σ H Q := h
theorem bm {T : String} {r : V → List V → Hp → VK → Prop} (h : W B L fun H => ta σ H fun x H1 => tyV K T x H1 ∧ tr σ H1 fun xs H2 => r x xs H2 Q) : W B L fun H => tBM K T r ta tr σ H Q := h
theorem call {dvs : List V} (h : W B L fun H => tr σ H fun vs H1 => Do (sp (vs ++ dvs) H1 Q E)) : W B L fun H => tCall sp dvs E tr σ H Q := h
theorem make {dvs : List V} (h : W B L fun H => tr σ H fun vs H1 => ∀ x dx, H1 x = none → H1 dx = none → dx ≠ x →
  Do (sp (.ref x :: (vs ++ dvs)) (upd (upd H1 dx (.own x)) x (.ins C dx [])) (fun v H2 => v = .non ∧ Q (.ref x) H2) E)) : W B L fun H => tMake C sp dvs E tr σ H Q := h
theorem tup (h : W B L fun H => tr σ H fun xs H1 => xs.length ≤ sizeLine ∧ Au.NewO H1 (.tup xs) Q) : W B L fun H => tTup tr σ H Q := h
theorem lst (h : W B L fun H => tr σ H fun xs H1 => xs.length ≤ sizeLine ∧ Au.NewO H1 (.lst xs) Q) : W B L fun H => tLst tr σ H Q := h
theorem rep {xs : List V} {k : Int} {fl : Fl} (m : (a, Is (.lst xs), fl) ∈ L) (hk : 0 ≤ k ∧ k < 100) (hl : xs.length ≤ 10) (q : ∀ t, W B ((t, Is (.lst (List.replicate k.toNat xs).flatten), .nm) :: L) fun H => Q (.ref t) H) : W B L fun H => rRep (.ref a) (.int k) H Q :=
  fun H S => Au.rep (S.at m) hk hl fun p H' n e k => q p H' (S.nw n e k (.inr ⟨rfl, trivial⟩) fun ps z => by cases z)
def In (B : Bs) (P : L2.St → List En → Prop) : L2.St → Hp → Prop := fun σ H => ∃ L, P σ L ∧ Hs B L H
theorem sub (s : Sub L' L) (h : W B L' G) : W B L G := fun H S => h H (S.sub s)
theorem frz {g : TG} {tb : TS} (h : W B L fun H => tr σ H fun vs H1 => ∃ a b xs ys, vs = [.ref a, .ref b] ∧ SqL K H1 a xs ∧ SqL K H1 b ys ∧ ∃ W : Nat → Nat → L2.St → Hp → Prop, (∃ m, W 0 m σ H1) ∧ ∀ i m σ H, W i m σ H →
    ((Itz K a b).stop i H ∧ D.nx σ H) ∨ ((Itz K a b).go i H ∧ ∃ N : L2.St → Hp → Prop, (∀ σ' H', N σ' H' → ∃ m', m' < m ∧ W (i + 1) m' σ' H') ∧ ∀ x H', (Itz K a b).yld i H x H' → g x σ H' fun σ2 H2 => tb { D with nx := N, ct := N, bk := D.nx } σ2 H2)) :
    W B L fun H => tFor (iZip K tr) g tb D σ H := h
theorem cut {t u : TS} (Mid : L2.St → List En → Prop) (h1 : W B L fun H => t { D with nx := In B Mid } σ H) (h2 : ∀ σ' L', Mid σ' L' → W B L' fun H => u D σ' H) : W B L fun H => C8.tCut t u D σ H := fun H S =>
  Rd.cut (In B Mid) (h1 H S) fun σ' H' z => by
    obtain ⟨L', p, S'⟩ := z
    exact h2 σ' L' p H' S'
theorem lg {tg : TGen} (h : W B L fun H => tg σ H fun out H2 => Au.NewO H2 (.lst out) Q) : W B L fun H => tListG tg σ H Q := h
theorem mg {spg : SpG} {cont : List V → Hp → Prop} (h : W B L fun H => ta σ H fun x H1 => ∃ a dx fs, x = .ref a ∧ H1 a = some (.ins C dx fs) ∧ fs.lookup f = none ∧ tr σ H1 fun vs H2 => Do (spg (x :: (vs ++ [])) H2 cont E)) : W B L fun H => tMethG C f spg [] E ta tr σ H cont := h
end
end Sx
set_option Elab.async false
set_option linter.all false
set_option maxRecDepth 100000
set_option maxHeartbeats 1000000
namespace Sx
open PySem PySem.Spec PyProof.Rows L2
/-- a draw with at most n turns so far -/
def DrC (n : Nat) : Cl := ⟨fun _ o => ∃ left cell turns : Int, o = .dK [(Sum.inr "left", .int left), (Sum.inr "cell", .int cell), (Sum.inr "turns", .int turns)] ∧ 0 ≤ left ∧ 0 ≤ turns ∧ turns ≤ n, fun _ h => h⟩
theorem DrC.le {n m : Nat} (h : n ≤ m) : Cl.le (DrC n) (DrC m) := fun H o z => by
  obtain ⟨l, c, t, h1, h2, h3, h4⟩ := z
  exact ⟨l, c, t, h1, h2, h3, by omega⟩
section
variable {H0 H : Hp} {T : List (Addr × Str)} {L : List En} {K : PySem.W.Frag} {a : Addr} {xs : List V} {Q : VK}
/-- the first cells and the sum -/
theorem cells {ns : List Int} {k : Int} (hl : ns.length ≤ 63) : ∃ M : List Int, cutV (ns.map V.int) none (some k) ++ [V.int ns.sum] = M.map V.int ∧ M.length ≤ 64 := by
  refine ⟨((ns.drop (HT.sIx (ns.map V.int).length 0 none)).take (HT.sIx (ns.map V.int).length (ns.map V.int).length (some k) - HT.sIx (ns.map V.int).length 0 none)) ++ [ns.sum], ?_, ?_⟩
  · unfold cutV
    rw [List.map_append, List.map_take, List.map_drop]
    rfl
  · have h1 : ((ns.drop (HT.sIx (ns.map V.int).length 0 none)).take (HT.sIx (ns.map V.int).length (ns.map V.int).length (some k) - HT.sIx (ns.map V.int).length 0 none)).length ≤ ns.length := by
      rw [List.length_take, List.length_drop]; omega
    rw [List.length_append]
    simp only [List.length_cons, List.length_nil]
    omega
end
end Sx
set_option Elab.async false
set_option linter.all false
set_option maxRecDepth 100000
set_option maxHeartbeats 1000000
set_option Elab.async false
set_option linter.all false
set_option maxRecDepth 100000
set_option maxHeartbeats 1000000
namespace Sx
open PySem PySem.Spec PyProof.Rows L2
theorem kb_NoneType_int {K : PySem.W.Frag} : PySem.W.kitOne K (.type "NoneType") (.type "int") = some false := by first | rfl | decide +kernel | kernel_rfl
theorem kb_NoneType_bool {K : PySem.W.Frag} : PySem.W.kitOne K (.type "NoneType") (.type "bool") = some false := by first | rfl | decide +kernel | kernel_rfl
theorem kb_bool_int {K : PySem.W.Frag} : PySem.W.kitOne K (.type "bool") (.type "int") = some true := by first | rfl | decide +kernel | kernel_rfl
theorem kb_bool_bool {K : PySem.W.Frag} : PySem.W.kitOne K (.type "bool") (.type "bool") = some true := by first | rfl | decide +kernel | kernel_rfl
theorem kb_int_int {K : PySem.W.Frag} : PySem.W.kitOne K (.type "int") (.type "int") = some true := by first | rfl | decide +kernel | kernel_rfl
theorem kb_int_bool {K : PySem.W.Frag} : PySem.W.kitOne K (.type "int") (.type "bool") = some false := by first | rfl | decide +kernel | kernel_rfl
theorem kb_str_int {K : PySem.W.Frag} : PySem.W.kitOne K (.type "str") (.type "int") = some false := by first | rfl | decide +kernel | kernel_rfl
theorem kb_str_bool {K : PySem.W.Frag} : PySem.W.kitOne K (.type "str") (.type "bool") = some false := by first | rfl | decide +kernel | kernel_rfl
theorem kb_tuple_int {K : PySem.W.Frag} : PySem.W.kitOne K (.type "tuple") (.type "int") = some false := by first | rfl | decide +kernel | kernel_rfl
theorem kb_tuple_bool {K : PySem.W.Frag} : PySem.W.kitOne K (.type "tuple") (.type "bool") = some false := by first | rfl | decide +kernel | kernel_rfl
theorem kb_list_int {K : PySem.W.Frag} : PySem.W.kitOne K (.type "list") (.type "int") = some false := by first | rfl | decide +kernel | kernel_rfl
theorem kb_list_bool {K : PySem.W.Frag} : PySem.W.kitOne K (.type "list") (.type "bool") = some false := by first | rfl | decide +kernel | kernel_rfl
theorem kb_dict_int {K : PySem.W.Frag} : PySem.W.kitOne K (.type "dict") (.type "int") = some false := by first | rfl | decide +kernel | kernel_rfl
theorem kb_dict_bool {K : PySem.W.Frag} : PySem.W.kitOne K (.type "dict") (.type "bool") = some false := by first | rfl | decide +kernel | kernel_rfl
end Sx
set_option Elab.async false
set_option linter.all false
set_option maxRecDepth 100000
set_option maxHeartbeats 1000000
namespace Sm
open PySem PySem.Spec PyProof.Rows L2
inductive Sm (K : PySem.W.Frag) (H : Hp) : Nat → V → V → Prop
  | int {n : Nat} (i : Int) : Sm K H n (.int i) (.int i)
  | str {n : Nat} (z : Str) : Sm K H n (.str z) (.str z)
  | bl {n : Nat} (b : Bool) : Sm K H n (.bl b) (.bl b)
  | non {n : Nat} : Sm K H n .non .non
  | ref {n : Nat} (a : Addr) : Sm K H n (.ref a) (.ref a)
  | tup {n : Nat} {a b : Addr} {xs ys : List V} (h : SqT K H a xs) (h' : SqT K H b ys) (hl : xs.length = ys.length) (hi : ∀ (i : Nat) (x y : V), xs[i]? = some x → ys[i]? = some y → Sm K H n x y) : Sm K H (n + 1) (.ref a) (.ref b)
  | lst {n : Nat} {a b : Addr} {xs ys : List V} (h : SqL K H a xs) (h' : SqL K H b ys) (hl : xs.length = ys.length) (hi : ∀ (i : Nat) (x y : V), xs[i]? = some x → ys[i]? = some y → Sm K H n x y) : Sm K H (n + 1) (.ref a) (.ref b)
section
variable {X : Cx} {pins : List (Addr × Obj)} {σ : L2.St} {H : Hp} {s : Shared}
theorem at_of {xs : List V} {its : List Value} (r : Vals xs its) {i : Nat} (h : i < its.length) : ∃ x, xs[i]? = some x ∧ RelV x its[i] := by
  induction r generalizing i with
  | nil => exact absurd h (by simp)
  | cons h1 h2 ih =>
    cases i with
    | zero => exact ⟨_, rfl, h1⟩
    | succ i => exact ih (by simpa using h)
theorem allT (n : Nat) : ((List.range n).all fun _ => true) = true := by simp
theorem eqAt (I : Inv X pins σ H s) : ∀ (n : Nat) (x y : V) (v u : Value) (A : Around), Sm X.K H n x y → RelV x v → RelV y u → A.units + n < cLine → SeqAt.EqAt A s v u true := by
  intro n
  induction n with
  | zero =>
    intro x y v u A h rv ru hu
    cases h with
    | int i => obtain ⟨t, rfl⟩ := rv; obtain ⟨t', rfl⟩ := ru; have := SeqAt.EqAt.int_int (A := A) (s := s) i t i t'; rwa [beq_self_eq_true] at this
    | str z => obtain ⟨t, rfl⟩ := rv; obtain ⟨t', rfl⟩ := ru; have := SeqAt.EqAt.str_str (A := A) (s := s) z t z t'; rwa [beq_self_eq_true] at this
    | bl b => cases rv; cases ru; exact .same _
    | non => cases rv; cases ru; exact .same _
    | ref a => cases rv; cases ru; exact .same _
  | succ n ih =>
    intro x y v u A h rv ru hu
    cases h with
    | int i => obtain ⟨t, rfl⟩ := rv; obtain ⟨t', rfl⟩ := ru; have := SeqAt.EqAt.int_int (A := A) (s := s) i t i t'; rwa [beq_self_eq_true] at this
    | str z => obtain ⟨t, rfl⟩ := rv; obtain ⟨t', rfl⟩ := ru; have := SeqAt.EqAt.str_str (A := A) (s := s) z t z t'; rwa [beq_self_eq_true] at this
    | bl b => cases rv; cases ru; exact .same _
    | non => cases rv; cases ru; exact .same _
    | ref a => cases rv; cases ru; exact .same _
    | @tup _ a b xs ys h h' hl hi =>
      cases rv
      cases ru
      by_cases e : a = b
      · subst e; exact .same _
      · obtain ⟨its, r1, p1, _⟩ := I.tuple h
        obtain ⟨its2, r2, p2, _⟩ := I.tuple h'
        have e1 := r1.length
        have e2 := r2.length
        refine .of_refs e ?_
        have := SeqAt.RcAt.tuples (A := A) (e := fun _ => true) p1 p2 (by omega) fun j h1 h2 => ?_
        · rwa [allT, show (its.toArray.size == its2.toArray.size) = true by simp [← e1, ← e2, hl], Bool.and_true] at this
        · rw [List.size_toArray] at h1 h2
          obtain ⟨x, hx, rx⟩ := at_of r1 h1
          obtain ⟨y, hy, ry⟩ := at_of r2 h2
          simp only [List.getElem_toArray]
          exact ih x y _ _ A.in1 (hi j x y hx hy) rx ry (by show A.units + 1 + n < _; omega)
    | @lst _ a b xs ys h h' hl hi =>
      cases rv
      cases ru
      by_cases e : a = b
      · subst e; exact .same _
      · obtain ⟨its, r1, ⟨o, m, ho, hc, _, hd⟩, _⟩ := I.list h
        obtain ⟨its2, r2, ⟨o2, m2, ho2, hc2, _, hd2⟩, _⟩ := I.list h'
        have e1 := r1.length
        have e2 := r2.length
        refine .of_refs e ?_
        have := SeqAt.RcAt.lists (A := A) (e := fun _ => true) (items := its.toArray) (items2 := its2.toArray) ⟨o, ho, hc, m, hd⟩ ⟨o2, ho2, hc2, m2, hd2⟩ (by simp [← e1, ← e2, hl]) (by omega) fun j h1 h2 => ?_
        · rwa [allT] at this
        · rw [List.size_toArray] at h1 h2
          obtain ⟨x, hx, rx⟩ := at_of r1 h1
          obtain ⟨y, hy, ry⟩ := at_of r2 h2
          simp only [List.getElem_toArray]
          exact ih x y _ _ A.in1 (hi j x y hx hy) rx ry (by show A.units + 1 + n < _; omega)
/-- what may stand at the top -/
theorem Sm.up {K : PySem.W.Frag} {H : Hp} : ∀ {n : Nat} {x y : V}, Sm K H n x y → Sm K H (n + 1) x y := fun {n x y} h => by
  induction h with
  | int i => exact .int i
  | str z => exact .str z
  | bl b => exact .bl b
  | non => exact .non
  | ref a => exact .ref a
  | tup h h' hl hi ih => exact .tup h h' hl ih
  | lst h h' hl hi ih => exact .lst h h' hl ih
inductive Top (K : PySem.W.Frag) (H : Hp) : V → V → Prop
  | tup {a b : Addr} {xs ys : List V} (h : SqT K H a xs) (h' : SqT K H b ys) (hl : xs.length = ys.length) (hi : ∀ (i : Nat) (x y : V), xs[i]? = some x → ys[i]? = some y → Sm K H 20 x y) : Top K H (.ref a) (.ref b)
  | lst {a b : Addr} {xs ys : List V} (h : SqL K H a xs) (h' : SqL K H b ys) (hl : xs.length = ys.length) (hi : ∀ (i : Nat) (x y : V), xs[i]? = some x → ys[i]? = some y → Sm K H 20 x y) : Top K H (.ref a) (.ref b)
def rEqS (K : PySem.W.Frag) : R2 := fun x y H Q => rEqD K x y H Q ∨ (Top K H x y ∧ Q (.bl true) H)
def rNeS (K : PySem.W.Frag) : R2 := fun x y H Q => rNeD K x y H Q ∨ (Top K H x y ∧ Q (.bl false) H)
theorem op_eqS (hu : X.A.units + 64 < cLine) : OpR X (compareOp .Eq) (rEqS X.K) := by
  intro pins s σ H x y v u Q I rx ry h
  rcases h with h | ⟨t, q⟩
  · exact op_eqD hu pins s σ H x y v u Q I rx ry h
  · cases t with
    | tup h h' hl hi =>
      cases rx
      cases ry
      obtain ⟨its, r1, p1, _⟩ := I.tuple h
      obtain ⟨its2, r2, p2, _⟩ := I.tuple h'
      have e1 := r1.length
      have e2 := r2.length
      have := SeqAt.RcAt.tuples (A := X.A) (e := fun _ => true) p1 p2 (by omega) fun j h1 h2 => by
        rw [List.size_toArray] at h1 h2
        obtain ⟨x, hx, rx⟩ := at_of r1 h1
        obtain ⟨y, hy, ry⟩ := at_of r2 h2
        simp only [List.getElem_toArray]
        exact eqAt I 20 x y _ _ X.A.in1 (hi j x y hx hy) rx ry (by show X.A.units + 1 + 20 < _; omega)
      rw [allT, show (its.toArray.size == its2.toArray.size) = true by simp [← e1, ← e2, hl], Bool.and_true] at this
      exact this _ _ _ _ ⟨.bl _, H, I, rfl, q⟩
    | lst h h' hl hi =>
      cases rx
      cases ry
      obtain ⟨its, r1, ⟨o, m, ho, hc, _, hd⟩, _⟩ := I.list h
      obtain ⟨its2, r2, ⟨o2, m2, ho2, hc2, _, hd2⟩, _⟩ := I.list h'
      have e1 := r1.length
      have e2 := r2.length
      have := SeqAt.RcAt.lists (A := X.A) (e := fun _ => true) (items := its.toArray) (items2 := its2.toArray) ⟨o, ho, hc, m, hd⟩ ⟨o2, ho2, hc2, m2, hd2⟩ (by simp [← e1, ← e2, hl]) (by omega) fun j h1 h2 => by
        rw [List.size_toArray] at h1 h2
        obtain ⟨x, hx, rx⟩ := at_of r1 h1
        obtain ⟨y, hy, ry⟩ := at_of r2 h2
        simp only [List.getElem_toArray]
        exact eqAt I 20 x y _ _ X.A.in1 (hi j x y hx hy) rx ry (by show X.A.units + 1 + 20 < _; omega)
      rw [allT] at this
      exact this _ _ _ _ ⟨.bl _, H, I, rfl, q⟩
theorem op_neS (hu : X.A.units + 64 < cLine) : OpR X (compareOp .NotEq) (rNeS X.K) := by
  intro pins s σ H x y v u Q I rx ry h
  rcases h with h | ⟨t, q⟩
  · exact op_neD hu pins s σ H x y v u Q I rx ry h
  · cases t with
    | tup h h' hl hi =>
      cases rx
      cases ry
      obtain ⟨its, r1, p1, _⟩ := I.tuple h
      obtain ⟨its2, r2, p2, _⟩ := I.tuple h'
      have e1 := r1.length
      have e2 := r2.length
      have := SeqAt.RcNeAt.tuples (A := X.A) (e := fun _ => true) p1 p2 (by omega) fun j h1 h2 => by
        rw [List.size_toArray] at h1 h2
        obtain ⟨x, hx, rx⟩ := at_of r1 h1
        obtain ⟨y, hy, ry⟩ := at_of r2 h2
        simp only [List.getElem_toArray]
        exact eqAt I 20 x y _ _ X.A.in1 (hi j x y hx hy) rx ry (by show X.A.units + 1 + 20 < _; omega)
      rw [allT, show (its.toArray.size == its2.toArray.size) = true by simp [← e1, ← e2, hl], Bool.and_true] at this
      exact this _ _ _ _ ⟨.bl _, H, I, rfl, q⟩
    | lst h h' hl hi =>
      cases rx
      cases ry
      obtain ⟨its, r1, ⟨o, m, ho, hc, _, hd⟩, _⟩ := I.list h
      obtain ⟨its2, r2, ⟨o2, m2, ho2, hc2, _, hd2⟩, _⟩ := I.list h'
      have e1 := r1.length
      have e2 := r2.length
      have := SeqAt.RcNeAt.lists (A := X.A) (e := fun _ => true) (items := its.toArray) (items2 := its2.toArray) ⟨o, ho, hc, m, hd⟩ ⟨o2, ho2, hc2, m2, hd2⟩ (by simp [← e1, ← e2, hl]) (by omega) fun j h1 h2 => by
        rw [List.size_toArray] at h1 h2
        obtain ⟨x, hx, rx⟩ := at_of r1 h1
        obtain ⟨y, hy, ry⟩ := at_of r2 h2
        simp only [List.getElem_toArray]
        exact eqAt I 20 x y _ _ X.A.in1 (hi j x y hx hy) rx ry (by show X.A.units + 1 + 20 < _; omega)
      rw [allT] at this
      exact this _ _ _ _ ⟨.bl _, H, I, rfl, q⟩
end
end Sm
set_option Elab.async false
set_option linter.all false
set_option maxRecDepth 100000
set_option maxHeartbeats 2000000
namespace Cd
open PySem PySem.Spec PyProof.Rows L2
/-- an object that is a dict with these entries -/
def DicO (P : Program) (w : World) (o : Obj) (kvs : List (Key × V)) : Prop :=
  o.ExactDict ∧ ∃ es ep vs, o.data = .dict es ep ∧ KeysOf (mixKind P w) es ∧ Pairs (mixKind P w) es.toList vs ∧ KV kvs vs ∧ (vs.map (·.1)).Nodup
theorem DicO.at {P : Program} {w : World} {o : Obj} {kvs : List (Key × V)} {h : Heap} {a : Addr} (D : DicO P w o kvs) (e : h.get? a = some o) : ∃ vs, KV kvs vs ∧ h.DictOf (mixKind P w) a vs := by
  obtain ⟨h1, es, ep, vs, h2, h3, h4, h5, h6⟩ := D
  exact ⟨vs, h5, o, es, ep, e, h1, h2, h3, h4, h6⟩
/-- entries of texts -/
inductive Ents (w : World) : List DictEntry → List (Key × V) → Prop
  | nil : Ents w [] []
  | cons {x : Str} {t : Tok} {v : V} {u : Value} {hh : Int} {es : List DictEntry} {kvs : List (Key × V)} (e : hh = hashStr w x) (r : RelV v u) (h : Ents w es kvs) : Ents w (⟨hh, .str x t, u⟩ :: es) ((Sum.inr x, v) :: kvs)
theorem Ents.out {P : Program} {w : World} {es : List DictEntry} {kvs : List (Key × V)} (E : Ents w es kvs) : ∃ vs : List (Key × Value), (∀ e ∈ es, ∃ k, (mixKind P w).is k e.key = true ∧ e.hash = (mixKind P w).hash k) ∧ Pairs (mixKind P w) es vs ∧ KV kvs vs ∧ vs.map (·.1) = kvs.map (·.1) := by
  induction E with
  | nil => exact ⟨[], fun e h => (by cases h), .nil, .nil, rfl⟩
  | @cons x t v u hh es kvs e r h ih =>
    obtain ⟨vs, a, b, c, d⟩ := ih
    have k1 : keyIs (Sum.inr x) (Value.str x t) = true := kV_is (P := P) (w := w) (k := Sum.inr x) ⟨t, rfl⟩
    refine ⟨(Sum.inr x, u) :: vs, fun e' h' => ?_, .cons k1 rfl b, .cons ⟨rfl, r⟩ c, by rw [List.map_cons, List.map_cons, d]⟩
    rcases List.mem_cons.mp h' with rfl | h'
    · exact ⟨Sum.inr x, k1, e⟩
    · exact a e' h'
theorem DicO.mk {P : Program} {w : World} {es : Array DictEntry} {ep : Nat} {kvs : List (Key × V)} (E : Ents w es.toList kvs) (nd : (kvs.map (·.1)).Nodup) : DicO P w ⟨.type "dict", none, .dict es ep, #[]⟩ kvs := by
  obtain ⟨vs, a, b, c, d⟩ := E.out (P := P)
  exact ⟨⟨rfl, rfl, rfl⟩, es, ep, vs, rfl, fun e h => a e (Array.mem_toList_iff.mpr h), b, c, by rw [d]; exact nd⟩
end Cd
set_option Elab.async false
set_option linter.all false
set_option maxRecDepth 100000
set_option maxHeartbeats 2000000
namespace Mt
open PySem PySem.Spec PyProof.Rows L2
section
variable {X : Cx}
def tEnd : V → TS := fun _ D σ H => D.nx σ H
/-- the case of all -/
def tAny (tb : TS) : V → TS := fun _ => tb
def tMatch (te : TE) (tc : V → TS) : TS := fun D σ H => te σ H fun v H1 => tc v D σ H1
end
theorem any {tb : TS} {D : Ends} {σ : L2.St} {H : Hp} {v : V} (h : tb D σ H) : tAny tb v D σ H := h
end Mt
set_option Elab.async false
set_option linter.all false
set_option maxRecDepth 100000
set_option maxHeartbeats 2000000
namespace LamD
open PySem PySem.Spec PyProof.Rows L2 PySem.W
section
variable {X : Cx} {pins : List (Addr × Obj)} {σ : L2.St} {H : Hp} {s : Shared}
abbrev QL (X : Cx) : Str := X.env.qual ++ "<lambda>"
abbrev CL (X : Cx) (scope : Scope) : List (Str × Addr) := cloFrom X.env.cells scope.names []
/-- what is made: the function f, its defaults at t, its code object c' -/
structure Made (X : Cx) (pins : List (Addr × Obj)) (σ : L2.St) (H : Hp) (T : List (Addr × Str)) (params : Arguments) (body : Expr) (scope : Scope) (v : V) (f t c' : Addr) (u doc pm ct : Value) (G : Hp) (z : Shared) : Prop where
  inv : Inv X pins σ G z
  ex : LamX.ExtN H G
  tb : LamX.Tabs T G
  of : z.heap.get? f = some (kdv_obj "<lambda>" (QL X) params (.expr body) scope (CL X scope) (.ref t) doc pm c' ct)
  ot : z.heap.get? t = some (kdv_tup [u])
  ru : RelV v u
  nf : G f = none
  ff : f ∉ frs X.stack
  nt : G t = none
  ft : t ∉ frs X.stack
  co : G c' = some (LamX.CodeO c' (QL X))
theorem make {T : List (Addr × Str)} {c P : Addr} {params : Arguments} {body e : Expr} {v : V} {scope : Scope} {pos : Pos} {Q : Value → Shared → Prop} (I : Inv X pins σ H s) (TB : LamX.TabB X.base X.mg c P) (hcode : X.env.code = .ref c)
    (hm : (P, QL X) ∈ T) (hu : ∀ p ∈ T, p.1 = P → p.2 = QL X) (hT : LamX.Tabs T H) (hde : params.defaults = [e]) (hkw : params.kw_defaults = []) (he : PE X e (tC v)) (hfree : ∀ y ∈ scope.names, y.2 = .free → ∃ c, X.env.cells.lookup y.1 = some c)
    (h : ∀ (f t c' : Addr) (u doc pm ct : Value) (G : Hp) (z : Shared), Made X pins σ H T params body scope v f t c' u doc pm ct G z → Q (.ref f) z) : wpAny (model X.prog X.w) X.A (eval (.Lambda params body scope pos) X.env) Q X.xe s := by
  refine kdv_lam (by rw [hde]; rfl) hkw ?_
  rw [hde]
  refine kdv_all1 (thn (he.run pins s σ H (fun x G => x = v ∧ G = H) I ⟨rfl, rfl⟩) fun u s1 got => kdv_all0 ?_)
  obtain ⟨x, G, I1, ru, ex, eG⟩ := got
  subst ex eG
  rw [makeFunction_eq]
  simp only [List.zip_nil_right, List.filterMap_nil, List.isEmpty_nil, List.isEmpty_cons, if_true, pure_bind, Bool.false_eq_true, if_false]
  refine wpAny_bind (wpAny_newTextTuple ?_)
  obtain ⟨t, ht⟩ : ∃ t, t = s1.heap.objs.size := ⟨_, rfl⟩
  rw [← ht]
  have J : Inv X pins σ G { s1 with heap := s1.heap.push { cls := .type "tuple", data := .seq [u].toArray } } := I1.kept fun b o q => Heap.get?_push_of_some _ q
  have hot : (s1.heap.push { cls := .type "tuple", data := .seq [u].toArray }).get? t = some (kdv_tup [u]) := by rw [ht]; exact Heap.get?_push_size _ rfl
  have tG : G t = none := I1.hok.fresh (Nat.le_of_eq ht.symm)
  generalize hz : ({ s1 with heap := s1.heap.push { cls := .type "tuple", data := .seq [u].toArray } } : Shared) = z1 at J
  have hot1 : z1.heap.get? t = some (kdv_tup [u]) := by rw [← hz]; exact hot
  have hts : t ∉ frs X.stack := fun m => by
    rcases List.mem_cons.mp (I1.stkSub _ m) with q | q
    · have l := I1.lt
      rw [← q, ht] at l
      exact Nat.lt_irrefl _ l
    · exact I1.nofs (Nat.le_of_eq ht.symm) q
  clear hz hot
  obtain ⟨ps, tP, tr, among⟩ := hT _ hm
  have bP : z1.heap.BuiltinsAt X.mg P := TB.bm.keeps J.bk
  have objP : z1.heap.get? P = some { cls := .none, data := .fields ps } := J.hok P _ tP
  have outF : ∀ a, z1.heap.objs.size ≤ a → a ∉ frs X.stack := fun a ha m => by
    rcases List.mem_cons.mp (J.stkSub _ m) with q | q
    · have l := J.lt
      rw [← q] at l
      exact absurd (Nat.lt_of_lt_of_le l ha) (Nat.lt_irrefl _)
    · exact J.nofs ha q
  have tneP : t ≠ P := fun q => by rw [q, tP] at tG; cases tG
  cases hc : codeAmong pos ps.toList with
  | some cv =>
    obtain ⟨c', rfl, hco⟩ := among pos cv hc
    refine kdv_makeTailHit (mg := X.mg) (c := c) (P := P) (ps := ps) (closure_ok hfree) J.ok.glob (J.mod.glob.keeps J.bk) hcode (TB.code.keeps J.bk) objP tr hc bP fun ct doc g tk old le => ?_
    refine h g.objs.size t c' u doc _ ct G _ ⟨J.kept fun b o q => Heap.get?_push_of_some _ (old b o q), LamX.ExtN.refl _, hT, Heap.get?_push_size _ rfl, Heap.get?_push_of_some _ (old _ _ hot1), ru, J.hok.fresh le, outF _ le, tG, hts, hco⟩
  | none =>
    refine kdv_makeTail (mg := X.mg) (c := c) (P := P) (ps := ps) (closure_ok hfree) J.ok.glob (J.mod.glob.keeps J.bk) hcode (TB.code.keeps J.bk) objP tr hc TB.gP bP fun c' ct doc g tk old ge lt rc tabP => ?_
    obtain ⟨c2, oc, vs, tq, e2, hoc, hd, hv⟩ := rc
    cases e2
    have le : z1.heap.objs.size ≤ g.objs.size := Nat.le_trans ge (Nat.le_of_lt lt)
    have nC : G c' = none := J.hok.fresh ge
    have J2 := LamX.inv_table (t' := tk) (more := #[rawInt pos.line, rawInt pos.col, .ref c']) (h' := g.push (kdv_obj "<lambda>" (QL X) params (.expr body) scope (CL X scope) (.ref t) doc ((X.mg "__name__").getD .none) c' ct)) J tP
      (fun b o nb q => Heap.get?_push_of_some _ (old b o nb q)) (Heap.get?_push_of_some _ tabP) ge ⟨oc, vs, tq, Heap.get?_push_of_some _ hoc, hd, hv⟩
    have ext : LamX.ExtN G (upd (upd G P (.tbl (ps ++ #[rawInt pos.line, rawInt pos.col, .ref c']))) c' (LamX.CodeO c' (QL X))) := fun b o q nb => by
      rw [upd_ne (ne_of_none q nC), upd_ne (fun z => by subst z; rw [tP] at q; exact nb ps (Option.some.inj q).symm)]
      exact q
    have eL : (ps ++ #[rawInt pos.line, rawInt pos.col, Value.ref c']).toList = ps.toList ++ [rawInt pos.line, rawInt pos.col, .ref c'] := by simp
    have fC : g.objs.size ≠ c' := fun q => Nat.lt_irrefl _ (q ▸ lt)
    have fP : g.objs.size ≠ P := fun q => by
      have l := Nat.lt_of_lt_of_le (Heap.lt_size objP) le
      rw [q] at l
      exact Nat.lt_irrefl _ l
    have tC : t ≠ c' := fun q => by
      have l := Nat.lt_of_lt_of_le (Heap.lt_size hot1) ge
      rw [q] at l
      exact Nat.lt_irrefl _ l
    refine h g.objs.size t c' u doc _ ct _ _ ⟨J2, ext, fun p hp => ?_, Heap.get?_push_size _ rfl, Heap.get?_push_of_some _ (old _ _ tneP hot1), ru, ?_, outF _ le, ?_, hts, upd_same⟩
    · by_cases hb : p.1 = P
      · rw [hu p hp hb, hb]
        refine ⟨_, (upd_ne (ne_of_none tP nC)).trans upd_same, by rw [eL]; exact TriplesOk_snoc _ _ _ _ tr, fun p' cv hcv => ?_⟩
        rw [eL] at hcv
        rcases LamX.among_app _ tr hcv with q | q
        · obtain ⟨c0, h1, h2⟩ := among p' cv q
          exact ⟨c0, h1, ext _ _ h2 LamX.codeO_ne⟩
        · exact ⟨c', q, upd_same⟩
      · obtain ⟨ps', a1, a2, a3⟩ := hT p hp
        refine ⟨ps', (upd_ne (ne_of_none a1 nC)).trans ((upd_ne hb).trans a1), a2, fun p' cv hcv => ?_⟩
        obtain ⟨c0, h1, h2⟩ := a3 p' cv hcv
        exact ⟨c0, h1, ext _ _ h2 LamX.codeO_ne⟩
    · rw [upd_ne fC, upd_ne fP]
      exact J.hok.fresh le
    · rw [upd_ne tC, upd_ne tneP]
      exact tG
/-- one local name x, captured ones and globals -/
structure LamS1 (sc scope : Scope) (x : Str) : Prop where
  kind : scope.kind = .function
  co : scope.isCoroutine = false
  gen : scope.isGenerator = false
  loc : scope.names.lookup x = some .local
  own : ∀ y ∈ scope.names, (y.2 = .local → y.1 = x) ∧ y.2 ≠ .cell
  free : ∀ y ∈ scope.names, y.2 = .free → sc.names.lookup y.1 = some .cell ∨ sc.names.lookup y.1 = some .free
theorem LamS1.has {scope : Scope} {x : Str} (L : LamS1 X.env.scope scope x) (ok : X.Ok) : ∀ y ∈ scope.names, y.2 = .free → ∃ c, X.env.cells.lookup y.1 = some c := fun y hy q =>
  (L.free y hy q).elim (fun k => ok.has _ (.inl k)) (fun k => ok.has _ (.inr k))
theorem start {A : Around} {outer : List Env} {E : XK} {scope : Scope} {x : Str} {f c' : Addr} {g : Heap} {tk : Nat} {s1 : Shared} {HZ : Hp} {m : Str → Option Value} (I : Inv X pins σ H s) (L : LamS1 X.env.scope scope x) (hx : x ∉ X.N) (e0 : Env0 X.prog X.w X.K X.mg X.base A outer s1 HZ) (hd : A.handled = none)
    (un : Un (frs X.stack) [] H HZ s.heap s1.heap) (hns : g.Ns s1.heap.objs.size m) (kp : ∀ b o, s1.heap.get? b = some o → g.get? b = some o) : Inv (LamX.lamCx X A outer s1 HZ E scope f c') [] σ HZ { s1 with heap := g, toks := tk } := by
  have hfree := L.has I.ok
  have same : ∀ {y c}, (CL X scope).lookup y = some c → X.env.cells.lookup y = some c := fun {y c} q => by
    rcases cloFrom_mem (PySem.mem_of_lookup q) with k | ⟨k1, k2⟩
    · cases k
    · obtain ⟨c1, q1⟩ := hfree _ k1 rfl
      have q1 : X.env.cells.lookup y = some c1 := q1
      have : c = c1 := by rw [k2, q1] <;> rfl
      rw [this]; exact q1
  have there : ∀ {y}, scope.names.lookup y = some .free → ∃ c, (CL X scope).lookup y = some c := fun {y} q => mem_lookup (cloFrom_has (cells := X.env.cells) (acc := []) (show (y, NameKind.free) ∈ scope.names from PySem.mem_of_lookup q))
  have cell : ∀ {c : Addr} {v : Option Value}, H c = none → s.heap.IsCell c v → g.IsCell c v := fun {c v} n ⟨o, ho, hv⟩ => by
    obtain ⟨sl, q⟩ := un.any ho n (by simp)
    exact ⟨_, kp _ _ q, hv⟩
  have none_ : ∀ b : Addr, b ∉ (LamX.lamCx X A outer s1 HZ E scope f c').ex := fun b z => by cases (show b ∈ ([] : List Addr) from z)
  refine ⟨⟨e0.mod, L.kind, rfl, rfl, Nat.le_refl _, fun y z c q1 q2 => I.ok.inj y z c (same q1) (same q2), fun y hy => ?_, fun y c z _ => ?_, fun _ => hd, Around.frames_deeper e0.frames, .inr ⟨rfl, rfl⟩, fun b z => absurd z (none_ b), e0.bs, e0.bsz, fun b _ _ => none_ b,
      fun b z => absurd z (none_ b), e0.funs, e0.frf⟩, rfl, e0.bare, Un.kept kp, ⟨_, hns, fun i y v q1 q2 q3 => ?_⟩, fun y c q => ?_, e0.hok.fresh (Nat.le_refl _), fun y c q => ?_, fun q hq => (by cases (show q ∈ ([] : List (Addr × Obj)) ++ [] from hq)), e0.hok.kept kp, I.len⟩
  · rcases (show scope.names.lookup y = some .cell ∨ scope.names.lookup y = some .free from hy) with hy | hy
    · exact absurd rfl (L.own _ (PySem.mem_of_lookup hy)).2
    · exact there hy
  · cases (show false = true from z)
  · rcases (show Vis scope y from q3) with k | k | k
    · have hxy := (L.own _ (PySem.mem_of_lookup k)).1 rfl
      exact absurd (hxy ▸ List.mem_of_getElem? q1) hx
    · exact absurd rfl (L.own _ (PySem.mem_of_lookup k)).2
    · obtain ⟨m', hn, hl⟩ := I.loc
      have vis : Vis X.env.scope y := (L.free _ (PySem.mem_of_lookup k) rfl).elim (fun k => .inr (.inl k)) (fun k => .inr (.inr k))
      obtain ⟨w', r, q⟩ := hl i y v q1 q2 vis
      obtain ⟨c2, h2⟩ := there k
      refine ⟨w', r, .inr ⟨.inr k, c2, h2, ?_⟩⟩
      have c1 := same h2
      rcases q with ⟨k', _⟩ | ⟨_, c3, e', z⟩
      · rcases L.free _ (PySem.mem_of_lookup k) rfl with k2 | k2 <;> (have := (show X.env.scope.names.lookup y = _ from k2).symm.trans k'; cases this)
      · cases c1.symm.trans e'
        exact cell (I.freeC y _ c1) z
  · obtain ⟨w', z⟩ := I.cell y c (same q)
    exact ⟨w', cell (I.freeC y c (same q)) z⟩
  · obtain ⟨v, o, ho, hv⟩ := I.cell y c (same q)
    exact un.free c o ho (I.freeC y c (same q)) (by simp)
end
end LamD
set_option Elab.async false
set_option linter.all false
set_option maxRecDepth 100000
set_option maxHeartbeats 1000000
namespace Ab
open PySem PySem.Spec PyProof.Rows L2
inductive AV where
  | non | bl (b : Bool) | int (i : Int) | str (s : Str) | ty (n : String) | cls (c : String)
  | raw (a : Addr) | obj (i : Nat) | tup (xs : List AV) | scr (xs : List AV) | exn (c : String) (ns : List Str) (vs : List AV)
inductive Cell where
  | lst (xs : List AV) | ins (c : String) (fs : List (Str × AV)) | dic (kvs : List (Key × AV))
structure Sto where
  n : Nat
  c : Nat → Cell
def Sto.new (s : Sto) (x : Cell) : Sto := ⟨s.n + 1, fun i => if i = s.n then x else s.c i⟩
def Sto.set (s : Sto) (i : Nat) (x : Cell) : Sto := ⟨s.n, fun j => if j = i then x else s.c j⟩
/-- where a store lies -/
structure Wd where
  m : Nat → Addr
  n : Nat
  H : Hp
def Imm : HO → Prop
  | .tup _ => True
  | .xd _ => True
  | .frz _ _ => True
  | .ext _ => True
  | _ => False
structure Ext (w w' : Wd) : Prop where
  n : w.n ≤ w'.n
  m : ∀ i, i < w.n → w'.m i = w.m i
  im : ∀ a o, w.H a = some o → Imm o → w'.H a = some o
theorem Ext.refl (w : Wd) : Ext w w := ⟨Nat.le_refl _, fun _ _ => rfl, fun _ _ h _ => h⟩
theorem imm_xob {a : Addr} {cls : Value} {d : Option Addr} : Imm (Gx.xob a cls d) := trivial
theorem Ext.trans {w w1 w2 : Wd} (a : Ext w w1) (b : Ext w1 w2) : Ext w w2 :=
  ⟨Nat.le_trans a.n b.n, fun i h => (b.m i (Nat.lt_of_lt_of_le h a.n)).trans (a.m i h), fun c o h k => b.im c o (a.im c o h k) k⟩
/-- what is known of the program: its module, its classes' addresses, the tables of code objects, the classes that live -/
structure Wc where
  K : PySem.W.Frag
  κ : String → Addr
  T : List (Addr × Str)
  live : List String
  xlive : List String
/-- and what stays true as it grows -/
structure Wl extends Wc where
  inv : Wd → Prop
  cl : ∀ w w', Ext w w' → inv w → inv w'
instance : Coe Wl Wc := ⟨Wl.toWc⟩
def SqF (K : PySem.W.Frag) (H : Hp) (a : Addr) (xs : List V) : Prop :=
  (∃ o, H a = some (.frz o (.lst xs))) ∨
    ∃ (o : Obj) (its : Array Value) (n : Nat), K.lookup a = some o ∧ o.cls = .type "list" ∧ o.dict = none ∧ o.data = .seq its n ∧ its.size ≤ sizeLine ∧ Vals xs its.toList
theorem SqF.sql {K : PySem.W.Frag} {H : Hp} {a : Addr} {xs : List V} (h : SqF K H a xs) : SqL K H a xs := h.elim (fun h => .inl (.inr h)) .inr
section
variable (W : Wc) (w : Wd)
mutual
inductive Rel : AV → V → Prop
  | non : Rel .non .non
  | bl (b : Bool) : Rel (.bl b) (.bl b)
  | int (i : Int) : Rel (.int i) (.int i)
  | str (s : Str) : Rel (.str s) (.str s)
  | ty (n : String) : Rel (.ty n) (.ty n)
  | cls (c : String) : Rel (.cls c) (.ref (W.κ c))
  | raw (a : Addr) : Rel (.raw a) (.ref a)
  | obj {i : Nat} (h : i < w.n) : Rel (.obj i) (.ref (w.m i))
  | tup {a : Addr} {xs : List AV} {vs : List V} (h : SqT W.K w.H a vs) (r : RelL xs vs) : Rel (.tup xs) (.ref a)
  | scr {a : Addr} {xs : List AV} {vs : List V} (h : SqF W.K w.H a vs) (r : RelL xs vs) : Rel (.scr xs) (.ref a)
  | exn {c : String} {a d : Addr} {ns : List Str} {xs : List AV} {vs : List V} (hc : c ∈ W.xlive) (h : w.H a = some (Gx.xob a (.ref (W.κ c)) (some d)) ) (hd : w.H d = some (.xd (ns.zip vs))) (hl : ns.length = xs.length) (r : RelL xs vs) : Rel (.exn c ns xs) (.ref a)
inductive RelL : List AV → List V → Prop
  | nil : RelL [] []
  | cons {x : AV} {v : V} {xs : List AV} {vs : List V} (h : Rel x v) (r : RelL xs vs) : RelL (x :: xs) (v :: vs)
end
def RelF (fs : List (Str × AV)) (gs : List (Str × V)) : Prop := Paired (fun (p : Str × AV) (q : Str × V) => p.1 = q.1 ∧ Rel W w p.2 q.2) fs gs
def RelK (fs : List (Key × AV)) (gs : List (Key × V)) : Prop := Paired (fun (p : Key × AV) (q : Key × V) => p.1 = q.1 ∧ Rel W w p.2 q.2) fs gs
inductive CRel : Cell → HO → Prop
  | lst {xs : List AV} {vs : List V} (r : RelL W w xs vs) : CRel (.lst xs) (.lst vs)
  | ins {c : String} {dx : Addr} {fs : List (Str × AV)} {gs : List (Str × V)} (hc : c ∈ W.live) (r : RelF W w fs gs) : CRel (.ins c fs) (.ins (W.κ c) dx gs)
  | dic {fs : List (Key × AV)} {gs : List (Key × V)} (r : RelK W w fs gs) : CRel (.dic fs) (.dK gs)
end
section
variable (W : Wl) (w : Wd)
structure Sim (s : Sto) : Prop where
  n : w.n = s.n
  inj : ∀ i j, i < s.n → j < s.n → w.m i = w.m j → i = j
  cell : ∀ i, i < s.n → ∃ o, w.H (w.m i) = some o ∧ CRel W w (s.c i) o
  tab : LamX.Tabs W.T w.H
  inv : W.inv w
end
section
variable (W : Wc) (w : Wd)
abbrev ASt := List (Option AV)
def RO : Option AV → Option V → Prop
  | some x, some v => Rel W w x v
  | none, _ => True
  | _, _ => False
def RSt (σ : ASt) (σc : L2.St) : Prop := Paired (RO W w) σ σc
end
theorem sqt_ext {K : PySem.W.Frag} {w w' : Wd} {a : Addr} {vs : List V} (e : Ext w w') (h : SqT K w.H a vs) : SqT K w'.H a vs := by
  rcases h with (h | ⟨o, h⟩) | h
  · exact .inl (.inl (e.im _ _ h trivial))
  · exact .inl (.inr ⟨o, e.im _ _ h trivial⟩)
  · exact .inr h
theorem sqf_ext {K : PySem.W.Frag} {w w' : Wd} {a : Addr} {vs : List V} (e : Ext w w') (h : SqF K w.H a vs) : SqF K w'.H a vs := by
  rcases h with ⟨o, h⟩ | h
  · exact .inl ⟨o, e.im _ _ h trivial⟩
  · exact .inr h
mutual
theorem Rel.mono {W : Wc} {w w' : Wd} (e : Ext w w') : ∀ {x : AV} {v : V}, Rel W w x v → Rel W w' x v
  | _, _, .non => .non
  | _, _, .bl b => .bl b
  | _, _, .int i => .int i
  | _, _, .str s => .str s
  | _, _, .ty n => .ty n
  | _, _, .cls c => .cls c
  | _, _, .raw a => .raw a
  | _, _, .obj h => by rw [← e.m _ h]; exact .obj (Nat.lt_of_lt_of_le h e.n)
  | _, _, .tup h r => .tup (sqt_ext e h) (RelL.mono e r)
  | _, _, .scr h r => .scr (sqf_ext e h) (RelL.mono e r)
  | _, _, .exn hc h hd hl r => .exn hc (e.im _ _ h imm_xob) (e.im _ _ hd trivial) hl (RelL.mono e r)
theorem RelL.mono {W : Wc} {w w' : Wd} (e : Ext w w') : ∀ {x : List AV} {v : List V}, RelL W w x v → RelL W w' x v
  | _, _, .nil => .nil
  | _, _, .cons h r => .cons (Rel.mono e h) (RelL.mono e r)
end
section
variable {W : Wc} {w w' : Wd} {s s' : Sto}
theorem RelF.mono (e : Ext w w') {fs : List (Str × AV)} {gs : List (Str × V)} (h : RelF W w fs gs) : RelF W w' fs gs := Paired.mapP h fun _ _ z => ⟨z.1, z.2.mono e⟩
theorem RelK.mono (e : Ext w w') {fs : List (Key × AV)} {gs : List (Key × V)} (h : RelK W w fs gs) : RelK W w' fs gs := Paired.mapP h fun _ _ z => ⟨z.1, z.2.mono e⟩
theorem CRel.mono (e : Ext w w') {c : Cell} {o : HO} (h : CRel W w c o) : CRel W w' c o := by
  cases h with
  | lst r => exact .lst (r.mono e)
  | ins hc r => exact .ins hc (r.mono e)
  | dic r => exact .dic (r.mono e)
theorem RO.mono (e : Ext w w') : ∀ {x : Option AV} {v : Option V}, RO W w x v → RO W w' x v
  | some _, some _, h => Rel.mono e h
  | none, _, _ => trivial
  | some _, none, h => h
theorem RSt.mono (e : Ext w w') {σ : ASt} {σc : L2.St} (h : RSt W w σ σc) : RSt W w' σ σc := Paired.mapP h fun _ _ z => z.mono e
theorem CRel.mut {c : Cell} {o : HO} (h : CRel W w c o) : ¬ Imm o ∧ (∀ ps, o ≠ .tbl ps) ∧ ∀ φ, o ≠ .ext φ := by
  cases h <;> exact ⟨fun z => z, fun ps z => (by cases z), fun φ z => (by cases z)⟩
theorem RelL.length : ∀ {xs : List AV} {vs : List V}, RelL W w xs vs → xs.length = vs.length
  | _, _, .nil => rfl
  | _, _, .cons _ r => congrArg (· + 1) (RelL.length r)
theorem RelL.append : ∀ {xs ys : List AV} {vs us : List V}, RelL W w xs vs → RelL W w ys us → RelL W w (xs ++ ys) (vs ++ us)
  | _, _, _, _, .nil, h => h
  | _, _, _, _, .cons h r, k => .cons h (RelL.append r k)
theorem RelL.get : ∀ {xs : List AV} {vs : List V}, RelL W w xs vs → ∀ (i : Nat) (x : AV), xs[i]? = some x → ∃ v, vs[i]? = some v ∧ Rel W w x v
  | _, _, .nil, i, x, e => by simp at e
  | _, _, .cons h r, 0, x, e => by
    simp only [List.getElem?_cons_zero, Option.some.injEq] at e
    subst e
    exact ⟨_, by simp, h⟩
  | _, _, .cons h r, i + 1, x, e => by
    simp only [List.getElem?_cons_succ] at e ⊢
    exact RelL.get r i x e
theorem RelL.getv : ∀ {xs : List AV} {vs : List V}, RelL W w xs vs → ∀ (i : Nat) (v : V), vs[i]? = some v → ∃ x, xs[i]? = some x ∧ Rel W w x v
  | _, _, .nil, i, x, e => by simp at e
  | _, _, .cons h r, 0, x, e => by
    simp only [List.getElem?_cons_zero, Option.some.injEq] at e
    subst e
    exact ⟨_, by simp, h⟩
  | _, _, .cons h r, i + 1, x, e => by
    simp only [List.getElem?_cons_succ] at e ⊢
    exact RelL.getv r i x e
theorem RelL.set : ∀ {xs : List AV} {vs : List V} {x : AV} {v : V}, RelL W w xs vs → Rel W w x v → ∀ i, RelL W w (xs.set i x) (vs.set i v)
  | _, _, _, _, .nil, _, _ => .nil
  | _, _, _, _, .cons h r, k, 0 => .cons k r
  | _, _, _, _, .cons h r, k, i + 1 => .cons h (RelL.set r k i)
theorem RelL.take : ∀ {xs : List AV} {vs : List V}, RelL W w xs vs → ∀ i, RelL W w (xs.take i) (vs.take i)
  | _, _, .nil, i => by simp only [List.take_nil]; exact .nil
  | _, _, .cons h r, 0 => .nil
  | _, _, .cons h r, i + 1 => .cons h (RelL.take r i)
theorem RelL.drop : ∀ {xs : List AV} {vs : List V}, RelL W w xs vs → ∀ i, RelL W w (xs.drop i) (vs.drop i)
  | _, _, .nil, i => by simp only [List.drop_nil]; exact .nil
  | _, _, .cons h r, 0 => .cons h r
  | _, _, .cons h r, i + 1 => RelL.drop r i
theorem RSt.get : ∀ {σ : ASt} {σc : L2.St}, RSt W w σ σc → ∀ (i : Nat) (x : AV), σ[i]? = some (some x) → ∃ v, σc[i]? = some (some v) ∧ Rel W w x v
  | _, _, .nil, i, x, e => by simp at e
  | _, _, .cons h r, 0, x, e => by
    simp only [List.getElem?_cons_zero, Option.some.injEq] at e
    subst e
    revert h
    rename_i oc _ _
    cases oc with
    | none => exact fun h => (show False from h).elim
    | some v => exact fun h => ⟨v, by simp, h⟩
  | _, _, .cons h r, i + 1, x, e => by
    simp only [List.getElem?_cons_succ] at e ⊢
    exact RSt.get r i x e
theorem RSt.set : ∀ {σ : ASt} {σc : L2.St} {x : Option AV} {v : Option V}, RSt W w σ σc → RO W w x v → ∀ i, RSt W w (σ.set i x) (σc.set i v)
  | _, _, _, _, .nil, _, _ => .nil
  | _, _, _, _, .cons h r, k, 0 => .cons k r
  | _, _, _, _, .cons h r, k, i + 1 => .cons h (RSt.set r k i)
theorem RSt.length {σ : ASt} {σc : L2.St} (h : RSt W w σ σc) : σ.length = σc.length := Paired.length h
/-- wipe -/
def wipeA (σ : ASt) : List Nat → ASt
  | [] => σ
  | v :: vs => (wipeA σ vs).set v none
theorem RSt.wipe {σ : ASt} {σc : L2.St} (h : RSt W w σ σc) : ∀ vs : List Nat, RSt W w (wipeA σ vs) (wipe σc vs)
  | [] => h
  | v :: vs => RSt.set (RSt.wipe h vs) (show RO W w none none from trivial) v
end
section
variable {W : Wl} {w w' : Wd} {s s' : Sto}
theorem Ext.grow {H' : Hp} (e : ∀ a o, w.H a = some o → H' a = some o) : Ext w { w with H := H' } := ⟨Nat.le_refl _, fun _ _ => rfl, fun a o h _ => e a o h⟩
theorem Sim.grow {H' : Hp} (S : Sim W w s) (e : ∀ a o, w.H a = some o → H' a = some o) : Sim W { w with H := H' } s :=
  ⟨S.n, S.inj, fun i h => by
    obtain ⟨o, h1, h2⟩ := S.cell i h
    exact ⟨o, e _ _ h1, h2.mono (.grow e)⟩, S.tab.ext e, W.cl _ _ (.grow e) S.inv⟩
theorem grow_upd {H : Hp} {p : Addr} {o : HO} (n : H p = none) : ∀ a u, H a = some u → upd H p o a = some u := fun a u h => by
  rw [upd_ne (ne_of_none h n)]; exact h
/-- a new cell -/
def Wd.new (w : Wd) (p : Addr) (H' : Hp) : Wd := ⟨fun i => if i = w.n then p else w.m i, w.n + 1, H'⟩
theorem Ext.new {p : Addr} {H' : Hp} (e : ∀ a o, w.H a = some o → H' a = some o) : Ext w (w.new p H') :=
  ⟨Nat.le_succ _, fun i h => if_neg (Nat.ne_of_lt h), fun a o h _ => e a o h⟩
theorem Sim.new {p : Addr} {H' : Hp} {x : Cell} {o : HO} (S : Sim W w s) (hp : w.H p = none) (e : ∀ a o, w.H a = some o → H' a = some o) (k : H' p = some o) (r : CRel W (w.new p H') x o) : Sim W (w.new p H') (s.new x) := by
  have sn := S.n
  refine ⟨congrArg (· + 1) S.n, fun i j hi hj q => ?_, fun i hi => ?_, S.tab.ext e, W.cl _ _ (.new e) S.inv⟩
  · have hi : i < s.n + 1 := hi
    have hj : j < s.n + 1 := hj
    have q : (if i = w.n then p else w.m i) = if j = w.n then p else w.m j := q
    have at_ : ∀ i, i < s.n + 1 → ¬ i = w.n → w.m i ≠ p := fun i h1 h2 z => by
      obtain ⟨o, h3, _⟩ := S.cell i (by omega)
      rw [z, hp] at h3
      cases h3
    by_cases h1 : i = w.n
    · by_cases h2 : j = w.n
      · omega
      · rw [if_pos h1, if_neg h2] at q
        exact absurd q.symm (at_ j hj h2)
    · by_cases h2 : j = w.n
      · rw [if_neg h1, if_pos h2] at q
        exact absurd q (at_ i hi h1)
      · rw [if_neg h1, if_neg h2] at q
        exact S.inj i j (by omega) (by omega) q
  · have hi : i < s.n + 1 := hi
    by_cases h : i = s.n
    · subst h
      refine ⟨o, ?_, ?_⟩
      · show H' (if s.n = w.n then p else w.m s.n) = _
        rw [if_pos sn.symm]; exact k
      · show CRel W _ (if s.n = s.n then x else _) o
        rw [if_pos rfl]; exact r
    · obtain ⟨o', h1, h2⟩ := S.cell i (by omega)
      refine ⟨o', ?_, ?_⟩
      · show H' (if i = w.n then p else w.m i) = _
        rw [if_neg (by omega)]; exact e _ _ h1
      · show CRel W _ (if i = s.n then x else s.c i) o'
        rw [if_neg h]; exact h2.mono (.new e)
theorem Rel.new (p : Addr) (H' : Hp) (n : w.n = s.n) : Rel W (w.new p H') (.obj s.n) (.ref p) := by
  have := Rel.obj (W := W) (w := w.new p H') (i := s.n) (by show s.n < w.n + 1; omega)
  have e : (w.new p H').m s.n = p := if_pos n.symm
  rw [e] at this
  exact this
/-- a cell is written -/
theorem Ext.wr {i : Nat} {o : HO} (S : Sim W w s) (hi : i < s.n) : Ext w { w with H := upd w.H (w.m i) o } :=
  ⟨Nat.le_refl _, fun _ _ => rfl, fun a u h k => by
    obtain ⟨o', h1, h2⟩ := S.cell i hi
    have : a ≠ w.m i := fun z => by
      rw [z, h1] at h
      cases h
      exact h2.mut.1 k
    show upd w.H (w.m i) o a = some u
    rw [upd_ne this]; exact h⟩
theorem Sim.wr {i : Nat} {x : Cell} {o : HO} (S : Sim W w s) (hi : i < s.n) (r : CRel W w x o) : Sim W { w with H := upd w.H (w.m i) o } (s.set i x) := by
  have e := Ext.wr (o := o) S hi
  refine ⟨S.n, S.inj, fun j hj => ?_, fun p hp => ?_, W.cl _ _ e S.inv⟩
  · by_cases h : j = i
    · subst h
      exact ⟨o, upd_same, by show CRel W _ (if j = j then x else _) o; rw [if_pos rfl]; exact r.mono e⟩
    · obtain ⟨o', h1, h2⟩ := S.cell j hj
      refine ⟨o', ?_, ?_⟩
      · show upd w.H (w.m i) o (w.m j) = _
        rw [upd_ne fun z => h (S.inj j i hj hi z)]; exact h1
      · show CRel W _ (if j = i then x else s.c j) o'
        rw [if_neg h]; exact h2.mono e
  · obtain ⟨oi, i1, i2⟩ := S.cell i hi
    obtain ⟨ps, t1, t2, t3⟩ := S.tab p hp
    have ne1 : p.1 ≠ w.m i := fun z => by
      rw [z, i1] at t1
      cases t1
      exact i2.mut.2.1 _ rfl
    refine ⟨ps, by show upd w.H (w.m i) o p.1 = _; rw [upd_ne ne1]; exact t1, t2, fun pos cv hcv => ?_⟩
    obtain ⟨c', rfl, hc'⟩ := t3 pos cv hcv
    refine ⟨c', rfl, ?_⟩
    have ne2 : c' ≠ w.m i := fun z => by
      rw [z, i1] at hc'
      cases hc'
      exact i2.mut.2.2 _ rfl
    show upd w.H (w.m i) o c' = _
    rw [upd_ne ne2]; exact hc'
end
inductive Res (α : Type) where
  | ok (a : α) (s : Sto)
  | err (c : String) (ns : List Str) (vs : List AV) (s : Sto)
  | stuck
def Res.bind {α β : Type} : Res α → (α → Sto → Res β) → Res β
  | .ok a s, k => k a s
  | .err c ns vs s, _ => .err c ns vs s
  | .stuck, _ => .stuck
def Res.Post {α : Type} : Res α → (α → Sto → Prop) → (String → List Str → List AV → Sto → Prop) → Prop
  | .ok a s, P, _ => P a s
  | .err c ns vs s, _, R => R c ns vs s
  | .stuck, _, _ => False
@[simp] theorem Res.bind_ok {α β : Type} {a : α} {s : Sto} {k : α → Sto → Res β} : (Res.ok a s).bind k = k a s := rfl
@[simp] theorem Res.bind_err {α β : Type} {c : String} {ns : List Str} {vs : List AV} {s : Sto} {k : α → Sto → Res β} : (Res.err c ns vs s).bind k = .err c ns vs s := rfl
@[simp] theorem Res.bind_stuck {α β : Type} {k : α → Sto → Res β} : (Res.stuck : Res α).bind k = .stuck := rfl
theorem Res.post_bind {α β : Type} {r : Res α} {k : α → Sto → Res β} {P : β → Sto → Prop} {R : String → List Str → List AV → Sto → Prop} : (r.bind k).Post P R ↔ r.Post (fun a s => (k a s).Post P R) R := by
  cases r <;> exact Iff.rfl
theorem Res.Post.mono {α : Type} {r : Res α} {P P' : α → Sto → Prop} {R R' : String → List Str → List AV → Sto → Prop} (h : r.Post P R) (f : ∀ a s, P a s → P' a s) (g : ∀ c ns vs s, R c ns vs s → R' c ns vs s) : r.Post P' R' := by
  cases r with
  | ok a s => exact f _ _ h
  | err c ns vs s => exact g _ _ _ _ h
  | stuck => exact h
inductive SRes where
  | nx (σ : ASt) (s : Sto) | rt (v : AV) (s : Sto) | bk (σ : ASt) (s : Sto) | ct (σ : ASt) (s : Sto)
  | err (c : String) (ns : List Str) (vs : List AV) (σ : ASt) (s : Sto)
  | stuck
abbrev AE := ASt → Sto → Res AV
abbrev AT := ASt → Sto → Res Bool
abbrev AA := ASt → Sto → Res (List AV)
abbrev AS := ASt → Sto → SRes
section
variable (W : Wl)
def ExcD (w : Wd) (c : String) (d : Addr) (ns : List Str) (xs : List AV) : Prop := c ∈ W.xlive ∧ ∃ vs, w.H d = some (.xd (ns.zip vs)) ∧ ns.length = xs.length ∧ RelL W w xs vs
def ErrP (w : Wd) (E : XK) (c : String) (ns : List Str) (vs : List AV) (s : Sto) : Prop := ∀ w' d, Ext w w' → Sim W w' s → ExcD W w' c d ns vs → E (.ref (W.κ c)) (some d) w'.H
def OkP (w : Wd) (Q : VK) (v : AV) (s : Sto) : Prop := ∀ w' vc, Ext w w' → Sim W w' s → Rel W w' v vc → Q vc w'.H
def OkL (w : Wd) (Q : List V → Hp → Prop) (v : List AV) (s : Sto) : Prop := ∀ w' vc, Ext w w' → Sim W w' s → RelL W w' v vc → Q vc w'.H
def OkB (w : Wd) (Q : Bool → Hp → Prop) (b : Bool) (s : Sto) : Prop := ∀ w', Ext w w' → Sim W w' s → Q b w'.H
def DE (E : L2.St → XK) (te : TE) (f : AE) : Prop := ∀ (w : Wd) (s : Sto) (σ : ASt) (σc : L2.St) (Q : VK), Sim W w s → RSt W w σ σc → (f σ s).Post (OkP W w Q) (ErrP W w (E σc)) → te σc w.H Q
def DT (E : L2.St → XK) (tt : TT) (f : AT) : Prop := ∀ (w : Wd) (s : Sto) (σ : ASt) (σc : L2.St) (Q : Bool → Hp → Prop), Sim W w s → RSt W w σ σc → (f σ s).Post (OkB W w Q) (ErrP W w (E σc)) → tt σc w.H Q
def DA (E : L2.St → XK) (ta : TA) (f : AA) : Prop := ∀ (w : Wd) (s : Sto) (σ : ASt) (σc : L2.St) (Q : List V → Hp → Prop), Sim W w s → RSt W w σ σc → (f σ s).Post (OkL W w Q) (ErrP W w (E σc)) → ta σc w.H Q
def SRes.P (r : SRes) (w : Wd) (D : Ends) (E : L2.St → XK) : Prop :=
  match r with
  | .nx σ s => ∀ w' σc, Ext w w' → Sim W w' s → RSt W w' σ σc → D.nx σc w'.H
  | .rt v s => ∀ w' vc, Ext w w' → Sim W w' s → Rel W w' v vc → D.rt vc w'.H
  | .bk σ s => ∀ w' σc, Ext w w' → Sim W w' s → RSt W w' σ σc → D.bk σc w'.H
  | .ct σ s => ∀ w' σc, Ext w w' → Sim W w' s → RSt W w' σ σc → D.ct σc w'.H
  | .err c ns vs σ s => ∀ w' σc d, Ext w w' → Sim W w' s → RSt W w' σ σc → ExcD W w' c d ns vs → E σc (.ref (W.κ c)) (some d) w'.H
  | .stuck => False
def DS (E : L2.St → XK) (ts : TS) (f : AS) : Prop := ∀ (w : Wd) (s : Sto) (σ : ASt) (σc : L2.St) (D : Ends), Sim W w s → RSt W w σ σc → (f σ s).P W w D E → ts D σc w.H
/-- a target -/
def DG (tg : TG) (g : AV → AS) : Prop := ∀ (w : Wd) (s : Sto) (σ : ASt) (σc : L2.St) (x : AV) (v : V) (Q : L2.St → Hp → Prop), Sim W w s → RSt W w σ σc → Rel W w x v → (g x σ s).P W w ⟨Q, fun _ _ => False, fun _ _ => False, fun _ _ => False⟩ (fun _ _ _ _ => False) → tg v σc w.H Q
def DGs (tg : TGs) (g : List AV → AS) : Prop := ∀ (w : Wd) (s : Sto) (σ : ASt) (σc : L2.St) (x : List AV) (v : List V) (Q : L2.St → Hp → Prop), Sim W w s → RSt W w σ σc → RelL W w x v → (g x σ s).P W w ⟨Q, fun _ _ => False, fun _ _ => False, fun _ _ => False⟩ (fun _ _ _ _ => False) → tg v σc w.H Q
/-- an operator, a built-in of arguments -/
def DR (r : R2) (g : AV → AV → Sto → Res AV) : Prop := ∀ (w : Wd) (s : Sto) (x y : AV) (v u : V) (Q : VK), Sim W w s → Rel W w x v → Rel W w y u → (g x y s).Post (OkP W w Q) (fun _ _ _ _ => False) → r v u w.H Q
def DU (r : V → Hp → VK → Prop) (g : AV → Sto → Res AV) : Prop := ∀ (w : Wd) (s : Sto) (x : AV) (v : V) (Q : VK), Sim W w s → Rel W w x v → (g x s).Post (OkP W w Q) (fun _ _ _ _ => False) → r v w.H Q
def DB (r : List V → Hp → VK → Prop) (g : List AV → Sto → Res AV) : Prop := ∀ (w : Wd) (s : Sto) (x : List AV) (v : List V) (Q : VK), Sim W w s → RelL W w x v → (g x s).Post (OkP W w Q) (fun _ _ _ _ => False) → r v w.H Q
/-- a promise -/
def spF (n : Nat) (F : List AV → Sto → Res AV) : Sp := fun vs H Q E => ∃ (w : Wd) (s : Sto) (args : List AV), H = w.H ∧ Sim W w s ∧ RelL W w args vs ∧ args.length = n ∧ (F args s).Post (OkP W w Q) (ErrP W w E)
end
section
variable {W : Wl} {w w' : Wd}
theorem OkP.mono {Q : VK} {v : AV} {s : Sto} (e : Ext w w') (h : OkP W w Q v s) : OkP W w' Q v s := fun w2 vc e2 S r => h w2 vc (e.trans e2) S r
theorem OkL.mono {Q : List V → Hp → Prop} {v : List AV} {s : Sto} (e : Ext w w') (h : OkL W w Q v s) : OkL W w' Q v s := fun w2 vc e2 S r => h w2 vc (e.trans e2) S r
theorem OkB.mono {Q : Bool → Hp → Prop} {v : Bool} {s : Sto} (e : Ext w w') (h : OkB W w Q v s) : OkB W w' Q v s := fun w2 e2 S => h w2 (e.trans e2) S
theorem ErrP.mono {E : XK} {c : String} {ns : List Str} {vs : List AV} {s : Sto} (e : Ext w w') (h : ErrP W w E c ns vs s) : ErrP W w' E c ns vs s := fun w2 d e2 S x => h w2 d (e.trans e2) S x
theorem P.mono {r : SRes} {D : Ends} {E : L2.St → XK} (e : Ext w w') (h : r.P W w D E) : r.P W w' D E := by
  cases r with
  | nx σ s => exact fun w2 σc e2 S x => h w2 σc (e.trans e2) S x
  | rt v s => exact fun w2 σc e2 S x => h w2 σc (e.trans e2) S x
  | bk σ s => exact fun w2 σc e2 S x => h w2 σc (e.trans e2) S x
  | ct σ s => exact fun w2 σc e2 S x => h w2 σc (e.trans e2) S x
  | err c ns vs σ s => exact fun w2 σc d e2 S x y => h w2 σc d (e.trans e2) S x y
  | stuck => exact h
theorem post_mono {r : Res AV} {Q : VK} {E : XK} (e : Ext w w') (h : r.Post (OkP W w Q) (ErrP W w E)) : r.Post (OkP W w' Q) (ErrP W w' E) := h.mono (fun _ _ z => z.mono e) fun _ _ _ _ z => z.mono e
end
end Ab
set_option Elab.async false
set_option linter.all false
set_option maxRecDepth 100000
set_option maxHeartbeats 1000000
namespace Ab
open PySem PySem.Spec PyProof.Rows L2
open Classical
def aVar (i : Nat) : AE := fun σ s => match σ[i]? with | some (some v) => .ok v s | _ => .stuck
def aC (v : AV) : AE := fun _ s => .ok v s
def aOp (g : AV → AV → Sto → Res AV) (fa fb : AE) : AE := fun σ s => (fa σ s).bind fun x s1 => (fb σ s1).bind fun y s2 => g x y s2
def aUn (g : AV → Sto → Res AV) (fa : AE) : AE := fun σ s => (fa σ s).bind g
def aNil : AA := fun _ s => .ok [] s
def aCons (fa : AE) (fr : AA) : AA := fun σ s => (fa σ s).bind fun x s1 => (fr σ s1).bind fun xs s2 => .ok (x :: xs) s2
def aCB (g : List AV → Sto → Res AV) (fa : AA) : AE := fun σ s => (fa σ s).bind g
def aAndV (fa fb : AE) : AE := fun σ s => (fa σ s).bind fun x s1 => match x with | .bl true => fb σ s1 | .bl false => .ok (.bl false) s1 | _ => .stuck
def aOrV (fa fb : AE) : AE := fun σ s => (fa σ s).bind fun x s1 => match x with | .bl false => fb σ s1 | .bl true => .ok (.bl true) s1 | _ => .stuck
def aNotV (fa : AE) : AE := fun σ s => (fa σ s).bind fun x s1 => match x with | .bl b => .ok (.bl (!b)) s1 | _ => .stuck
def aTest (fa : AE) : AT := fun σ s => (fa σ s).bind fun x s1 => match x with | .bl b => .ok b s1 | _ => .stuck
def aAnd (t u : AT) : AT := fun σ s => (t σ s).bind fun b s1 => if b = true then u σ s1 else .ok false s1
def aOr (t u : AT) : AT := fun σ s => (t σ s).bind fun b s1 => if b = true then .ok true s1 else u σ s1
def aNot (t : AT) : AT := fun σ s => (t σ s).bind fun b s1 => .ok (!b) s1
def aIf (t : AT) (fa fb : AE) : AE := fun σ s => (t σ s).bind fun b s1 => if b = true then fa σ s1 else fb σ s1
def aChain (r r' : AV → AV → Sto → Res AV) (fa fb fc : AE) : AE := fun σ s => (fa σ s).bind fun x s1 => (fb σ s1).bind fun y s2 => (r x y s2).bind fun z s3 => match z with | .bl true => (fc σ s3).bind fun w s4 => r' y w s4 | .bl false => .ok (.bl false) s3 | _ => .stuck
def aTup (fa : AA) : AE := fun σ s => (fa σ s).bind fun xs s1 => if xs.length ≤ sizeLine then .ok (.tup xs) s1 else .stuck
def newL (xs : List AV) (s : Sto) : Res AV := .ok (.obj s.n) (s.new (.lst xs))
def aLst (fa : AA) : AE := fun σ s => (fa σ s).bind fun xs s1 => if xs.length ≤ sizeLine then newL xs s1 else .stuck
def aCall (n : Nat) (F : List AV → Sto → Res AV) (dvs : List AV) (fa : AA) : AE := fun σ s => (fa σ s).bind fun xs s1 => if (xs ++ dvs).length = n then F (xs ++ dvs) s1 else .stuck
def aNext : AS := fun σ s => .nx σ s
/-- an expression's end, then a statement's work -/
def Res.st {α : Type} : Res α → ASt → (α → Sto → SRes) → SRes
  | .ok a s, _, k => k a s
  | .err c ns vs s, σ, _ => .err c ns vs σ s
  | .stuck, _, _ => .stuck
@[simp] theorem Res.st_ok {α : Type} {a : α} {s : Sto} {σ : ASt} {k : α → Sto → SRes} : (Res.ok a s).st σ k = k a s := rfl
@[simp] theorem Res.st_err {α : Type} {c : String} {ns : List Str} {vs : List AV} {s : Sto} {σ : ASt} {k : α → Sto → SRes} : (Res.err c ns vs s).st σ k = .err c ns vs σ s := rfl
@[simp] theorem Res.st_stuck {α : Type} {σ : ASt} {k : α → Sto → SRes} : (Res.stuck : Res α).st σ k = .stuck := rfl
def SRes.thn : SRes → AS → SRes
  | .nx σ s, f => f σ s
  | .rt v s, _ => .rt v s
  | .bk σ s, _ => .bk σ s
  | .ct σ s, _ => .ct σ s
  | .err c ns vs σ s, _ => .err c ns vs σ s
  | .stuck, _ => .stuck
@[simp] theorem SRes.thn_nx {σ : ASt} {s : Sto} {f : AS} : (SRes.nx σ s).thn f = f σ s := rfl
@[simp] theorem SRes.thn_rt {v : AV} {s : Sto} {f : AS} : (SRes.rt v s).thn f = .rt v s := rfl
@[simp] theorem SRes.thn_bk {σ : ASt} {s : Sto} {f : AS} : (SRes.bk σ s).thn f = .bk σ s := rfl
@[simp] theorem SRes.thn_ct {σ : ASt} {s : Sto} {f : AS} : (SRes.ct σ s).thn f = .ct σ s := rfl
@[simp] theorem SRes.thn_err {c : String} {ns : List Str} {vs : List AV} {σ : ASt} {s : Sto} {f : AS} : (SRes.err c ns vs σ s).thn f = .err c ns vs σ s := rfl
@[simp] theorem SRes.thn_stuck {f : AS} : SRes.stuck.thn f = .stuck := rfl
def aSeq (f g : AS) : AS := fun σ s => (f σ s).thn g
def aBreak : AS := fun σ s => .bk σ s
def aCont : AS := fun σ s => .ct σ s
def aDrop (fa : AE) : AS := fun σ s => (fa σ s).st σ fun _ s1 => .nx σ s1
def aRet (fa : AE) : AS := fun σ s => (fa σ s).st σ fun v s1 => .rt v s1
def aRetN : AS := fun _ s => .rt .non s
def aIfS (t : AT) (f g : AS) : AS := fun σ s => (t σ s).st σ fun b s1 => if b = true then f σ s1 else g σ s1
def aAsg (fa : AE) (g : AV → AS) : AS := fun σ s => (fa σ s).st σ fun v s1 => g v σ s1
def agName (i : Nat) : AV → AS := fun v σ s => .nx (σ.set i (some v)) s
def parK (i j : Nat) (σ : ASt) : List AV → Sto → SRes
  | [v, u], s1 => .nx ((σ.set i (some v)).set j (some u)) s1
  | _, _ => .stuck
def aPar (i j : Nat) (fa : AA) : AS := fun σ s => (fa σ s).st σ (parK i j σ)
def parK3 (i j l : Nat) (σ : ASt) : List AV → Sto → SRes
  | [v, u, w], s1 => .nx (((σ.set i (some v)).set j (some u)).set l (some w)) s1
  | _, _ => .stuck
def aPar3 (i j l : Nat) (fa : AA) : AS := fun σ s => (fa σ s).st σ (parK3 i j l σ)
def agNil : List AV → AS := fun xs σ s => match xs with | [] => .nx σ s | _ => .stuck
def agCons (g : AV → AS) (h : List AV → AS) : List AV → AS := fun xs => match xs with | x :: r => aSeq (g x) (h r) | [] => fun _ _ => .stuck
def agTup (n : Nat) (g : List AV → AS) : AV → AS := fun v σ s => match v with | .tup xs => if xs.length = n then g xs σ s else .stuck | _ => .stuck
/-- a def's body -/
def SRes.fn : SRes → Res AV
  | .rt v s1 => .ok v s1
  | .nx _ s1 => .ok .non s1
  | .err c ns vs _ s1 => .err c ns vs s1
  | _ => .stuck
@[simp] theorem SRes.fn_rt {v : AV} {s : Sto} : (SRes.rt v s).fn = .ok v s := rfl
@[simp] theorem SRes.fn_nx {σ : ASt} {s : Sto} : (SRes.nx σ s).fn = .ok .non s := rfl
@[simp] theorem SRes.fn_err {c : String} {ns : List Str} {vs : List AV} {σ : ASt} {s : Sto} : (SRes.err c ns vs σ s).fn = .err c ns vs s := rfl
def aDef (k : Nat) (f : AS) : List AV → Sto → Res AV := fun args s => (f (args.map some ++ List.replicate k none) s).fn
section
variable {W : Wl} {E : L2.St → XK} {ta tb tc : TE} {fa fb fc : AE} {t u : TT} {ft fu : AT} {tr : TA} {fr : AA}
theorem DE.var {i : Nat} : DE W E (tVar i) (aVar i) := fun w s σ σc Q S R h => by
  unfold aVar at h
  split at h
  · rename_i v e
    obtain ⟨vc, h1, h2⟩ := R.get i v e
    exact ⟨vc, h1, h w vc (.refl w) S h2⟩
  · exact h.elim
theorem DE.c {v : AV} {vc : V} (r : ∀ w, Rel W w v vc) : DE W E (tC vc) (aC v) := fun w s σ σc Q S R h => h w vc (.refl w) S (r w)
theorem post_bind_ok {α β : Type} {r : Res α} {k : α → Sto → Res β} {P : β → Sto → Prop} {Er : String → List Str → List AV → Sto → Prop} (h : (r.bind k).Post P Er) : r.Post (fun a s => (k a s).Post P Er) Er := Res.post_bind.mp h
theorem postB_mono {w w' : Wd} {r : Res Bool} {Q : Bool → Hp → Prop} {E : XK} (e : Ext w w') (h : r.Post (OkB W w Q) (ErrP W w E)) : r.Post (OkB W w' Q) (ErrP W w' E) := h.mono (fun _ _ z => z.mono e) fun _ _ _ _ z => z.mono e
theorem DE.op {r : R2} {g : AV → AV → Sto → Res AV} (hr : DR W r g) (ha : DE W E ta fa) (hb : DE W E tb fb) (hg : ∀ x y s c ns vs s', g x y s ≠ .err c ns vs s') : DE W E (tOp r ta tb) (aOp g fa fb) := fun w s σ σc Q S R h => by
  refine ha w s σ σc _ S R ((post_bind_ok h).mono (fun x s1 h1 w1 v e1 S1 r1 => ?_) fun _ _ _ _ z => z)
  refine hb w1 s1 σ σc _ S1 (R.mono e1) ((post_bind_ok h1).mono (fun y s2 h2 w2 u e2 S2 r2 => ?_) fun _ _ _ _ z => z.mono e1)
  refine hr w2 s2 x y v u Q S2 (r1.mono e2) r2 ?_
  cases hh : g x y s2 with
  | ok a s3 =>
    rw [hh] at h2
    exact OkP.mono (e1.trans e2) h2
  | err c ns vs s3 => exact absurd hh (hg _ _ _ _ _ _ _)
  | stuck => rw [hh] at h2; exact h2
theorem DE.un {r : V → Hp → VK → Prop} {g : AV → Sto → Res AV} (hr : DU W r g) (ha : DE W E ta fa) (hg : ∀ x s c ns vs s', g x s ≠ .err c ns vs s') : DE W E (tUn r ta) (aUn g fa) := fun w s σ σc Q S R h => by
  refine ha w s σ σc _ S R ((post_bind_ok h).mono (fun x s1 h1 w1 v e1 S1 r1 => ?_) fun _ _ _ _ z => z)
  refine hr w1 s1 x v Q S1 r1 ?_
  cases hh : g x s1 with
  | ok a s3 =>
    rw [hh] at h1
    exact OkP.mono e1 h1
  | err c ns vs s3 => exact absurd hh (hg _ _ _ _ _ _)
  | stuck => rw [hh] at h1; exact h1
theorem DA.nil : DA W E tNil aNil := fun w s σ σc Q S R h => h w [] (.refl w) S .nil
theorem DA.cons (ha : DE W E ta fa) (hr : DA W E tr fr) : DA W E (tCons ta tr) (aCons fa fr) := fun w s σ σc Q S R h => by
  refine ha w s σ σc _ S R ((post_bind_ok h).mono (fun x s1 h1 w1 v e1 S1 r1 => ?_) fun _ _ _ _ z => z)
  refine hr w1 s1 σ σc _ S1 (R.mono e1) ((post_bind_ok h1).mono (fun y s2 h2 w2 u e2 S2 r2 => ?_) fun _ _ _ _ z => z.mono e1)
  exact h2 w2 _ (e1.trans e2) S2 (.cons (r1.mono e2) r2)
theorem DE.cb {r : List V → Hp → VK → Prop} {g : List AV → Sto → Res AV} (hr : DB W r g) (ha : DA W E tr fr) (hg : ∀ x s c ns vs s', g x s ≠ .err c ns vs s') : DE W E (tCB r tr) (aCB g fr) := fun w s σ σc Q S R h => by
  refine ha w s σ σc _ S R ((post_bind_ok h).mono (fun x s1 h1 w1 v e1 S1 r1 => ?_) fun _ _ _ _ z => z)
  refine hr w1 s1 x v Q S1 r1 ?_
  cases hh : g x s1 with
  | ok a s3 =>
    rw [hh] at h1
    exact OkP.mono e1 h1
  | err c ns vs s3 => exact absurd hh (hg _ _ _ _ _ _)
  | stuck => rw [hh] at h1; exact h1
theorem DE.andV (ha : DE W E ta fa) (hb : DE W E tb fb) : DE W E (tAndV ta tb) (aAndV fa fb) := fun w s σ σc Q S R h => by
  refine ha w s σ σc _ S R ((post_bind_ok h).mono (fun x s1 h1 w1 v e1 S1 r1 => ?_) fun _ _ _ _ z => z)
  cases r1 with
  | bl b =>
    refine ⟨b, rfl, ?_⟩
    cases b with
    | true => exact iteT (hb w1 s1 σ σc _ S1 (R.mono e1) (post_mono e1 h1))
    | false => exact iteF (h1 w1 _ e1 S1 (.bl false))
  | _ => exact (show False from h1).elim
theorem DE.orV (ha : DE W E ta fa) (hb : DE W E tb fb) : DE W E (tOrV ta tb) (aOrV fa fb) := fun w s σ σc Q S R h => by
  refine ha w s σ σc _ S R ((post_bind_ok h).mono (fun x s1 h1 w1 v e1 S1 r1 => ?_) fun _ _ _ _ z => z)
  cases r1 with
  | bl b =>
    refine ⟨b, rfl, ?_⟩
    cases b with
    | true => exact iteT (h1 w1 _ e1 S1 (.bl true))
    | false => exact iteF (hb w1 s1 σ σc _ S1 (R.mono e1) (post_mono e1 h1))
  | _ => exact (show False from h1).elim
theorem DE.notV (ha : DE W E ta fa) : DE W E (tNotV ta) (aNotV fa) := fun w s σ σc Q S R h => by
  refine ha w s σ σc _ S R ((post_bind_ok h).mono (fun x s1 h1 w1 v e1 S1 r1 => ?_) fun _ _ _ _ z => z)
  cases r1 with
  | bl b => exact ⟨b, rfl, h1 w1 _ e1 S1 (.bl _)⟩
  | _ => exact (show False from h1).elim
theorem DT.test (ha : DE W E ta fa) : DT W E (tTest ta) (aTest fa) := fun w s σ σc Q S R h => by
  refine ha w s σ σc _ S R ((post_bind_ok h).mono (fun x s1 h1 w1 v e1 S1 r1 => ?_) fun _ _ _ _ z => z)
  cases r1 with
  | bl b => exact ⟨b, rfl, h1 w1 e1 S1⟩
  | _ => exact (show False from h1).elim
theorem DT.b (ha : DE W E ta fa) : DT W E (tB ta) (aTest fa) := fun w s σ σc Q S R h => DT.test ha w s σ σc Q S R h
theorem DT.and (ha : DT W E t ft) (hb : DT W E u fu) : DT W E (tAnd t u) (aAnd ft fu) := fun w s σ σc Q S R h => by
  refine ha w s σ σc _ S R ((post_bind_ok h).mono (fun b s1 h1 w1 e1 S1 => ?_) fun _ _ _ _ z => z)
  cases b with
  | true => exact iteT (hb w1 s1 σ σc _ S1 (R.mono e1) (postB_mono e1 (by simpa using h1)))
  | false => exact iteF ((show OkB W w Q false s1 from by rw [if_neg (by decide)] at h1; exact h1) w1 e1 S1)
theorem DT.or (ha : DT W E t ft) (hb : DT W E u fu) : DT W E (tOr t u) (aOr ft fu) := fun w s σ σc Q S R h => by
  refine ha w s σ σc _ S R ((post_bind_ok h).mono (fun b s1 h1 w1 e1 S1 => ?_) fun _ _ _ _ z => z)
  cases b with
  | true => exact iteT ((show OkB W w Q true s1 from by rw [if_pos rfl] at h1; exact h1) w1 e1 S1)
  | false => exact iteF (hb w1 s1 σ σc _ S1 (R.mono e1) (postB_mono e1 (by simpa using h1)))
theorem DT.not (ha : DT W E t ft) : DT W E (tNot t) (aNot ft) := fun w s σ σc Q S R h =>
  ha w s σ σc _ S R ((post_bind_ok h).mono (fun b s1 h1 w1 e1 S1 => h1 w1 e1 S1) fun _ _ _ _ z => z)
theorem DE.chain {r r' : R2} {g g' : AV → AV → Sto → Res AV} (hr : DR W r g) (hr' : DR W r' g') (ha : DE W E ta fa) (hb : DE W E tb fb) (hc : DE W E tc fc) (hg : ∀ x y s c ns vs s', g x y s ≠ .err c ns vs s') (hg' : ∀ x y s c ns vs s', g' x y s ≠ .err c ns vs s') :
    DE W E (tChain r r' ta tb tc) (aChain g g' fa fb fc) := fun w s σ σc Q S R h => by
  refine ha w s σ σc _ S R ((post_bind_ok h).mono (fun x s1 h1 w1 v e1 S1 r1 => ?_) fun _ _ _ _ z => z)
  refine hb w1 s1 σ σc _ S1 (R.mono e1) ((post_bind_ok h1).mono (fun y s2 h2 w2 u e2 S2 r2 => ?_) fun _ _ _ _ z => z.mono e1)
  have h2 := post_bind_ok h2
  refine hr w2 s2 x y v u _ S2 (r1.mono e2) r2 ?_
  cases hh : g x y s2 with
  | err c ns vs s3 => exact absurd hh (hg _ _ _ _ _ _ _)
  | stuck => rw [hh] at h2; exact h2
  | ok z s3 =>
    rw [hh] at h2
    intro w3 zc e3 S3 r3
    have e13 := (e1.trans e2).trans e3
    cases r3 with
    | bl b =>
      refine ⟨b, rfl, ?_⟩
      cases b with
      | false => exact iteF ((show OkP W w Q (.bl false) s3 from h2) w3 _ e13 S3 (.bl false))
      | true =>
        refine iteT (hc w3 s3 σ σc _ S3 (R.mono e13) ((post_bind_ok h2).mono (fun w' s4 h4 w4 uc e4 S4 r4 => ?_) fun _ _ _ _ z => z.mono e13))
        refine hr' w4 s4 y w' u uc Q S4 ((r2.mono e3).mono e4) r4 ?_
        cases hh : g' y w' s4 with
        | err c ns vs s3 => exact absurd hh (hg' _ _ _ _ _ _ _)
        | stuck => rw [hh] at h4; exact h4
        | ok a s5 =>
          rw [hh] at h4
          exact OkP.mono (e13.trans e4) h4
    | _ => exact (show False from h2).elim
theorem DE.tup (ha : DA W E tr fr) : DE W E (tTup tr) (aTup fr) := fun w s σ σc Q S R h => by
  refine ha w s σ σc _ S R ((post_bind_ok h).mono (fun xs s1 h1 w1 vs e1 S1 r1 => ?_) fun _ _ _ _ z => z)
  split at h1
  · rename_i hl
    refine ⟨by rw [← r1.length]; exact hl, fun p hp => ?_⟩
    have g := grow_upd (o := .tup vs) hp
    exact h1 _ _ (e1.trans (.grow g)) (S1.grow g) (.tup (.inl (.inl upd_same)) (r1.mono (.grow g)))
  · exact (show False from h1).elim
theorem newL_ok {w : Wd} {s : Sto} {xs : List AV} {vs : List V} {Q : VK} (S : Sim W w s) (r : RelL W w xs vs) (h : OkP W w Q (.obj s.n) (s.new (.lst xs))) : ∀ p, w.H p = none → Q (.ref p) (upd w.H p (.lst vs)) := fun p hp => by
  have g := grow_upd (o := .lst vs) hp
  exact h (w.new p _) _ (.new g) (S.new hp g upd_same (.lst (r.mono (.new g)))) (Rel.new p _ S.n)
theorem DE.lst (ha : DA W E tr fr) : DE W E (tLst tr) (aLst fr) := fun w s σ σc Q S R h => by
  refine ha w s σ σc _ S R ((post_bind_ok h).mono (fun xs s1 h1 w1 vs e1 S1 r1 => ?_) fun _ _ _ _ z => z)
  split at h1
  · rename_i hl
    exact ⟨by rw [← r1.length]; exact hl, newL_ok S1 r1 (OkP.mono e1 h1)⟩
  · exact (show False from h1).elim
theorem DE.call {n : Nat} {F : List AV → Sto → Res AV} {Ek : XK} {dvs : List AV} {dcs : List V} (hd : ∀ w, RelL W w dvs dcs) (ha : DA W (fun _ => Ek) tr fr) : DE W (fun _ => Ek) (tCall (spF W n F) dcs Ek tr) (aCall n F dvs fr) := fun w s σ σc Q S R h => by
  refine ha w s σ σc _ S R ((post_bind_ok h).mono (fun xs s1 h1 w1 vs e1 S1 r1 => ?_) fun _ _ _ _ z => z)
  split at h1
  · rename_i hl
    exact ⟨w1, s1, _, rfl, S1, r1.append (hd w1), hl, post_mono e1 h1⟩
  · exact (show False from h1).elim
end
section
variable {W : Wl} {E : L2.St → XK} {ta : TE} {fa : AE} {t : TT} {ft : AT} {tr : TA} {fr : AA} {t1 t2 : TS} {f1 f2 : AS} {tg : TG} {g : AV → AS} {tgs : TGs} {gs : List AV → AS}
theorem DS.next : DS W E tNext aNext := fun w s σ σc D S R h => h w σc (.refl w) S R
theorem DS.brk : DS W E tBreak aBreak := fun w s σ σc D S R h => h w σc (.refl w) S R
theorem DS.seq (h1 : DS W E t1 f1) (h2 : DS W E t2 f2) : DS W E (tSeq t1 t2) (aSeq f1 f2) := fun w s σ σc D S R h => by
  refine h1 w s σ σc { D with nx := t2 D } S R ?_
  unfold aSeq at h
  cases e : f1 σ s with
  | nx σ' s' =>
    rw [e] at h
    exact fun w' σc' e' S' R' => h2 w' s' σ' σc' D S' R' (P.mono e' h)
  | rt v s' => rw [e] at h; exact h
  | bk σ' s' => rw [e] at h; exact h
  | ct σ' s' => rw [e] at h; exact h
  | err c ns vs σ' s' => rw [e] at h; exact h
  | stuck => rw [e] at h; exact h
/-- from an expression's end to a statement's -/
theorem exp_post {α : Type} {r : Res α} {w : Wd} {σ : ASt} {σc : L2.St} {D : Ends} {k : α → Sto → SRes} (R : RSt W w σ σc) (h : (r.st σ k).P W w D E) : r.Post (fun v s1 => (k v s1).P W w D E) (ErrP W w (E σc)) := by
  cases r with
  | ok v s1 => exact h
  | err c ns vs s1 => exact fun w' d e' S' x => h w' σc d e' S' (R.mono e') x
  | stuck => exact h
theorem DS.drop (ha : DE W E ta fa) : DS W E (tDrop ta) (aDrop fa) := fun w s σ σc D S R h => by
  refine ha w s σ σc _ S R ((exp_post R h).mono (fun v s1 h1 w1 vc e1 S1 r1 => h1 w1 σc e1 S1 (R.mono e1)) fun _ _ _ _ z => z)
theorem DS.ret (ha : DE W E ta fa) : DS W E (tRet ta) (aRet fa) := fun w s σ σc D S R h => by
  refine ha w s σ σc _ S R ((exp_post R h).mono (fun v s1 h1 w1 vc e1 S1 r1 => h1 w1 vc e1 S1 r1) fun _ _ _ _ z => z)
theorem DS.ifs (ht : DT W E t ft) (h1 : DS W E t1 f1) (h2 : DS W E t2 f2) : DS W E (tIfS t t1 t2) (aIfS ft f1 f2) := fun w s σ σc D S R h => by
  refine ht w s σ σc _ S R ((exp_post R h).mono (fun b s1 hb w1 e1 S1 => ?_) fun _ _ _ _ z => z)
  cases b with
  | true => exact iteT (h1 w1 s1 σ σc D S1 (R.mono e1) (P.mono e1 (by simpa using hb)))
  | false => exact iteF (h2 w1 s1 σ σc D S1 (R.mono e1) (P.mono e1 (by simpa using hb)))
/-- a target ends by going on -/
def Goes (g : AV → AS) : Prop := ∀ x σ s, (∃ σ' s', g x σ s = .nx σ' s') ∨ g x σ s = .stuck
def GoesL (g : List AV → AS) : Prop := ∀ x σ s, (∃ σ' s', g x σ s = .nx σ' s') ∨ g x σ s = .stuck
theorem goes_P {r : SRes} {w : Wd} {D : Ends} (g : (∃ σ' s', r = .nx σ' s') ∨ r = .stuck) (h : r.P W w D E) : r.P W w ⟨D.nx, fun _ _ => False, fun _ _ => False, fun _ _ => False⟩ (fun _ _ _ _ => False) := by
  rcases g with ⟨σ', s', rfl⟩ | rfl
  · exact h
  · exact h
theorem DS.asg (ha : DE W E ta fa) (hg : DG W tg g) (hn : Goes g) : DS W E (tAsg ta tg) (aAsg fa g) := fun w s σ σc D S R h => by
  refine ha w s σ σc _ S R ((exp_post R h).mono (fun v s1 h1 w1 vc e1 S1 r1 => ?_) fun _ _ _ _ z => z)
  exact hg w1 s1 σ σc v vc _ S1 (R.mono e1) r1 (goes_P (hn _ _ _) (P.mono e1 h1))
theorem DG.name {i : Nat} : DG W (gName i) (agName i) := fun w s σ σc x v Q S R r h => h w _ (.refl w) S (R.set (x := some x) (v := some v) r i)
theorem Goes.name {i : Nat} : Goes (agName i) := fun x σ s => .inl ⟨_, _, rfl⟩
theorem DGs.nil : DGs W gNil agNil := fun w s σ σc x v Q S R r h => by
  cases r with
  | nil => exact ⟨rfl, h w σc (.refl w) S R⟩
  | cons => exact (show False from h).elim
theorem GoesL.nil : GoesL agNil := fun x σ s => by
  cases x with
  | nil => exact .inl ⟨_, _, rfl⟩
  | cons => exact .inr rfl
theorem DGs.cons (hg : DG W tg g) (hs : DGs W tgs gs) : DGs W (gCons tg tgs) (agCons g gs) := fun w s σ σc x v Q S R r h => by
  cases r with
  | nil => exact (show False from h).elim
  | @cons x v xs vs h1 h2 =>
    refine ⟨v, vs, rfl, hg w s σ σc x v _ S R h1 ?_⟩
    have h : (aSeq (g x) (gs xs) σ s).P W w _ _ := h
    unfold aSeq at h
    cases e : g x σ s with
    | nx σ' s' =>
      rw [e] at h
      exact fun w' σc' e' S' R' => hs w' s' σ' σc' xs vs Q S' R' (h2.mono e') (P.mono e' h)
    | rt v s' => rw [e] at h; exact h
    | bk σ' s' => rw [e] at h; exact h
    | ct σ' s' => rw [e] at h; exact h
    | err c ns vs σ' s' => rw [e] at h; exact h
    | stuck => rw [e] at h; exact h
theorem GoesL.cons (h1 : Goes g) (h2 : GoesL gs) : GoesL (agCons g gs) := fun x σ s => by
  cases x with
  | nil => exact .inr rfl
  | cons x xs =>
    show (∃ σ' s', (g x σ s).thn (gs xs) = .nx σ' s') ∨ (g x σ s).thn (gs xs) = .stuck
    rcases h1 x σ s with ⟨σ', s', e⟩ | e
    · rw [e]; exact h2 xs σ' s'
    · rw [e]; exact .inr rfl
theorem DG.tup {n : Nat} (hs : DGs W tgs gs) : DG W (gTup W.K n tgs) (agTup n gs) := fun w s σ σc x v Q S R r h => by
  cases r with
  | @tup a xs vs h1 h2 =>
    have h : (if xs.length = n then gs xs σ s else .stuck : SRes).P W w _ _ := h
    split at h
    · rename_i hl
      exact ⟨a, vs, rfl, h1, by rw [← h2.length]; exact hl, hs w s σ σc xs vs Q S R h2 h⟩
    · exact h.elim
  | _ => exact (show False from h).elim
theorem Goes.tup {n : Nat} (h : GoesL gs) : Goes (agTup n gs) := fun x σ s => by
  cases x with
  | tup xs =>
    show (∃ σ' s', (if xs.length = n then gs xs σ s else .stuck : SRes) = .nx σ' s') ∨ _
    by_cases e : xs.length = n
    · rw [if_pos e]
      rcases h xs σ s with h | h
      · exact .inl h
      · exact .inr (by show (if xs.length = n then gs xs σ s else .stuck : SRes) = _; rw [if_pos e]; exact h)
    · exact .inr (if_neg e)
  | _ => exact .inr rfl
theorem DS.par {i j : Nat} (ha : DA W E tr fr) : DS W E (tPar i j tr) (aPar i j fr) := fun w s σ σc D S R h => by
  refine ha w s σ σc _ S R ((exp_post R h).mono (fun xs s1 h1 w1 vs e1 S1 r1 => ?_) fun _ _ _ _ z => z)
  match xs, vs, r1, h1 with
  | [x, y], [v, u], .cons a (.cons b .nil), h => exact ⟨_, _, rfl, h w1 _ e1 S1 (((R.mono e1).set (x := some x) (v := some v) a i).set (x := some y) (v := some u) b j)⟩
theorem DS.par3 {i j l : Nat} (ha : DA W E tr fr) : DS W E (tPar3 i j l tr) (aPar3 i j l fr) := fun w s σ σc D S R h => by
  refine ha w s σ σc _ S R ((exp_post R h).mono (fun xs s1 h1 w1 vs e1 S1 r1 => ?_) fun _ _ _ _ z => z)
  match xs, vs, r1, h1 with
  | [x, y, z], [v, u, q], .cons a (.cons b (.cons c .nil)), h => exact ⟨_, _, _, rfl, h w1 _ e1 S1 ((((R.mono e1).set (x := some x) (v := some v) a i).set (x := some y) (v := some u) b j).set (x := some z) (v := some q) c l)⟩
theorem DS.never {f : AS} (h : ∀ σ s, f σ s = .stuck) : DS W E tNever f := fun w s σ σc D S R z => by rw [h] at z; exact z.elim
/-- a def's body keeps the def's promise -/
theorem RSt.start {w : Wd} : ∀ {xs : List AV} {vs : List V} {k : Nat}, RelL W w xs vs → RSt W w (xs.map some ++ List.replicate k none) (vs.map some ++ List.replicate k none)
  | _, _, 0, .nil => .nil
  | _, _, k + 1, .nil => .cons trivial (RSt.start (k := k) .nil)
  | _, _, _, .cons h r => .cons h (RSt.start r)
theorem DS.dfn {k n : Nat} {N : List Str} {f : AS} {ts : TS} {H : Hp} {vs : List V} {Q : VK} {Ek : XK} (h : spF W n (aDef k f) vs H Q Ek) (hk : n + k = N.length) (hs : DS W (fun _ => Ek) ts f) : ts { nx := fun _ H' => Q .non H', rt := Q } (L2.start N vs) H := by
  obtain ⟨w, s, args, rfl, S, R, hn, p⟩ := h
  have hv := R.length
  have e : L2.start N vs = vs.map some ++ List.replicate k none := by
    unfold L2.start
    rw [show N.length - vs.length = k from by omega]
  rw [e]
  refine hs w s _ _ _ S (RSt.start R) ?_
  have p : (f (args.map some ++ List.replicate k none) s).fn.Post _ _ := p
  cases e : f (args.map some ++ List.replicate k none) s with
  | nx σ' s' =>
    rw [e] at p
    exact fun w' σc' e' S' R' => p w' _ e' S' .non
  | rt v s' => rw [e] at p; exact p
  | bk σ' s' => rw [e] at p; exact p.elim
  | ct σ' s' => rw [e] at p; exact p.elim
  | err c ns vs σ' s' =>
    rw [e] at p
    exact fun w' σc' d e' S' R' x => p w' d e' S' x
  | stuck => rw [e] at p; exact p
theorem spF.len {n : Nat} {F : List AV → Sto → Res AV} {vs : List V} {H : Hp} {Q : VK} {Ek : XK} (h : spF W n F vs H Q Ek) : vs.length = n := by
  obtain ⟨w, s, args, rfl, S, R, hn, p⟩ := h
  rw [← R.length]; exact hn
end
end Ab
set_option Elab.async false
set_option linter.all false
set_option maxRecDepth 100000
set_option maxHeartbeats 1000000
namespace Ab
open PySem PySem.Spec PyProof.Rows L2
open Classical
noncomputable section
/-- no error comes of it -/
def NE2 (g : AV → AV → Sto → Res AV) : Prop := ∀ x y s c ns vs s', g x y s ≠ .err c ns vs s'
def NEL (g : List AV → Sto → Res AV) : Prop := ∀ x s c ns vs s', g x s ≠ .err c ns vs s'
section
variable {W : Wl} {w : Wd} {s : Sto}
theorem obj_at {i : Nat} {v : V} (r : Rel W w (.obj i) v) : i < w.n ∧ v = .ref (w.m i) := by
  cases r with
  | obj h => exact ⟨h, rfl⟩
theorem cell_at {i : Nat} {v : V} {x : Cell} (S : Sim W w s) (r : Rel W w (.obj i) v) (e : s.c i = x) : ∃ o, i < s.n ∧ v = .ref (w.m i) ∧ w.H (w.m i) = some o ∧ CRel W w x o := by
  obtain ⟨h, rfl⟩ := obj_at r
  have h : i < s.n := S.n ▸ h
  obtain ⟨o, h1, h2⟩ := S.cell i h
  rw [e] at h2
  exact ⟨o, h, rfl, h1, h2⟩
/-- the items of a list -/
def lstOf (s : Sto) : AV → Option (List AV)
  | .scr xs => some xs
  | .obj i => match s.c i with | .lst xs => some xs | _ => none
  | _ => none
theorem lst_at {x : AV} {v : V} {xs : List AV} (S : Sim W w s) (r : Rel W w x v) (h : lstOf s x = some xs) : ∃ a vs, v = .ref a ∧ SqL W.K w.H a vs ∧ RelL W w xs vs := by
  cases r with
  | scr h1 h2 =>
    cases h
    exact ⟨_, _, rfl, h1.sql, h2⟩
  | @obj i hi =>
    unfold lstOf at h
    simp only at h
    split at h
    · rename_i xs' e
      cases h
      obtain ⟨o, h1, h2, h3, h4⟩ := cell_at S (.obj hi) e
      cases h4 with
      | lst r => exact ⟨_, _, rfl, .inl (.inl h3), r⟩
    · cases h
  | _ => cases h
theorem lstO_at {i : Nat} {v : V} {xs : List AV} (S : Sim W w s) (r : Rel W w (.obj i) v) (h : s.c i = .lst xs) : ∃ vs, i < s.n ∧ v = .ref (w.m i) ∧ w.H (w.m i) = some (.lst vs) ∧ RelL W w xs vs := by
  obtain ⟨o, h1, h2, h3, h4⟩ := cell_at S r h
  cases h4 with
  | lst r => exact ⟨_, h1, h2, h3, r⟩
theorem newT {xs : List AV} {vs : List V} {Q : VK} (S : Sim W w s) (r : RelL W w xs vs) (h : OkP W w Q (.tup xs) s) : ∀ p, w.H p = none → Q (.ref p) (upd w.H p (.tup vs)) := fun p hp => by
  have g := grow_upd (o := .tup vs) hp
  exact h _ _ (.grow g) (S.grow g) (.tup (.inl (.inl upd_same)) (r.mono (.grow g)))
theorem wr_ok {i : Nat} {x : Cell} {o : HO} {G : Hp → Prop} (S : Sim W w s) (hi : i < s.n) (r : CRel W w x o) (h : ∀ w', Ext w w' → Sim W w' (s.set i x) → G w'.H) : G (upd w.H (w.m i) o) := h _ (.wr S hi) (S.wr hi r)
end
theorem OpR.or {X : Cx} {f : Value → Value → Sem Value} {r1 r2 : R2} (h1 : OpR X f r1) (h2 : OpR X f r2) : OpR X f (fun x y H Q => r1 x y H Q ∨ r2 x y H Q) := fun pins s σ H x y v u Q I rx ry h => h.elim (h1 pins s σ H x y v u Q I rx ry) (h2 pins s σ H x y v u Q I rx ry)
theorem CallR.or {X : Cx} {f : Value} {r1 r2 : List V → Hp → VK → Prop} (h1 : CallR X f r1) (h2 : CallR X f r2) : CallR X f (fun xs H Q => r1 xs H Q ∨ r2 xs H Q) := fun pins s σ H xs us Q I r h => h.elim (h1 pins s σ H xs us Q I r) (h2 pins s σ H xs us Q I r)
theorem IxR.or {X : Cx} {r1 r2 : R2} (h1 : IxR X r1) (h2 : IxR X r2) : IxR X (fun x y H Q => r1 x y H Q ∨ r2 x y H Q) := fun va sl pins s σ H x y v u Q I rx ry h z => Or.elim h (fun h => h1 va sl pins s σ H x y v u Q I rx ry h z) (fun h => h2 va sl pins s σ H x y v u Q I rx ry h z)
def gI (C : Int → Int → Prop) (g : Int → Int → AV) : AV → AV → Sto → Res AV := fun x y s => match x, y with | .int i, .int j => if C i j then .ok (g i j) s else .stuck | _, _ => .stuck
def gI0 (g : Int → Int → AV) : AV → AV → Sto → Res AV := fun x y s => match x, y with | .int i, .int j => .ok (g i j) s | _, _ => .stuck
@[simp] theorem gI0_int {g : Int → Int → AV} {i j : Int} {s : Sto} : gI0 g (.int i) (.int j) s = .ok (g i j) s := rfl
theorem NE2.i {C : Int → Int → Prop} {g : Int → Int → AV} : NE2 (gI C g) := fun x y s c ns vs s' h => by 
  unfold gI at h
  repeat' split at h
  all_goals first | cases h | (unfold newL at h; cases h)
theorem NE2.i0 {g : Int → Int → AV} : NE2 (gI0 g) := fun x y s c ns vs s' h => by 
  unfold gI0 at h
  repeat' split at h
  all_goals first | cases h | (unfold newL at h; cases h)
theorem DR.i {W : Wl} {C : Int → Int → Prop} {g : Int → Int → AV} {gc : Int → Int → V} (r : ∀ w i j, Rel W w (g i j) (gc i j)) : DR W (rI C gc) (gI C g) := fun w s x y v u Q S rx ry h => by
  cases rx with
  | int i =>
    cases ry with
    | int j =>
      have h : (if C i j then .ok (g i j) s else .stuck : Res AV).Post _ _ := h
      split at h
      · rename_i hc
        exact ⟨i, j, rfl, rfl, hc, h w _ (.refl w) S (r w i j)⟩
      · exact h.elim
    | _ => exact h.elim
  | _ => exact h.elim
theorem DR.i0 {W : Wl} {g : Int → Int → AV} {gc : Int → Int → V} (r : ∀ w i j, Rel W w (g i j) (gc i j)) : DR W (rI0 gc) (gI0 g) := fun w s x y v u Q S rx ry h => by
  cases rx with
  | int i =>
    cases ry with
    | int j => exact ⟨i, j, rfl, rfl, h w _ (.refl w) S (r w i j)⟩
    | _ => exact h.elim
  | _ => exact h.elim
def gMinus := gI0 fun i j => .int (i - j)
def gMod := gI (fun _ j => 0 < j) fun i j => .int (i % j)
def gFdiv := gI CDivW fun i j => .int (i / j)
def gPow := gI CPow fun i j => .int (i ^ j.toNat)
def gXor := gI0 fun i j => .int (Builtin.bitXor i j)
def gOr := gI0 fun i j => .int (Builtin.bitOr i j)
def gAnd := gI0 fun i j => .int (Builtin.bitAnd i j)
def gShl := gI CShl fun i j => .int (i * 2 ^ j.toNat)
def gShr := gI (fun _ j => 0 ≤ j) fun i j => .int (i / 2 ^ j.toNat)
def gLt := gI0 fun i j => .bl (decide (i < j))
def gLe := gI0 fun i j => .bl (decide (i ≤ j))
def gGt := gI0 fun i j => .bl (decide (j < i))
def gGe := gI0 fun i j => .bl (decide (j ≤ i))
section
variable {i j : Int} {s : Sto}
@[simp] theorem gMinus_int : gMinus (.int i) (.int j) s = .ok (.int (i - j)) s := rfl
theorem gMod_int (h : 0 < j) : gMod (.int i) (.int j) s = .ok (.int (i % j)) s := if_pos h
theorem gFdiv_int (h : CDivW i j) : gFdiv (.int i) (.int j) s = .ok (.int (i / j)) s := if_pos h
theorem gPow_int (h : CPow i j) : gPow (.int i) (.int j) s = .ok (.int (i ^ j.toNat)) s := if_pos h
@[simp] theorem gXor_int : gXor (.int i) (.int j) s = .ok (.int (Builtin.bitXor i j)) s := rfl
@[simp] theorem gOr_int : gOr (.int i) (.int j) s = .ok (.int (Builtin.bitOr i j)) s := rfl
@[simp] theorem gAnd_int : gAnd (.int i) (.int j) s = .ok (.int (Builtin.bitAnd i j)) s := rfl
theorem gShl_int (h : CShl i j) : gShl (.int i) (.int j) s = .ok (.int (i * 2 ^ j.toNat)) s := if_pos h
theorem gShr_int (h : 0 ≤ j) : gShr (.int i) (.int j) s = .ok (.int (i / 2 ^ j.toNat)) s := if_pos h
@[simp] theorem gLt_int : gLt (.int i) (.int j) s = .ok (.bl (decide (i < j))) s := rfl
@[simp] theorem gLe_int : gLe (.int i) (.int j) s = .ok (.bl (decide (i ≤ j))) s := rfl
@[simp] theorem gGt_int : gGt (.int i) (.int j) s = .ok (.bl (decide (j < i))) s := rfl
@[simp] theorem gGe_int : gGe (.int i) (.int j) s = .ok (.bl (decide (j ≤ i))) s := rfl
end
def gNeg : AV → Sto → Res AV := fun x s => match x with | .int i => .ok (.int (-i)) s | _ => .stuck
@[simp] theorem gNeg_int {i : Int} {s : Sto} : gNeg (.int i) s = .ok (.int (-i)) s := rfl
def rAddU (K : PySem.W.Frag) : R2 := fun x y H Q => rI0 (fun i j => V.int (i + j)) x y H Q ∨ (∃ i j, x = .str i ∧ y = .str j ∧ i.length + j.length ≤ sizeLine ∧ Q (.str (i ++ j)) H) ∨ rCatA K x y H Q ∨ rCat x y H Q
theorem op_addU {X : Cx} : OpR X (binaryOp .Add) (rAddU X.K) := OpR.or op_add (OpR.or op_add_str (OpR.or op_catA op_cat))
def gAdd : AV → AV → Sto → Res AV := fun x y s => match x, y with
  | .int i, .int j => .ok (.int (i + j)) s
  | .str a, .str b => if a.length + b.length ≤ sizeLine then .ok (.str (a ++ b)) s else .stuck
  | .tup a, .tup b => if a.length + b.length ≤ sizeLine then .ok (.tup (a ++ b)) s else .stuck
  | .obj i, .obj j => match s.c i, s.c j with | .lst a, .lst b => if a.length + b.length ≤ sizeLine then newL (a ++ b) s else .stuck | _, _ => .stuck
  | _, _ => .stuck
@[simp] theorem gAdd_int {i j : Int} {s : Sto} : gAdd (.int i) (.int j) s = .ok (.int (i + j)) s := rfl
theorem NE2.add : NE2 gAdd := fun x y s c ns vs s' h => by 
  unfold gAdd at h
  repeat' split at h
  all_goals first | cases h | (unfold newL at h; cases h)
theorem DR.add {W : Wl} : DR W (rAddU W.K) gAdd := fun w s x y v u Q S rx ry h => by
  unfold gAdd at h
  split at h
  · cases rx; cases ry
    exact .inl ⟨_, _, rfl, rfl, h w _ (.refl w) S (.int _)⟩
  · split at h
    · rename_i hl
      cases rx; cases ry
      exact .inr (.inl ⟨_, _, rfl, rfl, hl, h w _ (.refl w) S (.str _)⟩)
    · exact h.elim
  · split at h
    · rename_i hl
      cases rx with
      | @tup a xs vs h1 r1 =>
        cases ry with
        | @tup b ys us h2 r2 =>
          have e1 := r1.length
          have e2 := r2.length
          refine .inr (.inr (.inl ⟨a, b, vs, us, rfl, rfl, h1, h2, by rw [← e1, ← e2]; exact hl, fun z => ?_, fun _ z => ?_, fun _ _ => newT S (r1.append r2) h⟩))
          · subst z
            cases r1
            exact h w _ (.refl w) S (.tup h2 r2)
          · subst z
            cases r2
            refine h w _ (.refl w) S ?_
            rw [List.append_nil]
            exact .tup h1 r1
    · exact h.elim
  · split at h
    · rename_i i j a b e1 e2
      split at h
      · rename_i hl
        obtain ⟨vs, i1, i2, i3, i4⟩ := lstO_at S rx e1
        obtain ⟨us, j1, j2, j3, j4⟩ := lstO_at S ry e2
        exact .inr (.inr (.inr ⟨_, _, vs, us, i2, j2, i3, j3, by rw [← i4.length, ← j4.length]; exact hl, newL_ok S (i4.append j4) h⟩))
      · exact h.elim
    · exact h.elim
  · exact h.elim
def rMulU : R2 := fun x y H Q => rI CMulX (fun i j => V.int (i * j)) x y H Q ∨ rRep x y H Q ∨ Gx.rMulS x y H Q
theorem op_mulU {X : Cx} : OpR X (binaryOp .Mult) rMulU := OpR.or op_mulX (OpR.or op_rep Gx.op_mulS)
def gMul : AV → AV → Sto → Res AV := fun x y s => match x, y with
  | .int i, .int j => if CMulX i j then .ok (.int (i * j)) s else .stuck
  | .str a, .int k => if PySem.MulOk a k then .ok (.str (Txt.mul a k)) s else .stuck
  | .obj i, .int k => match s.c i with | .lst a => if -(2 ^ 63) ≤ k ∧ k < 2 ^ 63 ∧ a.length * k.toNat ≤ sizeLine then newL (List.replicate k.toNat a).flatten s else .stuck | _ => .stuck
  | _, _ => .stuck
theorem gMul_int {i j : Int} {s : Sto} (h : CMulX i j) : gMul (.int i) (.int j) s = .ok (.int (i * j)) s := if_pos h
theorem NE2.mul : NE2 gMul := fun x y s c ns vs s' h => by 
  unfold gMul at h
  repeat' split at h
  all_goals first | cases h | (unfold newL at h; cases h)
theorem RelL.rep {W : Wl} {w : Wd} {xs : List AV} {vs : List V} (r : RelL W w xs vs) : ∀ k : Nat, RelL W w (List.replicate k xs).flatten (List.replicate k vs).flatten
  | 0 => .nil
  | k + 1 => by
    rw [List.replicate_succ, List.replicate_succ, List.flatten_cons, List.flatten_cons]
    exact r.append (RelL.rep r k)
theorem DR.mul {W : Wl} : DR W rMulU gMul := fun w s x y v u Q S rx ry h => by
  unfold gMul at h
  split at h
  · split at h
    · rename_i hl
      cases rx; cases ry
      exact .inl ⟨_, _, rfl, rfl, hl, h w _ (.refl w) S (.int _)⟩
    · exact h.elim
  · split at h
    · rename_i hl
      cases rx; cases ry
      exact .inr (.inr ⟨_, _, rfl, rfl, hl, h w _ (.refl w) S (.str _)⟩)
    · exact h.elim
  · split at h
    · rename_i i k a e
      split at h
      · rename_i hl
        obtain ⟨vs, i1, i2, i3, i4⟩ := lstO_at S rx e
        cases ry
        exact .inr (.inl ⟨_, _, vs, i2, rfl, i3, hl.1, hl.2.1, by rw [← i4.length]; exact hl.2.2, newL_ok S (i4.rep _) h⟩)
      · exact h.elim
    · exact h.elim
  · exact h.elim
def isNon : AV → Bool
  | .non => true
  | _ => false
theorem isNon_rel {W : Wl} {w : Wd} {x : AV} {v : V} (r : Rel W w x v) : isNon x = decide (v = .non) := by
  cases r <;> simp [isNon]
def gIsN : AV → AV → Sto → Res AV := fun x y s => match y with | .non => .ok (.bl (isNon x)) s | _ => .stuck
def gNotN : AV → AV → Sto → Res AV := fun x y s => match y with | .non => .ok (.bl (!isNon x)) s | _ => .stuck
@[simp] theorem gIsN_non {x : AV} {s : Sto} : gIsN x .non s = .ok (.bl (isNon x)) s := rfl
@[simp] theorem gNotN_non {x : AV} {s : Sto} : gNotN x .non s = .ok (.bl (!isNon x)) s := rfl
theorem NE2.isN : NE2 gIsN := fun x y s c ns vs s' h => by 
  unfold gIsN at h
  repeat' split at h
  all_goals first | cases h | (unfold newL at h; cases h)
theorem DR.isN {W : Wl} : DR W (fun x y H Q => y = .non ∧ Q (.bl (decide (x = .non))) H) gIsN := fun w s x y v u Q S rx ry h => by
  cases ry with
  | non => exact ⟨rfl, h w _ (.refl w) S (by rw [isNon_rel rx]; exact .bl _)⟩
  | _ => exact h.elim
def gIsB : AV → AV → Sto → Res AV := fun x y s => match x, y with | .bl a, .bl b => .ok (.bl (a == b)) s | _, _ => .stuck
def gNotB : AV → AV → Sto → Res AV := fun x y s => match x, y with | .bl a, .bl b => .ok (.bl (!(a == b))) s | _, _ => .stuck
@[simp] theorem gIsB_bl {a b : Bool} {s : Sto} : gIsB (.bl a) (.bl b) s = .ok (.bl (a == b)) s := rfl
@[simp] theorem gNotB_bl {a b : Bool} {s : Sto} : gNotB (.bl a) (.bl b) s = .ok (.bl (!(a == b))) s := rfl
theorem beq_dec (a b : Bool) : (a == b) = decide (a = b) := by cases a <;> cases b <;> rfl
def optL (f : AV → Option PyData) : List AV → Option (List PyData)
  | [] => some []
  | x :: xs => match f x, optL f xs with | some d, some ds => some (d :: ds) | _, _ => none
def dat : Nat → Sto → AV → Option PyData
  | 0, _, _ => none
  | n + 1, s, x => match x with
    | .non => some .none
    | .bl b => some (.bool b)
    | .int i => some (.int i)
    | .str z => some (.str z)
    | .tup xs => (optL (dat n s) xs).map .tuple
    | .scr xs => (optL (dat n s) xs).map .list
    | .obj i => match s.c i with | .lst xs => (optL (dat n s) xs).map .list | _ => none
    | _ => none
section
variable {W : Wl} {w : Wd} {s : Sto}
theorem optL_dp {n : Nat} (ih : ∀ (x : AV) (v : V) (d : PyData), Rel W w x v → dat n s x = some d → Dp W.K w.H v d) : ∀ {xs : List AV} {vs : List V} {ds : List PyData}, RelL W w xs vs → optL (dat n s) xs = some ds → DpAll W.K w.H vs ds
  | _, _, _, .nil, e => by
    cases e
    exact .nil
  | _, _, _, .cons h r, e => by
    unfold optL at e
    split at e
    · rename_i d ds e1 e2
      cases e
      exact .cons (ih _ _ _ h e1) (optL_dp ih r e2)
    · cases e
theorem dat_dp (S : Sim W w s) : ∀ (n : Nat) (x : AV) (v : V) (d : PyData), Rel W w x v → dat n s x = some d → Dp W.K w.H v d
  | 0, _, _, _, _, e => by cases e
  | n + 1, x, v, d, r, e => by
    unfold dat at e
    cases r with
    | non => cases e; exact .non
    | bl b => cases e; exact .bl b
    | int i => cases e; exact .int i
    | str z => cases e; exact .str z
    | ty n => cases e
    | cls c => cases e
    | raw a => cases e
    | @obj i hi =>
      simp only at e
      split at e
      · rename_i xs e1
        obtain ⟨ds, e2, rfl⟩ := Option.map_eq_some_iff.mp e
        obtain ⟨vs, _, h2, h3, h4⟩ := lstO_at S (.obj hi) e1
        exact .lst (.inl (.inl h3)) (optL_dp (dat_dp S n) h4 e2)
      · cases e
    | tup h r =>
      obtain ⟨ds, e2, rfl⟩ := Option.map_eq_some_iff.mp e
      exact .tup h (optL_dp (dat_dp S n) r e2)
    | scr h r =>
      obtain ⟨ds, e2, rfl⟩ := Option.map_eq_some_iff.mp e
      exact .lst h.sql (optL_dp (dat_dp S n) r e2)
    | exn => cases e
end
def scalA : AV → AV → Bool
  | .non, .non => true | .non, .int _ => true | .int _, .non => true | .non, .bl _ => true | .bl _, .non => true | .non, .str _ => true | .str _, .non => true
  | .int _, .int _ => true | .bl _, .bl _ => true | .str _, .str _ => true
  | .int _, .str _ => true | .str _, .int _ => true | .bl _, .str _ => true | .str _, .bl _ => true
  | _, _ => false
def eqA : AV → AV → Bool
  | .non, .non => true
  | .bl a, .bl b => a == b
  | .bl a, .int b => (if a then 1 else 0) == b
  | .int a, .bl b => a == (if b then 1 else 0)
  | .int a, .int b => a == b
  | .str a, .str b => a == b
  | _, _ => false
theorem scalA_rel {W : Wl} {w : Wd} {x y : AV} {v u : V} (rx : Rel W w x v) (ry : Rel W w y u) (h : scalA x y = true) : scal v u = true ∧ eqA x y = decide (v = u) := by
  cases rx <;> cases ry <;> first | (exact absurd h (by decide)) | (cases h; done) | (refine ⟨rfl, ?_⟩; simp [eqA, beq_dec]; try rfl)
def rEqU (K : PySem.W.Frag) : R2 := fun x y H Q => rEq x y H Q ∨ Sm.rEqS K x y H Q
def rNeU (K : PySem.W.Frag) : R2 := fun x y H Q => rNe x y H Q ∨ Sm.rNeS K x y H Q
theorem op_eqU {X : Cx} (hu : X.A.units + 64 < cLine) : OpR X (compareOp .Eq) (rEqU X.K) := OpR.or op_eq (Sm.op_eqS hu)
theorem op_neU {X : Cx} (hu : X.A.units + 64 < cLine) : OpR X (compareOp .NotEq) (rNeU X.K) := OpR.or op_ne (Sm.op_neS hu)
/-- things that are the very same -/
def smA : Nat → AV → Bool
  | _, .non => true
  | _, .bl _ => true
  | _, .int _ => true
  | _, .str _ => true
  | _, .obj _ => true
  | n + 1, .tup xs => xs.all (smA n)
  | _, _ => false
def isTup : AV → Bool
  | .tup _ => true
  | _ => false
section
variable {W : Wl} {w : Wd}
theorem sm_rel : ∀ (n : Nat) (x : AV) (v u : V), Rel W w x v → Rel W w x u → smA n x = true → Sm.Sm W.K w.H n v u := by
  intro n
  induction n with
  | zero =>
    intro x v u r1 r2 h
    cases r1 <;> cases r2 <;> first | exact .non | exact .bl _ | exact .int _ | exact .str _ | exact .ref _ | (cases h; done)
  | succ n ih =>
    intro x v u r1 r2 h
    cases r1 with
    | @tup a xs vs h1 q1 =>
      cases r2 with
      | @tup b _ us h2 q2 =>
        have h : xs.all (smA n) = true := h
        refine .tup h1 h2 (by rw [← q1.length, ← q2.length]) fun i x y hx hy => ?_
        obtain ⟨z, z1, z2⟩ := q1.getv i x hx
        obtain ⟨z', z3, z4⟩ := q2.getv i y hy
        rw [z1] at z3
        cases z3
        exact ih z x y z2 z4 (List.all_eq_true.mp h z (List.mem_of_getElem? z1))
    | _ => cases r2 <;> first | exact .non | exact .bl _ | exact .int _ | exact .str _ | exact .ref _ | (cases h; done)
theorem top_rel {x : AV} {v u : V} (r1 : Rel W w x v) (r2 : Rel W w x u) (h : smA 20 x = true) (ht : isTup x = true) : Sm.Top W.K w.H v u := by
  cases r1 with
  | @tup a xs vs h1 q1 =>
    cases r2 with
    | @tup b _ us h2 q2 =>
      have h : xs.all (smA 19) = true := h
      refine .tup h1 h2 (by rw [← q1.length, ← q2.length]) fun i x y hx hy => ?_
      obtain ⟨z, z1, z2⟩ := q1.getv i x hx
      obtain ⟨z', z3, z4⟩ := q2.getv i y hy
      rw [z1] at z3
      cases z3
      exact Sm.Sm.up (sm_rel 19 z x y z2 z4 (List.all_eq_true.mp h z (List.mem_of_getElem? z1)))
  | _ => cases ht
end
def eqB (x y : AV) (s : Sto) : Option Bool := if scalA x y = true then some (eqA x y) else match dat 12 s x, dat 12 s y with | some d, some e => if SeqAt.shaped d = true ∧ SeqAt.shaped e = true then some (PyData.eqv d e) else none | _, _ => if x = y ∧ smA 20 x = true ∧ isTup x = true then some true else none
def gEq : AV → AV → Sto → Res AV := fun x y s => match eqB x y s with | some b => .ok (.bl b) s | none => .stuck
def gNe : AV → AV → Sto → Res AV := fun x y s => match eqB x y s with | some b => .ok (.bl (!b)) s | none => .stuck
theorem gEq_b {x y : AV} {s : Sto} {b : Bool} (h : eqB x y s = some b) : gEq x y s = .ok (.bl b) s := by unfold gEq; simp only [h]
theorem gNe_b {x y : AV} {s : Sto} {b : Bool} (h : eqB x y s = some b) : gNe x y s = .ok (.bl (!b)) s := by unfold gNe; simp only [h]
theorem eqB_dat {x y : AV} {s : Sto} {d e : PyData} (h0 : scalA x y = false) (h1 : dat 12 s x = some d) (h2 : dat 12 s y = some e) (c1 : SeqAt.shaped d = true) (c2 : SeqAt.shaped e = true) : eqB x y s = some (PyData.eqv d e) := by
  unfold eqB; simp only [h0, h1, h2, c1, c2]; rfl
@[simp] theorem eqB_int {i j : Int} {s : Sto} : eqB (.int i) (.int j) s = some (decide (i = j)) := rfl
@[simp] theorem eqB_str {i j : Str} {s : Sto} : eqB (.str i) (.str j) s = some (decide (i = j)) := rfl
@[simp] theorem eqB_bl {i j : Bool} {s : Sto} : eqB (.bl i) (.bl j) s = some (decide (i = j)) := by
  rw [← beq_dec]; rfl
@[simp] theorem gEq_int {i j : Int} {s : Sto} : gEq (.int i) (.int j) s = .ok (.bl (decide (i = j))) s := gEq_b eqB_int
@[simp] theorem gNe_int {i j : Int} {s : Sto} : gNe (.int i) (.int j) s = .ok (.bl (!decide (i = j))) s := gNe_b eqB_int
@[simp] theorem gEq_str {i j : Str} {s : Sto} : gEq (.str i) (.str j) s = .ok (.bl (decide (i = j))) s := gEq_b eqB_str
@[simp] theorem gNe_str {i j : Str} {s : Sto} : gNe (.str i) (.str j) s = .ok (.bl (!decide (i = j))) s := gNe_b eqB_str
@[simp] theorem gEq_bl {i j : Bool} {s : Sto} : gEq (.bl i) (.bl j) s = .ok (.bl (decide (i = j))) s := gEq_b eqB_bl
@[simp] theorem gNe_bl {i j : Bool} {s : Sto} : gNe (.bl i) (.bl j) s = .ok (.bl (!decide (i = j))) s := gNe_b eqB_bl
theorem NE2.eq : NE2 gEq := fun x y s c ns vs s' h => by 
  unfold gEq at h
  repeat' split at h
  all_goals first | cases h | (unfold newL at h; cases h)
theorem NE2.ne : NE2 gNe := fun x y s c ns vs s' h => by 
  unfold gNe at h
  repeat' split at h
  all_goals first | cases h | (unfold newL at h; cases h)
theorem DR.eq {W : Wl} : DR W (rEqU W.K) gEq := fun w s x y v u Q S rx ry h => by
  unfold gEq at h
  split at h
  · rename_i b e
    unfold eqB at e
    split at e
    · rename_i hs
      obtain ⟨h1, h2⟩ := scalA_rel rx ry hs
      cases e
      refine .inl ⟨h1, ?_⟩
      rw [← h2]
      exact h w _ (.refl w) S (.bl _)
    · split at e
      · rename_i d e' h1 h2
        split at e
        · rename_i hc
          cases e
          exact .inr (.inl ⟨d, e', dat_dp S _ _ _ _ rx h1, dat_dp S _ _ _ _ ry h2, hc.1, hc.2, h w _ (.refl w) S (.bl _)⟩)
        · cases e
      · split at e
        · rename_i hc
          cases e
          obtain ⟨rfl, h1, h2⟩ := hc
          exact .inr (.inr ⟨top_rel rx ry h1 h2, h w _ (.refl w) S (.bl _)⟩)
        · cases e
  · exact h.elim
theorem DR.ne {W : Wl} : DR W (rNeU W.K) gNe := fun w s x y v u Q S rx ry h => by
  unfold gNe at h
  split at h
  · rename_i b e
    unfold eqB at e
    split at e
    · rename_i hs
      obtain ⟨h1, h2⟩ := scalA_rel rx ry hs
      cases e
      refine .inl ⟨h1, ?_⟩
      rw [← h2]
      exact h w _ (.refl w) S (.bl _)
    · split at e
      · rename_i d e' h1 h2
        split at e
        · rename_i hc
          cases e
          exact .inr (.inl ⟨d, e', dat_dp S _ _ _ _ rx h1, dat_dp S _ _ _ _ ry h2, hc.1, hc.2, h w _ (.refl w) S (.bl _)⟩)
        · cases e
      · split at e
        · rename_i hc
          cases e
          obtain ⟨rfl, h1, h2⟩ := hc
          exact .inr (.inr ⟨top_rel rx ry h1 h2, h w _ (.refl w) S (.bl _)⟩)
        · cases e
  · exact h.elim
def inA (x : AV) (xs : List AV) : Bool := xs.any fun y => eqA y x
def seqOf (s : Sto) (x : AV) : Option (List AV) := match x with | .tup xs => some xs | _ => lstOf s x
@[simp] theorem seqOf_tup {s : Sto} {xs : List AV} : seqOf s (.tup xs) = some xs := rfl
@[simp] theorem seqOf_scr {s : Sto} {xs : List AV} : seqOf s (.scr xs) = some xs := rfl
theorem seqOf_obj {s : Sto} {i : Nat} {xs : List AV} (e : s.c i = .lst xs) : seqOf s (.obj i) = some xs := by
  show lstOf s (.obj i) = _
  unfold lstOf; simp only [e]
@[simp] theorem lstOf_scr {s : Sto} {xs : List AV} : lstOf s (.scr xs) = some xs := rfl
theorem seq_at {W : Wl} {w : Wd} {s : Sto} {x : AV} {v : V} {xs : List AV} (S : Sim W w s) (r : Rel W w x v) (h : seqOf s x = some xs) : ∃ a vs, v = .ref a ∧ (SqL W.K w.H a vs ∨ SqT W.K w.H a vs) ∧ RelL W w xs vs := by
  cases r with
  | @tup a xs' vs h1 r1 =>
    cases h
    exact ⟨a, vs, rfl, .inr h1, r1⟩
  | @obj i hi =>
    obtain ⟨a, vs, h1, h2, h3⟩ := lst_at (x := .obj i) S (.obj hi) h
    exact ⟨a, vs, h1, .inl h2, h3⟩
  | @scr a xs' vs h1 r1 =>
    cases h
    exact ⟨a, vs, rfl, .inl h1.sql, r1⟩
  | _ => cases h
def rIxU (K : PySem.W.Frag) : R2 := fun x y H Q => rIxL K x y H Q ∨ rIxT K x y H Q ∨ rIxS x y H Q
theorem ix_U {X : Cx} : IxR X (rIxU X.K) := IxR.or ix_list (IxR.or ix_tup ix_str)
def gIx : AV → AV → Sto → Res AV := fun x y s => match y with
  | .int i => match x with
    | .str z => if z.length ≤ sizeLine then (match atI z.cps.toList i with | some c => .ok (.str ⟨#[c]⟩) s | none => .stuck) else .stuck
    | _ => match seqOf s x with | some xs => (match atI xs i with | some v => .ok v s | none => .stuck) | none => .stuck
  | _ => .stuck
theorem gIx_seq {x : AV} {i : Int} {xs : List AV} {v : AV} {s : Sto} (e : seqOf s x = some xs) (h : atI xs i = some v) : gIx x (.int i) s = .ok v s := by
  unfold gIx
  cases x with
  | str => cases e
  | _ => simp only [e, h]
theorem NE2.ix : NE2 gIx := fun x y s c ns vs s' h => by 
  unfold gIx at h
  repeat' split at h
  all_goals first | cases h | (unfold newL at h; cases h)
theorem atI_rel {W : Wl} {w : Wd} {xs : List AV} {vs : List V} {i : Int} {x : AV} (r : RelL W w xs vs) (e : atI xs i = some x) : ∃ v, atI vs i = some v ∧ Rel W w x v := by
  unfold atI at e ⊢
  rw [← r.length]
  cases h : ixN xs.length i with
  | none => rw [h] at e; cases e
  | some j =>
    rw [h] at e
    exact r.get j x e
theorem DR.ix {W : Wl} : DR W (rIxU W.K) gIx := fun w s x y v u Q S rx ry h => by
  unfold gIx at h
  split at h
  · cases ry
    split at h
    · split at h
      · rename_i hl
        split at h
        · rename_i c e
          cases rx
          exact .inr (.inr ⟨_, _, c, rfl, rfl, hl, e, h w _ (.refl w) S (.str _)⟩)
        · exact h.elim
      · exact h.elim
    · split at h
      · rename_i xs e
        split at h
        · rename_i z e2
          obtain ⟨a, vs, h1, h2, h3⟩ := seq_at S rx e
          obtain ⟨zc, e3, rz⟩ := atI_rel h3 e2
          rcases h2 with h2 | h2
          · exact .inl ⟨a, vs, _, zc, h1, rfl, h2, e3, h w _ (.refl w) S rz⟩
          · exact .inr (.inl ⟨a, vs, _, zc, h1, rfl, h2, e3, h w _ (.refl w) S rz⟩)
        · exact h.elim
      · exact h.elim
  · exact h.elim
/-- a part of a slice -/
abbrev AO := ASt → Sto → Res (Option Int)
def aPart (fa : AE) : AO := fun σ s => (fa σ s).bind fun x s1 => match x with | .int i => .ok (some i) s1 | _ => .stuck
def aNoPart : AO := fun _ s => .ok none s
section
variable {W : Wl} {E : L2.St → XK} {ta tb tc : TE} {fa fb fc : AE} {tl th : TO} {fl fh : AO}
def cutA (xs : List AV) (lo hi : Option Int) : List AV := (xs.drop (HT.sIx xs.length 0 lo)).take (HT.sIx xs.length xs.length hi - HT.sIx xs.length 0 lo)
def gSl (x : AV) (lo hi : Option Int) (s : Sto) : Res AV := match x with
  | .tup xs => .ok (.tup (cutA xs lo hi)) s
  | _ => match lstOf s x with | some xs => newL (cutA xs lo hi) s | none => .stuck
@[simp] theorem gSl_tup {xs : List AV} {lo hi : Option Int} {s : Sto} : gSl (.tup xs) lo hi s = .ok (.tup (cutA xs lo hi)) s := rfl
@[simp] theorem gSl_scr {xs : List AV} {lo hi : Option Int} {s : Sto} : gSl (.scr xs) lo hi s = newL (cutA xs lo hi) s := rfl
def aSl (fa : AE) (fl fh : AO) : AE := fun σ s => (fa σ s).bind fun x s1 => (fl σ s1).bind fun l s2 => (fh σ s2).bind fun u s3 => gSl x l u s3
def aRev (fa : AE) : AE := fun σ s => (fa σ s).bind fun x s1 => match lstOf s1 x with | some xs => newL xs.reverse s1 | none => .stuck
end
def rLenU (K : PySem.W.Frag) : List V → Hp → VK → Prop := fun xs H Q => Rd.rLenQ K xs H Q ∨ Gx.rLenS xs H Q ∨ ∃ a kvs, xs = [V.ref a] ∧ H a = some (.dK kvs) ∧ Q (.int kvs.length) H
theorem call_lenU {X : Cx} : CallR X (.builtin "len") (rLenU X.K) := CallR.or Rd.call_lenQ (CallR.or Gx.call_lenS call_lenD)
def gLen : List AV → Sto → Res AV := fun xs s => match xs with
  | [.str z] => if z.length ≤ sizeLine then .ok (.int (z.length : Nat)) s else .stuck
  | [x] => match seqOf s x with | some ys => .ok (.int (ys.length : Nat)) s | none => (match x with | .obj i => (match s.c i with | .dic kvs => .ok (.int (kvs.length : Nat)) s | _ => .stuck) | _ => .stuck)
  | _ => .stuck
theorem gLen_seq {x : AV} {ys : List AV} {s : Sto} (e : seqOf s x = some ys) : gLen [x] s = .ok (.int (ys.length : Nat)) s := by
  unfold gLen
  cases x with
  | str => cases e
  | _ => simp only [e]
@[simp] theorem gLen_tup {ys : List AV} {s : Sto} : gLen [.tup ys] s = .ok (.int (ys.length : Nat)) s := rfl
@[simp] theorem gLen_scr {ys : List AV} {s : Sto} : gLen [.scr ys] s = .ok (.int (ys.length : Nat)) s := rfl
theorem NEL.len : NEL gLen := fun x s c ns vs s' h => by 
  unfold gLen at h
  repeat' split at h
  all_goals first | cases h | (unfold newL at h; cases h)
theorem DB.len {W : Wl} : DB W (rLenU W.K) gLen := fun w s x v Q S r h => by
  unfold gLen at h
  split at h
  · split at h
    · rename_i hl
      cases r with
      | cons r1 r2 =>
        cases r1; cases r2
        exact .inr (.inl ⟨_, rfl, hl, h w _ (.refl w) S (.int _)⟩)
    · exact h.elim
  · cases r with
    | cons r1 r2 =>
      cases r2
      split at h
      · rename_i ys e
        obtain ⟨a, vs, h1, h2, h3⟩ := seq_at S r1 e
        subst h1
        exact .inl ⟨a, vs, rfl, h2, by rw [← h3.length]; exact h w _ (.refl w) S (.int _)⟩
      · split at h
        · split at h
          · rename_i kvs e
            obtain ⟨o, h1, h2, h3, h4⟩ := cell_at S r1 e
            subst h2
            cases h4 with
            | dic r => exact .inr (.inr ⟨_, _, rfl, h3, by rw [← Paired.length r]; exact h w _ (.refl w) S (.int _)⟩)
          · exact h.elim
        · exact h.elim
  · exact h.elim
def gMax2 : List AV → Sto → Res AV := fun xs s => match xs with | [.int i, .int j] => .ok (.int (if j > i then j else i)) s | _ => .stuck
def gMin2 : List AV → Sto → Res AV := fun xs s => match xs with | [.int i, .int j] => .ok (.int (if j < i then j else i)) s | _ => .stuck
@[simp] theorem gMax2_int {i j : Int} {s : Sto} : gMax2 [.int i, .int j] s = .ok (.int (if j > i then j else i)) s := rfl
@[simp] theorem gMin2_int {i j : Int} {s : Sto} : gMin2 [.int i, .int j] s = .ok (.int (if j < i then j else i)) s := rfl
theorem NEL.max2 : NEL gMax2 := fun x s c ns vs s' h => by 
  unfold gMax2 at h
  repeat' split at h
  all_goals first | cases h | (unfold newL at h; cases h)
theorem NEL.min2 : NEL gMin2 := fun x s c ns vs s' h => by 
  unfold gMin2 at h
  repeat' split at h
  all_goals first | cases h | (unfold newL at h; cases h)
theorem DB.max2 {W : Wl} : DB W Rd.rMax2 gMax2 := fun w s x v Q S r h => by
  unfold gMax2 at h
  split at h
  · cases r with
    | cons r1 r2 => cases r2 with
      | cons r2 r3 =>
        cases r1; cases r2; cases r3
        exact ⟨_, _, rfl, h w _ (.refl w) S (.int _)⟩
  · exact h.elim
theorem DB.min2 {W : Wl} : DB W Rd.rMin2 gMin2 := fun w s x v Q S r h => by
  unfold gMin2 at h
  split at h
  · cases r with
    | cons r1 r2 => cases r2 with
      | cons r2 r3 =>
        cases r1; cases r2; cases r3
        exact ⟨_, _, rfl, h w _ (.refl w) S (.int _)⟩
  · exact h.elim
def intsOf : List AV → Option (List Int)
  | [] => some []
  | .int i :: r => (intsOf r).map (i :: ·)
  | _ :: _ => none
theorem ints_rel {W : Wl} {w : Wd} : ∀ {xs : List AV} {vs : List V} {ns : List Int}, RelL W w xs vs → intsOf xs = some ns → vs = ns.map V.int
  | _, _, _, .nil, e => by cases e; rfl
  | .int i :: _, _, _, .cons h r, e => by
    cases h
    unfold intsOf at e
    obtain ⟨ms, e1, rfl⟩ := Option.map_eq_some_iff.mp e
    rw [List.map_cons, ints_rel r e1]
def boolsOf : List AV → Option (List Bool)
  | [] => some []
  | .bl i :: r => (boolsOf r).map (i :: ·)
  | _ :: _ => none
theorem bools_rel {W : Wl} {w : Wd} : ∀ {xs : List AV} {vs : List V} {ns : List Bool}, RelL W w xs vs → boolsOf xs = some ns → vs = ns.map V.bl
  | _, _, _, .nil, e => by cases e; rfl
  | .bl i :: _, _, _, .cons h r, e => by
    cases h
    unfold boolsOf at e
    obtain ⟨ms, e1, rfl⟩ := Option.map_eq_some_iff.mp e
    rw [List.map_cons, bools_rel r e1]
def gSum : List AV → Sto → Res AV := fun xs s => match xs with | [x] => (match lstOf s x with | some ys => (match intsOf ys with | some ns => .ok (.int ns.sum) s | none => .stuck) | none => .stuck) | _ => .stuck
def gAll : List AV → Sto → Res AV := fun xs s => match xs with | [x] => (match lstOf s x with | some ys => (match boolsOf ys with | some ns => .ok (.bl (ns.all id)) s | none => .stuck) | none => .stuck) | _ => .stuck
theorem NEL.sum : NEL gSum := fun x s c ns vs s' h => by 
  unfold gSum at h
  repeat' split at h
  all_goals first | cases h | (unfold newL at h; cases h)
theorem NEL.all : NEL gAll := fun x s c ns vs s' h => by 
  unfold gAll at h
  repeat' split at h
  all_goals first | cases h | (unfold newL at h; cases h)
theorem DB.sum {W : Wl} : DB W (rSum W.K) gSum := fun w s x v Q S r h => by
  unfold gSum at h
  split at h
  · cases r with
    | cons r1 r2 =>
      cases r2
      split at h
      · rename_i ys e
        split at h
        · rename_i ns e2
          obtain ⟨a, vs, h1, h2, h3⟩ := lst_at S r1 e
          subst h1
          refine ⟨a, ns, rfl, ?_, h w _ (.refl w) S (.int _)⟩
          rw [← ints_rel h3 e2]; exact h2
        · exact h.elim
      · exact h.elim
  · exact h.elim
theorem DB.all {W : Wl} : DB W (rAll W.K) gAll := fun w s x v Q S r h => by
  unfold gAll at h
  split at h
  · cases r with
    | cons r1 r2 =>
      cases r2
      split at h
      · rename_i ys e
        split at h
        · rename_i ns e2
          obtain ⟨a, vs, h1, h2, h3⟩ := lst_at S r1 e
          subst h1
          refine ⟨a, ns, rfl, ?_, h w _ (.refl w) S (.bl _)⟩
          rw [← bools_rel h3 e2]; exact h2
        · exact h.elim
      · exact h.elim
  · exact h.elim
def gTuple : List AV → Sto → Res AV := fun xs s => match xs with | [x] => (match seqOf s x with | some ys => .ok (.tup ys) s | none => .stuck) | _ => .stuck
def gList : List AV → Sto → Res AV := fun xs s => match xs with | [x] => (match seqOf s x with | some ys => newL ys s | none => .stuck) | _ => .stuck
theorem NEL.tuple : NEL gTuple := fun x s c ns vs s' h => by 
  unfold gTuple at h
  repeat' split at h
  all_goals first | cases h | (unfold newL at h; cases h)
theorem NEL.list : NEL gList := fun x s c ns vs s' h => by 
  unfold gList at h
  repeat' split at h
  all_goals first | cases h | (unfold newL at h; cases h)
theorem DB.tuple {W : Wl} : DB W (Gx.rTupOf W.K) gTuple := fun w s x v Q S r h => by
  unfold gTuple at h
  split at h
  · cases r with
    | cons r1 r2 =>
      cases r2
      split at h
      · rename_i ys e
        obtain ⟨a, vs, h1, h2, h3⟩ := seq_at S r1 e
        subst h1
        rcases h2 with h2 | h2
        · exact ⟨a, vs, rfl, .inl ⟨h2, newT S h3 h⟩⟩
        · exact ⟨a, vs, rfl, .inr ⟨h2, h w _ (.refl w) S (.tup h2 h3)⟩⟩
      · exact h.elim
  · exact h.elim
theorem DB.list {W : Wl} : DB W (Gx.rLstOf W.K) gList := fun w s x v Q S r h => by
  unfold gList at h
  split at h
  · cases r with
    | cons r1 r2 =>
      cases r2
      split at h
      · rename_i ys e
        obtain ⟨a, vs, h1, h2, h3⟩ := seq_at S r1 e
        subst h1
        exact ⟨a, vs, rfl, h2, newL_ok S h3 h⟩
      · exact h.elim
  · exact h.elim
end
end Ab
set_option Elab.async false
set_option linter.all false
set_option maxRecDepth 100000
set_option maxHeartbeats 1000000
namespace Gx
open PySem PySem.Spec PyProof.Rows L2
end Gx
set_option Elab.async false
set_option linter.all false
set_option maxRecDepth 100000
set_option maxHeartbeats 1000000
namespace Ab
open PySem PySem.Spec PyProof.Rows L2
open Classical
noncomputable section
/-- a fact of each of a list -/
inductive All {α : Type} (P : α → Prop) : List α → Prop
  | nil : All P []
  | cons {a : α} {l : List α} (h : P a) (r : All P l) : All P (a :: l)
theorem All.at {α : Type} {P : α → Prop} : ∀ {l : List α}, All P l → ∀ a ∈ l, P a
  | _, .nil, a, h => by cases h
  | _, .cons h r, a, m => by
    rcases List.mem_cons.mp m with rfl | m
    · exact h
    · exact All.at r a m
def lookA (f : Str) : List (Str × AV) → Option AV
  | [] => none
  | (g, v) :: r => if g = f then some v else lookA f r
def putA (f : Str) (v : AV) : List (Str × AV) → List (Str × AV)
  | [] => [(f, v)]
  | (g, x) :: r => if g = f then (g, v) :: r else (g, x) :: putA f v r
section
variable {W : Wl} {w : Wd} {s : Sto}
theorem look_rel {f : Str} : ∀ {fs : List (Str × AV)} {gs : List (Str × V)}, RelF W w fs gs → (∀ v, lookA f fs = some v → ∃ vc, gs.lookup f = some vc ∧ Rel W w v vc) ∧ (lookA f fs = none → gs.lookup f = none)
  | _, _, .nil => ⟨fun v h => (by cases h), fun _ => rfl⟩
  | (g, x) :: r, (g', y) :: r', .cons h t => by
    obtain ⟨e, hr⟩ := h
    cases (show g = g' from e)
    obtain ⟨t1, t2⟩ := look_rel (f := f) t
    by_cases hg : g = f
    · subst hg
      refine ⟨fun v h => ?_, fun h => ?_⟩
      · have h : (if g = g then some x else _) = some v := h
        rw [if_pos rfl] at h
        cases h
        exact ⟨y, by simp, hr⟩
      · have h : (if g = g then some x else _) = none := h
        rw [if_pos rfl] at h
        cases h
    · have hb : (f == g) = false := beq_eq_false_iff_ne.mpr (Ne.symm hg)
      refine ⟨fun v h => ?_, fun h => ?_⟩
      · have h : (if g = f then some x else lookA f r) = some v := h
        rw [if_neg hg] at h
        obtain ⟨vc, h1, h2⟩ := t1 v h
        exact ⟨vc, by rw [List.lookup_cons, hb]; exact h1, h2⟩
      · have h : (if g = f then some x else lookA f r) = none := h
        rw [if_neg hg] at h
        rw [List.lookup_cons, hb]; exact t2 h
theorem put_rel {f : Str} {x : AV} {v : V} (hx : Rel W w x v) : ∀ {fs : List (Str × AV)} {gs : List (Str × V)}, RelF W w fs gs → RelF W w (putA f x fs) (putF f v gs)
  | _, _, .nil => .cons ⟨rfl, hx⟩ .nil
  | (g, y) :: r, (g', u) :: r', .cons h t => by
    obtain ⟨e, hr⟩ := h
    cases (show g = g' from e)
    show RelF W w (if g = f then (g, x) :: r else (g, y) :: putA f x r) (if g = f then (g, v) :: r' else (g, u) :: putF f v r')
    by_cases hg : g = f
    · rw [if_pos hg, if_pos hg]
      exact .cons ⟨rfl, hx⟩ t
    · rw [if_neg hg, if_neg hg]
      exact .cons ⟨rfl, hr⟩ (put_rel hx t)
end
def insAt (s : Sto) : AV → Option (String × List (Str × AV))
  | .obj i => match s.c i with | .ins c fs => some (c, fs) | _ => none
  | _ => none
theorem insAt_obj {s : Sto} {i : Nat} {c : String} {fs : List (Str × AV)} (e : s.c i = .ins c fs) : insAt s (.obj i) = some (c, fs) := by
  unfold insAt; simp only [e]
theorem ins_at {W : Wl} {w : Wd} {s : Sto} {x : AV} {v : V} {c : String} {fs : List (Str × AV)} (S : Sim W w s) (r : Rel W w x v) (h : insAt s x = some (c, fs)) :
    ∃ i dx gs, x = .obj i ∧ i < s.n ∧ v = .ref (w.m i) ∧ w.H (w.m i) = some (.ins (W.κ c) dx gs) ∧ c ∈ W.live ∧ RelF W w fs gs := by
  cases r with
  | @obj i hi =>
    unfold insAt at h
    simp only at h
    split at h
    · rename_i c' fs' e
      cases h
      obtain ⟨o, h1, h2, h3, h4⟩ := cell_at S (.obj hi) e
      cases h4 with
      | ins hc r => exact ⟨i, _, _, rfl, h1, h2, h3, hc, r⟩
    · cases h
  | _ => cases h
def gFld (cs : List String) (f : Str) (x : AV) (s : Sto) : Res AV := match insAt s x with | some (c, fs) => if c ∈ cs then (match lookA f fs with | some v => .ok v s | none => .stuck) else .stuck | none => .stuck
def aFld (cs : List String) (f : Str) (fa : AE) : AE := aUn (gFld cs f) fa
theorem gFld_obj {cs : List String} {f : Str} {s : Sto} {i : Nat} {c : String} {fs : List (Str × AV)} {v : AV} (e : s.c i = .ins c fs) (h : c ∈ cs) (l : lookA f fs = some v) : gFld cs f (.obj i) s = .ok v s := by
  unfold gFld
  simp only [insAt_obj e, if_pos h, l]
section
variable {W : Wl} {E : L2.St → XK} {ta tb : TE} {fa fb : AE} {tr : TA} {fr : AA}
theorem DE.fld {cs : List String} {f : Str} (hc : All (fun c => Cls W.K (W.κ c) ∧ NoAttr W.K (W.κ c) f) cs) (ha : DE W E ta fa) : DE W E (tFld W.K ta f) (aFld cs f fa) := fun w s σ σc Q S R h => by
  refine ha w s σ σc _ S R ((post_bind_ok h).mono (fun x s1 h1 w1 v e1 S1 r1 => ?_) fun _ _ _ _ z => z)
  unfold gFld at h1
  split at h1
  · rename_i c fs e
    split at h1
    · rename_i hcs
      split at h1
      · rename_i u e2
        obtain ⟨i, dx, gs, rfl, h2, rfl, h3, h4, h5⟩ := ins_at S1 r1 e
        obtain ⟨uc, l, ru⟩ := (look_rel h5).1 u e2
        obtain ⟨k1, k2⟩ := hc.at c hcs
        exact ⟨_, _, dx, gs, uc, rfl, h3, k1, k2, l, h1 w1 _ e1 S1 ru⟩
      · exact (show False from h1).elim
    · exact (show False from h1).elim
  · exact (show False from h1).elim
/-- o.f = e -/
def setF (cs : List String) (f : Str) (x y : AV) (s : Sto) : Option Sto := match x with | .obj i => (match s.c i with | .ins c fs => if c ∈ cs ∧ fs.length < 1000 then some (s.set i (.ins c (putA f y fs))) else none | _ => none) | _ => none
theorem setF_obj {cs : List String} {f : Str} {s : Sto} {i : Nat} {c : String} {fs : List (Str × AV)} {y : AV} (e : s.c i = .ins c fs) (h : c ∈ cs) (l : fs.length < 1000) : setF cs f (.obj i) y s = some (s.set i (.ins c (putA f y fs))) := by
  unfold setF
  simp only [e]
  exact if_pos ⟨h, l⟩
def oNx (σ : ASt) : Option Sto → SRes
  | some s => .nx σ s
  | none => .stuck
@[simp] theorem oNx_some {σ : ASt} {s : Sto} : oNx σ (some s) = .nx σ s := rfl
def aSFld (cs : List String) (f : Str) (fo fe : AE) : AS := fun σ s => (fe σ s).st σ fun y s1 => (fo σ s1).st σ fun x s2 => oNx σ (setF cs f x y s2)
theorem setF_ok {w : Wd} {s s' : Sto} {cs : List String} {f : Str} {x y : AV} {v u : V} (hc : All (fun c => Cls W.K (W.κ c) ∧ NoAttr W.K (W.κ c) f) cs) (S : Sim W w s) (rx : Rel W w x v) (ry : Rel W w y u) (h : setF cs f x y s = some s') :
    ∃ a C dx gs, v = .ref a ∧ w.H a = some (.ins C dx gs) ∧ Cls W.K C ∧ NoAttr W.K C f ∧ gs.length < 1000 ∧ ∃ w', w'.H = upd w.H a (.ins C dx (putF f u gs)) ∧ Ext w w' ∧ Sim W w' s' := by
  unfold setF at h
  split at h
  · rename_i i
    split at h
    · rename_i c fs e
      split at h
      · rename_i hh
        cases h
        obtain ⟨o, h1, h2, h3, h4⟩ := cell_at S rx e
        cases h4 with
        | @ins _ dx _ gs hl r =>
          obtain ⟨k1, k2⟩ := hc.at c hh.1
          refine ⟨_, _, dx, gs, h2, h3, k1, k2, ?_, _, rfl, .wr S h1, S.wr h1 (.ins hl (put_rel ry r))⟩
          rw [← Paired.length r]; exact hh.2
      · cases h
    · cases h
  · cases h
theorem DS.sfld {cs : List String} {f : Str} {to te : TE} {fo fe : AE} (hc : All (fun c => Cls W.K (W.κ c) ∧ NoAttr W.K (W.κ c) f) cs) (ho : DE W E to fo) (he : DE W E te fe) : DS W E (L2.sFld W.K to te f) (aSFld cs f fo fe) := fun w s σ σc D S R h => by
  refine he w s σ σc _ S R ((exp_post R h).mono (fun y s1 h1 w1 u e1 S1 r1 => ?_) fun _ _ _ _ z => z)
  refine ho w1 s1 σ σc _ S1 (R.mono e1) ((exp_post (R.mono e1) (P.mono e1 h1)).mono (fun x s2 h2 w2 v e2 S2 r2 => ?_) fun _ _ _ _ z => z)
  cases e : setF cs f x y s2 with
  | none => rw [e] at h2; exact (show False from h2).elim
  | some s3 =>
    rw [e] at h2
    obtain ⟨a, C, dx, gs, k1, k2, k3, k4, k5, w3, k6, k7, k8⟩ := setF_ok hc S2 r2 (r1.mono e2) e
    refine ⟨a, C, dx, gs, k1, k2, k3, k4, k5, ?_⟩
    rw [← k6]
    exact h2 w3 σc (e2.trans k7) k8 (((R.mono e1).mono e2).mono k7)
def noErr {α : Type} : Res α → Res α
  | .ok a s => .ok a s
  | _ => .stuck
@[simp] theorem noErr_ok {α : Type} {a : α} {s : Sto} : noErr (Res.ok a s) = .ok a s := rfl
theorem noErr_post {α : Type} {r : Res α} {P : α → Sto → Prop} {R R' : String → List Str → List AV → Sto → Prop} (h : (noErr r).Post P R) : r.Post P R' := by
  cases r with
  | ok => exact h
  | err => exact (show False from h).elim
  | stuck => exact h
def clsIs (s : Sto) (x : AV) (c : String) (m : Str) : Bool := match insAt s x with | some (d, fs) => (decide (d = c)) && (lookA m fs).isNone | none => false
theorem clsIs_obj {s : Sto} {i : Nat} {c : String} {m : Str} {fs : List (Str × AV)} (e : s.c i = .ins c fs) (l : lookA m fs = none) : clsIs s (.obj i) c m = true := by
  unfold clsIs
  simp only [insAt_obj e, l]
  simp
theorem cls_is {w : Wd} {s : Sto} {x : AV} {v : V} {c : String} {m : Str} (S : Sim W w s) (r : Rel W w x v) (h : clsIs s x c m = true) : ∃ a dx gs, v = .ref a ∧ w.H a = some (.ins (W.κ c) dx gs) ∧ gs.lookup m = none := by
  unfold clsIs at h
  split at h
  · rename_i d fs e
    rw [Bool.and_eq_true, decide_eq_true_eq, Option.isNone_iff_eq_none] at h
    obtain ⟨rfl, h⟩ := h
    obtain ⟨i, dx, gs, rfl, h2, rfl, h3, h4, h5⟩ := ins_at S r e
    exact ⟨_, dx, gs, rfl, h3, (look_rel h5).2 h⟩
  · cases h
def aMeth (c : String) (m : Str) (n : Nat) (F : List AV → Sto → Res AV) (dvs : List AV) (fa : AE) (fr : AA) : AE := fun σ s => (fa σ s).bind fun x s1 => if clsIs s1 x c m = true then (fr σ s1).bind fun xs s2 => if (x :: (xs ++ dvs)).length = n then F (x :: (xs ++ dvs)) s2 else .stuck else .stuck
theorem DE.meth {c : String} {m : Str} {n : Nat} {F : List AV → Sto → Res AV} {Ek : XK} {dvs : List AV} {dcs : List V} (hd : ∀ w, RelL W w dvs dcs) (ha : DE W (fun _ => Ek) ta fa) (hr : DA W (fun _ => Ek) tr fr) :
    DE W (fun _ => Ek) (tMeth (W.κ c) m (spF W n F) dcs Ek ta tr) (aMeth c m n F dvs fa fr) := fun w s σ σc Q S R h => by
  refine ha w s σ σc _ S R ((post_bind_ok h).mono (fun x s1 h1 w1 v e1 S1 r1 => ?_) fun _ _ _ _ z => z)
  split at h1
  · rename_i hcl
    obtain ⟨a, dx, gs, rfl, k1, k2⟩ := cls_is S1 r1 hcl
    refine ⟨a, dx, gs, rfl, k1, k2, hr w1 s1 σ σc _ S1 (R.mono e1) ((post_bind_ok h1).mono (fun xs s2 h2 w2 vs e2 S2 r2 => ?_) fun _ _ _ _ z => z.mono e1)⟩
    split at h2
    · rename_i hl
      exact ⟨w2, s2, _, rfl, S2, .cons (r1.mono e2) (r2.append (hd w2)), hl, post_mono (e1.trans e2) h2⟩
    · exact (show False from h2).elim
  · exact (show False from h1).elim
def isI (s : Sto) (x : AV) (c : String) : Bool := match insAt s x with | some (d, _) => decide (d = c) | none => false
theorem isI_obj {s : Sto} {i : Nat} {c : String} {fs : List (Str × AV)} (e : s.c i = .ins c fs) : isI s (.obj i) c = true := by
  unfold isI
  simp only [insAt_obj e]
  simp
def aProp (c : String) (F : List AV → Sto → Res AV) (fa : AE) : AE := fun σ s => (fa σ s).bind fun x s1 => if isI s1 x c = true then noErr (F [x] s1) else .stuck
theorem DE.prop {c : String} {F : List AV → Sto → Res AV} (ha : DE W E ta fa) : DE W E (tProp (W.κ c) (spF W 1 F) [] C8.E0 ta) (aProp c F fa) := fun w s σ σc Q S R h => by
  refine ha w s σ σc _ S R ((post_bind_ok h).mono (fun x s1 h1 w1 v e1 S1 r1 => ?_) fun _ _ _ _ z => z)
  split at h1
  · rename_i hcl
    unfold isI at hcl
    split at hcl
    · rename_i d fs e
      cases of_decide_eq_true hcl
      obtain ⟨i, dx, gs, rfl, h2, rfl, h3, h4, h5⟩ := ins_at S1 r1 e
      exact ⟨_, dx, gs, rfl, h3, w1, s1, [.obj i], rfl, S1, .cons r1 .nil, rfl, (noErr_post h1).mono (fun _ _ z => z.mono e1) fun _ _ _ _ z => z⟩
    · cases hcl
  · exact (show False from h1).elim
/-- C(..) -/
def aMake (c : String) (n : Nat) (F : List AV → Sto → Res AV) (dvs : List AV) (fr : AA) : AE := fun σ s => (fr σ s).bind fun xs s1 => if (AV.obj s1.n :: (xs ++ dvs)).length = n then (F (.obj s1.n :: (xs ++ dvs)) (s1.new (.ins c []))).bind fun v s2 => if isNon v = true then .ok (.obj s1.n) s2 else .stuck else .stuck
theorem DE.make {c : String} {n : Nat} {F : List AV → Sto → Res AV} {Ek : XK} {dvs : List AV} {dcs : List V} (hd : ∀ w, RelL W w dvs dcs) (hl : c ∈ W.live) (hr : DA W (fun _ => Ek) tr fr) :
    DE W (fun _ => Ek) (tMake (W.κ c) (spF W n F) dcs Ek tr) (aMake c n F dvs fr) := fun w s σ σc Q S R h => by
  refine hr w s σ σc _ S R ((post_bind_ok h).mono (fun xs s1 h1 w1 vs e1 S1 r1 => ?_) fun _ _ _ _ z => z)
  split at h1
  · rename_i hn
    intro x dx hx hdx ne
    have g : ∀ a u, w1.H a = some u → upd (upd w1.H dx (.own x)) x (.ins (W.κ c) dx []) a = some u := fun a u z => by
      rw [upd_ne (ne_of_none z hx), upd_ne (ne_of_none z hdx)]; exact z
    have e2 : Ext w1 (w1.new x (upd (upd w1.H dx (.own x)) x (.ins (W.κ c) dx []))) := .new g
    have S2 : Sim W (w1.new x (upd (upd w1.H dx (.own x)) x (.ins (W.κ c) dx []))) (s1.new (.ins c [])) := S1.new hx g upd_same (.ins hl .nil)
    refine ⟨w1.new x (upd (upd w1.H dx (.own x)) x (.ins (W.κ c) dx [])), _, _, rfl, S2, .cons (Rel.new x _ S1.n) ((r1.mono e2).append (hd _)), hn, (post_bind_ok h1).mono (fun v s3 h3 w3 vc e3 S3 r3 => ?_) fun _ _ _ _ z => (z.mono e1).mono e2⟩
    split at h3
    · rename_i hv
      rw [isNon_rel r3, decide_eq_true_eq] at hv
      refine ⟨hv, h3 w3 _ (e1.trans (e2.trans e3)) S3 ?_⟩
      exact (Rel.new x _ S1.n).mono e3
    · exact (show False from h3).elim
  · exact (show False from h1).elim
/-- cls(..), the class in a slot -/
def aMakeV (i : Nat) (c : String) (n : Nat) (F : List AV → Sto → Res AV) (fr : AA) : AE := fun σ s => match σ[i]? with | some (some (.cls d)) => if d = c then aMake c n F [] fr σ s else .stuck | _ => .stuck
def isCls (c : String) : AV → Bool
  | .cls d => decide (d = c)
  | _ => false
/-- C.m(..), m static -/
def aSMeth (c : String) (n : Nat) (F : List AV → Sto → Res AV) (fa : AE) (fr : AA) : AE := fun σ s => (fa σ s).bind fun x s1 => if isCls c x = true then (fr σ s1).bind fun xs s2 => if (xs ++ []).length = n then F (xs ++ []) s2 else .stuck else .stuck
/-- C.m(..), m a class method -/
def aCMeth (c : String) (n : Nat) (F : List AV → Sto → Res AV) (fa : AE) (fr : AA) : AE := fun σ s => (fa σ s).bind fun x s1 => if isCls c x = true then (fr σ s1).bind fun xs s2 => if (AV.cls c :: (xs ++ [])).length = n then F (.cls c :: (xs ++ [])) s2 else .stuck else .stuck
def gAppend (x : AV) (ys : List AV) (s : Sto) : Res AV := match x, ys with
  | .obj i, [y] => (match s.c i with | .lst xs => if xs.length < sizeLine then .ok .non (s.set i (.lst (xs ++ [y]))) else .stuck | _ => .stuck)
  | _, _ => .stuck
def isSeqL (s : Sto) (x : AV) : Bool := (lstOf s x).isSome
def aBM (g : AV → List AV → Sto → Res AV) (fa : AE) (fr : AA) : AE := fun σ s => (fa σ s).bind fun x s1 => if isSeqL s1 x = true then (fr σ s1).bind fun ys s2 => g x ys s2 else .stuck
def NEM (g : AV → List AV → Sto → Res AV) : Prop := ∀ x ys s c ns vs s', g x ys s ≠ .err c ns vs s'
def DM (W : Wl) (r : V → List V → Hp → VK → Prop) (g : AV → List AV → Sto → Res AV) : Prop := ∀ (w : Wd) (s : Sto) (x : AV) (ys : List AV) (v : V) (us : List V) (Q : VK), Sim W w s → Rel W w x v → RelL W w ys us → (g x ys s).Post (OkP W w Q) (fun _ _ _ _ => False) → r v us w.H Q
/-- a method of a list -/
theorem DE.bm {r : V → List V → Hp → VK → Prop} {g : AV → List AV → Sto → Res AV} (hr : DM W r g) (hn : NEM g) (ha : DE W E ta fa) (hb : DA W E tr fr) : DE W E (tBM W.K "list" r ta tr) (aBM g fa fr) := fun w s σ σc Q S R h => by
  refine ha w s σ σc _ S R ((post_bind_ok h).mono (fun x s1 h1 w1 v e1 S1 r1 => ?_) fun _ _ _ _ z => z)
  split at h1
  · rename_i hl
    refine ⟨?_, hb w1 s1 σ σc _ S1 (R.mono e1) ((post_bind_ok h1).mono (fun ys s2 h2 w2 us e2 S2 r2 => ?_) fun _ _ _ _ z => z.mono e1)⟩
    · unfold isSeqL at hl
      obtain ⟨xs, e⟩ := Option.isSome_iff_exists.mp hl
      obtain ⟨a, vs, rfl, k2, k3⟩ := lst_at S1 r1 e
      exact .inl ⟨rfl, vs, k2⟩
    · refine hr w2 s2 x ys v us Q S2 (r1.mono e2) r2 ?_
      cases hh : g x ys s2 with
      | ok a s3 => rw [hh] at h2; exact OkP.mono (e1.trans e2) h2
      | err c ns vs s3 => exact absurd hh (hn _ _ _ _ _ _ _)
      | stuck => rw [hh] at h2; exact h2
  · exact (show False from h1).elim
theorem NEM.append : NEM gAppend := fun x y s c ns vs s' h => by 
  unfold gAppend at h
  repeat' split at h
  all_goals first | cases h | (unfold newL at h; cases h)
theorem DM.append : DM W rAppend gAppend := fun w s x ys v us Q S rx ry h => by
  unfold gAppend at h
  split at h
  · split at h
    · rename_i i y _ xs e
      split at h
      · rename_i hl
        obtain ⟨vs, i1, i2, i3, i4⟩ := lstO_at S rx e
        cases ry with
        | @cons _ u _ _ r1 r2 =>
          cases r2
          refine ⟨_, vs, u, i2, rfl, i3, by rw [← i4.length]; exact hl, ?_⟩
          exact wr_ok S i1 (.lst (i4.append (.cons r1 .nil))) fun w' e' S' => h w' .non e' S' .non
      · exact h.elim
    · exact h.elim
  · exact h.elim
/-- x[i] = v, a list -/
def setL (x i y : AV) (s : Sto) : Option Sto := match x, i with | .obj k, .int j => (match s.c k with | .lst xs => (match ixN xs.length j with | some n => some (s.set k (.lst (xs.set n y))) | none => none) | _ => none) | _, _ => none
theorem setL_obj {k : Nat} {j : Int} {n : Nat} {y : AV} {xs : List AV} {s : Sto} (e : s.c k = .lst xs) (h : ixN xs.length j = some n) : setL (.obj k) (.int j) y s = some (s.set k (.lst (xs.set n y))) := by
  unfold setL; simp only [e, h]
def toKey : AV → Option Key
  | .int i => some (.inl i)
  | .str z => some (.inr z)
  | _ => none
theorem key_rel {w : Wd} {x : AV} {v : V} {k : Key} (r : Rel W w x v) (h : toKey x = some k) : v = kV k := by
  cases r <;> cases h <;> rfl
def valA (kvs : List (Key × AV)) (k : Key) : Option AV := match kvs with
  | [] => none
  | (j, v) :: r => if j = k then some v else valA r k
def putKA (kvs : List (Key × AV)) (k : Key) (v : AV) : List (Key × AV) :=
  if (kvs.any fun kv => decide (kv.1 = k)) = true then kvs.map (fun kv => if kv.1 = k then (kv.1, v) else kv) else kvs ++ [(k, v)]
theorem val_rel {w : Wd} {k : Key} : ∀ {fs : List (Key × AV)} {gs : List (Key × V)}, RelK W w fs gs → ∀ v, valA fs k = some v → ∃ vc, valV gs k = some vc ∧ Rel W w v vc
  | _, _, .nil, v, h => by cases h
  | (j, x) :: r, (j', y) :: r', .cons h t, v, e => by
    obtain ⟨ej, hr⟩ := h
    cases (show j = j' from ej)
    have e : (if j = k then some x else valA r k) = some v := e
    by_cases hj : j = k
    · rw [if_pos hj] at e
      cases e
      exact ⟨y, valV_pos hj, hr⟩
    · rw [if_neg hj] at e
      obtain ⟨vc, h1, h2⟩ := val_rel t v e
      exact ⟨vc, by rw [valV_neg hj]; exact h1, h2⟩
theorem any_rel {w : Wd} {k : Key} : ∀ {fs : List (Key × AV)} {gs : List (Key × V)}, RelK W w fs gs → (fs.any fun kv => decide (kv.1 = k)) = (gs.any fun kv => decide (kv.1 = k))
  | _, _, .nil => rfl
  | (j, x) :: r, (j', y) :: r', .cons h t => by
    cases (show j = j' from h.1)
    rw [List.any_cons, List.any_cons, any_rel t]
theorem mapK_rel {w : Wd} {k : Key} {x : AV} {v : V} (hx : Rel W w x v) : ∀ {fs : List (Key × AV)} {gs : List (Key × V)}, RelK W w fs gs → RelK W w (fs.map fun kv => if kv.1 = k then (kv.1, x) else kv) (gs.map fun kv => if kv.1 = k then (kv.1, v) else kv)
  | _, _, .nil => .nil
  | (j, y) :: r, (j', u) :: r', .cons h t => by
    cases (show j = j' from h.1)
    rw [List.map_cons, List.map_cons]
    refine .cons ?_ (mapK_rel hx t)
    by_cases hj : j = k
    · simp only [if_pos hj]
      exact ⟨trivial, hx⟩
    · simp only [if_neg hj]
      exact ⟨trivial, h.2⟩
theorem RelK.append {w : Wd} : ∀ {fs hs : List (Key × AV)} {gs ks : List (Key × V)}, RelK W w fs gs → RelK W w hs ks → RelK W w (fs ++ hs) (gs ++ ks)
  | _, _, _, _, .nil, h => h
  | _, _, _, _, .cons h r, k => .cons h (RelK.append r k)
theorem putK_rel {w : Wd} {k : Key} {x : AV} {v : V} (hx : Rel W w x v) {fs : List (Key × AV)} {gs : List (Key × V)} (r : RelK W w fs gs) : RelK W w (putKA fs k x) (putK gs k v) := by
  unfold putKA putK
  rw [any_rel r]
  split
  · exact mapK_rel hx r
  · exact r.append (.cons ⟨rfl, hx⟩ .nil)
def gDGet (x y : AV) (s : Sto) : Res AV := match x, toKey y with | .obj i, some k => (match s.c i with | .dic kvs => (match valA kvs k with | some v => .ok v s | none => .stuck) | _ => .stuck) | _, _ => .stuck
theorem gDGet_obj {i : Nat} {y v : AV} {k : Key} {kvs : List (Key × AV)} {s : Sto} (e : s.c i = .dic kvs) (hk : toKey y = some k) (h : valA kvs k = some v) : gDGet (.obj i) y s = .ok v s := by
  unfold gDGet; simp only [hk, e, h]
theorem DE.dget (ha : DE W E ta fa) (hb : DE W E tb fb) : DE W E (tDGet ta tb) (aOp gDGet fa fb) := fun w s σ σc Q S R h => by
  refine ha w s σ σc _ S R ((post_bind_ok h).mono (fun x s1 h1 w1 v e1 S1 r1 => ?_) fun _ _ _ _ z => z)
  refine hb w1 s1 σ σc _ S1 (R.mono e1) ((post_bind_ok h1).mono (fun y s2 h2 w2 u e2 S2 r2 => ?_) fun _ _ _ _ z => z.mono e1)
  unfold gDGet at h2
  split at h2
  · rename_i i k hk
    split at h2
    · rename_i kvs e
      split at h2
      · rename_i z ez
        obtain ⟨o, k1, k2, k3, k4⟩ := cell_at S2 (r1.mono e2) e
        cases k4 with
        | dic r =>
          obtain ⟨vc, l, rz⟩ := val_rel r z ez
          exact ⟨_, vc, k2, .inl ⟨_, k, .inl k3, key_rel r2 hk, l.symm⟩, h2 w2 _ (e1.trans e2) S2 rz⟩
      · exact (show False from h2).elim
    · exact (show False from h2).elim
  · exact (show False from h2).elim
/-- d[y] = v -/
def setD (x y z : AV) (s : Sto) : Option Sto := match x, toKey y with | .obj i, some k => (match s.c i with | .dic kvs => if kvs.length < sizeLine then some (s.set i (.dic (putKA kvs k z))) else none | _ => none) | _, _ => none
theorem setD_obj {i : Nat} {y z : AV} {k : Key} {kvs : List (Key × AV)} {s : Sto} (e : s.c i = .dic kvs) (hk : toKey y = some k) (h : kvs.length < sizeLine) : setD (.obj i) y z s = some (s.set i (.dic (putKA kvs k z))) := by
  unfold setD; simp only [hk, e, if_pos h]
theorem setD_ok {w : Wd} {s s' : Sto} {x y z : AV} {v u t : V} (S : Sim W w s) (rx : Rel W w x v) (ry : Rel W w y u) (rz : Rel W w z t) (h : setD x y z s = some s') : ∃ a w', v = .ref a ∧ DPut w.H a u t w'.H ∧ Ext w w' ∧ Sim W w' s' := by
  unfold setD at h
  split at h
  · rename_i i k hk
    split at h
    · rename_i kvs e
      split at h
      · rename_i hl
        cases h
        obtain ⟨o, k1, k2, k3, k4⟩ := cell_at S rx e
        cases k4 with
        | @dic _ gs r =>
          refine ⟨_, { w with H := upd w.H (w.m i) (.dK (putK gs k t)) }, k2, .inl ⟨gs, k, k3, key_rel ry hk, ?_, rfl⟩, .wr S k1, S.wr k1 (.dic (putK_rel rz r))⟩
          rw [← Paired.length r]; exact hl
      · cases h
    · cases h
  · cases h
theorem setL_ok {w : Wd} {s s' : Sto} {x y z : AV} {v u t : V} (S : Sim W w s) (rx : Rel W w x v) (ry : Rel W w y u) (rz : Rel W w z t) (h : setL x y z s = some s') : ∃ p xs k j w', v = .ref p ∧ u = .int k ∧ w.H p = some (.lst xs) ∧ ixN xs.length k = some j ∧ w'.H = upd w.H p (.lst (xs.set j t)) ∧ Ext w w' ∧ Sim W w' s' := by
  unfold setL at h
  split at h
  · rename_i i k
    cases ry
    split at h
    · rename_i xs e
      split at h
      · rename_i n hn
        cases h
        obtain ⟨vs, i1, i2, i3, i4⟩ := lstO_at S rx e
        exact ⟨_, vs, k, n, { w with H := upd w.H (w.m i) (.lst (vs.set n t)) }, i2, rfl, i3, by rw [← i4.length]; exact hn, rfl, .wr S i1, S.wr i1 (.lst (i4.set rz n))⟩
      · cases h
    · cases h
  · cases h
def aDPut (fd fy fv : AE) : AS := fun σ s => (fv σ s).st σ fun z s1 => (fd σ s1).st σ fun x s2 => (fy σ s2).st σ fun y s3 => oNx σ (setD x y z s3)
theorem DS.dput {td ty tv : TE} {fd fy fv : AE} (hd : DE W E td fd) (hy : DE W E ty fy) (hv : DE W E tv fv) : DS W E (sDPut td ty tv) (aDPut fd fy fv) := fun w s σ σc D S R h => by
  refine hv w s σ σc _ S R ((exp_post R h).mono (fun z s1 h1 w1 t e1 S1 r1 => ?_) fun _ _ _ _ z => z)
  refine hd w1 s1 σ σc _ S1 (R.mono e1) ((exp_post (R.mono e1) (P.mono e1 h1)).mono (fun x s2 h2 w2 v e2 S2 r2 => ?_) fun _ _ _ _ z => z)
  refine hy w2 s2 σ σc _ S2 ((R.mono e1).mono e2) ((exp_post ((R.mono e1).mono e2) (P.mono e2 h2)).mono (fun y s3 h3 w3 u e3 S3 r3 => ?_) fun _ _ _ _ z => z)
  cases e : setD x y z s3 with
  | none => rw [e] at h3; exact (show False from h3).elim
  | some s4 =>
    rw [e] at h3
    obtain ⟨a, w4, k1, k2, k3, k4⟩ := setD_ok S3 (r2.mono e3) r3 ((r1.mono e2).mono e3) e
    exact ⟨a, w4.H, k1, k2, h3 w4 σc (e3.trans k3) k4 ((((R.mono e1).mono e2).mono e3).mono k3)⟩
/-- a subscript among targets -/
def agSub (st : AV → AV → AV → Sto → Option Sto) (fo fi : AE) : AV → AS := fun z σ s => match (fo σ s).bind fun x s1 => (fi σ s1).bind fun y s2 => (match st x y z s2 with | some s3 => .ok .non s3 | none => .stuck : Res AV) with | .ok _ s3 => .nx σ s3 | _ => .stuck
theorem agSub_eq {st : AV → AV → AV → Sto → Option Sto} {fo fi : AE} {x y z : AV} {σ : ASt} {s s1 s2 s3 : Sto} (h1 : fo σ s = .ok x s1) (h2 : fi σ s1 = .ok y s2) (h3 : st x y z s2 = some s3) : agSub st fo fi z σ s = .nx σ s3 := by
  unfold agSub; simp only [h1, Res.bind_ok, h2, h3]
theorem Goes.sub {st : AV → AV → AV → Sto → Option Sto} {fo fi : AE} : Goes (agSub st fo fi) := fun z σ s => by
  unfold agSub
  split
  · exact .inl ⟨_, _, rfl⟩
  · exact .inr rfl
theorem DG.sub {tset : TSet} {st : AV → AV → AV → Sto → Option Sto} {to ti : TE} {fo fi : AE} (hs : ∀ (w : Wd) (s s' : Sto) (x y z : AV) (v u t : V) (G : Hp → Prop), Sim W w s → Rel W w x v → Rel W w y u → Rel W w z t → st x y z s = some s' → (∀ w', Ext w w' → Sim W w' s' → G w'.H) → tset v u t w.H G)
    (ho : DE W (fun _ _ _ _ => False) to fo) (hi : DE W (fun _ _ _ _ => False) ti fi) : DG W (gSub to ti tset) (agSub st fo fi) := fun w s σ σc z t Q S R r h => by
  have h : (match (fo σ s).bind fun x s1 => (fi σ s1).bind fun y s2 => (match st x y z s2 with | some s3 => .ok .non s3 | none => .stuck : Res AV) with | .ok _ s3 => .nx σ s3 | _ => .stuck : SRes).P W w _ _ := h
  cases e0 : fo σ s with
  | err => rw [e0] at h; exact (show False from h).elim
  | stuck => rw [e0] at h; exact (show False from h).elim
  | ok x s1 =>
    rw [e0] at h
    refine ho w s σ σc _ S R ?_
    rw [e0]
    intro w1 v e1 S1 r1
    simp only [Res.bind_ok] at h
    cases e2 : fi σ s1 with
    | err => rw [e2] at h; exact (show False from h).elim
    | stuck => rw [e2] at h; exact (show False from h).elim
    | ok y s2 =>
      rw [e2] at h
      refine hi w1 s1 σ σc _ S1 (R.mono e1) ?_
      rw [e2]
      intro w2 u e3 S2 r2
      simp only [Res.bind_ok] at h
      cases e4 : st x y z s2 with
      | none => rw [e4] at h; exact (show False from h).elim
      | some s3 =>
        rw [e4] at h
        exact hs w2 s2 s3 x y z v u t _ S2 (r1.mono e3) r2 ((r.mono e1).mono e3) e4 fun w' e' S' => h w' σc ((e1.trans e3).trans e') S' (((R.mono e1).mono e3).mono e')
theorem DG.subD {to ti : TE} {fo fi : AE} (ho : DE W (fun _ _ _ _ => False) to fo) (hi : DE W (fun _ _ _ _ => False) ti fi) : DG W (gSub to ti rSetD) (agSub setD fo fi) := DG.sub (fun w s s' x y z v u t G S rx ry rz e h => by
  obtain ⟨a, w', k1, k2, k3, k4⟩ := setD_ok S rx ry rz e
  exact ⟨a, w'.H, k1, k2, h w' k3 k4⟩) ho hi
theorem DG.subL {to ti : TE} {fo fi : AE} (ho : DE W (fun _ _ _ _ => False) to fo) (hi : DE W (fun _ _ _ _ => False) ti fi) : DG W (gSub to ti rSetL) (agSub setL fo fi) := DG.sub (fun w s s' x y z v u t G S rx ry rz e h => by
  obtain ⟨p, xs, k, j, w', k1, k2, k3, k4, k5, k6, k7⟩ := setL_ok S rx ry rz e
  refine ⟨p, xs, k, j, k1, k2, k3, k4, ?_⟩
  rw [← k5]; exact h w' k6 k7) ho hi
/-- {} and {k: v, ..} -/
def newD (kvs : List (Key × AV)) (s : Sto) : Res AV := .ok (.obj s.n) (s.new (.dic kvs))
def aDNew : AE := fun _ s => newD [] s
def aPairs : List (AE × AE) → ASt → Sto → Res (List (AV × AV))
  | [], _, s => .ok [] s
  | (fk, fv) :: r, σ, s => (fk σ s).bind fun x s1 => (fv σ s1).bind fun y s2 => (aPairs r σ s2).bind fun ps s3 => .ok ((x, y) :: ps) s3
def keysA : List (AV × AV) → Option (List (Key × AV))
  | [] => some []
  | (x, y) :: r => match toKey x, keysA r with | some k, some ks => some ((k, y) :: ks) | _, _ => none
def mergeA (kvs more : List (Key × AV)) : List (Key × AV) := more.foldl (fun acc kv => putKA acc kv.1 kv.2) kvs
def aDisp (fs : List (AE × AE)) : AE := fun σ s => (aPairs fs σ (s.new (.dic []))).bind fun ps s1 => match s1.c s.n, keysA ps with | .dic [], some kvs => if kvs.length ≤ 15 then .ok (.obj s.n) (s1.set s.n (.dic (mergeA [] kvs))) else .stuck | _, _ => .stuck
inductive DPs (W : Wl) (E : L2.St → XK) : List (TE × TE) → List (AE × AE) → Prop
  | nil : DPs W E [] []
  | cons {tk tv : TE} {fk fv : AE} {ts : List (TE × TE)} {fs : List (AE × AE)} (hk : DE W E tk fk) (hv : DE W E tv fv) (r : DPs W E ts fs) : DPs W E ((tk, tv) :: ts) ((fk, fv) :: fs)
theorem DPs.run {ts : List (TE × TE)} {fs : List (AE × AE)} (d : DPs W E ts fs) : ∀ (w : Wd) (s : Sto) (σ : ASt) (σc : L2.St) (Q : List (V × V) → Hp → Prop), Sim W w s → RSt W w σ σc →
    (aPairs fs σ s).Post (fun ps s' => ∀ w' qs, Ext w w' → Sim W w' s' → Paired (fun (p : AV × AV) (q : V × V) => Rel W w' p.1 q.1 ∧ Rel W w' p.2 q.2) ps qs → Q qs w'.H) (ErrP W w (E σc)) → tPairs ts σc w.H Q := by
  induction d with
  | nil => exact fun w s σ σc Q S R h => h w [] (.refl w) S .nil
  | @cons tk tv fk fv ts fs hk hv r ih =>
    intro w s σ σc Q S R h
    refine hk w s σ σc _ S R ((post_bind_ok h).mono (fun x s1 h1 w1 v e1 S1 r1 => ?_) fun _ _ _ _ z => z)
    refine hv w1 s1 σ σc _ S1 (R.mono e1) ((post_bind_ok h1).mono (fun y s2 h2 w2 u e2 S2 r2 => ?_) fun _ _ _ _ z => z.mono e1)
    refine ih w2 s2 σ σc _ S2 ((R.mono e1).mono e2) ((post_bind_ok h2).mono (fun ps s3 h3 w3 qs e3 S3 r3 => ?_) fun _ _ _ _ z => (z.mono e1).mono e2)
    exact h3 w3 _ ((e1.trans e2).trans e3) S3 (.cons ⟨(r1.mono e2).mono e3, r2.mono e3⟩ r3)
theorem keys_rel {w : Wd} : ∀ {ps : List (AV × AV)} {qs : List (V × V)} {kvs : List (Key × AV)}, Paired (fun (p : AV × AV) (q : V × V) => Rel W w p.1 q.1 ∧ Rel W w p.2 q.2) ps qs → keysA ps = some kvs → ∃ gs : List (Key × V), qs = gs.map (fun kv => (kV kv.1, kv.2)) ∧ RelK W w kvs gs
  | _, _, _, .nil, e => by cases e; exact ⟨[], rfl, .nil⟩
  | (x, y) :: r, (v, u) :: r', _, .cons h t, e => by
    unfold keysA at e
    split at e
    · rename_i k ks e1 e2
      cases e
      obtain ⟨gs, h1, h2⟩ := keys_rel t e2
      refine ⟨(k, u) :: gs, ?_, .cons ⟨rfl, h.2⟩ h2⟩
      rw [List.map_cons, ← h1]
      rw [show v = kV k from key_rel h.1 e1]
    · cases e
theorem merge_rel {w : Wd} : ∀ {more : List (Key × AV)} {moreC : List (Key × V)} {kvs : List (Key × AV)} {gs : List (Key × V)}, RelK W w more moreC → RelK W w kvs gs → RelK W w (mergeA kvs more) (mergeK gs moreC)
  | _, _, _, _, .nil, h => h
  | (k, x) :: r, (k', v) :: r', kvs, gs, .cons h t, h2 => by
    cases (show k = k' from h.1)
    show RelK W w (mergeA (putKA kvs k x) r) (mergeK (putK gs k v) r')
    exact merge_rel t (putK_rel h.2 h2)
theorem DE.disp {ts : List (TE × TE)} {fs : List (AE × AE)} (d : DPs W E ts fs) : DE W E (tDisp ts) (aDisp fs) := fun w s σ σc Q S R h p hp => by
  have g := grow_upd (o := .dK []) hp
  have e0 : Ext w (w.new p (upd w.H p (.dK []))) := .new g
  have S0 : Sim W (w.new p (upd w.H p (.dK []))) (s.new (.dic [])) := S.new hp g upd_same (.dic .nil)
  have r0 : Rel W (w.new p (upd w.H p (.dK []))) (.obj s.n) (.ref p) := Rel.new p _ S.n
  refine d.run (w.new p (upd w.H p (.dK []))) _ σ σc _ S0 (R.mono e0) ((post_bind_ok h).mono (fun ps s1 h1 w1 qs e1 S1 r1 => ?_) fun _ _ _ _ z => z.mono e0)
  split at h1
  · rename_i kvs ec ek
    split at h1
    · rename_i hl
      obtain ⟨gs, q1, q2⟩ := keys_rel r1 ek
      obtain ⟨o, k1, k2, k3, k4⟩ := cell_at S1 (r0.mono e1) ec
      have ep : p = w1.m s.n := by cases k2; rfl
      cases k4 with
      | dic r =>
        cases r
        refine ⟨by rw [ep]; exact k3, gs, q1, by rw [← Paired.length q2]; exact hl, ?_⟩
        have S2 := S1.wr (o := .dK (mergeK [] gs)) k1 (.dic (merge_rel q2 .nil))
        have e2 := Ext.wr (o := .dK (mergeK [] gs)) S1 k1
        have r2 := (r0.mono e1).mono e2
        rw [← ep] at S2 e2
        exact h1 _ _ ((e0.trans e1).trans e2) S2 (by rw [ep] at *; exact r2)
    · exact (show False from h1).elim
  · exact (show False from h1).elim
end
end
end Ab
set_option Elab.async false
set_option linter.all false
set_option maxRecDepth 100000
set_option maxHeartbeats 1000000
namespace Ab
open PySem PySem.Spec PyProof.Rows L2
open Classical
noncomputable section
def ItW (W : Wl) (w0 : Wd) (J : It) (items : List AV) (G : Sto → Prop) : Prop :=
  ∃ (n : Nat) (GC : Hp → Prop) (Y : Nat → Hp → V → Hp → Prop), Walk J n GC Y ∧ n = items.length ∧ (∀ w s, Ext w0 w → Sim W w s → G s → GC w.H) ∧
    ∀ w s i x H', Ext w0 w → Sim W w s → G s → i < n → Y i w.H x H' → ∃ y w', items[i]? = some y ∧ w'.H = H' ∧ Ext w w' ∧ Sim W w' s ∧ Rel W w' y x
abbrev AI := ASt → Sto → Res (List AV × (Sto → Prop))
def DI (W : Wl) (E : L2.St → XK) (wi : TI) (fi : AI) : Prop := ∀ (w : Wd) (s : Sto) (σ : ASt) (σc : L2.St) (R : It → Hp → Prop), Sim W w s → RSt W w σ σc →
  (fi σ s).Post (fun p s' => ∀ w' J, Ext w w' → Sim W w' s' → ItW W w' J p.1 p.2 → R J w'.H) (ErrP W w (E σc)) → wi σc w.H R
/-- x for x in a list, a tuple, a text -/
def signs (z : Str) : List AV := z.cps.toList.map fun c => .str ⟨#[c]⟩
def iterOf (x : AV) (s1 : Sto) : Res (List AV × (Sto → Prop)) := match x with
  | .tup xs => .ok (xs, fun _ => True) s1
  | .scr xs => .ok (xs, fun _ => True) s1
  | .str z => .ok (signs z, fun _ => True) s1
  | _ => match lstOf s1 x with | some xs => .ok (xs, fun s2 => lstOf s2 x = some xs) s1 | none => .stuck
@[simp] theorem iterOf_tup {xs : List AV} {s : Sto} : iterOf (.tup xs) s = .ok (xs, fun _ => True) s := rfl
@[simp] theorem iterOf_scr {xs : List AV} {s : Sto} : iterOf (.scr xs) s = .ok (xs, fun _ => True) s := rfl
@[simp] theorem iterOf_str {z : Str} {s : Sto} : iterOf (.str z) s = .ok (signs z, fun _ => True) s := rfl
def aIter (fa : AE) : AI := fun σ s => (fa σ s).bind iterOf
def iterU (K : PySem.W.Frag) (te : TE) : TI := fun σ H R => iList K te σ H R ∨ iTup K te σ H R ∨ iStr te σ H R
theorem PI.or {X : Cx} {tg e : Expr} {w1 w2 : TI} (h1 : PI X tg e w1) (h2 : PI X tg e w2) : PI X tg e (fun σ H R => w1 σ H R ∨ w2 σ H R) := ⟨fun pins s σ H R I h => h.elim (h1.run pins s σ H R I) (h2.run pins s σ H R I)⟩
theorem itw_list {W : Wl} {w0 : Wd} {s0 : Sto} {x : AV} {a : Addr} {xs : List AV} {vs : List V} (S : Sim W w0 s0) (r : Rel W w0 x (.ref a)) (G : Sto → Prop) (hG : ∀ s, G s → lstOf s x = some xs) : ItW W w0 (Itl W.K a) xs G := by
  refine ⟨xs.length, fun H => ∃ vs, SqL W.K H a vs ∧ vs.length = xs.length, fun i H x H' => H' = H ∧ ∀ ys, SqL W.K H a ys → ys[i]? = some x, ⟨fun i H hi ⟨vs, h1, h2⟩ => ⟨vs, vs[i], h1, by simp⟩, fun H ⟨vs, h1, h2⟩ => ⟨vs, h1, Nat.le_of_eq h2⟩, fun i H x H' hi h y => y⟩, rfl, fun w s e S' g => ?_, fun w s i y H' e S' g hi hy => ?_⟩
  · obtain ⟨a', vs', k1, k2, k3⟩ := lst_at S' (r.mono e) (hG s g)
    cases k1
    exact ⟨vs', k2, k3.length.symm⟩
  · obtain ⟨a', vs', k1, k2, k3⟩ := lst_at S' (r.mono e) (hG s g)
    cases k1
    obtain ⟨rfl, h2⟩ := hy
    obtain ⟨z, z1, z2⟩ := k3.getv i y (h2 vs' k2)
    exact ⟨z, w, z1, rfl, .refl w, S', z2⟩
theorem itw_tup {W : Wl} {w0 : Wd} {a : Addr} {xs : List AV} {vs : List V} (h : SqT W.K w0.H a vs) (r : RelL W w0 xs vs) (G : Sto → Prop) : ItW W w0 (Itt W.K a) xs G := by
  refine ⟨xs.length, fun H => SqT W.K H a vs, fun i H x H' => H' = H ∧ ∀ ys, SqT W.K H a ys → ys[i]? = some x, ⟨fun i H hi h1 => ⟨vs, vs[i]'(by rw [← r.length]; exact hi), h1, by simp⟩, fun H h1 => ⟨vs, h1, Nat.le_of_eq r.length.symm⟩, fun i H x H' hi h y => y⟩, rfl, fun w s e S' g => sqt_ext e h, fun w s i y H' e S' g hi hy => ?_⟩
  obtain ⟨rfl, h2⟩ := hy
  obtain ⟨z, z1, z2⟩ := (r.mono e).getv i y (h2 vs (sqt_ext e h))
  exact ⟨z, w, z1, rfl, .refl w, S', z2⟩
theorem itw_str {W : Wl} {w0 : Wd} {z : Str} (G : Sto → Prop) : ItW W w0 (Its z) (signs z) G := by
  refine ⟨z.cps.size, fun _ => True, _, walk_str, by simp [signs], fun _ _ _ _ _ => trivial, fun w s i y H' e S' g hi hy => ?_⟩
  obtain ⟨rfl, c, h2, rfl⟩ := hy
  refine ⟨.str ⟨#[c]⟩, w, ?_, rfl, .refl w, S', .str _⟩
  unfold signs
  rw [List.getElem?_map, Array.getElem?_toList, h2]
  rfl
section
variable {W : Wl} {E : L2.St → XK} {ta tb : TE} {fa fb : AE} {tr : TA} {fr : AA} {t : TT} {ft : AT} {ts : TS} {fs : AS} {tg : TG} {g : AV → AS} {wi : TI} {fi : AI}
theorem DI.iter (ha : DE W E ta fa) : DI W E (iterU W.K ta) (aIter fa) := fun w s σ σc R S Rs h => by
  cases e : fa σ s with
  | stuck =>
    have : aIter fa σ s = .stuck := by unfold aIter; rw [e]; rfl
    rw [this] at h; exact h.elim
  | err c ns vs s1 =>
    have : aIter fa σ s = .err c ns vs s1 := by unfold aIter; rw [e]; rfl
    rw [this] at h
    exact .inl (ha w s σ σc _ S Rs (by rw [e]; exact h))
  | ok x s1 =>
    have e1 : aIter fa σ s = iterOf x s1 := by unfold aIter; rw [e]; rfl
    rw [e1] at h
    unfold iterOf at h
    split at h
    · refine .inr (.inl (ha w s σ σc _ S Rs ?_))
      rw [e]
      intro w1 v x1 S1 r1
      cases r1 with
      | @tup a _ vs k1 k2 => exact ⟨a, rfl, ⟨vs, k1⟩, h w1 _ x1 S1 (itw_tup k1 k2 _)⟩
    · refine .inl (ha w s σ σc _ S Rs ?_)
      rw [e]
      intro w1 v x1 S1 r1
      cases r1 with
      | @scr a _ vs k1 k2 => exact ⟨a, rfl, ⟨vs, k1.sql⟩, h w1 _ x1 S1 (itw_list (vs := vs) S1 (.scr k1 k2) _ fun _ _ => rfl)⟩
    · refine .inr (.inr (ha w s σ σc _ S Rs ?_))
      rw [e]
      intro w1 v x1 S1 r1
      cases r1 with
      | str => exact ⟨_, rfl, h w1 _ x1 S1 (itw_str _)⟩
    · split at h
      · rename_i xs el
        refine .inl (ha w s σ σc _ S Rs ?_)
        rw [e]
        intro w1 v x1 S1 r1
        obtain ⟨a, vs, rfl, k2, k3⟩ := lst_at S1 r1 el
        exact ⟨a, rfl, ⟨vs, k2⟩, h w1 _ x1 S1 (itw_list (vs := vs) S1 r1 _ fun _ z => z)⟩
      · exact h.elim
/-- ranges -/
def rngA (lo : Int) (n : Nat) : List AV := (List.range n).map fun i => .int (lo + (i : Nat))
def aRng1 (fr : AA) : AI := fun σ s => (fr σ s).bind fun xs s1 => match xs with | [.int j] => if -(2 ^ 62) ≤ j ∧ j < 2 ^ 62 then .ok (rngA 0 j.toNat, fun _ => True) s1 else .stuck | _ => .stuck
def aRng2 (fr : AA) : AI := fun σ s => (fr σ s).bind fun xs s1 => match xs with | [.int i, .int j] => if -(2 ^ 62) ≤ i ∧ i < 2 ^ 62 ∧ -(2 ^ 62) ≤ j ∧ j < 2 ^ 62 then .ok (rngA i (j - i).toNat, fun _ => True) s1 else .stuck | _ => .stuck
theorem itw_rng {w0 : Wd} {lo : Int} {n : Nat} (G : Sto → Prop) : ItW W w0 (Itr lo n) (rngA lo n) G := by
  refine ⟨n, fun _ => True, _, walk_range, by simp [rngA], fun _ _ _ _ _ => trivial, fun w s i y H' e S' g hi hy => ?_⟩
  obtain ⟨rfl, rfl⟩ := hy
  refine ⟨.int (lo + i), w, ?_, rfl, .refl w, S', .int _⟩
  unfold rngA
  rw [List.getElem?_map, List.getElem?_range hi]
  rfl
theorem DI.rng1 (ha : DA W E tr fr) : DI W E (iRng1 tr) (aRng1 fr) := fun w s σ σc R S Rs h => by
  refine ha w s σ σc _ S Rs ((post_bind_ok h).mono (fun xs s1 h1 w1 vs e1 S1 r1 => ?_) fun _ _ _ _ z => z)
  split at h1
  · split at h1
    · rename_i hl
      cases r1 with
      | cons r1 r2 =>
        cases r1; cases r2
        exact ⟨_, rfl, hl.1, hl.2, h1 w1 _ e1 S1 (itw_rng _)⟩
    · exact (show False from h1).elim
  · exact (show False from h1).elim
/-- enumerate -/
def enumA (xs : List AV) : List AV := xs.mapIdx fun i x => .tup [.int (i : Nat), x]
def aEnum (fr : AA) : AI := fun σ s => (fr σ s).bind fun xs s1 => match xs with | [x] => (match lstOf s1 x with | some ys => .ok (enumA ys, fun s2 => lstOf s2 x = some ys) s1 | none => .stuck) | _ => .stuck
theorem DI.enum (ha : DA W E tr fr) : DI W E (iEnum W.K tr) (aEnum fr) := fun w s σ σc R S Rs h => by
  refine ha w s σ σc _ S Rs ((post_bind_ok h).mono (fun xs s1 h1 w1 vs e1 S1 r1 => ?_) fun _ _ _ _ z => z)
  split at h1
  · rename_i x
    split at h1
    · rename_i ys el
      cases r1 with
      | cons r1 r2 =>
        cases r2
        obtain ⟨a, us, rfl, k2, k3⟩ := lst_at S1 r1 el
        refine ⟨a, us, rfl, k2, h1 w1 _ e1 S1 ?_⟩
        refine ⟨ys.length, fun H => ∃ vs, SqL W.K H a vs ∧ vs.length = ys.length, fun i H v H' => ∃ T x, v = .ref T ∧ H T = none ∧ H' = upd H T (.tup [.int (i : Nat), x]) ∧ ∀ xs, SqL W.K H a xs → xs[i]? = some x, ⟨fun i H hi ⟨vs, h1, h2⟩ => ⟨vs, vs[i], h1, by simp⟩, fun H ⟨vs, h1, h2⟩ => ⟨vs, h1, Nat.le_of_eq h2⟩, fun i H x H' hi h y => y⟩, by simp [enumA], fun w s e S' g => ?_, fun w s i y H' e S' g hi hy => ?_⟩
        · obtain ⟨a', vs', z1, z2, z3⟩ := lst_at S' (r1.mono e) g
          cases z1
          exact ⟨vs', z2, z3.length.symm⟩
        · obtain ⟨a', vs', z1, z2, z3⟩ := lst_at S' (r1.mono e) g
          cases z1
          obtain ⟨T, u, rfl, hT, rfl, h2⟩ := hy
          obtain ⟨z, y1, y2⟩ := z3.getv i u (h2 vs' z2)
          have gr := grow_upd (o := .tup [.int (i : Nat), u]) hT
          refine ⟨.tup [.int (i : Nat), z], _, ?_, rfl, .grow gr, S'.grow gr, .tup (.inl (.inl upd_same)) (.cons (.int _) (.cons (y2.mono (.grow gr)) .nil))⟩
          unfold enumA
          rw [List.getElem?_mapIdx, y1]
          rfl
    · exact (show False from h1).elim
  · exact (show False from h1).elim
/-- zip of two lists, or of two tuples -/
def zipA (xs ys : List AV) : List AV := (xs.zip ys).map fun p => .tup [p.1, p.2]
def aZip (fr : AA) : AI := fun σ s => (fr σ s).bind fun xs s1 => match xs with
  | [.tup a, .tup b] => .ok (zipA a b, fun _ => True) s1
  | [x, y] => (match lstOf s1 x, lstOf s1 y with | some a, some b => .ok (zipA a b, fun s2 => lstOf s2 x = some a ∧ lstOf s2 y = some b) s1 | _, _ => .stuck)
  | _ => .stuck
theorem zip_get {xs ys : List AV} {i : Nat} {x y : AV} (h1 : xs[i]? = some x) (h2 : ys[i]? = some y) : (zipA xs ys)[i]? = some (.tup [x, y]) := by
  unfold zipA
  rw [List.getElem?_map, show (xs.zip ys)[i]? = some (x, y) from List.getElem?_zip_eq_some.mpr ⟨h1, h2⟩]
  rfl
theorem DI.zip (ha : DA W E tr fr) : DI W E (RZ.iZipA W.K tr) (aZip fr) := fun w s σ σc R S Rs h => by
  refine ha w s σ σc _ S Rs ((post_bind_ok h).mono (fun xs s1 h1 w1 vs e1 S1 r1 => ?_) fun _ _ _ _ z => z)
  split at h1
  · rename_i xa xb
    cases r1 with
    | cons r1 r2 =>
      cases r2 with
      | cons r2 r3 =>
        cases r3
        cases r1 with
        | @tup a _ vs a1 a2 =>
          cases r2 with
          | @tup b _ us b1 b2 =>
            refine ⟨a, b, vs, us, rfl, .inr ⟨a1, b1, h1 w1 _ e1 S1 ?_⟩⟩
            refine ⟨min vs.length us.length, fun H => SqT W.K H a vs ∧ SqT W.K H b us, YPair (fun i => vs[i]?) (fun i => us[i]?), ?_, ?_, fun w s e S' g => ⟨sqt_ext e a1, sqt_ext e b1⟩, fun w s i y H' e S' g hi hy => ?_⟩
            · refine ⟨fun i _ hi q => ?_, fun _ q => ⟨vs, us, q.1, q.2, by omega⟩, fun i H v H' _ q y => ?_⟩
              · have h1 : i < vs.length := by omega
                have h2 : i < us.length := by omega
                exact ⟨vs, us, vs[i], us[i], q.1, q.2, by simp [h1], by simp [h2]⟩
              · obtain ⟨T, x, z, h1, h2, h3, h4, h5⟩ := y
                exact ⟨T, x, z, h1, h2, h3, h4 vs q.1, h5 us q.2⟩
            · simp [zipA, a2.length, b2.length]
            · obtain ⟨T, x, z, rfl, hT, rfl, h4, h5⟩ := hy
              obtain ⟨x', x1, x2⟩ := (a2.mono e).getv i x h4
              obtain ⟨y', y1, y2⟩ := (b2.mono e).getv i z h5
              have gr := grow_upd (o := .tup [x, z]) hT
              exact ⟨.tup [x', y'], _, zip_get x1 y1, rfl, .grow gr, S'.grow gr, .tup (.inl (.inl upd_same)) (.cons (x2.mono (.grow gr)) (.cons (y2.mono (.grow gr)) .nil))⟩
  · rename_i x y _
    split at h1
    · rename_i xa xb ea eb
      cases r1 with
      | cons r1 r2 =>
        cases r2 with
        | cons r2 r3 =>
          cases r3
          obtain ⟨a, vs, rfl, a2, a3⟩ := lst_at S1 r1 ea
          obtain ⟨b, us, rfl, b2, b3⟩ := lst_at S1 r2 eb
          refine ⟨a, b, vs, us, rfl, .inl ⟨a2, b2, h1 w1 _ e1 S1 ?_⟩⟩
          refine ⟨min xa.length xb.length, fun H => (∃ vs, SqL W.K H a vs ∧ vs.length = xa.length) ∧ ∃ us, SqL W.K H b us ∧ us.length = xb.length, fun i H v H' => ∃ T x y, v = .ref T ∧ H T = none ∧ H' = upd H T (.tup [x, y]) ∧ (∀ xs, SqL W.K H a xs → xs[i]? = some x) ∧ ∀ ys, SqL W.K H b ys → ys[i]? = some y, ?_, ?_, fun w s e S' g => ?_, fun w s i y H' e S' g hi hy => ?_⟩
          · refine ⟨fun i _ hi ⟨⟨vs, q1, q2⟩, us, q3, q4⟩ => ?_, fun _ ⟨⟨vs, q1, q2⟩, us, q3, q4⟩ => ⟨vs, us, q1, q3, by omega⟩, fun i H v H' _ q y => y⟩
            have h1 : i < vs.length := by omega
            have h2 : i < us.length := by omega
            exact ⟨vs, us, vs[i], us[i], q1, q3, by simp [h1], by simp [h2]⟩
          · simp [zipA]
          · obtain ⟨a', vs', z1, z2, z3⟩ := lst_at S' (r1.mono e) g.1
            obtain ⟨b', us', y1, y2, y3⟩ := lst_at S' (r2.mono e) g.2
            cases z1; cases y1
            exact ⟨⟨vs', z2, z3.length.symm⟩, us', y2, y3.length.symm⟩
          · obtain ⟨a', vs', z1, z2, z3⟩ := lst_at S' (r1.mono e) g.1
            obtain ⟨b', us', y1, y2, y3⟩ := lst_at S' (r2.mono e) g.2
            cases z1; cases y1
            obtain ⟨T, x, z, rfl, hT, rfl, h4, h5⟩ := hy
            obtain ⟨x', x1, x2⟩ := z3.getv i x (h4 vs' z2)
            obtain ⟨y', q1, q2⟩ := y3.getv i z (h5 us' y2)
            have gr := grow_upd (o := .tup [x, z]) hT
            exact ⟨.tup [x', y'], _, zip_get x1 q1, rfl, .grow gr, S'.grow gr, .tup (.inl (.inl upd_same)) (.cons (x2.mono (.grow gr)) (.cons (q2.mono (.grow gr)) .nil))⟩
    · exact (show False from h1).elim
  · exact (show False from h1).elim
def SRes.loop : SRes → AS → SRes
  | .nx σ s, k => k σ s
  | .ct σ s, k => k σ s
  | .bk σ s, _ => .nx σ s
  | .rt v s, _ => .rt v s
  | .err c ns vs σ s, _ => .err c ns vs σ s
  | .stuck, _ => .stuck
@[simp] theorem SRes.loop_nx {σ : ASt} {s : Sto} {f : AS} : (SRes.nx σ s).loop f = f σ s := rfl
@[simp] theorem SRes.loop_ct {σ : ASt} {s : Sto} {f : AS} : (SRes.ct σ s).loop f = f σ s := rfl
@[simp] theorem SRes.loop_bk {σ : ASt} {s : Sto} {f : AS} : (SRes.bk σ s).loop f = .nx σ s := rfl
@[simp] theorem SRes.loop_rt {v : AV} {s : Sto} {f : AS} : (SRes.rt v s).loop f = .rt v s := rfl
@[simp] theorem SRes.loop_err {c : String} {ns : List Str} {vs : List AV} {σ : ASt} {s : Sto} {f : AS} : (SRes.err c ns vs σ s).loop f = .err c ns vs σ s := rfl
@[simp] theorem SRes.loop_stuck {f : AS} : SRes.stuck.loop f = .stuck := rfl
theorem P_loop {r : SRes} {k : AS} {w : Wd} {D : Ends} (h : (r.loop k).P W w D E) (N : L2.St → Hp → Prop) (hN : ∀ w' σ σc s, Ext w w' → Sim W w' s → RSt W w' σ σc → (k σ s).P W w D E → N σc w'.H) : r.P W w { D with nx := N, ct := N, bk := D.nx } E := by
  cases r with
  | nx σ s => exact fun w' σc e S R => hN w' σ σc s e S R h
  | ct σ s => exact fun w' σc e S R => hN w' σ σc s e S R h
  | bk σ s => exact h
  | rt v s => exact h
  | err c ns vs σ s => exact h
  | stuck => exact h
def forI (G : Sto → Prop) (g : AV → AS) (b : AS) : List AV → AS
  | [] => fun σ s => if G s then .nx σ s else .stuck
  | x :: r => fun σ s => if G s then (aSeq (g x) b σ s).loop (forI G g b r) else .stuck
theorem forI_nil {G : Sto → Prop} {g : AV → AS} {b : AS} {σ : ASt} {s : Sto} (h : G s) : forI G g b [] σ s = .nx σ s := if_pos h
theorem forI_cons {G : Sto → Prop} {g : AV → AS} {b : AS} {x : AV} {r : List AV} {σ : ASt} {s : Sto} (h : G s) : forI G g b (x :: r) σ s = (aSeq (g x) b σ s).loop (forI G g b r) := if_pos h
def aFor (fi : AI) (g : AV → AS) (b : AS) : AS := fun σ s => (fi σ s).st σ fun p s1 => forI p.2 g b p.1 σ s1
theorem goes_nx {r : SRes} {w : Wd} {D : Ends} {k : AS} (h : (r.thn k).P W w D E) (g : (∃ σ' s', r = .nx σ' s') ∨ r = .stuck) (Q : L2.St → Hp → Prop) (hQ : ∀ w' σ σc s, Ext w w' → Sim W w' s → RSt W w' σ σc → (k σ s).P W w' D E → Q σc w'.H) : r.P W w ⟨Q, fun _ _ => False, fun _ _ => False, fun _ _ => False⟩ (fun _ _ _ _ => False) := by
  rcases g with ⟨σ', s', rfl⟩ | rfl
  · exact fun w' σc e S R => hQ w' σ' σc s' e S R (P.mono e h)
  · exact h
theorem DS.forS (hi : DI W E wi fi) (hg : DG W tg g) (hn : Goes g) (hb : DS W E ts fs) : DS W E (tFor wi tg ts) (aFor fi g fs) := fun w s σ σc D S R h => by
  refine hi w s σ σc _ S R ((exp_post R h).mono (fun p s1 h1 w1 J e1 S1 it => ?_) fun _ _ _ _ z => z)
  obtain ⟨items, G⟩ := p
  obtain ⟨n, GC, Y, wk, hn', hG, hY⟩ := it
  simp only at hn' hG hY h1
  refine for_it wk (fun i σc H => ∃ w' s' σ', H = w'.H ∧ Ext w1 w' ∧ Sim W w' s' ∧ RSt W w' σ' σc ∧ (forI G g fs (items.drop i) σ' s').P W w' D E) ⟨w1, s1, σ, rfl, .refl w1, S1, R.mono e1, by rw [List.drop_zero]; exact P.mono e1 h1⟩ ?_ ?_ ?_
  · rintro i σc' H hi ⟨w', s', σ', rfl, e', S', R', h'⟩
    refine hG w' s' e' S' ?_
    refine Classical.byContradiction fun ng => ?_
    cases hd : items.drop i with
    | nil => rw [hd] at h'; exact (show False from by unfold forI at h'; rw [if_neg ng] at h'; exact h')
    | cons x r => rw [hd] at h'; exact (show False from by unfold forI at h'; rw [if_neg ng] at h'; exact h')
  · rintro i x σc' H H' hi ⟨w', s', σ', rfl, e', S', R', h'⟩ hy
    have hg' : G s' := Classical.byContradiction fun ng => by
      cases hd : items.drop i with
      | nil => rw [hd] at h'; exact (show False from by unfold forI at h'; rw [if_neg ng] at h'; exact h')
      | cons x r => rw [hd] at h'; exact (show False from by unfold forI at h'; rw [if_neg ng] at h'; exact h')
    obtain ⟨y, w2, q1, rfl, e2, S2, r2⟩ := hY w' s' i x H' e' S' hg' hi hy
    have hd : items.drop i = y :: items.drop (i + 1) := by
      obtain ⟨hlt, q⟩ := List.getElem?_eq_some_iff.mp q1
      rw [List.drop_eq_getElem_cons hlt, q]
    rw [hd, forI_cons hg'] at h'
    have R2 := R'.mono e2
    refine hg w2 s' σ' σc' y x _ S2 R2 r2 ?_
    have h2 := P.mono e2 h'
    have h3 := P_loop h2 (fun σc H => ∃ w3 s3 σ3, H = w3.H ∧ Ext w1 w3 ∧ Sim W w3 s3 ∧ RSt W w3 σ3 σc ∧ (forI G g fs (items.drop (i + 1)) σ3 s3).P W w3 D E) (fun w3 σ3 σc3 s3 e3 S3 R3 k3 => ⟨w3, s3, σ3, rfl, (e'.trans e2).trans e3, S3, R3, P.mono e3 k3⟩)
    exact goes_nx h3 (hn y σ' s') _ fun w3 σ3 σc3 s3 e3 S3 R3 k3 => hb w3 s3 σ3 σc3 _ S3 R3 k3
  · rintro σc' H ⟨w', s', σ', rfl, e', S', R', h'⟩
    rw [hn', List.drop_length] at h'
    unfold forI at h'
    split at h'
    · exact h' w' σc' (.refl w') S' R'
    · exact (show False from h').elim
def whileN (c : AT) (b : AS) : Nat → AS
  | 0 => fun _ _ => .stuck
  | k + 1 => fun σ s => (c σ s).st σ fun r s1 => if r = true then (b σ s1).loop (whileN c b k) else .nx σ s1
def aWhile (c : AT) (b : AS) : AS := fun σ s => if h : ∃ k, whileN c b k σ s ≠ .stuck then whileN c b (Classical.choose h) σ s else .stuck
theorem loop_mono {r : SRes} {k1 k2 : AS} (h : ∀ σ s, k1 σ s ≠ .stuck → k2 σ s = k1 σ s) (n : r.loop k1 ≠ .stuck) : r.loop k2 = r.loop k1 := by
  cases r with
  | nx σ s => exact h σ s n
  | ct σ s => exact h σ s n
  | _ => rfl
theorem whileN_succ {c : AT} {b : AS} : ∀ (k : Nat) (σ : ASt) (s : Sto), whileN c b k σ s ≠ .stuck → whileN c b (k + 1) σ s = whileN c b k σ s
  | 0, σ, s, h => absurd rfl h
  | k + 1, σ, s, h => by
    have h' : (c σ s).st σ (fun r s1 => if r = true then (b σ s1).loop (whileN c b k) else .nx σ s1) ≠ .stuck := h
    show (c σ s).st σ (fun r s1 => if r = true then (b σ s1).loop (whileN c b (k + 1)) else .nx σ s1) = (c σ s).st σ (fun r s1 => if r = true then (b σ s1).loop (whileN c b k) else .nx σ s1)
    cases e : c σ s with
    | ok r s1 =>
      rw [e] at h'
      simp only [Res.st_ok] at h' ⊢
      cases r with
      | true =>
        simp only [if_pos] at h' ⊢
        exact loop_mono (whileN_succ k) h'
      | false => rfl
    | err => rfl
    | stuck => rfl
theorem DS.whileS (hc : DT W E t ft) (hb : DS W E ts fs) : DS W E (tWhile t ts) (aWhile ft fs) := fun w s σ σc D S R h => by
  unfold aWhile at h
  split at h
  · rename_i hex
    refine ⟨fun m σc H => ∃ w' s' σ', H = w'.H ∧ Ext w w' ∧ Sim W w' s' ∧ RSt W w' σ' σc ∧ (whileN ft fs m σ' s').P W w' D E, ⟨_, w, s, σ, rfl, .refl w, S, R, h⟩, ?_⟩
    rintro m σc' H ⟨w', s', σ', rfl, e', S', R', h'⟩
    cases m with
    | zero => exact (show False from h').elim
    | succ m =>
      have h' : ((ft σ' s').st σ' fun r s1 => if r = true then (fs σ' s1).loop (whileN ft fs m) else .nx σ' s1).P W w' D E := h'
      refine hc w' s' σ' σc' _ S' R' ((exp_post R' h').mono (fun b s1 hb1 w1 e1 S1 => ?_) fun _ _ _ _ z => z)
      cases b with
      | false => exact iteF ((show (SRes.nx σ' s1).P W w' D E from by simpa using hb1) w1 σc' e1 S1 (R'.mono e1))
      | true =>
        refine iteT ⟨fun σc H => ∃ w3 s3 σ3, H = w3.H ∧ Ext w w3 ∧ Sim W w3 s3 ∧ RSt W w3 σ3 σc ∧ (whileN ft fs m σ3 s3).P W w3 D E, fun σ2 H2 z => ⟨m, Nat.lt_succ_self m, z⟩, ?_⟩
        have h2 : ((fs σ' s1).loop (whileN ft fs m)).P W w1 D E := P.mono e1 (by simpa using hb1)
        exact hb w1 s1 σ' σc' _ S1 (R'.mono e1) (P_loop h2 _ fun w3 σ3 σc3 s3 e3 S3 R3 k3 => ⟨w3, s3, σ3, rfl, (e'.trans e1).trans e3, S3, R3, P.mono e3 k3⟩)
  · exact h.elim
end
end
end Ab
set_option Elab.async false
set_option linter.all false
set_option maxRecDepth 100000
set_option maxHeartbeats 1000000
namespace Ab
open PySem PySem.Spec PyProof.Rows L2
open Classical
noncomputable section
theorem wipe_get (σ : L2.St) (j : Nat) : ∀ vs : List Nat, (wipe σ vs)[j]? = if j ∈ vs ∧ j < σ.length then some none else σ[j]?
  | [] => by simp [wipe]
  | v :: vs => by
    have ih := wipe_get σ j vs
    have hl := wipe_length σ vs
    show ((wipe σ vs).set v none)[j]? = _
    rw [List.getElem?_set, hl, ih]
    by_cases hv : v = j
    · subst hv
      by_cases hj : v < σ.length
      · simp [hj]
      · simp [hj]
    · have : (j ∈ v :: vs) = (j ∈ vs) := by
        simp only [List.mem_cons, eq_iff_iff]
        exact ⟨fun z => z.elim (fun z => absurd z.symm hv) id, .inr⟩
      simp only [if_neg hv, this]
theorem wipe_set {σ : L2.St} {i : Nat} {x : Option V} {vs : List Nat} (h : i ∈ vs) : wipe (σ.set i x) vs = wipe σ vs := by
  refine List.ext_getElem? fun j => ?_
  rw [wipe_get, wipe_get, List.length_set, List.getElem?_set]
  by_cases hij : i = j
  · subst hij
    by_cases hl : i < σ.length
    · simp [h, hl]
    · simp [hl]
  · simp [hij]
theorem wipe_wipe {σ : L2.St} {vs : List Nat} : wipe (wipe σ vs) vs = wipe σ vs := by
  refine List.ext_getElem? fun j => ?_
  rw [wipe_get, wipe_length]
  by_cases h : j ∈ vs ∧ j < σ.length
  · rw [if_pos h, wipe_get, if_pos h]
  · rw [if_neg h]
/-- a target that stores in these slots alone -/
def WT (tg : TG) (vs : List Nat) : Prop := ∀ v σ H (Q Q' : L2.St → Hp → Prop), (∀ σ2 H2, wipe σ2 vs = wipe σ vs → Q σ2 H2 → Q' σ2 H2) → tg v σ H Q → tg v σ H Q'
def WTs (tg : TGs) (vs : List Nat) : Prop := ∀ v σ H (Q Q' : L2.St → Hp → Prop), (∀ σ2 H2, wipe σ2 vs = wipe σ vs → Q σ2 H2 → Q' σ2 H2) → tg v σ H Q → tg v σ H Q'
theorem WT.name {i : Nat} {vs : List Nat} (h : i ∈ vs) : WT (gName i) vs := fun v σ H Q Q' f q => f _ _ (wipe_set h) q
theorem WTs.nil {vs : List Nat} : WTs gNil vs := fun v σ H Q Q' f q => ⟨q.1, f _ _ rfl q.2⟩
theorem WTs.cons {t : TG} {u : TGs} {vs : List Nat} (h1 : WT t vs) (h2 : WTs u vs) : WTs (gCons t u) vs := fun v σ H Q Q' f q => by
  obtain ⟨x, r, e, q⟩ := q
  exact ⟨x, r, e, h1 x σ H _ _ (fun σ2 H2 e2 q2 => h2 r σ2 H2 Q Q' (fun σ3 H3 e3 q3 => f σ3 H3 (e3.trans e2) q3) q2) q⟩
theorem WT.tup {K : PySem.W.Frag} {n : Nat} {u : TGs} {vs : List Nat} (h : WTs u vs) : WT (gTup K n u) vs := fun v σ H Q Q' f q => by
  obtain ⟨a, xs, e, h1, h2, q⟩ := q
  exact ⟨a, xs, e, h1, h2, h xs σ H Q Q' f q⟩
def aYes : AT := fun _ s => .ok true s
theorem DT.yes {W : Wl} {E : L2.St → XK} : DT W E tYes aYes := fun w s σ σc Q S R h => h w (.refl w) S
def lcI (k : Nat) (G : Sto → Prop) (g : AV → AS) (ft : AT) (fe : AE) (σ0 : ASt) : List AV → Sto → Option Sto
  | [] => fun s => if G s then some s else none
  | x :: r => fun s => if G s then (match g x σ0 s with
    | .nx σ2 s2 => (match ft σ2 s2 with
      | .ok true s3 => (match fe σ2 s3 with
        | .ok y s4 => (match s4.c k with | .lst acc => if acc.length < sizeLine then lcI k G g ft fe σ0 r (s4.set k (.lst (acc ++ [y]))) else none | _ => none)
        | _ => none)
      | .ok false s3 => lcI k G g ft fe σ0 r s3
      | _ => none)
    | _ => none) else none
def oObj (k : Nat) : Option Sto → Res AV
  | some s => .ok (.obj k) s
  | none => .stuck
@[simp] theorem oObj_some {k : Nat} {s : Sto} : oObj k (some s) = .ok (.obj k) s := rfl
def aLc (fi : AI) (g : AV → AS) (ft : AT) (fe : AE) (vs : List Nat) : AE := fun σ s => (fi σ s).bind fun p s1 => oObj s1.n (lcI s1.n p.2 g ft fe (wipeA σ vs) p.1 (s1.new (.lst [])))
section
variable {W : Wl} {E : L2.St → XK} {ta tb te : TE} {fa fb fe : AE} {tr : TA} {fr : AA} {t : TT} {ft : AT} {ts : TS} {fs : AS} {tg : TG} {g : AV → AS} {wi : TI} {fi : AI}
theorem lcI_G {k : Nat} {G : Sto → Prop} {σ0 : ASt} {l : List AV} {s s' : Sto} (h : lcI k G g ft fe σ0 l s = some s') : G s := Classical.byContradiction fun ng => by
  cases l with
  | nil => rw [show lcI k G g ft fe σ0 [] s = none from if_neg ng] at h; cases h
  | cons x r =>
    unfold lcI at h
    rw [if_neg ng] at h
    cases h
theorem DE.lc {vs : List Nat} (hi : DI W E wi fi) (hg : DG W tg g) (hn : Goes g) (hw : WT tg vs) (ht : DT W (fun _ _ _ _ => False) t ft) (he : DE W (fun _ _ _ _ => False) te fe) : DE W E (tLc wi tg t te vs) (aLc fi g ft fe vs) := fun w s σ σc Q S R h => by
  refine hi w s σ σc _ S R ((post_bind_ok h).mono (fun p s1 h1 w1 J e1 S1 it => ?_) fun _ _ _ _ z => z)
  obtain ⟨items, G⟩ := p
  obtain ⟨n, GC, Y, wk, hn', hG, hY⟩ := it
  simp only at hn' hG hY h1
  cases el : lcI s1.n G g ft fe (wipeA σ vs) items (s1.new (.lst [])) with
  | none => rw [el] at h1; exact (show False from h1).elim
  | some sf =>
    rw [el] at h1
    have h1 : OkP W w Q (.obj s1.n) sf := h1
    intro D hD
    have gr := grow_upd (o := .lst []) hD
    have e2 : Ext w1 (w1.new D (upd w1.H D (.lst []))) := .new gr
    have S2 : Sim W (w1.new D (upd w1.H D (.lst []))) (s1.new (.lst [])) := S1.new hD gr upd_same (.lst .nil)
    have rD : Rel W (w1.new D (upd w1.H D (.lst []))) (.obj s1.n) (.ref D) := Rel.new D _ S1.n
    refine lc_it wk (fun i H => ∃ w' s', H = w'.H ∧ Ext (w1.new D (upd w1.H D (.lst []))) w' ∧ Sim W w' s' ∧ lcI s1.n G g ft fe (wipeA σ vs) (items.drop i) s' = some sf) ⟨_, _, rfl, .refl _, S2, by rw [List.drop_zero]; exact el⟩ ?_ ?_ ?_
    · rintro i H hi ⟨w', s', rfl, e', S', h'⟩
      exact hG w' s' (e2.trans e') S' (lcI_G h')
    · rintro i x H H' hi ⟨w', s', rfl, e', S', h'⟩ hy
      have hg' := lcI_G h'
      obtain ⟨y, w2, q1, rfl, e3, S3, r3⟩ := hY w' s' i x H' (e2.trans e') S' hg' hi hy
      have hd : items.drop i = y :: items.drop (i + 1) := by
        obtain ⟨hlt, q⟩ := List.getElem?_eq_some_iff.mp q1
        rw [List.drop_eq_getElem_cons hlt, q]
      rw [hd] at h'
      unfold lcI at h'
      rw [if_pos hg'] at h'
      have R3 : RSt W w2 (wipeA σ vs) (wipe σc vs) := ((((R.mono e1).mono e2).mono e').mono e3).wipe vs
      refine hw x (wipe σc vs) w2.H _ _ (fun σ2 H2 ew q => ⟨by rw [ew, wipe_wipe], q⟩) (hg w2 s' (wipeA σ vs) (wipe σc vs) y x _ S3 R3 r3 ?_)
      split at h'
      · rename_i σ2 s2 eg
        rw [eg]
        intro w3 σ3c x3 S4 R4
        refine ht w3 s2 σ2 σ3c _ S4 R4 ?_
        split at h'
        · rename_i s3 et
          rw [et]
          intro w4 x4 S5
          refine iteT (he w4 s3 σ2 σ3c _ S5 (R4.mono x4) ?_)
          split at h'
          · rename_i z s4 ee
            rw [ee]
            intro w5 zc x5 S6 r6
            split at h'
            · rename_i acc ec
              split at h'
              · rename_i hl
                have xx := (((e'.trans e3).trans x3).trans x4).trans x5
                obtain ⟨accc, k1, k2, k3, k4⟩ := lstO_at S6 (rD.mono xx) ec
                have ed : D = w5.m s1.n := by cases k2; rfl
                refine ⟨accc, by rw [ed]; exact k3, by rw [← k4.length]; exact hl, ?_⟩
                exact ⟨{ w5 with H := upd w5.H (w5.m s1.n) (.lst (accc ++ [zc])) }, _, by rw [← ed], xx.trans (.wr S6 k1), S6.wr k1 (.lst (k4.append (.cons r6 .nil))), h'⟩
              · cases h'
            · cases h'
          · cases h'
        · rename_i s3 et
          rw [et]
          intro w4 x4 S5
          exact iteF ⟨w4, s3, rfl, ((e'.trans e3).trans x3).trans x4, S5, h'⟩
        · cases h'
      · cases h'
    · rintro H ⟨w', s', rfl, e', S', h'⟩
      rw [hn', List.drop_length] at h'
      have hg' := lcI_G h'
      have : lcI s1.n G g ft fe (wipeA σ vs) [] s' = some s' := if_pos hg'
      rw [this] at h'
      cases h'
      exact h1 w' _ ((e1.trans e2).trans e') S' (rD.mono e')
def bnames : List String := ["NoneType", "bool", "int", "str", "tuple", "list", "dict"]
def cvl (W : Wl) (n : String) : Value := if n ∈ bnames then .type n else .ref (W.κ n)
structure KitOk (W : Wl) (kit : String → String → Option Bool) : Prop where
  kit : ∀ a b r, (a ∈ bnames ∨ a ∈ W.live ∨ a ∈ W.xlive) → kit a b = some r → PySem.W.kitOne W.K (cvl W a) (cvl W b) = some r
  ins : ∀ c ∈ W.live, c ∉ bnames ∧ C8.InsC W.K (W.κ c)
  exc : ∀ c ∈ W.xlive, c ∉ bnames ∧ ExcC W.K (W.κ c)
def tyN (s : Sto) : AV → Option String
  | .non => some "NoneType"
  | .bl _ => some "bool"
  | .int _ => some "int"
  | .str _ => some "str"
  | .tup _ => some "tuple"
  | .obj i => (match s.c i with | .lst _ => some "list" | .dic _ => some "dict" | .ins c _ => some c)
  | .exn c _ _ => some c
  | _ => none
def clsN : AV → Option String
  | .ty n => some n
  | .cls c => some c
  | _ => none
def clsOk : AV → Bool
  | .ty n => decide (n ∈ bnames)
  | .cls n => decide (n ∉ bnames)
  | _ => false
def gIsi (kit : String → String → Option Bool) : List AV → Sto → Res AV := fun xs s => match xs with
  | [x, c] => (match tyN s x, clsN c with | some a, some b => (match kit a b with | some r => if clsOk c = true then .ok (.bl r) s else .stuck | none => .stuck) | _, _ => .stuck)
  | _ => .stuck
theorem NEL.isi {kit : String → String → Option Bool} : NEL (gIsi kit) := fun x s c ns vs s' h => by 
  unfold gIsi at h
  repeat' split at h
  all_goals first | cases h | (unfold newL at h; cases h)
theorem gIsi_ty {kit : String → String → Option Bool} {x : AV} {a n : String} {r : Bool} {s : Sto} (h1 : tyN s x = some a) (h2 : kit a n = some r) (h3 : n ∈ bnames) : gIsi kit [x, .ty n] s = .ok (.bl r) s := by
  unfold gIsi
  simp only [h1, clsN, h2]
  exact if_pos (decide_eq_true h3)
theorem gIsi_cls {kit : String → String → Option Bool} {x : AV} {a n : String} {r : Bool} {s : Sto} (h1 : tyN s x = some a) (h2 : kit a n = some r) (h3 : n ∉ bnames) : gIsi kit [x, .cls n] s = .ok (.bl r) s := by
  unfold gIsi
  simp only [h1, clsN, h2]
  exact if_pos (decide_eq_true h3)
def rIsiU (K : PySem.W.Frag) : List V → Hp → VK → Prop := fun xs H Q => rIsi K xs H Q ∨ Gx.rIsK K xs H Q
theorem call_isiU {X : Cx} : CallR X (.builtin "isinstance") (rIsiU X.K) := CallR.or call_isi Gx.call_isK
theorem sqt_ty {K : PySem.W.Frag} {H : Hp} {a : Addr} {vs : List V} (h : SqT K H a vs) : TyX K H (.ref a) (.type "tuple") := by
  rcases h with (h | ⟨o, h⟩) | ⟨o, its, n, h1, h2, h3, h4⟩
  · exact .base (.tup h)
  · exact .fTuple h
  · exact .kTuple h1 h2
theorem DB.isi {kit : String → String → Option Bool} (ko : KitOk W kit) : DB W (rIsiU W.K) (gIsi kit) := fun w s xs v Q S r h => by
  unfold gIsi at h
  split at h
  · rename_i x c
    cases r with
    | @cons _ vx _ _ r1 r2 => cases r2 with
      | @cons _ vcl _ _ r2 r3 =>
        cases r3
        split at h
        · rename_i a b ea eb
          split at h
          · rename_i rr ek
            split at h
            · rename_i hc
              have hq := h w (.bl rr) (.refl w) S (.bl _)
              have hcl : ∃ u, ClsV vcl u ∧ u = cvl W b := by
                cases r2 with
                | ty =>
                  cases eb
                  exact ⟨_, .ty _, (if_pos (of_decide_eq_true hc)).symm⟩
                | cls =>
                  cases eb
                  exact ⟨_, .own _, (if_neg (of_decide_eq_true hc)).symm⟩
                | _ => cases hc
              obtain ⟨u, u1, rfl⟩ := hcl
              have base : ∀ {T : Value}, TyX W.K w.H vx T → T = cvl W a → (a ∈ bnames ∨ a ∈ W.live ∨ a ∈ W.xlive) → rIsiU W.K [vx, vcl] w.H Q := fun {T} hT e hm => by
                subst e
                exact .inl ⟨vx, vcl, _, _, rr, rfl, u1, hT, ko.kit a b rr hm ek, hq⟩
              cases r1 with
              | non => cases ea; exact base (.base .non) (if_pos (by decide)).symm (.inl (by decide))
              | bl => cases ea; exact base (.base (.bl _)) (if_pos (by decide)).symm (.inl (by decide))
              | int => cases ea; exact base (.base (.int _)) (if_pos (by decide)).symm (.inl (by decide))
              | str => cases ea; exact base (.base (.str _)) (if_pos (by decide)).symm (.inl (by decide))
              | ty => cases ea
              | cls => cases ea
              | raw => cases ea
              | scr => cases ea
              | tup h1 h2 => cases ea; exact base (sqt_ty h1) (if_pos (by decide)).symm (.inl (by decide))
              | @obj i hi =>
                have ea : (match s.c i with | .lst _ => some "list" | .dic _ => some "dict" | .ins c _ => some c : Option String) = some a := ea
                cases ec : s.c i with
                | lst xs =>
                  rw [ec] at ea
                  cases ea
                  obtain ⟨vs, k1, k2, k3, k4⟩ := lstO_at S (.obj hi) ec
                  exact base (.base (.lst k3)) (if_pos (by decide)).symm (.inl (by decide))
                | dic kvs =>
                  rw [ec] at ea
                  cases ea
                  obtain ⟨o, k1, k2, k3, k4⟩ := cell_at S (.obj hi) ec
                  cases k4
                  exact base (.base (.dK k3)) (if_pos (by decide)).symm (.inl (by decide))
                | ins c fs =>
                  rw [ec] at ea
                  cases ea
                  obtain ⟨o, k1, k2, k3, k4⟩ := cell_at S (.obj hi) ec
                  cases k4 with
                  | ins hl rf =>
                    obtain ⟨n1, ic⟩ := ko.ins _ hl
                    exact base (.base (.ins k3 ic.cl ic.ha ic.hn ic.htk ic.hm)) (if_neg n1).symm (.inr (.inl hl))
              | @exn _ ax d ns xs vs hl hx hd hln rv =>
                cases ea
                obtain ⟨n1, ec⟩ := ko.exc _ hl
                refine .inr ⟨ax, _, d, _, vcl, _, rr, rfl, ec, hx, hd, fun u hu => u1.eq hu, ?_, hq⟩
                have := ko.kit _ b rr (.inr (.inr hl)) ek
                rw [show cvl W _ = .ref (W.κ _) from if_neg n1] at this
                exact this
            · exact h.elim
          · exact h.elim
        · exact h.elim
  · exact h.elim
def gBits (x : AV) (s : Sto) : Res AV := match x with | .int i => .ok (.int (Builtin.Int.intBits i : Nat)) s | _ => .stuck
@[simp] theorem gBits_int {i : Int} {s : Sto} : gBits (.int i) s = .ok (.int (Builtin.Int.intBits i : Nat)) s := rfl
/-- raise C(v) -/
def raiseK (c : String) (fl : Str) (σ : ASt) : List AV → Sto → SRes
  | [v], s => .err c [fl] [v] σ s
  | _, _ => .stuck
def aRaise (c : String) (fl : Str) (fr : AA) : AS := fun σ s => (fr σ s).st σ (raiseK c fl σ)
theorem DS.raise {c : String} {fl : Str} {Wx : WX} (hc : c ∈ W.xlive) (ha : DA W (fun σ cls d H => Wx cls d σ H) tr fr) : DS W (fun σ cls d H => Wx cls d σ H) (fun _ σ H => tMkO (W.κ c) (Gx.spExc (W.κ c) fl) [] tr σ H fun cls d H' => Wx cls d σ H') (aRaise c fl fr) := fun w s σ σc D S R h => by
  refine ha w s σ σc _ S R ((exp_post R h).mono (fun xs s1 h1 w1 vs e1 S1 r1 => ?_) fun _ _ _ _ z => z)
  match xs, vs, r1, h1 with
  | [x], [v], .cons rx .nil, h1 =>
    refine Gx.mkO (C := W.κ c) (fl := fl) (v := v) (H := w1.H) (Q := fun cls d H' => Wx cls d σc H') fun d H' hd ex k => ?_
    exact h1 { w1 with H := H' } σc d (e1.trans (.grow ex)) (S1.grow ex) ((R.mono e1).mono (.grow ex)) ⟨hc, [v], k, rfl, .cons (rx.mono (.grow ex)) .nil⟩
/-- what is caught -/
abbrev HdA := (String → Option Bool) × Option Nat × AS
def SRes.clr (i : Nat) : SRes → SRes
  | .nx σ s => .nx (σ.set i none) s
  | .bk σ s => .bk (σ.set i none) s
  | .ct σ s => .ct (σ.set i none) s
  | .rt v s => .rt v s
  | _ => .stuck
@[simp] theorem SRes.clr_nx {i : Nat} {σ : ASt} {s : Sto} : (SRes.nx σ s).clr i = .nx (σ.set i none) s := rfl
@[simp] theorem SRes.clr_rt {i : Nat} {v : AV} {s : Sto} : (SRes.rt v s).clr i = .rt v s := rfl
def SRes.noX : SRes → SRes
  | .err _ _ _ _ _ => .stuck
  | r => r
@[simp] theorem SRes.noX_nx {σ : ASt} {s : Sto} : (SRes.nx σ s).noX = .nx σ s := rfl
@[simp] theorem SRes.noX_rt {v : AV} {s : Sto} : (SRes.rt v s).noX = .rt v s := rfl
def aHand (c : String) (ns : List Str) (vs : List AV) (σ : ASt) (s : Sto) : List HdA → SRes
  | [] => .err c ns vs σ s
  | (m, none, f) :: r => (match m c with | some true => (f σ s).noX | some false => aHand c ns vs σ s r | none => .stuck)
  | (m, some i, f) :: r => (match m c with | some true => (f (σ.set i (some (.exn c ns vs))) s).clr i | some false => aHand c ns vs σ s r | none => .stuck)
def aTry (f : AS) (hs : List HdA) : AS := fun σ s => match f σ s with | .err c ns vs σ' s' => aHand c ns vs σ' s' hs | r => r
/-- an error forgets the slots -/
def SRes.forget (n : Nat) : SRes → SRes
  | .err c ns vs _ s => .err c ns vs (List.replicate n none) s
  | r => r
@[simp] theorem SRes.forget_nx {n : Nat} {σ : ASt} {s : Sto} : (SRes.nx σ s).forget n = .nx σ s := rfl
@[simp] theorem SRes.forget_rt {n : Nat} {v : AV} {s : Sto} : (SRes.rt v s).forget n = .rt v s := rfl
@[simp] theorem SRes.forget_err {n : Nat} {c : String} {ns : List Str} {vs : List AV} {σ : ASt} {s : Sto} : (SRes.err c ns vs σ s).forget n = .err c ns vs (List.replicate n none) s := rfl
def aForget (n : Nat) (f : AS) : AS := fun σ s => (f σ s).forget n
theorem rst_none {w : Wd} : ∀ (σc : L2.St), RSt W w (List.replicate σc.length none) σc
  | [] => .nil
  | _ :: σc => .cons trivial (rst_none σc)
theorem DS.forget {n : Nat} {Wx : WX} (h : DS W (fun _ cls d H => ∀ σ : L2.St, σ.length = n → Wx cls d σ H) ts fs) : DS W (fun σ cls d H => Wx cls d σ H) ts (aForget n fs) := fun w s σ σc D S R z => by
  refine h w s σ σc D S R ?_
  have z : ((fs σ s).forget n).P W w D _ := z
  cases e : fs σ s with
  | err c ns vs σ' s' =>
    rw [e] at z
    exact fun w' σc' d e' S' R' x σ2 hl => z w' σ2 d e' S' (by rw [← hl]; exact rst_none σ2) x
  | nx σ' s' => rw [e] at z; exact z
  | rt v s' => rw [e] at z; exact z
  | bk σ' s' => rw [e] at z; exact z
  | ct σ' s' => rw [e] at z; exact z
  | stuck => rw [e] at z; exact z
/-- the call within -/
def aAsk (f : Addr) (ask : Sto → Res AV) : AE := fun σ s => match σ[0]? with | some (some (AV.raw a)) => if a = f then ask s else .stuck | _ => .stuck
end
/-- a world that has grown out of one -/
abbrev Wl.at (W : Wl) (w0 : Wd) : Wl := { toWc := W.toWc, inv := fun w => Ext w0 w, cl := fun _ _ e h => h.trans e }
theorem Sim.at {W : Wl} {w : Wd} {s : Sto} (S : Sim W w s) : Sim (W.at w) w s := ⟨S.n, S.inj, S.cell, S.tab, .refl w⟩
theorem DE.ask {W : Wl} {w0 : Wd} {s0 : Sto} {f c' : Addr} {q : Str} {tl : XK → Hp → VK → Prop} {ask : Sto → Res AV} {Ek : XK} (S0 : Sim W w0 s0) (hc : w0.H c' = some (LamX.CodeO c' q))
    (ha : ∀ (E : XK) (w' : Wd) (s' : Sto) (Q' : VK), Ext w0 w' → Sim W w' s' → (ask s').Post (OkP W w' Q') (ErrP W w' E) → tl E w'.H Q') :
    DE (W.at w0) (fun _ => Ek) (fun σZ HZ Q => σZ[0]? = some (some (.ref f)) ∧ HZ c' = some (LamX.CodeO c' q) ∧ tl Ek HZ Q) (aAsk f ask) := fun w s σ σc Q S R h => by
  have e0 : Ext w0 w := S.inv
  have sw : ∀ {w' : Wd} {s' : Sto}, Sim (W.at w0) w' s' → Sim W w' s' := fun {w' s'} S' => ⟨S'.n, S'.inj, S'.cell, S'.tab, W.cl _ _ S'.inv S0.inv⟩
  have ws : ∀ {w' : Wd} {s' : Sto}, Ext w0 w' → Sim W w' s' → Sim (W.at w0) w' s' := fun {w' s'} e S' => ⟨S'.n, S'.inj, S'.cell, S'.tab, e⟩
  unfold aAsk at h
  split at h
  · rename_i a ea
    split at h
    · rename_i haf
      subst haf
      obtain ⟨v, h1, h2⟩ := R.get 0 _ ea
      cases h2
      refine ⟨h1, e0.im _ _ hc trivial, ha Ek w s Q e0 (sw S) (h.mono (fun v s' z w2 vc e2 S2 r2 => z w2 vc e2 (ws (e0.trans e2) S2) r2) fun c ns vs s' z w2 d e2 S2 x => z w2 d e2 (ws (e0.trans e2) S2) x)⟩
    · exact h.elim
  · exact h.elim
theorem KitOk.at {W : Wl} {w0 : Wd} {kit : String → String → Option Bool} (k : KitOk W kit) : KitOk (W.at w0) kit := ⟨k.kit, k.ins, k.exc⟩
theorem relL_ints {W : Wc} {w : Wd} : ∀ ns : List Int, RelL W w (ns.map .int) (ns.map V.int)
  | [] => .nil
  | n :: ns => .cons (.int n) (relL_ints ns)
/-- the law is run -/
def s0 : Sto := ⟨0, fun _ => .lst []⟩
theorem law_run {W : Wl} {N : List Str} {k : Nat} {f : AS} {ts : TS} {H : Hp} {a : Addr} {ns : List Int} {Q : VK} (hinv : ∀ w, W.inv w) (hS : SqF W.K H a (ns.map V.int)) (hT : LamX.Tabs W.T H) (hlaw : ∃ s', aDef k f [.scr (ns.map .int)] s0 = .ok (.bl true) s') (hk : 1 + k = N.length)
    (hs : DS W (fun _ _ _ _ => False) ts f) (hQ : ∀ H', Q (.bl true) H') : ts { nx := fun _ H' => Q .non H', rt := Q } (L2.start N [.ref a]) H := by
  obtain ⟨s', e⟩ := hlaw
  refine DS.dfn (k := k) (n := 1) (Ek := fun _ _ _ => False) ⟨⟨fun _ => 0, 0, H⟩, s0, [.scr (ns.map .int)], rfl, ⟨rfl, fun i j hi => absurd hi (Nat.not_lt_zero i), fun i hi => absurd hi (Nat.not_lt_zero i), hT, hinv _⟩, .cons (.scr hS ?_) .nil, rfl, ?_⟩ hk hs
  · exact relL_ints ns
  · rw [e]
    intro w' vc e' S' r
    cases r
    exact hQ _
end
end Ab
set_option Elab.async false
set_option linter.all false
set_option maxRecDepth 100000
set_option maxHeartbeats 1000000
namespace Ab
open PySem PySem.Spec PyProof.Rows L2
open Classical
noncomputable section
/-- a class's bases, itself first -/
def anc : String → List String
  | "Counter" => ["Counter", "Source"]
  | "Draws" => ["Draws"]
  | "PooledDraws" => ["PooledDraws", "Draws"]
  | "DrawError" => ["DrawError", "ValueError", "Exception"]
  | "BadWord" => ["BadWord", "DrawError", "ValueError", "Exception"]
  | "BadState" => ["BadState", "DrawError", "ValueError", "Exception"]
  | "BadSteps" => ["BadSteps", "DrawError", "ValueError", "Exception"]
  | "BadSeed" => ["BadSeed", "DrawError", "ValueError", "Exception"]
  | "BadNumber" => ["BadNumber", "DrawError", "ValueError", "Exception"]
  | "BadThings" => ["BadThings", "DrawError", "ValueError", "Exception"]
  | "BadSource" => ["BadSource", "DrawError", "ValueError", "Exception"]
  | "BadPolynomial" => ["BadPolynomial", "DrawError", "ValueError", "Exception"]
  | "BadDegree" => ["BadDegree", "DrawError", "ValueError", "Exception"]
  | "BadBits" => ["BadBits", "DrawError", "ValueError", "Exception"]
  | "BadRank" => ["BadRank", "DrawError", "ValueError", "Exception"]
  | "BadStep" => ["BadStep", "DrawError", "ValueError", "Exception"]
  | "BadSplit" => ["BadSplit", "DrawError", "ValueError", "Exception"]
  | "BadTape" => ["BadTape", "DrawError", "ValueError", "Exception"]
  | "BadRange" => ["BadRange", "DrawError", "ValueError", "Exception"]
  | "BadRow" => ["BadRow", "DrawError", "ValueError", "Exception"]
  | "BadWeights" => ["BadWeights", "DrawError", "ValueError", "Exception"]
  | "BadOrder" => ["BadOrder", "DrawError", "ValueError", "Exception"]
  | "BadText" => ["BadText", "DrawError", "ValueError", "Exception"]
  | "Shortage" => ["Shortage", "LookupError"]
  | "Exhausted" => ["Exhausted", "Shortage", "LookupError"]
  | "NoRow" => ["NoRow", "Shortage", "LookupError"]
  | "NoStream" => ["NoStream", "Shortage", "LookupError"]
  | "NothingToUndo" => ["NothingToUndo", "Shortage", "LookupError"]
  | "RunError" => ["RunError", "RuntimeError"]
  | "TooLong" => ["TooLong", "RunError", "RuntimeError"]
  | "Unsteady" => ["Unsteady", "RunError", "RuntimeError"]
  | "Aside" => ["Aside"]
  | "Leaping" => ["Leaping", "Source"]
  | "Linear" => ["Linear", "Source"]
  | "Order" => ["Order"]
  | "Reservoir" => ["Reservoir"]
  | "Session" => ["Session"]
  | "Source" => ["Source"]
  | "Scripted" => ["Scripted", "Source"]
  | "Streams" => ["Streams"]
  | "Recording" => ["Recording", "Source"]
  | "Twisted" => ["Twisted", "Source"]
  | "Table" => ["Table"]
  | "Urn" => ["Urn"]
  | "bool" => ["bool", "int"]
  | c => [c]
def xnames : List String := ["ValueError", "LookupError", "RuntimeError", "Exception", "BaseException", "KeyError", "IndexError", "TypeError"]
def kitP (a b : String) : Option Bool := if a ∈ bnames ∧ b ∈ xnames then none else some (decide (b ∈ anc a))
def kitB (b : String) : String → String → Option Bool := fun a b' => if b' = b then kitP a b' else none
theorem kitB_self {a b : String} : kitB b a b = kitP a b := if_pos rfl
theorem kitE {a b : String} {t : Bool} {va vb : Value} {W : Wl} (h : kitP a b = some t) (ha : cvl W a = va) (hb : cvl W b = vb) (f : PySem.W.kitOne W.K va vb = some t) : ∀ r, kitP a b = some r → PySem.W.kitOne W.K (cvl W a) (cvl W b) = some r := fun r e => by
  rw [h] at e
  cases e
  rw [ha, hb]
  exact f
theorem kitOk_of {W : Wl} {b : String} (h1 : All (fun a => ∀ r, kitP a b = some r → PySem.W.kitOne W.K (cvl W a) (cvl W b) = some r) bnames) (h2 : All (fun a => ∀ r, kitP a b = some r → PySem.W.kitOne W.K (cvl W a) (cvl W b) = some r) W.live) (h3 : All (fun a => ∀ r, kitP a b = some r → PySem.W.kitOne W.K (cvl W a) (cvl W b) = some r) W.xlive)
    (hi : All (fun c => c ∉ bnames ∧ C8.InsC W.K (W.κ c)) W.live) (hx : All (fun c => c ∉ bnames ∧ ExcC W.K (W.κ c)) W.xlive) : KitOk W (kitB b) where
  kit := fun a b' r hm e => by
    unfold kitB at e
    split at e
    · rename_i hb
      subst hb
      rcases hm with hm | hm | hm
      · exact h1.at a hm r e
      · exact h2.at a hm r e
      · exact h3.at a hm r e
    · cases e
  ins := fun c hc => hi.at c hc
  exc := fun c hc => hx.at c hc
def tyB (s : Sto) : AV → Option String
  | .non => some "NoneType"
  | .bl _ => some "bool"
  | .int _ => some "int"
  | .str _ => some "str"
  | .tup _ => some "tuple"
  | .obj i => (match s.c i with | .lst _ => some "list" | .dic _ => some "dict" | .ins _ _ => none)
  | _ => none
def isObj : AV → Bool
  | .obj _ => true
  | _ => false
def ownK : AV → Sto → Res AV := fun v s => if isObj v = true then .ok v s else .stuck
@[simp] theorem ownK_obj {i : Nat} {s : Sto} : ownK (.obj i) s = .ok (.obj i) s := rfl
def gOwn (c : String) (ts : List String) (F : List AV → Sto → Res AV) (x y : AV) (s : Sto) : Res AV := if isI s x c = true then (match tyB s y with | some t => if t ∈ ts then (F [x, y] s).bind ownK else .stuck | none => .stuck) else .stuck
def aOwn (c : String) (ts : List String) (n : Nat) (F : List AV → Sto → Res AV) (fa fb : AE) : AE := fun σ s => (fa σ s).bind fun x s1 => (fb σ s1).bind fun y s2 => gOwn c ts F x y s2
theorem gOwn_obj {c : String} {ts : List String} {F : List AV → Sto → Res AV} {i : Nat} {y : AV} {s : Sto} {fs : List (Str × AV)} {t : String} (e : s.c i = .ins c fs) (h : tyB s y = some t) (m : t ∈ ts) : gOwn c ts F (.obj i) y s = (F [.obj i, y] s).bind ownK := by
  unfold gOwn
  rw [if_pos (isI_obj e)]
  simp only [h, if_pos m]
theorem tyB_rel {W : Wl} {w : Wd} {s : Sto} {x : AV} {v : V} {t : String} (S : Sim W w s) (r : Rel W w x v) (h : tyB s x = some t) : TyX W.K w.H v (.type t) := by
  cases r with
  | non => cases h; exact .base .non
  | bl => cases h; exact .base (.bl _)
  | int => cases h; exact .base (.int _)
  | str => cases h; exact .base (.str _)
  | ty => cases h
  | cls => cases h
  | raw => cases h
  | scr => cases h
  | exn => cases h
  | tup h1 h2 => cases h; exact sqt_ty h1
  | @obj i hi =>
    have h : (match s.c i with | .lst _ => some "list" | .dic _ => some "dict" | .ins _ _ => none : Option String) = some t := h
    cases ec : s.c i with
    | lst xs =>
      rw [ec] at h
      cases h
      obtain ⟨vs, k1, k2, k3, k4⟩ := lstO_at S (.obj hi) ec
      exact .base (.lst k3)
    | dic kvs =>
      rw [ec] at h
      cases h
      obtain ⟨o, k1, k2, k3, k4⟩ := cell_at S (.obj hi) ec
      cases k4
      exact .base (.dK k3)
    | ins c fs => rw [ec] at h; cases h
theorem DE.own {W : Wl} {Ek : XK} {ta tb : TE} {fa fb : AE} {c : String} {nm : String} {ts : List String} {F : List AV → Sto → Res AV} {k : Nat} (ht : All (fun t => Gx.OwnT W.K (W.κ c) nm t) ts) (ha : DE W (fun _ => Ek) ta fa) (hb : DE W (fun _ => Ek) tb fb) :
    DE W (fun _ => Ek) (tOp (Gx.rOwnX W.K (W.κ c) nm (spF W 2 F) Ek) ta tb) (aOwn c ts k F fa fb) := fun w s σ σc Q S R h => by
  refine ha w s σ σc _ S R ((post_bind_ok h).mono (fun x s1 h1 w1 v e1 S1 r1 => ?_) fun _ _ _ _ z => z)
  refine hb w1 s1 σ σc _ S1 (R.mono e1) ((post_bind_ok h1).mono (fun y s2 h2 w2 u e2 S2 r2 => ?_) fun _ _ _ _ z => z.mono e1)
  unfold gOwn at h2
  split at h2
  · rename_i hi
    split at h2
    · rename_i t et
      split at h2
      · rename_i htm
        have hx : ∃ fs, insAt s2 x = some (c, fs) := by
          unfold isI at hi
          split at hi
          · rename_i d fs e
            cases of_decide_eq_true hi
            exact ⟨fs, e⟩
          · cases hi
        obtain ⟨fs, hx⟩ := hx
        obtain ⟨i, dx, gs, rfl, k2, rfl, k3, k4, k5⟩ := ins_at S2 (r1.mono e2) hx
        refine ⟨_, dx, gs, t, rfl, tyB_rel S2 r2 et, ht.at t htm, k3, w2, s2, [.obj i, y], rfl, S2, (.cons (r1.mono e2) (.cons r2 .nil)), rfl, ?_⟩
        refine (post_bind_ok h2).mono (fun v' s3 h3 w3 vc e3 S3 r3 => ?_) fun _ _ _ _ z => (z.mono e1).mono e2
        unfold ownK at h3
        split at h3
        · rename_i ho
          cases r3 with
          | obj hj => exact ⟨⟨_, rfl⟩, h3 w3 _ ((e1.trans e2).trans e3) S3 (.obj hj)⟩
          | _ => cases ho
        · exact (show False from h3).elim
      · exact (show False from h2).elim
    · exact (show False from h2).elim
  · exact (show False from h2).elim
/-- a property's promise: no error -/
theorem spF_noErr {W : Wl} {n : Nat} {F : List AV → Sto → Res AV} {vs : List V} {H : Hp} {Q : VK} {E E' : XK} (h : spF W n (fun xs s => noErr (F xs s)) vs H Q E) : spF W n F vs H Q E' := by
  obtain ⟨w, s, args, e, S, R, hn, p⟩ := h
  exact ⟨w, s, args, e, S, R, hn, noErr_post p⟩
end
end Ab
set_option Elab.async false
set_option linter.all false
set_option maxRecDepth 100000
set_option maxHeartbeats 1000000
namespace Ab
open PySem PySem.Spec PyProof.Rows L2
open Classical
mutual
def Cl (n : Nat) : AV → Prop
  | .obj i => i < n
  | .tup xs => ClL n xs
  | .scr xs => ClL n xs
  | .exn _ _ xs => ClL n xs
  | _ => True
def ClL (n : Nat) : List AV → Prop
  | [] => True
  | x :: xs => Cl n x ∧ ClL n xs
end
@[simp] theorem Cl_non {n : Nat} : Cl n .non = True := by simp only [Cl]
@[simp] theorem Cl_bl {n : Nat} {b : Bool} : Cl n (.bl b) = True := by simp only [Cl]
@[simp] theorem Cl_int {n : Nat} {b : Int} : Cl n (.int b) = True := by simp only [Cl]
@[simp] theorem Cl_str {n : Nat} {b : Str} : Cl n (.str b) = True := by simp only [Cl]
@[simp] theorem Cl_cls {n : Nat} {b : String} : Cl n (.cls b) = True := by simp only [Cl]
@[simp] theorem Cl_obj {n i : Nat} : Cl n (.obj i) = (i < n) := by simp only [Cl]
@[simp] theorem Cl_tup {n : Nat} {xs : List AV} : Cl n (.tup xs) = ClL n xs := by simp only [Cl]
@[simp] theorem ClL_nil {n : Nat} : ClL n [] = True := by simp only [ClL]
@[simp] theorem ClL_cons {n : Nat} {x : AV} {xs : List AV} : ClL n (x :: xs) = (Cl n x ∧ ClL n xs) := by simp only [ClL]
def ClC (n : Nat) : Cell → Prop
  | .lst xs => ClL n xs
  | .ins _ fs => ∀ p ∈ fs, Cl n p.2
  | .dic kvs => ∀ p ∈ kvs, Cl n p.2
section
variable {W : Wc} {w : Wd}
mutual
theorem Rel.cl {W : Wc} {w : Wd} : ∀ {x : AV} {v : V}, Rel W w x v → Cl w.n x
  | _, _, .non => by simp
  | _, _, .bl b => by simp
  | _, _, .int i => by simp
  | _, _, .str s => by simp
  | _, _, .ty n => by simp only [Cl]
  | _, _, .cls c => by simp
  | _, _, .raw a => by simp only [Cl]
  | _, _, .obj h => by simp only [Cl]; exact h
  | _, _, .tup h r => by simp only [Cl]; exact RelL.cl r
  | _, _, .scr h r => by simp only [Cl]; exact RelL.cl r
  | _, _, .exn hc h hd hl r => by simp only [Cl]; exact RelL.cl r
theorem RelL.cl {W : Wc} {w : Wd} : ∀ {x : List AV} {v : List V}, RelL W w x v → ClL w.n x
  | _, _, .nil => by simp
  | _, _, .cons h r => by simp only [ClL]; exact ⟨Rel.cl h, RelL.cl r⟩
end
mutual
theorem Rel.cut {W : Wc} {w : Wd} {n : Nat} : ∀ {x : AV} {v : V}, Rel W w x v → Cl n x → Rel W { w with n := n } x v
  | _, _, .non, _ => .non
  | _, _, .bl b, _ => .bl b
  | _, _, .int i, _ => .int i
  | _, _, .str s, _ => .str s
  | _, _, .ty n, _ => .ty n
  | _, _, .cls c, _ => .cls c
  | _, _, .raw a, _ => .raw a
  | _, _, .obj h, c => .obj (w := { w with n := n }) (by simp only [Cl] at c; exact c)
  | _, _, .tup h r, c => .tup h (RelL.cut r (by simp only [Cl] at c; exact c))
  | _, _, .scr h r, c => .scr h (RelL.cut r (by simp only [Cl] at c; exact c))
  | _, _, .exn hc h hd hl r, c => .exn hc h hd hl (RelL.cut r (by simp only [Cl] at c; exact c))
theorem RelL.cut {W : Wc} {w : Wd} {n : Nat} : ∀ {x : List AV} {v : List V}, RelL W w x v → ClL n x → RelL W { w with n := n } x v
  | _, _, .nil, _ => .nil
  | _, _, .cons h r, c => .cons (Rel.cut h (by simp only [ClL] at c; exact c.1)) (RelL.cut r (by simp only [ClL] at c; exact c.2))
end
theorem RelF.cl : ∀ {fs : List (Str × AV)} {gs : List (Str × V)}, RelF W w fs gs → ∀ p ∈ fs, Cl w.n p.2
  | _, _, .nil, p, h => by cases h
  | _, _, .cons h r, p, hp => by
    rcases List.mem_cons.mp hp with rfl | hp
    · exact h.2.cl
    · exact RelF.cl r p hp
theorem RelK.cl : ∀ {fs : List (Key × AV)} {gs : List (Key × V)}, RelK W w fs gs → ∀ p ∈ fs, Cl w.n p.2
  | _, _, .nil, p, h => by cases h
  | _, _, .cons h r, p, hp => by
    rcases List.mem_cons.mp hp with rfl | hp
    · exact h.2.cl
    · exact RelK.cl r p hp
theorem RelF.cut {n : Nat} : ∀ {fs : List (Str × AV)} {gs : List (Str × V)}, RelF W w fs gs → (∀ p ∈ fs, Cl n p.2) → RelF W { w with n := n } fs gs
  | _, _, .nil, _ => .nil
  | _, _, .cons h r, c => .cons ⟨h.1, h.2.cut (c _ List.mem_cons_self)⟩ (RelF.cut r fun p hp => c p (List.mem_cons_of_mem _ hp))
theorem RelK.cut {n : Nat} : ∀ {fs : List (Key × AV)} {gs : List (Key × V)}, RelK W w fs gs → (∀ p ∈ fs, Cl n p.2) → RelK W { w with n := n } fs gs
  | _, _, .nil, _ => .nil
  | _, _, .cons h r, c => .cons ⟨h.1, h.2.cut (c _ List.mem_cons_self)⟩ (RelK.cut r fun p hp => c p (List.mem_cons_of_mem _ hp))
theorem CRel.cl {c : Cell} {o : HO} (h : CRel W w c o) : ClC w.n c := by
  cases h with
  | lst r => exact r.cl
  | ins hc r => exact RelF.cl r
  | dic r => exact RelK.cl r
theorem CRel.cut {c : Cell} {o : HO} {n : Nat} (h : CRel W w c o) (k : ClC n c) : CRel W { w with n := n } c o := by
  cases h with
  | lst r => exact .lst (r.cut k)
  | ins hc r => exact .ins hc (RelF.cut r k)
  | dic r => exact .dic (RelK.cut r k)
end
/-- what stood is as it was, or names what stood alone -/
def Clean (s s' : Sto) : Prop := s.n ≤ s'.n ∧ ∀ i, i < s.n → s'.c i = s.c i ∨ ClC s.n (s'.c i)
def Sto.cut (s' s : Sto) : Sto := ⟨s.n, fun i => if i < s.n then s'.c i else s.c i⟩
theorem Clean.refl (s : Sto) : Clean s s := ⟨Nat.le_refl _, fun _ _ => .inl rfl⟩
theorem Clean.new {s t : Sto} {x : Cell} (h : Clean s t) : Clean s (t.new x) := ⟨Nat.le_succ_of_le h.1, fun i hi => by
  show (if i = t.n then x else t.c i) = s.c i ∨ ClC s.n (if i = t.n then x else t.c i)
  rw [if_neg (by have := h.1; omega)]
  exact h.2 i hi⟩
theorem Clean.set {s t : Sto} {i : Nat} {x : Cell} (h : Clean s t) (c : s.n ≤ i ∨ ClC s.n x) : Clean s (t.set i x) := ⟨h.1, fun j hj => by
  show (if j = i then x else t.c j) = s.c j ∨ ClC s.n (if j = i then x else t.c j)
  by_cases e : j = i
  · rw [if_pos e]
    rcases c with c | c
    · omega
    · exact .inr c
  · rw [if_neg e]
    exact h.2 j hj⟩
theorem cut_self (s : Sto) : s.cut s = s := by
  unfold Sto.cut
  simp
theorem cut_set_old {s t : Sto} {i : Nat} {x : Cell} (h : i < s.n) : (t.set i x).cut s = (t.cut s).set i x := by
  unfold Sto.cut Sto.set
  simp only [Sto.mk.injEq, true_and]
  funext j
  by_cases e : j = i
  · subst e
    simp [h]
  · simp only [if_neg e]
theorem cut_eq {s t : Sto} (h : ∀ i, i < s.n → t.c i = s.c i) : t.cut s = s := by
  unfold Sto.cut
  cases s with
  | mk n c =>
    simp only [Sto.mk.injEq, true_and]
    funext i
    by_cases hi : i < n
    · simp only [if_pos hi]; exact h i hi
    · simp only [if_neg hi]
noncomputable section
def gcR {α : Type} (cl : Nat → α → Prop) (s : Sto) : Res α → Res α
  | .ok v s' => if cl s.n v ∧ Clean s s' then .ok v (s'.cut s) else .ok v s'
  | .err c ns vs s' => if ClL s.n vs ∧ Clean s s' then .err c ns vs (s'.cut s) else .err c ns vs s'
  | .stuck => .stuck
def gcF (F : List AV → Sto → Res AV) : List AV → Sto → Res AV := fun args s => gcR Cl s (F args s)
def gcE (f : AE) : AE := fun σ s => gcR Cl s (f σ s)
def gcB (s : Sto) : Res Bool → Res Bool
  | .ok v s' => if Clean s s' then .ok v (s'.cut s) else .ok v s'
  | .err c ns vs s' => .err c ns vs s'
  | .stuck => .stuck
def gcT (f : AT) : AT := fun σ s => gcB s (f σ s)
theorem gcF_eq {F : List AV → Sto → Res AV} {args : List AV} {s s' : Sto} {v : AV} (h : F args s = .ok v s') (hv : Cl s.n v) (hc : Clean s s') : gcF F args s = .ok v (s'.cut s) := by
  unfold gcF gcR
  rw [h]
  exact if_pos ⟨hv, hc⟩
theorem gcF_raw {F : List AV → Sto → Res AV} {args : List AV} {s s' : Sto} {v : AV} (h : F args s = .ok v s') (hv : ¬ Cl s.n v) : gcF F args s = .ok v s' := by
  unfold gcF gcR
  rw [h]
  exact if_neg fun z => hv z.1
theorem gcT_eq {f : AT} {σ : ASt} {s s' : Sto} {b : Bool} (h : f σ s = .ok b s') (hc : Clean s s') : gcT f σ s = .ok b (s'.cut s) := by
  unfold gcT gcB
  rw [h]
  exact if_pos hc
section
variable {W : Wl}
theorem sim_cut {w w' : Wd} {s s' : Sto} (S : Sim W w s) (e : Ext w w') (S' : Sim W w' s') (hc : Clean s s') : Ext w { w' with n := s.n } ∧ Sim W { w' with n := s.n } (s'.cut s) := by
  have en : Ext w { w' with n := s.n } := ⟨Nat.le_of_eq S.n, e.m, e.im⟩
  refine ⟨en, rfl, fun i j hi hj q => S'.inj i j (Nat.lt_of_lt_of_le hi hc.1) (Nat.lt_of_lt_of_le hj hc.1) q, fun i hi => ?_, S'.tab, W.cl _ _ en S.inv⟩
  have hi : i < s.n := hi
  obtain ⟨o, h1, h2⟩ := S'.cell i (Nat.lt_of_lt_of_le hi hc.1)
  have ec : (s'.cut s).c i = s'.c i := if_pos hi
  refine ⟨o, h1, ?_⟩
  rw [ec]
  refine h2.cut ?_
  rcases hc.2 i hi with h | h
  · rw [h]
    obtain ⟨o', k1, k2⟩ := S.cell i hi
    rw [← S.n]
    exact k2.cl
  · exact h
theorem gc_post {w : Wd} {s : Sto} {r : Res AV} {Q : VK} {E : XK} (S : Sim W w s) (h : (gcR Cl s r).Post (OkP W w Q) (ErrP W w E)) : r.Post (OkP W w Q) (ErrP W w E) := by
  cases r with
  | ok v s' =>
    have h : (if Cl s.n v ∧ Clean s s' then .ok v (s'.cut s) else .ok v s' : Res AV).Post (OkP W w Q) (ErrP W w E) := h
    split at h
    · rename_i hc
      intro w' vc e' S' r'
      obtain ⟨k1, k2⟩ := sim_cut S e' S' hc.2
      exact (show OkP W w Q v (s'.cut s) from h) { w' with n := s.n } vc k1 k2 (r'.cut hc.1)
    · exact h
  | err c ns vs s' =>
    have h : (if ClL s.n vs ∧ Clean s s' then .err c ns vs (s'.cut s) else .err c ns vs s' : Res AV).Post (OkP W w Q) (ErrP W w E) := h
    split at h
    · rename_i hc
      intro w' d e' S' x
      obtain ⟨k1, k2⟩ := sim_cut S e' S' hc.2
      obtain ⟨x1, us, x2, x3, x4⟩ := x
      exact (show ErrP W w E c ns vs (s'.cut s) from h) { w' with n := s.n } d k1 k2 ⟨x1, us, x2, x3, x4.cut hc.1⟩
    · exact h
  | stuck => exact h
theorem spF_gc {n : Nat} {F : List AV → Sto → Res AV} {vs : List V} {H : Hp} {Q : VK} {E : XK} (h : spF W n (gcF F) vs H Q E) : spF W n F vs H Q E := by
  obtain ⟨w, s, args, e, S, R, hn, p⟩ := h
  exact ⟨w, s, args, e, S, R, hn, gc_post S p⟩
theorem DE.gc {E : L2.St → XK} {te : TE} {f : AE} (h : DE W E te f) : DE W E te (gcE f) := fun w s σ σc Q S R p => h w s σ σc Q S R (gc_post S p)
theorem DT.gc {E : L2.St → XK} {tt : TT} {f : AT} (h : DT W E tt f) : DT W E tt (gcT f) := fun w s σ σc Q S R p => by
  refine h w s σ σc Q S R ?_
  have p : (gcB s (f σ s)).Post (OkB W w Q) (ErrP W w (E σc)) := p
  cases e : f σ s with
  | ok v s' =>
    rw [e] at p
    have p : (if Clean s s' then .ok v (s'.cut s) else .ok v s' : Res Bool).Post (OkB W w Q) (ErrP W w (E σc)) := p
    split at p
    · rename_i hc
      intro w' e' S'
      obtain ⟨k1, k2⟩ := sim_cut S e' S' hc
      exact (show OkB W w Q v (s'.cut s) from p) { w' with n := s.n } k1 k2
    · exact p
  | err c ns vs s' => rw [e] at p; exact p
  | stuck => rw [e] at p; exact p
end
end
end Ab
set_option Elab.async false
set_option linter.all false
set_option maxRecDepth 100000
set_option maxHeartbeats 1000000
namespace Gx
open PySem PySem.Spec PyProof.Rows L2
end Gx
namespace Ab
open PySem PySem.Spec PyProof.Rows L2
open Classical
noncomputable section
inductive CL : List AV → List String → Prop
  | nil : CL [] []
  | ty {n : String} {xs : List AV} {bs : List String} (h : n ∈ bnames) (r : CL xs bs) : CL (.ty n :: xs) (n :: bs)
  | cls {n : String} {xs : List AV} {bs : List String} (h : n ∉ bnames) (r : CL xs bs) : CL (.cls n :: xs) (n :: bs)
end
end Ab
set_option Elab.async false
set_option linter.all false
set_option maxRecDepth 100000
set_option maxHeartbeats 4000000
namespace Gx
open PySem PySem.Spec PyProof.Rows L2
section
variable {P : Program} {w : World} {K : PySem.W.Frag} {mg mb : Str → Option Value} {k : Nat} {fa a : Addr} {cs : List (Addr × Addr)} {fd : FuncData} {x : Str} {sp : Sp} {t : Shared} {vs : List Value} {ns : List Int}
/-- the abstract heap at the law's call: the script and the tables -/
structure Hp0F (P : Program) (w : World) (K : PySem.W.Frag) (cs : List (Addr × Addr)) (a : Addr) (ns : List Int) (h : Heap) (H : Hp) : Prop where
  tab : ∀ p ∈ cs, H p.2 = some (.tbl #[])
  only : ∀ b, H b = none ∨ b ∈ cs.map (·.2) ∨ ∃ o xs, H b = some (.frz o (.lst xs))
  seq : Ab.SqF K H a (ns.map V.int)
  ok : HOk P w H h
  dom : ∀ b, H b ≠ none → b = a ∨ b ∈ cs.map (·.2)
  scr : H a ≠ none → K.lookup a = none
theorem hp0F (KX : K.In t.heap) (hT : ∀ p ∈ cs, t.heap.get? p.2 = some { cls := .none, data := .fields #[] }) (ha : t.heap.get? a = some { cls := .type "list", data := .seq vs.toArray }) (hi : IntsAre vs ns) (hl : ns.length ≤ sizeLine) :
    ∃ H, Hp0F P w K cs a ns t.heap H := by
  have rv := vals_ints hi
  have isT : ∀ b ∈ cs.map (·.2), t.heap.get? b = some { cls := .none, data := .fields #[] } := fun b hb => by
    obtain ⟨p, hp, rfl⟩ := List.mem_map.mp hb
    exact hT p hp
  have aT : a ∉ cs.map (·.2) := fun z => by
    have q := isT a z
    rw [ha] at q
    cases congrArg Obj.data (Option.some.inj q)
  have mem : ∀ p ∈ cs, p.2 ∈ cs.map (·.2) := fun p hp => List.mem_map.mpr ⟨p, hp, rfl⟩
  cases hk : K.lookup a with
  | some o =>
    have e := KX a o hk
    rw [ha] at e
    cases e
    refine ⟨fun b => if b ∈ cs.map (·.2) then some (.tbl #[]) else none, fun p hp => if_pos (mem p hp), fun b => ?_,
      .inr ⟨_, vs.toArray, _, hk, rfl, rfl, rfl, by rw [List.size_toArray, hi.length]; exact hl, by simpa using rv⟩, fun b u z => ?_, fun b z => ?_, fun z => absurd (if_neg aT) z⟩
    · by_cases hb : b ∈ cs.map (·.2)
      · exact .inr (.inl hb)
      · exact .inl (if_neg hb)
    · by_cases hb : b ∈ cs.map (·.2)
      · cases (if_pos hb).symm.trans z
        exact isT b hb
      · cases (if_neg hb).symm.trans z
    · by_cases hb : b ∈ cs.map (·.2)
      · exact .inr hb
      · exact absurd (if_neg hb) z
  | none =>
    refine ⟨fun b => if b = a then some (.frz { cls := .type "list", data := .seq vs.toArray } (.lst (ns.map V.int))) else if b ∈ cs.map (·.2) then some (.tbl #[]) else none,
      fun p hp => ?_, fun b => ?_, .inl ⟨{ cls := .type "list", data := .seq vs.toArray }, if_pos rfl⟩, fun b u z => ?_, fun b z => ?_, fun _ => hk⟩
    · have np : ¬ p.2 = a := fun z => aT (z ▸ mem p hp)
      exact (if_neg np).trans (if_pos (mem p hp))
    · by_cases hb : b = a
      · exact .inr (.inr ⟨_, _, if_pos hb⟩)
      · by_cases hc : b ∈ cs.map (·.2)
        · exact .inr (.inl hc)
        · exact .inl ((if_neg hb).trans (if_neg hc))
    · by_cases hb : b = a
      · cases (if_pos hb).symm.trans z
        subst hb
        exact ⟨ha, by rw [List.length_map]; exact hl, vs, _, rv, ha⟩
      · have z1 := (if_neg hb).symm.trans z
        by_cases hc : b ∈ cs.map (·.2)
        · cases (if_pos hc).symm.trans z1
          exact isT b hc
        · cases (if_neg hc).symm.trans z1
    · by_cases hb : b = a
      · exact .inl hb
      · by_cases hc : b ∈ cs.map (·.2)
        · exact .inr hc
        · exact absurd ((if_neg hb).trans (if_neg hc)) z
theorem callF (KX : K.In t.heap) (hns : t.heap.Ns mainGlobals mg) (hb : t.heap.Ns builtinsNs mb) (hbb : ∀ x : Str, x ≠ "__name__" → mb x = bootBuiltins x) (hlim : t.heap.NoLimit) (hg : t.gens = #[])
    (hT : ∀ p ∈ cs, t.heap.get? p.2 = some { cls := .none, data := .fields #[] }) (nT : ∀ p ∈ cs, K.lookup p.2 = none) (C : ∀ p ∈ cs, PySem.W.CodeHd t.heap p.1 p.2)
    (hbm : ∃ (bm : Addr) (ob : Obj), mg "__builtins__" = some (.ref bm) ∧ bm ≠ builtinsNs ∧ t.heap.get? bm = some ob ∧ ob.cls = .type "module" ∧ ob.dict = some builtinsNs ∧ ob.data = .plain)
    (ha : t.heap.get? a = some { cls := .type "list", data := .seq vs.toArray }) (hi : IntsAre vs ns) (hl : ns.length ≤ sizeLine) (hr : Room k callerA)
    (F : ∀ base : Heap, K.In base → base.Ns mainGlobals mg → (∀ p ∈ cs, LamX.TabB base mg p.1 p.2) → FnG P w K mg base k fa fd [x] sp) (hbind : ∀ (s : Shared) (u : Value), BindsTo s fd ⟨[u], []⟩ [(x, u)])
    (hsp : ∀ H : Hp, (∀ p ∈ cs, H p.2 = some (.tbl #[])) → Ab.SqF K H a (ns.map V.int) → sp [.ref a] H (fun v _ => v = .bl true) C8.E0) :
    codeAny (model P w) callerA (.call (.ref fa) ⟨[.ref a], []⟩) (fun r s' => r = .ok (.ret (.bool true)) ∧ OldK t.heap s'.heap ∧ s'.os = t.os ∧ AllBare s'.gens) t := by
  obtain ⟨H, Z⟩ := hp0F (P := P) (w := w) KX hT ha hi hl
  have see : ∀ {b : Addr} {o : Obj}, t.heap.get? b = some o → H b = none → (hidT t.heap H).get? b = some o := fun e n => hidT_get e n
  -- what is neither a list nor a table is not tracked
  have off : ∀ {b : Addr} {o : Obj}, t.heap.get? b = some o → (∀ ws n, o.data ≠ .seq ws n) → o.data ≠ .fields #[] → H b = none := fun {b o} e h1 h2 => by
    cases q : H b with
    | none => rfl
    | some u =>
      rcases Z.dom b (by rw [q]; simp) with e1 | e1
      · rw [e1, ha] at e
        cases e
        exact (h1 _ _ rfl).elim
      · obtain ⟨p, hp, rfl⟩ := List.mem_map.mp e1
        rw [hT p hp] at e
        cases e
        exact (h2 rfl).elim
  have offD : ∀ {b : Addr} {o : Obj} {es : Array DictEntry} {ep : Nat}, t.heap.get? b = some o → o.data = .dict es ep → H b = none := fun {b o es ep} e d =>
    off e (fun ws n z => by rw [d] at z; cases z) (fun z => by rw [d] at z; cases z)
  have nsOk : ∀ {b : Addr} {m : Str → Option Value}, t.heap.Ns b m → (hidT t.heap H).Ns b m := fun {b m} hh => by
    obtain ⟨o, es, ep, e, d, r⟩ := hh
    exact ⟨o, es, ep, see e (offD e d), d, r⟩
  have kOk : K.In (hidT t.heap H) := fun b o e => by
    refine see (KX b o e) ?_
    cases q : H b with
    | none => rfl
    | some u =>
      rcases Z.dom b (by rw [q]; simp) with e1 | e1
      · subst e1
        rw [Z.scr (by rw [q]; simp)] at e
        cases e
      · obtain ⟨p, hp, rfl⟩ := List.mem_map.mp e1
        rw [nT p hp] at e
        cases e
  have lim : (hidT t.heap H).NoLimit := by
    obtain ⟨mc, h1, h2⟩ := hlim
    exact ⟨mc, nsOk h1, h2⟩
  have hM : L2.Mod K mg (hidT t.heap H) := ⟨kOk, nsOk hns, ⟨mb, nsOk hb, hbb⟩, lim⟩
  have TB : ∀ p ∈ cs, LamX.TabB (hidT t.heap H) mg p.1 p.2 := fun p hp => by
    have hp2 := hT p hp
    refine ⟨?_, ?_, fun z => ?_⟩
    · obtain ⟨o, us, file, tf, flags, tg, inF, text, tt, e1, r1, r2, r3, r4, r5, r6, r7, r8, hne⟩ := C p hp
      refine ⟨o, us, file, tf, flags, tg, inF, text, tt, see e1 (off e1 (fun ws n z => ?_) fun z => ?_), r1, r2, r3, r4, r5, r6, r7, r8, hne⟩
      · rw [r2] at z; cases z
      · rw [r2] at z; cases z; simp at r3
    · obtain ⟨bm, ob, b1, b2, b3, b4, b5, b6⟩ := hbm
      refine ⟨bm, ob, b1, b2, fun q => ?_, fun q => ?_, see b3 (off b3 (fun ws n z => ?_) fun z => ?_), b4, b5, b6⟩
      · obtain ⟨o, es, ep, e, hd, _⟩ := hns
        rw [q, e] at b3; cases b3; rw [hd] at b6; cases b6
      · rw [q, hp2] at b3; cases b3; cases b6
      · rw [b6] at z; cases z
      · rw [b6] at z; cases z
    · obtain ⟨o, es, ep, e, hd, _⟩ := hns
      rw [z, hp2] at e; cases e; cases hd
  have nil : ∀ b : Addr, b ∉ ([] : List Addr) := fun b z => by simp at z
  have e0 : Env0 P w K mg (hidT t.heap H) callerA [] t H := ⟨rfl, hM, fun b o e => of_hidT e, Nat.le_of_eq (hidT_size _ _), trivial, fun b z => absurd z (nil b), Z.ok, .of_eq hg⟩
  have go := (F _ kOk (nsOk hns) TB).run callerA [] t H ⟨[.ref a], []⟩ [.ref a] [.ref a] _ rfl hr e0 (hbind t (.ref a)) (.cons rfl .nil) (hsp H Z.tab Z.seq)
  refine codeAny_mono go fun res s2 hres => ?_
  match res, hres with
  | .ok .next, h => exact h.elim
  | .ok .brk, h => exact h.elim
  | .ok .cont, h => exact h.elim
  | .error e, h => exact (show False from h).elim
  | .ok (.ret u), h =>
    obtain ⟨v, H', os, bare, un, ok2, r', q⟩ := h
    obtain rfl : v = .bl true := q
    obtain rfl : u = Value.bool true := r'
    have same : ∀ b o, b ∉ cs.map (·.2) → t.heap.get? b = some o → s2.heap.get? b = some o := fun b o nb e => by
      rcases Z.only b with z | z | ⟨ob, xs, z⟩
      · exact un.keep b o e z (nil b) (nil b)
      · exact absurd z nb
      · obtain ⟨e1, _⟩ := Z.ok b _ z
        obtain ⟨e2, _⟩ := ok2 b _ (un.frzs b ob _ z)
        rw [e] at e1
        cases e1
        exact e2
    have grown : ∀ p ∈ cs, ∃ more : Array Value, s2.heap.get? p.2 = some { cls := .none, data := .fields more } := fun p hp => by
      obtain ⟨more, z⟩ := un.tbls p.2 #[] (Z.tab p hp)
      exact ⟨_, ok2 p.2 _ z⟩
    refine ⟨rfl, ⟨fun b o e => ?_, fun b o e => ?_⟩, os, bare⟩
    · by_cases hb : b ∈ cs.map (·.2)
      · obtain ⟨p, hp, rfl⟩ := List.mem_map.mp hb
        obtain ⟨more, hm⟩ := grown p hp
        rw [hT p hp] at e
        cases e
        exact .inr (.inl ⟨((C p hp).tab (hT p hp)).isCodeTable, rfl, #[], more, rfl, by rw [Array.empty_append]; exact hm⟩)
      · exact .inl (same b o hb e)
    · by_cases hb : b ∈ cs.map (·.2)
      · obtain ⟨p, hp, rfl⟩ := List.mem_map.mp hb
        obtain ⟨more, hm⟩ := grown p hp
        exact ⟨_, hm⟩
      · exact ⟨o, same b o hb e⟩
end
/-- what is known of the law's promise -/
def LawF (l : PySem.W.OpenLaw) (w : World) (K : PySem.W.Frag) (k : Nat) (x : Str) (mg : Str → Option Value) (fa : Addr) (h : Heap) : Prop :=
  ∃ (fd : FuncData) (cs : List (Addr × Addr)) (sp : Sp), (∀ p ∈ cs, h.get? p.2 = some { cls := .none, data := .fields #[] }) ∧ (∀ p ∈ cs, K.lookup p.2 = none) ∧ (∀ p ∈ cs, PySem.W.CodeHd h p.1 p.2) ∧
    (∀ (s : Shared) (u : Value), BindsTo s fd ⟨[u], []⟩ [(x, u)]) ∧
    (∀ (H : Hp) (a : Addr) (ns : List Int), ns.length ≤ 63 → (∀ z ∈ ns, Builtin.Int.intBits z ≤ 1048576) → (∀ p ∈ cs, H p.2 = some (.tbl #[])) → Ab.SqF K H a (ns.map V.int) → sp [.ref a] H (fun v _ => v = .bl true) C8.E0) ∧
    ∀ base : Heap, K.In base → base.Ns mainGlobals mg → (∀ p ∈ cs, LamX.TabB base mg p.1 p.2) → FnG l.prog w K mg base k fa fd [x] sp
theorem walkF {l : PySem.W.OpenLaw} {k : Nat} {q : Program} {loose : List Str} {XP : (Str → Option Value) → Heap → Prop} {YP : World → Heap → Prop} {d : DefRec} {K : Params → PySem.W.Frag} {x : Str}
    (hn : l.most = some 63) (hdf : d.params.defaults = []) (hr : Room k callerA) (hY : ∀ (w : World) (h : Heap), YP w h → (K w.params).In h)
    (F : ∀ (w : World) (mg : Str → Option Value) (fa : Addr) (h : Heap), YP w h → (K w.params).In h → h.Ns mainGlobals mg → mg d.name = some (.ref fa) → LawF l w (K w.params) k x mg fa h) :
    PySem.W.WalkO q loose XP YP l.row.toRowW d [] (fun f vs => PySem.call f vs) := by
  refine Att.attach_callB hn hdf ?_
  intro w s0 t mg mb fa o pm cd doc a vs ns G Y ho hd hcd hmg hobj hints hlen hbits hg
  have KX := hY w _ Y
  obtain ⟨fd, cs, sp, hT, nT, C, hb, hsp, hF⟩ := F w mg fa _ Y KX G.T.g hmg
  exact callF KX G.T.g G.T.b G.T.builtins G.T.nolimit hg hT nT C G.T.bmain hobj hints (Nat.le_trans hlen (by decide)) hr hF hb fun H hH hS => hsp H a ns hlen hbits hH hS
end Gx
set_option Elab.async false
set_option linter.all false
set_option maxRecDepth 100000
set_option maxHeartbeats 1000000
namespace Ab
open PySem PySem.Spec PyProof.Rows L2
theorem gc0 {F : List AV → Sto → Res AV} {args : List AV} {s : Sto} {v : AV} (h : F args s = .ok v s) (hv : Cl s.n v) : gcF F args s = .ok v s := by
  rw [gcF_eq h hv (.refl s), cut_self]
theorem gcT0 {f : AT} {σ : ASt} {s s' : Sto} {b : Bool} (h : f σ s = .ok b s') (hc : Clean s s') (e : s'.cut s = s) : gcT f σ s = .ok b s := by
  rw [gcT_eq h hc, e]
@[simp] theorem Sto.new_n {s : Sto} {x : Cell} : (s.new x).n = s.n + 1 := rfl
@[simp] theorem Sto.set_n {s : Sto} {i : Nat} {x : Cell} : (s.set i x).n = s.n := rfl
@[simp] theorem Sto.new_at {s : Sto} {x : Cell} : (s.new x).c s.n = x := if_pos rfl
@[simp] theorem Sto.set_at {s : Sto} {x : Cell} {i : Nat} : (s.set i x).c i = x := if_pos rfl
theorem Sto.set_ne {s : Sto} {x : Cell} {i j : Nat} (h : j ≠ i) : (s.set i x).c j = s.c j := if_neg h
end Ab
namespace Ab
open PySem PySem.Spec PyProof.Rows L2
/-- a small number of things -/
theorem sizeLine_ge {n : Nat} : ((n ≤ sizeLine) = (n ≤ sizeLine)) := rfl
theorem kz : True = True := rfl
@[simp] theorem lookA_hd {f : Str} {v : AV} {r : List (Str × AV)} : lookA f ((f, v) :: r) = some v := if_pos rfl
theorem lookA_tl {f g : Str} {v : AV} {r : List (Str × AV)} (h : g ≠ f) : lookA f ((g, v) :: r) = lookA f r := if_neg h
end Ab
set_option Elab.async false
set_option linter.all false
set_option maxRecDepth 100000
set_option maxHeartbeats 1000000
namespace Ab
open PySem PySem.Spec PyProof.Rows L2
open Classical
structure Dn where
  nx : ASt → Sto → Prop
  rt : AV → Sto → Prop
  bk : ASt → Sto → Prop
  ct : ASt → Sto → Prop
  er : String → List Str → List AV → ASt → Sto → Prop
def SRes.A : SRes → Dn → Prop
  | .nx σ s, D => D.nx σ s
  | .rt v s, D => D.rt v s
  | .bk σ s, D => D.bk σ s
  | .ct σ s, D => D.ct σ s
  | .err c ns vs σ s, D => D.er c ns vs σ s
  | .stuck, _ => False
section
variable {α β : Type} {r r' : Res α} {P : α → Sto → Prop} {R : String → List Str → List AV → Sto → Prop} {q q' : SRes} {D : Dn}
theorem post_ok {a : α} {s : Sto} : (Res.ok a s).Post P R ↔ P a s := Iff.rfl
theorem post_err {c : String} {ns : List Str} {vs : List AV} {s : Sto} : (Res.err c ns vs s : Res α).Post P R ↔ R c ns vs s := Iff.rfl
theorem A_nx {σ : ASt} {s : Sto} : (SRes.nx σ s).A D ↔ D.nx σ s := Iff.rfl
theorem A_rt {v : AV} {s : Sto} : (SRes.rt v s).A D ↔ D.rt v s := Iff.rfl
theorem A_bk {σ : ASt} {s : Sto} : (SRes.bk σ s).A D ↔ D.bk σ s := Iff.rfl
theorem A_ct {σ : ASt} {s : Sto} : (SRes.ct σ s).A D ↔ D.ct σ s := Iff.rfl
theorem A_err {c : String} {ns : List Str} {vs : List AV} {σ : ASt} {s : Sto} : (SRes.err c ns vs σ s).A D ↔ D.er c ns vs σ s := Iff.rfl
theorem A_thn {f : AS} : (q.thn f).A D ↔ q.A ⟨fun σ s => (f σ s).A D, D.rt, D.bk, D.ct, D.er⟩ := by cases q <;> exact Iff.rfl
theorem A_st {σ : ASt} {k : α → Sto → SRes} : (r.st σ k).A D ↔ r.Post (fun a s => (k a s).A D) (fun c ns vs s => D.er c ns vs σ s) := by cases r <;> exact Iff.rfl
theorem A_loop {f : AS} : (q.loop f).A D ↔ q.A ⟨fun σ s => (f σ s).A D, D.rt, D.nx, fun σ s => (f σ s).A D, D.er⟩ := by cases q <;> exact Iff.rfl
theorem post_fn {q : SRes} {P : AV → Sto → Prop} : q.fn.Post P R ↔ q.A ⟨fun _ s => P .non s, P, fun _ _ => False, fun _ _ => False, fun c ns vs _ s => R c ns vs s⟩ := by cases q <;> exact Iff.rfl
theorem A_forget {n : Nat} : (q.forget n).A D ↔ q.A ⟨D.nx, D.rt, D.bk, D.ct, fun c ns vs _ s => D.er c ns vs (List.replicate n none) s⟩ := by cases q <;> exact Iff.rfl
theorem A_clr {i : Nat} : (q.clr i).A D ↔ q.A ⟨fun σ s => D.nx (σ.set i none) s, D.rt, fun σ s => D.bk (σ.set i none) s, fun σ s => D.ct (σ.set i none) s, fun _ _ _ _ _ => False⟩ := by cases q <;> exact Iff.rfl
theorem A_noX : q.noX.A D ↔ q.A ⟨D.nx, D.rt, D.bk, D.ct, fun _ _ _ _ _ => False⟩ := by cases q <;> exact Iff.rfl
theorem A_try {f : AS} {hs : List HdA} {σ : ASt} {s : Sto} : (aTry f hs σ s).A D ↔ (f σ s).A ⟨D.nx, D.rt, D.bk, D.ct, fun c ns vs σ' s' => (aHand c ns vs σ' s' hs).A D⟩ := by
  unfold aTry
  cases f σ s <;> exact Iff.rfl
theorem post_noErr : (noErr r).Post P R ↔ r.Post P (fun _ _ _ _ => False) := by cases r <;> exact Iff.rfl
theorem post_ite {c : Prop} [Decidable c] {a b : Res α} : (if c then a else b).Post P R ↔ (c → a.Post P R) ∧ (¬ c → b.Post P R) := by
  by_cases h : c
  · simp [h]
  · simp [h]
theorem A_ite {c : Prop} [Decidable c] {a b : SRes} : (if c then a else b).A D ↔ (c → a.A D) ∧ (¬ c → b.A D) := by
  by_cases h : c
  · simp [h]
  · simp [h]
end
@[simp] theorem Clean_refl (s : Sto) : Clean s s = True := eq_true (.refl s)
theorem set_self {s : Sto} {d : Nat} : s.set d (s.c d) = s := by
  unfold Sto.set
  cases s
  simp only [Sto.mk.injEq, true_and]
  funext j
  by_cases h : j = d
  · simp [h]
  · simp [h]
/-- a cell of a store that grew -/
theorem at_new {s : Sto} {x : Cell} {i : Nat} (h : i < s.n) : (s.new x).c i = s.c i := if_neg (Nat.ne_of_lt h)
section
variable {P : AV → Sto → Prop} {R : String → List Str → List AV → Sto → Prop}
theorem post_gcF {F : List AV → Sto → Res AV} {args : List AV} {s : Sto} : (gcF F args s).Post P R ↔ (F args s).Post (fun v s' => if Cl s.n v ∧ Clean s s' then P v (s'.cut s) else P v s') (fun c ns vs s' => if ClL s.n vs ∧ Clean s s' then R c ns vs (s'.cut s) else R c ns vs s') := by
  unfold gcF gcR
  cases F args s with
  | ok v s' =>
    show (if Cl s.n v ∧ Clean s s' then (Res.ok v (s'.cut s) : Res AV) else .ok v s').Post P R ↔ if Cl s.n v ∧ Clean s s' then P v (s'.cut s) else P v s'
    split <;> exact Iff.rfl
  | err c ns vs s' =>
    show (if ClL s.n vs ∧ Clean s s' then (Res.err c ns vs (s'.cut s) : Res AV) else .err c ns vs s').Post P R ↔ if ClL s.n vs ∧ Clean s s' then R c ns vs (s'.cut s) else R c ns vs s'
    split <;> exact Iff.rfl
  | stuck => exact Iff.rfl
theorem post_gcE {f : AE} {σ : ASt} {s : Sto} : (gcE f σ s).Post P R ↔ (f σ s).Post (fun v s' => if Cl s.n v ∧ Clean s s' then P v (s'.cut s) else P v s') (fun c ns vs s' => if ClL s.n vs ∧ Clean s s' then R c ns vs (s'.cut s) else R c ns vs s') := by
  unfold gcE gcR
  cases f σ s with
  | ok v s' =>
    show (if Cl s.n v ∧ Clean s s' then (Res.ok v (s'.cut s) : Res AV) else .ok v s').Post P R ↔ if Cl s.n v ∧ Clean s s' then P v (s'.cut s) else P v s'
    split <;> exact Iff.rfl
  | err c ns vs s' =>
    show (if ClL s.n vs ∧ Clean s s' then (Res.err c ns vs (s'.cut s) : Res AV) else .err c ns vs s').Post P R ↔ if ClL s.n vs ∧ Clean s s' then R c ns vs (s'.cut s) else R c ns vs s'
    split <;> exact Iff.rfl
  | stuck => exact Iff.rfl
theorem post_gcT {f : AT} {P : Bool → Sto → Prop} {σ : ASt} {s : Sto} : (gcT f σ s).Post P R ↔ (f σ s).Post (fun v s' => if Clean s s' then P v (s'.cut s) else P v s') R := by
  unfold gcT gcB
  cases f σ s with
  | ok v s' =>
    show (if Clean s s' then (Res.ok v (s'.cut s) : Res Bool) else .ok v s').Post P R ↔ if Clean s s' then P v (s'.cut s) else P v s'
    split <;> exact Iff.rfl
  | err c ns vs s' => exact Iff.rfl
  | stuck => exact Iff.rfl
/-- what a def returns, as an equation -/
theorem res_ok {r : Res AV} {v : AV} {s : Sto} (h : r.Post (fun v' s' => v' = v ∧ s' = s) (fun _ _ _ _ => False)) : r = .ok v s := by
  cases r with
  | ok v' s' => obtain ⟨rfl, rfl⟩ := h; rfl
  | err => exact h.elim
  | stuck => exact h.elim
end
theorem forI_A {G : Sto → Prop} {g : AV → AS} {b : AS} {D : Dn} (I : Nat → ASt → Sto → Prop) : ∀ (xs : List AV) (k : Nat) {σ : ASt} {s : Sto}, I k σ s →
    (∀ i x σ s, xs[i]? = some x → I (k + i) σ s → G s ∧ (aSeq (g x) b σ s).A ⟨I (k + i + 1), D.rt, D.nx, I (k + i + 1), D.er⟩) → (∀ σ s, I (k + xs.length) σ s → G s ∧ D.nx σ s) → (forI G g b xs σ s).A D
  | [], k, σ, s, h, st, fin => by
    obtain ⟨g, h⟩ := fin σ s h
    rw [forI_nil g]
    exact h
  | x :: xs, k, σ, s, h, st, fin => by
    obtain ⟨g0, h0⟩ := st 0 x σ s rfl h
    rw [forI_cons g0, A_loop]
    have nxt : ∀ σ s, I (k + 1) σ s → (forI G g b xs σ s).A D := fun σ s h => forI_A I xs (k + 1) h (fun i y σ s e hI => by
      have := st (i + 1) y σ s (by simpa using e) (by rw [show k + (i + 1) = k + 1 + i by omega]; exact hI)
      rw [show k + (i + 1) = k + 1 + i by omega] at this
      exact this) (fun σ s hI => fin σ s (by rw [List.length_cons, show k + (xs.length + 1) = k + 1 + xs.length by omega]; exact hI))
    cases e : aSeq (g x) b σ s with
    | nx σ' s' => rw [e] at h0; exact nxt _ _ h0
    | ct σ' s' => rw [e] at h0; exact nxt _ _ h0
    | bk σ' s' => rw [e] at h0; exact h0
    | rt v s' => rw [e] at h0; exact h0
    | err c ns vs σ' s' => rw [e] at h0; exact h0
    | stuck => rw [e] at h0; exact h0
/-- a loop, its turns counted -/
theorem for_A {G : Sto → Prop} {g : AV → AS} {b : AS} {D : Dn} {xs : List AV} {σ : ASt} {s : Sto} (I : Nat → ASt → Sto → Prop) (h : I 0 σ s)
    (st : ∀ i x σ s, xs[i]? = some x → I i σ s → G s ∧ (aSeq (g x) b σ s).A ⟨I (i + 1), D.rt, D.nx, I (i + 1), D.er⟩) (fin : ∀ σ s, I xs.length σ s → G s ∧ D.nx σ s) : (forI G g b xs σ s).A D :=
  forI_A I xs 0 h (fun i x σ s e hI => by rw [Nat.zero_add] at hI ⊢; exact st i x σ s e hI) (fun σ s hI => fin σ s (by rw [Nat.zero_add] at hI; exact hI))
theorem rngA_get {lo : Int} {n i : Nat} {x : AV} (h : (rngA lo n)[i]? = some x) : i < n ∧ x = .int (lo + i) := by
  unfold rngA at h
  rw [List.getElem?_map] at h
  by_cases hi : i < n
  · rw [List.getElem?_range hi] at h
    exact ⟨hi, (Option.some.inj h).symm⟩
  · rw [List.getElem?_eq_none (by rw [List.length_range]; omega)] at h
    cases h
theorem rngA_len {lo : Int} {n : Nat} : (rngA lo n).length = n := by
  unfold rngA
  rw [List.length_map, List.length_range]
theorem enumA_get {xs : List AV} {i : Nat} {x : AV} (h : (enumA xs)[i]? = some x) : ∃ y, xs[i]? = some y ∧ x = .tup [.int i, y] := by
  unfold enumA at h
  rw [List.getElem?_mapIdx] at h
  cases e : xs[i]? with
  | none => rw [e] at h; cases h
  | some y => rw [e] at h; exact ⟨y, rfl, (Option.some.inj h).symm⟩
/-- for x in range(n) -/
theorem for_rng {G : Sto → Prop} {g : AV → AS} {b : AS} {D : Dn} {n : Nat} {lo : Int} {σ : ASt} {s : Sto} (I : Nat → ASt → Sto → Prop) (h : I 0 σ s)
    (st : ∀ (i : Nat) σ s, i < n → I i σ s → G s ∧ (aSeq (g (.int (lo + i))) b σ s).A ⟨I (i + 1), D.rt, D.nx, I (i + 1), D.er⟩) (fin : ∀ σ s, I n σ s → G s ∧ D.nx σ s) : (forI G g b (rngA lo n) σ s).A D :=
  for_A I h (fun i x σ s e hI => by
    obtain ⟨hi, rfl⟩ := rngA_get e
    exact st i σ s hi hI) (fun σ s hI => fin σ s (by rw [rngA_len] at hI; exact hI))
/-- [.. for x in ..]: the rows are told one by one -/
theorem lcI_P {k : Nat} {G : Sto → Prop} {g : AV → AS} {ft : AT} {fe : AE} {σ0 : ASt} {P : AV → Sto → Prop} {R : String → List Str → List AV → Sto → Prop} (I : Nat → List AV → Sto → Prop) : ∀ (xs : List AV) (j : Nat) (acc : List AV) {s : Sto}, I j acc s → s.c k = .lst acc → acc.length + xs.length ≤ sizeLine →
    (∀ i x acc s, xs[i]? = some x → I (j + i) acc s → s.c k = .lst acc → G s ∧ (g x σ0 s).A ⟨fun σ2 s2 => (ft σ2 s2).Post (fun b s3 => (b = true → (fe σ2 s3).Post (fun y s4 => s4.c k = .lst acc ∧ I (j + i + 1) (acc ++ [y]) (s4.set k (.lst (acc ++ [y])))) (fun _ _ _ _ => False)) ∧ (b = false → s3.c k = .lst acc ∧ I (j + i + 1) acc s3)) (fun _ _ _ _ => False), fun _ _ => False, fun _ _ => False, fun _ _ => False, fun _ _ _ _ _ => False⟩) →
    (∀ acc s, I (j + xs.length) acc s → s.c k = .lst acc → G s ∧ P (.obj k) s) → (oObj k (lcI k G g ft fe σ0 xs s)).Post P R
  | [], j, acc, s, h, hk, hl, st, fin => by
    obtain ⟨g0, h0⟩ := fin acc s h hk
    rw [show lcI k G g ft fe σ0 [] s = some s from if_pos g0]
    exact h0
  | x :: xs, j, acc, s, h, hk, hl, st, fin => by
    obtain ⟨g0, h0⟩ := st 0 x acc s rfl h hk
    have hl' : acc.length + xs.length + 1 ≤ sizeLine := by simpa [Nat.add_assoc] using hl
    have nxt : ∀ acc' s', acc'.length ≤ acc.length + 1 → I (j + 1) acc' s' → s'.c k = .lst acc' → (oObj k (lcI k G g ft fe σ0 xs s')).Post P R := fun acc' s' hl2 h hk =>
      lcI_P I xs (j + 1) acc' h hk (by omega) (fun i y acc s e hI hk => by
        have := st (i + 1) y acc s (by simpa using e) (by rw [show j + (i + 1) = j + 1 + i by omega]; exact hI) hk
        rw [show j + (i + 1) = j + 1 + i by omega] at this
        exact this) (fun acc s hI hk => fin acc s (by rw [List.length_cons, show j + (xs.length + 1) = j + 1 + xs.length by omega]; exact hI) hk)
    rw [show lcI k G g ft fe σ0 (x :: xs) s = (match g x σ0 s with
      | .nx σ2 s2 => (match ft σ2 s2 with
        | .ok true s3 => (match fe σ2 s3 with
          | .ok y s4 => (match s4.c k with | .lst acc => if acc.length < sizeLine then lcI k G g ft fe σ0 xs (s4.set k (.lst (acc ++ [y]))) else none | _ => none)
          | _ => none)
        | .ok false s3 => lcI k G g ft fe σ0 xs s3
        | _ => none)
      | _ => none) from if_pos g0]
    cases e : g x σ0 s with
    | nx σ2 s2 =>
      rw [e] at h0
      have h0 : (ft σ2 s2).Post _ _ := h0
      cases e2 : ft σ2 s2 with
      | ok b s3 =>
        rw [e2] at h0
        cases b with
        | true =>
          have h1 := h0.1 rfl
          cases e3 : fe σ2 s3 with
          | ok y s4 =>
            rw [e3] at h1
            obtain ⟨k1, k2⟩ := h1
            simp only [e2, e3, k1]
            rw [if_pos (by omega)]
            exact nxt _ _ (by simp) k2 Sto.set_at
          | err => rw [e3] at h1; exact h1.elim
          | stuck => rw [e3] at h1; exact h1.elim
        | false =>
          obtain ⟨k1, k2⟩ := h0.2 rfl
          simp only [e2]
          exact nxt _ _ (Nat.le_succ _) k2 k1
      | err => rw [e2] at h0; exact h0.elim
      | stuck => rw [e2] at h0; exact h0.elim
    | rt => rw [e] at h0; exact h0.elim
    | bk => rw [e] at h0; exact h0.elim
    | ct => rw [e] at h0; exact h0.elim
    | err => rw [e] at h0; exact h0.elim
    | stuck => rw [e] at h0; exact h0.elim
/-- while: the turns that are left -/
theorem whileN_A {c : AT} {b : AS} {D : Dn} (I : Nat → ASt → Sto → Prop) (st : ∀ n σ s, I n σ s → (c σ s).Post (fun r s1 => (r = true → (b σ s1).A ⟨fun σ s => ∃ m, m < n ∧ I m σ s, D.rt, D.nx, fun σ s => ∃ m, m < n ∧ I m σ s, D.er⟩) ∧ (r = false → D.nx σ s1)) (fun c ns vs s => D.er c ns vs σ s)) :
    ∀ (n : Nat) (σ : ASt) (s : Sto), I n σ s → ∃ k, (whileN c b k σ s).A D := fun n => by
  induction n using Nat.strongRecOn with
  | _ n ih =>
    intro σ s h
    have h0 := st n σ s h
    cases e : c σ s with
    | ok r s1 =>
      rw [e] at h0
      cases r with
      | false =>
        refine ⟨1, ?_⟩
        show ((c σ s).st σ fun r s1 => if r = true then (b σ s1).loop (whileN c b 0) else .nx σ s1).A D
        rw [e]
        exact h0.2 rfl
      | true =>
        have h1 := h0.1 rfl
        have big : ∀ (k : Nat), ((b σ s1).loop (whileN c b k)).A D → ∃ k, (whileN c b k σ s).A D := fun k hk => ⟨k + 1, by
          show ((c σ s).st σ fun r s1 => if r = true then (b σ s1).loop (whileN c b k) else .nx σ s1).A D
          rw [e]
          exact hk⟩
        cases e1 : b σ s1 with
        | nx σ' s' =>
          rw [e1] at h1
          obtain ⟨m, hm, hI⟩ := h1
          obtain ⟨k, hk⟩ := ih m hm σ' s' hI
          exact big k (by rw [e1]; exact hk)
        | ct σ' s' =>
          rw [e1] at h1
          obtain ⟨m, hm, hI⟩ := h1
          obtain ⟨k, hk⟩ := ih m hm σ' s' hI
          exact big k (by rw [e1]; exact hk)
        | bk σ' s' => rw [e1] at h1; exact big 0 (by rw [e1]; exact h1)
        | rt v s' => rw [e1] at h1; exact big 0 (by rw [e1]; exact h1)
        | err c ns vs σ' s' => rw [e1] at h1; exact big 0 (by rw [e1]; exact h1)
        | stuck => rw [e1] at h1; exact h1.elim
    | err c' ns vs s1 =>
      rw [e] at h0
      refine ⟨1, ?_⟩
      show ((c σ s).st σ fun r s1 => if r = true then (b σ s1).loop (whileN c b 0) else .nx σ s1).A D
      rw [e]
      exact h0
    | stuck => rw [e] at h0; exact h0.elim
theorem A_ne {q : SRes} {D : Dn} (h : q.A D) : q ≠ .stuck := fun e => by rw [e] at h; exact h
theorem whileN_le {c : AT} {b : AS} {k : Nat} {σ : ASt} {s : Sto} (h : whileN c b k σ s ≠ .stuck) : ∀ m, whileN c b (k + m) σ s = whileN c b k σ s
  | 0 => rfl
  | m + 1 => by
    have ih := whileN_le h m
    rw [← ih, show k + (m + 1) = k + m + 1 from rfl]
    exact whileN_succ _ _ _ (by rw [ih]; exact h)
theorem while_A {c : AT} {b : AS} {D : Dn} {σ : ASt} {s : Sto} (I : Nat → ASt → Sto → Prop) (n : Nat) (h : I n σ s) (st : ∀ n σ s, I n σ s → (c σ s).Post (fun r s1 => (r = true → (b σ s1).A ⟨fun σ s => ∃ m, m < n ∧ I m σ s, D.rt, D.nx, fun σ s => ∃ m, m < n ∧ I m σ s, D.er⟩) ∧ (r = false → D.nx σ s1)) (fun c ns vs s => D.er c ns vs σ s)) :
    (aWhile c b σ s).A D := by
  obtain ⟨k, hk⟩ := whileN_A I st n σ s h
  have hx : ∃ k, whileN c b k σ s ≠ .stuck := ⟨k, A_ne hk⟩
  unfold aWhile
  rw [dif_pos hx]
  have hc := Classical.choose_spec hx
  rcases Nat.le_total (Classical.choose hx) k with hle | hle
  · have := whileN_le hc (k - Classical.choose hx)
    rw [Nat.add_sub_cancel' hle] at this
    rw [← this]
    exact hk
  · have := whileN_le (A_ne hk) (Classical.choose hx - k)
    rw [Nat.add_sub_cancel' hle] at this
    rw [this]
    exact hk
/-- an index in bounds, of a row whose values are alike -/
theorem atI_all {xs : List AV} {i : Int} (h0 : 0 ≤ i) (h1 : i < xs.length) : ∃ x, x ∈ xs ∧ atI xs i = some x := by
  obtain ⟨j, rfl⟩ := Int.eq_ofNat_of_zero_le h0
  have hi : j < xs.length := by omega
  exact ⟨xs[j], List.getElem_mem hi, atI_nat (List.getElem?_eq_getElem hi)⟩
/-- nothing that stood has changed -/
structure Gb (s s' : Sto) : Prop where
  n : s.n ≤ s'.n
  c : ∀ i, i < s.n → s'.c i = s.c i
theorem Gb.refl (s : Sto) : Gb s s := ⟨Nat.le_refl _, fun _ _ => rfl⟩
theorem Gb.trans {s t u : Sto} (a : Gb s t) (b : Gb t u) : Gb s u := ⟨Nat.le_trans a.n b.n, fun i h => (b.c i (Nat.lt_of_lt_of_le h a.n)).trans (a.c i h)⟩
theorem Gb.new {s t : Sto} {x : Cell} (a : Gb s t) : Gb s (t.new x) := a.trans ⟨Nat.le_succ _, fun i h => at_new h⟩
theorem Gb.set {s t : Sto} {i : Nat} {x : Cell} (a : Gb s t) (h : s.n ≤ i) : Gb s (t.set i x) := ⟨a.n, fun j hj => (Sto.set_ne (by omega)).trans (a.c j hj)⟩
theorem Gb.clean {s t : Sto} (a : Gb s t) : Clean s t := ⟨a.n, fun i h => .inl (a.c i h)⟩
theorem Gb.cut {s t : Sto} (a : Gb s t) : t.cut s = s := cut_eq a.c
section
variable {P : AV → Sto → Prop} {R : String → List Str → List AV → Sto → Prop}
theorem gcF_g {F : List AV → Sto → Res AV} {args : List AV} {s : Sto} (h : (F args s).Post (fun v s' => Cl s.n v ∧ Gb s s' ∧ P v s) (fun c ns vs s' => ClL s.n vs ∧ Gb s s' ∧ R c ns vs s)) : (gcF F args s).Post P R :=
  post_gcF.mpr (h.mono (fun v s' z => by rw [if_pos ⟨z.1, z.2.1.clean⟩, z.2.1.cut]; exact z.2.2) fun c ns vs s' z => by rw [if_pos ⟨z.1, z.2.1.clean⟩, z.2.1.cut]; exact z.2.2)
theorem gcE_g {f : AE} {σ : ASt} {s : Sto} (h : (f σ s).Post (fun v s' => Cl s.n v ∧ Gb s s' ∧ P v s) (fun c ns vs s' => ClL s.n vs ∧ Gb s s' ∧ R c ns vs s)) : (gcE f σ s).Post P R :=
  post_gcE.mpr (h.mono (fun v s' z => by rw [if_pos ⟨z.1, z.2.1.clean⟩, z.2.1.cut]; exact z.2.2) fun c ns vs s' z => by rw [if_pos ⟨z.1, z.2.1.clean⟩, z.2.1.cut]; exact z.2.2)
theorem gcT_g {f : AT} {P : Bool → Sto → Prop} {σ : ASt} {s : Sto} (h : (f σ s).Post (fun v s' => Gb s s' ∧ P v s) R) : (gcT f σ s).Post P R :=
  post_gcT.mpr (h.mono (fun v s' z => by rw [if_pos z.1.clean, z.1.cut]; exact z.2) fun _ _ _ _ z => z)
end
/-- nothing that stood has changed, but what is at d -/
structure Gd (d : Nat) (s s' : Sto) : Prop where
  n : s.n ≤ s'.n
  c : ∀ i, i < s.n → i ≠ d → s'.c i = s.c i
theorem Gd.refl (d : Nat) (s : Sto) : Gd d s s := ⟨Nat.le_refl _, fun _ _ _ => rfl⟩
theorem Gd.trans {d : Nat} {s t u : Sto} (a : Gd d s t) (b : Gd d t u) : Gd d s u := ⟨Nat.le_trans a.n b.n, fun i h e => (b.c i (Nat.lt_of_lt_of_le h a.n) e).trans (a.c i h e)⟩
theorem Gd.set {d : Nat} {s t : Sto} {x : Cell} (a : Gd d s t) : Gd d s (t.set d x) := ⟨a.n, fun i h e => (Sto.set_ne e).trans (a.c i h e)⟩
theorem Gd.new {d : Nat} {s t : Sto} {x : Cell} (a : Gd d s t) : Gd d s (t.new x) := ⟨Nat.le_succ_of_le a.n, fun i h e => (at_new (Nat.lt_of_lt_of_le h a.n)).trans (a.c i h e)⟩
theorem Gd.cut {d : Nat} {s t : Sto} (a : Gd d s t) (h : d < s.n) : t.cut s = s.set d (t.c d) := by
  unfold Sto.cut Sto.set
  simp only [Sto.mk.injEq, true_and]
  funext i
  by_cases e : i = d
  · subst e; simp [h]
  · by_cases hi : i < s.n
    · simp [hi, e, a.c i hi e]
    · simp [hi, e]
theorem Gd.clean {d : Nat} {s t : Sto} (a : Gd d s t) (h : ClC s.n (t.c d)) : Clean s t := ⟨a.n, fun i hi => by
  by_cases e : i = d
  · subst e; exact .inr h
  · exact .inl (a.c i hi e)⟩
theorem ok_of_post {r : Res AV} {v : AV} (h : r.Post (fun v' _ => v' = v) (fun _ _ _ _ => False)) : ∃ s', r = .ok v s' := by
  cases r with
  | ok v' s' => cases (show v' = v from h); exact ⟨s', rfl⟩
  | err => exact h.elim
  | stuck => exact h.elim
section
variable {P : AV → Sto → Prop} {R : String → List Str → List AV → Sto → Prop}
theorem post_ix {x : AV} {xs : List AV} {i : Int} {s : Sto} (h : seqOf s x = some xs) (h0 : 0 ≤ i) (h1 : i < xs.length) (q : ∀ v, v ∈ xs → P v s) : (gIx x (.int i) s).Post P R := by
  obtain ⟨v, h2, h3⟩ := atI_all h0 h1
  rw [gIx_seq h h3]
  exact q v h2
end
theorem at_old {s : Sto} {x : Cell} {i : Nat} {c : Cell} (h : i < s.n) (e : s.c i = c) : (s.new x).c i = c := (at_new h).trans e
/-- a comprehension, its rows counted -/
theorem lc_P {k : Nat} {G : Sto → Prop} {g : AV → AS} {ft : AT} {fe : AE} {σ0 : ASt} {P : AV → Sto → Prop} {R : String → List Str → List AV → Sto → Prop} {xs : List AV} {s : Sto} (I : Nat → List AV → Sto → Prop) (h : I 0 [] s) (hk : s.c k = .lst []) (hl : xs.length ≤ 1000)
    (st : ∀ i x acc s, xs[i]? = some x → I i acc s → s.c k = .lst acc → G s ∧ (g x σ0 s).A ⟨fun σ2 s2 => (ft σ2 s2).Post (fun b s3 => (b = true → (fe σ2 s3).Post (fun y s4 => s4.c k = .lst acc ∧ I (i + 1) (acc ++ [y]) (s4.set k (.lst (acc ++ [y])))) (fun _ _ _ _ => False)) ∧ (b = false → s3.c k = .lst acc ∧ I (i + 1) acc s3)) (fun _ _ _ _ => False), fun _ _ => False, fun _ _ => False, fun _ _ => False, fun _ _ _ _ _ => False⟩)
    (fin : ∀ acc s, I xs.length acc s → s.c k = .lst acc → G s ∧ P (.obj k) s) : (oObj k (lcI k G g ft fe σ0 xs s)).Post P R :=
  lcI_P I xs 0 [] h hk (Nat.le_trans (show _ ≤ 1000 by simpa using hl) (by decide)) (fun i x acc s e hI hc => by
    rw [Nat.zero_add] at hI ⊢
    exact st i x acc s e hI hc) (fun acc s hI hc => by
    rw [Nat.zero_add] at hI
    exact fin acc s hI hc)
end Ab
set_option Elab.async false
set_option linter.all false
set_option maxRecDepth 100000
set_option maxHeartbeats 1000000
namespace Ab
open PySem PySem.Spec PyProof.Rows L2
open Classical
noncomputable section
def Kb {α β : Type} (k : α → Sto → Res β) (P : β → Sto → Prop) (R : String → List Str → List AV → Sto → Prop) : α → Sto → Prop := fun a s => (k a s).Post P R
def Kst {α : Type} (k : α → Sto → SRes) (D : Dn) : α → Sto → Prop := fun a s => (k a s).A D
def Rst (σ : ASt) (D : Dn) : String → List Str → List AV → Sto → Prop := fun c ns vs s => D.er c ns vs σ s
def Dn.thn (f : AS) (D : Dn) : Dn := ⟨fun σ s => (f σ s).A D, D.rt, D.bk, D.ct, D.er⟩
def Dn.lp (f : AS) (D : Dn) : Dn := ⟨fun σ s => (f σ s).A D, D.rt, D.nx, fun σ s => (f σ s).A D, D.er⟩
def Dn.fn (P : AV → Sto → Prop) (R : String → List Str → List AV → Sto → Prop) : Dn := ⟨fun _ s => P .non s, P, fun _ _ => False, fun _ _ => False, fun c ns vs _ s => R c ns vs s⟩
def Dn.fg (n : Nat) (D : Dn) : Dn := ⟨D.nx, D.rt, D.bk, D.ct, fun c ns vs _ s => D.er c ns vs (List.replicate n none) s⟩
def Dn.cl (i : Nat) (D : Dn) : Dn := ⟨fun σ s => D.nx (σ.set i none) s, D.rt, fun σ s => D.bk (σ.set i none) s, fun σ s => D.ct (σ.set i none) s, fun _ _ _ _ _ => False⟩
def Dn.nX (D : Dn) : Dn := ⟨D.nx, D.rt, D.bk, D.ct, fun _ _ _ _ _ => False⟩
def Dn.tr (hs : List HdA) (D : Dn) : Dn := ⟨D.nx, D.rt, D.bk, D.ct, fun c ns vs σ' s' => (aHand c ns vs σ' s' hs).A D⟩
section
variable {α β : Type} {r r' : Res α} {q q' : SRes} {D : Dn}
theorem k_bind {k : α → Sto → Res β} {P : β → Sto → Prop} {R : String → List Str → List AV → Sto → Prop} : (r.bind k).Post P R ↔ r.Post (Kb k P R) R := Res.post_bind
theorem k_Kb {k : α → Sto → Res β} {P : β → Sto → Prop} {R : String → List Str → List AV → Sto → Prop} {a : α} {s : Sto} : Kb k P R a s ↔ (k a s).Post P R := Iff.rfl
theorem k_st {σ : ASt} {k : α → Sto → SRes} : (r.st σ k).A D ↔ r.Post (Kst k D) (Rst σ D) := A_st
theorem k_Kst {k : α → Sto → SRes} {a : α} {s : Sto} : Kst k D a s ↔ (k a s).A D := Iff.rfl
theorem k_Rst {σ : ASt} {c : String} {ns : List Str} {vs : List AV} {s : Sto} : Rst σ D c ns vs s ↔ D.er c ns vs σ s := Iff.rfl
theorem k_thn {f : AS} : (q.thn f).A D ↔ q.A (D.thn f) := A_thn
theorem k_loop {f : AS} : (q.loop f).A D ↔ q.A (D.lp f) := A_loop
theorem k_fn {P : AV → Sto → Prop} {R : String → List Str → List AV → Sto → Prop} : q.fn.Post P R ↔ q.A (Dn.fn P R) := post_fn
theorem k_forget {n : Nat} : (q.forget n).A D ↔ q.A (D.fg n) := A_forget
theorem k_clr {i : Nat} : (q.clr i).A D ↔ q.A (D.cl i) := A_clr
theorem k_noX : q.noX.A D ↔ q.A D.nX := A_noX
theorem k_try {f : AS} {hs : List HdA} {σ : ASt} {s : Sto} : (aTry f hs σ s).A D ↔ (f σ s).A (D.tr hs) := A_try
theorem k_stuck {P : α → Sto → Prop} {R : String → List Str → List AV → Sto → Prop} : (Res.stuck : Res α).Post P R ↔ False := Iff.rfl
theorem k_Astuck : SRes.stuck.A D ↔ False := Iff.rfl
theorem k_iteS {c : Prop} [Decidable c] {a : Res α} {P : α → Sto → Prop} {R : String → List Str → List AV → Sto → Prop} : (if c then a else Res.stuck).Post P R ↔ c ∧ a.Post P R := by
  by_cases h : c
  · simp [h]
  · simp [h, k_stuck]
theorem k_AiteS {c : Prop} [Decidable c] {a : SRes} : (if c then a else SRes.stuck).A D ↔ c ∧ a.A D := by
  by_cases h : c
  · simp [h]
  · simp [h, k_Astuck]
end
def grd {α : Type} (c : Prop) [Decidable c] (r : Res α) : Res α := if c then r else .stuck
def grdS (c : Prop) [Decidable c] (r : SRes) : SRes := if c then r else .stuck
theorem grd_pos {α : Type} {c : Prop} [Decidable c] {a : Res α} (h : c) : grd c a = a := if_pos h
theorem grdS_pos {c : Prop} [Decidable c] {a : SRes} (h : c) : grdS c a = a := if_pos h
theorem k_grd {α : Type} {c : Prop} [Decidable c] {a : Res α} {P : α → Sto → Prop} {R : String → List Str → List AV → Sto → Prop} : (grd c a).Post P R ↔ c ∧ a.Post P R := k_iteS
theorem k_grdS {c : Prop} [Decidable c] {a : SRes} {D : Dn} : (grdS c a).A D ↔ c ∧ a.A D := k_AiteS
theorem k_ite {α : Type} {c : Prop} [Decidable c] {x y : Res α} {P : α → Sto → Prop} {R : String → List Str → List AV → Sto → Prop} : (if c then x else y).Post P R ↔ (c → x.Post P R) ∧ (¬ c → y.Post P R) := post_ite
theorem k_Aite {c : Prop} [Decidable c] {x y : SRes} {D : Dn} : (if c then x else y).A D ↔ (c → x.A D) ∧ (¬ c → y.A D) := A_ite
theorem d_thn_nx {D : Dn} {f : AS} {σ : ASt} {s : Sto} : (D.thn f).nx σ s ↔ (f σ s).A D := Iff.rfl
theorem d_thn_bk {D : Dn} {f : AS} {σ : ASt} {s : Sto} : (D.thn f).bk σ s ↔ D.bk σ s := Iff.rfl
theorem d_thn_ct {D : Dn} {f : AS} {σ : ASt} {s : Sto} : (D.thn f).ct σ s ↔ D.ct σ s := Iff.rfl
theorem d_thn_rt {D : Dn} {f : AS} {v : AV} {s : Sto} : (D.thn f).rt v s ↔ D.rt v s := Iff.rfl
theorem d_thn_er {D : Dn} {f : AS} {σ : ASt} {s : Sto} {c : String} {ns : List Str} {vs : List AV} : (D.thn f).er c ns vs σ s ↔ D.er c ns vs σ s := Iff.rfl
theorem d_lp_nx {D : Dn} {f : AS} {σ : ASt} {s : Sto} : (D.lp f).nx σ s ↔ (f σ s).A D := Iff.rfl
theorem d_lp_bk {D : Dn} {f : AS} {σ : ASt} {s : Sto} : (D.lp f).bk σ s ↔ D.nx σ s := Iff.rfl
theorem d_lp_ct {D : Dn} {f : AS} {σ : ASt} {s : Sto} : (D.lp f).ct σ s ↔ (f σ s).A D := Iff.rfl
theorem d_lp_rt {D : Dn} {f : AS} {v : AV} {s : Sto} : (D.lp f).rt v s ↔ D.rt v s := Iff.rfl
theorem d_lp_er {D : Dn} {f : AS} {σ : ASt} {s : Sto} {c : String} {ns : List Str} {vs : List AV} : (D.lp f).er c ns vs σ s ↔ D.er c ns vs σ s := Iff.rfl
theorem d_fg_nx {D : Dn} {f : Nat} {σ : ASt} {s : Sto} : (D.fg f).nx σ s ↔ D.nx σ s := Iff.rfl
theorem d_fg_bk {D : Dn} {f : Nat} {σ : ASt} {s : Sto} : (D.fg f).bk σ s ↔ D.bk σ s := Iff.rfl
theorem d_fg_ct {D : Dn} {f : Nat} {σ : ASt} {s : Sto} : (D.fg f).ct σ s ↔ D.ct σ s := Iff.rfl
theorem d_fg_rt {D : Dn} {f : Nat} {v : AV} {s : Sto} : (D.fg f).rt v s ↔ D.rt v s := Iff.rfl
theorem d_fg_er {D : Dn} {f : Nat} {σ : ASt} {s : Sto} {c : String} {ns : List Str} {vs : List AV} : (D.fg f).er c ns vs σ s ↔ D.er c ns vs (List.replicate f none) s := Iff.rfl
theorem d_cl_nx {D : Dn} {f : Nat} {σ : ASt} {s : Sto} : (D.cl f).nx σ s ↔ D.nx (σ.set f none) s := Iff.rfl
theorem d_cl_bk {D : Dn} {f : Nat} {σ : ASt} {s : Sto} : (D.cl f).bk σ s ↔ D.bk (σ.set f none) s := Iff.rfl
theorem d_cl_ct {D : Dn} {f : Nat} {σ : ASt} {s : Sto} : (D.cl f).ct σ s ↔ D.ct (σ.set f none) s := Iff.rfl
theorem d_cl_rt {D : Dn} {f : Nat} {v : AV} {s : Sto} : (D.cl f).rt v s ↔ D.rt v s := Iff.rfl
theorem d_cl_er {D : Dn} {f : Nat} {σ : ASt} {s : Sto} {c : String} {ns : List Str} {vs : List AV} : (D.cl f).er c ns vs σ s ↔ False := Iff.rfl
theorem d_tr_nx {D : Dn} {f : List HdA} {σ : ASt} {s : Sto} : (D.tr f).nx σ s ↔ D.nx σ s := Iff.rfl
theorem d_tr_bk {D : Dn} {f : List HdA} {σ : ASt} {s : Sto} : (D.tr f).bk σ s ↔ D.bk σ s := Iff.rfl
theorem d_tr_ct {D : Dn} {f : List HdA} {σ : ASt} {s : Sto} : (D.tr f).ct σ s ↔ D.ct σ s := Iff.rfl
theorem d_tr_rt {D : Dn} {f : List HdA} {v : AV} {s : Sto} : (D.tr f).rt v s ↔ D.rt v s := Iff.rfl
theorem d_tr_er {D : Dn} {f : List HdA} {σ : ASt} {s : Sto} {c : String} {ns : List Str} {vs : List AV} : (D.tr f).er c ns vs σ s ↔ (aHand c ns vs σ s f).A D := Iff.rfl
theorem d_nX_nx {D : Dn} {σ : ASt} {s : Sto} : D.nX.nx σ s ↔ D.nx σ s := Iff.rfl
theorem d_nX_bk {D : Dn} {σ : ASt} {s : Sto} : D.nX.bk σ s ↔ D.bk σ s := Iff.rfl
theorem d_nX_ct {D : Dn} {σ : ASt} {s : Sto} : D.nX.ct σ s ↔ D.ct σ s := Iff.rfl
theorem d_nX_rt {D : Dn} {v : AV} {s : Sto} : D.nX.rt v s ↔ D.rt v s := Iff.rfl
theorem d_nX_er {D : Dn} {σ : ASt} {s : Sto} {c : String} {ns : List Str} {vs : List AV} : D.nX.er c ns vs σ s ↔ False := Iff.rfl
theorem d_fn_nx {P : AV → Sto → Prop} {R : String → List Str → List AV → Sto → Prop} {σ : ASt} {s : Sto} : (Dn.fn P R).nx σ s ↔ P .non s := Iff.rfl
theorem d_fn_bk {P : AV → Sto → Prop} {R : String → List Str → List AV → Sto → Prop} {σ : ASt} {s : Sto} : (Dn.fn P R).bk σ s ↔ False := Iff.rfl
theorem d_fn_ct {P : AV → Sto → Prop} {R : String → List Str → List AV → Sto → Prop} {σ : ASt} {s : Sto} : (Dn.fn P R).ct σ s ↔ False := Iff.rfl
theorem d_fn_rt {P : AV → Sto → Prop} {R : String → List Str → List AV → Sto → Prop} {v : AV} {s : Sto} : (Dn.fn P R).rt v s ↔ P v s := Iff.rfl
theorem d_fn_er {P : AV → Sto → Prop} {R : String → List Str → List AV → Sto → Prop} {σ : ASt} {s : Sto} {c : String} {ns : List Str} {vs : List AV} : (Dn.fn P R).er c ns vs σ s ↔ R c ns vs s := Iff.rfl
def opK1 (g : AV → AV → Sto → Res AV) (fb : AE) (σ : ASt) : AV → Sto → Res AV := fun x s1 => (fb σ s1).bind (g x)
theorem e_op {fa fb : AE} {σ : ASt} {s : Sto} {g : AV → AV → Sto → Res AV} : aOp g fa fb σ s = (fa σ s).bind (opK1 g fb σ) := rfl
theorem e_opK {fb : AE} {σ : ASt} {s : Sto} {g : AV → AV → Sto → Res AV} {x : AV} : opK1 g fb σ x s = (fb σ s).bind (g x) := rfl
theorem e_un {fa : AE} {σ : ASt} {s : Sto} {g : AV → Sto → Res AV} : aUn g fa σ s = (fa σ s).bind g := rfl
theorem e_cb {fr : AA} {σ : ASt} {s : Sto} {g : List AV → Sto → Res AV} : aCB g fr σ s = (fr σ s).bind g := rfl
theorem e_nil {σ : ASt} {s : Sto} : aNil σ s = .ok [] s := rfl
theorem e_c {v : AV} {σ : ASt} {s : Sto} : aC v σ s = .ok v s := rfl
def consK2 (x : AV) : List AV → Sto → Res (List AV) := fun xs s => .ok (x :: xs) s
def consK1 (fr : AA) (σ : ASt) : AV → Sto → Res (List AV) := fun x s1 => (fr σ s1).bind (consK2 x)
theorem e_cons {fa : AE} {fr : AA} {σ : ASt} {s : Sto} : aCons fa fr σ s = (fa σ s).bind (consK1 fr σ) := rfl
theorem e_consK {fr : AA} {σ : ASt} {s : Sto} {x : AV} : consK1 fr σ x s = (fr σ s).bind (consK2 x) := rfl
theorem e_consK2 {x : AV} {xs : List AV} {s : Sto} : consK2 x xs s = .ok (x :: xs) s := rfl
def andK (fb : AE) (σ : ASt) : AV → Sto → Res AV := fun x s1 => match x with | .bl true => fb σ s1 | .bl false => .ok (.bl false) s1 | _ => .stuck
def orK (fb : AE) (σ : ASt) : AV → Sto → Res AV := fun x s1 => match x with | .bl false => fb σ s1 | .bl true => .ok (.bl true) s1 | _ => .stuck
theorem e_and {fa fb : AE} {σ : ASt} {s : Sto} : aAndV fa fb σ s = (fa σ s).bind (andK fb σ) := rfl
theorem e_or {fa fb : AE} {σ : ASt} {s : Sto} : aOrV fa fb σ s = (fa σ s).bind (orK fb σ) := rfl
theorem e_andK {fb : AE} {σ : ASt} {s : Sto} {b : Bool} : andK fb σ (.bl b) s = if b = true then fb σ s else .ok (.bl false) s := by cases b <;> rfl
theorem e_orK {fb : AE} {σ : ASt} {s : Sto} {b : Bool} : orK fb σ (.bl b) s = if b = true then .ok (.bl true) s else fb σ s := by cases b <;> rfl
def notK  : AV → Sto → Res AV := fun x s1 => match x with | .bl b => .ok (.bl (!b)) s1 | _ => .stuck
theorem e_not {fa : AE} {σ : ASt} {s : Sto} : aNotV fa σ s = (fa σ s).bind notK := rfl
theorem e_notK {b : Bool} {s : Sto} : notK (.bl b) s = .ok (.bl (!b)) s := rfl
def testK  : AV → Sto → Res Bool := fun x s1 => match x with | .bl b => .ok b s1 | _ => .stuck
theorem e_test {fa : AE} {σ : ASt} {s : Sto} : aTest fa σ s = (fa σ s).bind testK := rfl
theorem e_testK {b : Bool} {s : Sto} : testK (.bl b) s = .ok b s := rfl
def tandK (u : AT) (σ : ASt) : Bool → Sto → Res Bool := fun b s1 => if b = true then u σ s1 else .ok false s1
def torK (u : AT) (σ : ASt) : Bool → Sto → Res Bool := fun b s1 => if b = true then .ok true s1 else u σ s1
def tnotK  : Bool → Sto → Res Bool := fun b s1 => .ok (!b) s1
theorem e_tand {t u : AT} {σ : ASt} {s : Sto} : aAnd t u σ s = (t σ s).bind (tandK u σ) := rfl
theorem e_tandK {u : AT} {σ : ASt} {s : Sto} {b : Bool} : tandK u σ b s = if b = true then u σ s else .ok false s := rfl
theorem e_tor {t u : AT} {σ : ASt} {s : Sto} : aOr t u σ s = (t σ s).bind (torK u σ) := rfl
theorem e_torK {u : AT} {σ : ASt} {s : Sto} {b : Bool} : torK u σ b s = if b = true then .ok true s else u σ s := rfl
theorem e_tnot {t : AT} {σ : ASt} {s : Sto} : aNot t σ s = (t σ s).bind tnotK := rfl
theorem e_tnotK {b : Bool} {s : Sto} : tnotK b s = .ok (!b) s := rfl
theorem e_yes {σ : ASt} {s : Sto} : aYes σ s = .ok true s := rfl
def ifK (fa fb : AE) (σ : ASt) : Bool → Sto → Res AV := fun b s1 => if b = true then fa σ s1 else fb σ s1
theorem e_if {fa fb : AE} {t : AT} {σ : ASt} {s : Sto} : aIf t fa fb σ s = (t σ s).bind (ifK fa fb σ) := rfl
theorem e_ifK {fa fb : AE} {σ : ASt} {s : Sto} {b : Bool} : ifK fa fb σ b s = if b = true then fa σ s else fb σ s := rfl
def chK3 (r' : AV → AV → Sto → Res AV) (fc : AE) (σ : ASt) (y : AV) : AV → Sto → Res AV := fun z s3 => match z with | .bl true => (fc σ s3).bind (r' y) | .bl false => .ok (.bl false) s3 | _ => .stuck
def chK2 (r r' : AV → AV → Sto → Res AV) (fc : AE) (σ : ASt) (x : AV) : AV → Sto → Res AV := fun y s2 => (r x y s2).bind (chK3 r' fc σ y)
def chK1 (r r' : AV → AV → Sto → Res AV) (fb fc : AE) (σ : ASt) : AV → Sto → Res AV := fun x s1 => (fb σ s1).bind (chK2 r r' fc σ x)
theorem e_ch {fa fb fc : AE} {σ : ASt} {s : Sto} {r r' : AV → AV → Sto → Res AV} : aChain r r' fa fb fc σ s = (fa σ s).bind (chK1 r r' fb fc σ) := rfl
theorem e_chK1 {fb fc : AE} {σ : ASt} {s : Sto} {r r' : AV → AV → Sto → Res AV} {x : AV} : chK1 r r' fb fc σ x s = (fb σ s).bind (chK2 r r' fc σ x) := rfl
theorem e_chK2 {fc : AE} {σ : ASt} {s : Sto} {r r' : AV → AV → Sto → Res AV} {x y : AV} : chK2 r r' fc σ x y s = (r x y s).bind (chK3 r' fc σ y) := rfl
theorem e_chK3 {fc : AE} {σ : ASt} {s : Sto} {r' : AV → AV → Sto → Res AV} {y : AV} {b : Bool} : chK3 r' fc σ y (.bl b) s = if b = true then (fc σ s).bind (r' y) else .ok (.bl false) s := by cases b <;> rfl
def tupK  : List AV → Sto → Res AV := fun xs s1 => if xs.length ≤ sizeLine then .ok (.tup xs) s1 else .stuck
def lstK  : List AV → Sto → Res AV := fun xs s1 => if xs.length ≤ sizeLine then newL xs s1 else .stuck
theorem e_tup {fr : AA} {σ : ASt} {s : Sto} : aTup fr σ s = (fr σ s).bind tupK := rfl
theorem e_tupK {xs : List AV} {s : Sto} : tupK xs s = grd (xs.length ≤ sizeLine) (.ok (.tup xs) s) := rfl
theorem e_lst {fr : AA} {σ : ASt} {s : Sto} : aLst fr σ s = (fr σ s).bind lstK := rfl
theorem e_lstK {xs : List AV} {s : Sto} : lstK xs s = grd (xs.length ≤ sizeLine) (newL xs s) := rfl
theorem e_newL {xs : List AV} {s : Sto} : newL xs s = .ok (.obj s.n) (s.new (.lst xs)) := rfl
def callK (n : Nat) (F : List AV → Sto → Res AV) (dvs : List AV) : List AV → Sto → Res AV := fun xs s1 => if (xs ++ dvs).length = n then F (xs ++ dvs) s1 else .stuck
theorem e_call {fr : AA} {σ : ASt} {s : Sto} {n : Nat} {F : List AV → Sto → Res AV} {dvs : List AV} : aCall n F dvs fr σ s = (fr σ s).bind (callK n F dvs) := rfl
theorem e_callK {n : Nat} {F : List AV → Sto → Res AV} {dvs : List AV} {xs : List AV} {s : Sto} : callK n F dvs xs s = grd ((xs ++ dvs).length = n) (F (xs ++ dvs) s) := rfl
def methK2 (n : Nat) (F : List AV → Sto → Res AV) (dvs : List AV) (x : AV) : List AV → Sto → Res AV := fun xs s2 => if (x :: (xs ++ dvs)).length = n then F (x :: (xs ++ dvs)) s2 else .stuck
def methK (c : String) (m : Str) (n : Nat) (F : List AV → Sto → Res AV) (dvs : List AV) (fr : AA) (σ : ASt) : AV → Sto → Res AV := fun x s1 => if clsIs s1 x c m = true then (fr σ s1).bind (methK2 n F dvs x) else .stuck
theorem e_meth {fa : AE} {fr : AA} {σ : ASt} {s : Sto} {n : Nat} {F : List AV → Sto → Res AV} {dvs : List AV} {c : String} {m : Str} : aMeth c m n F dvs fa fr σ s = (fa σ s).bind (methK c m n F dvs fr σ) := rfl
theorem e_methK {fr : AA} {σ : ASt} {s : Sto} {n : Nat} {F : List AV → Sto → Res AV} {dvs : List AV} {c : String} {m : Str} {x : AV} : methK c m n F dvs fr σ x s = grd (clsIs s x c m = true) ((fr σ s).bind (methK2 n F dvs x)) := rfl
theorem e_methK2 {n : Nat} {F : List AV → Sto → Res AV} {dvs : List AV} {x : AV} {xs : List AV} {s : Sto} : methK2 n F dvs x xs s = grd ((x :: (xs ++ dvs)).length = n) (F (x :: (xs ++ dvs)) s) := rfl
def propK (c : String) (F : List AV → Sto → Res AV) : AV → Sto → Res AV := fun x s1 => if isI s1 x c = true then noErr (F [x] s1) else .stuck
theorem e_prop {fa : AE} {σ : ASt} {s : Sto} {F : List AV → Sto → Res AV} {c : String} : aProp c F fa σ s = (fa σ s).bind (propK c F) := rfl
theorem e_propK {F : List AV → Sto → Res AV} {c : String} {x : AV} {s : Sto} : propK c F x s = grd (isI s x c = true) (noErr (F [x] s)) := rfl
def makeK2 (o : Nat) : AV → Sto → Res AV := fun v s2 => if isNon v = true then .ok (.obj o) s2 else .stuck
def makeK (c : String) (n : Nat) (F : List AV → Sto → Res AV) (dvs : List AV) : List AV → Sto → Res AV := fun xs s1 => if (AV.obj s1.n :: (xs ++ dvs)).length = n then (F (.obj s1.n :: (xs ++ dvs)) (s1.new (.ins c []))).bind (makeK2 s1.n) else .stuck
theorem e_make {fr : AA} {σ : ASt} {s : Sto} {n : Nat} {F : List AV → Sto → Res AV} {dvs : List AV} {c : String} : aMake c n F dvs fr σ s = (fr σ s).bind (makeK c n F dvs) := rfl
theorem e_makeK {n : Nat} {F : List AV → Sto → Res AV} {dvs : List AV} {c : String} {xs : List AV} {s : Sto} : makeK c n F dvs xs s = grd ((AV.obj s.n :: (xs ++ dvs)).length = n) ((F (.obj s.n :: (xs ++ dvs)) (s.new (.ins c []))).bind (makeK2 s.n)) := rfl
theorem e_makeK2 {o : Nat} {s : Sto} : makeK2 o .non s = .ok (.obj o) s := rfl
theorem e_makeV {fr : AA} {σ : ASt} {s : Sto} {n : Nat} {F : List AV → Sto → Res AV} {c : String} {i : Nat} {d : String} : aMakeV i c n F fr σ s = match σ[i]? with | some (some (.cls d)) => if d = c then aMake c n F [] fr σ s else .stuck | _ => .stuck := rfl
def smK2 (n : Nat) (F : List AV → Sto → Res AV) : List AV → Sto → Res AV := fun xs s2 => if (xs ++ []).length = n then F (xs ++ []) s2 else .stuck
def smK (c : String) (n : Nat) (F : List AV → Sto → Res AV) (fr : AA) (σ : ASt) : AV → Sto → Res AV := fun x s1 => if isCls c x = true then (fr σ s1).bind (smK2 n F) else .stuck
theorem e_sm {fa : AE} {fr : AA} {σ : ASt} {s : Sto} {n : Nat} {F : List AV → Sto → Res AV} {c : String} : aSMeth c n F fa fr σ s = (fa σ s).bind (smK c n F fr σ) := rfl
theorem e_smK {fr : AA} {σ : ASt} {s : Sto} {n : Nat} {F : List AV → Sto → Res AV} {c : String} {x : AV} : smK c n F fr σ x s = grd (isCls c x = true) ((fr σ s).bind (smK2 n F)) := rfl
theorem e_smK2 {n : Nat} {F : List AV → Sto → Res AV} {xs : List AV} {s : Sto} : smK2 n F xs s = grd ((xs ++ []).length = n) (F (xs ++ []) s) := rfl
def cmK2 (c : String) (n : Nat) (F : List AV → Sto → Res AV) : List AV → Sto → Res AV := fun xs s2 => if (AV.cls c :: (xs ++ [])).length = n then F (.cls c :: (xs ++ [])) s2 else .stuck
def cmK (c : String) (n : Nat) (F : List AV → Sto → Res AV) (fr : AA) (σ : ASt) : AV → Sto → Res AV := fun x s1 => if isCls c x = true then (fr σ s1).bind (cmK2 c n F) else .stuck
theorem e_cm {fa : AE} {fr : AA} {σ : ASt} {s : Sto} {n : Nat} {F : List AV → Sto → Res AV} {c : String} : aCMeth c n F fa fr σ s = (fa σ s).bind (cmK c n F fr σ) := rfl
theorem e_cmK {fr : AA} {σ : ASt} {s : Sto} {n : Nat} {F : List AV → Sto → Res AV} {c : String} {x : AV} : cmK c n F fr σ x s = grd (isCls c x = true) ((fr σ s).bind (cmK2 c n F)) := rfl
theorem e_cmK2 {n : Nat} {F : List AV → Sto → Res AV} {c : String} {xs : List AV} {s : Sto} : cmK2 c n F xs s = grd ((AV.cls c :: (xs ++ [])).length = n) (F (.cls c :: (xs ++ [])) s) := rfl
def slK3 (x : AV) (l : Option Int) : Option Int → Sto → Res AV := fun u s3 => gSl x l u s3
def slK2 (fh : AO) (σ : ASt) (x : AV) : Option Int → Sto → Res AV := fun l s2 => (fh σ s2).bind (slK3 x l)
def slK1 (fl fh : AO) (σ : ASt) : AV → Sto → Res AV := fun x s1 => (fl σ s1).bind (slK2 fh σ x)
theorem e_sl {fa : AE} {σ : ASt} {s : Sto} {fl fh : AO} : aSl fa fl fh σ s = (fa σ s).bind (slK1 fl fh σ) := rfl
theorem e_slK1 {σ : ASt} {s : Sto} {fl fh : AO} {x : AV} : slK1 fl fh σ x s = (fl σ s).bind (slK2 fh σ x) := rfl
theorem e_slK2 {σ : ASt} {s : Sto} {fh : AO} {x : AV} {l : Option Int} : slK2 fh σ x l s = (fh σ s).bind (slK3 x l) := rfl
theorem e_slK3 {s : Sto} {x : AV} {l h : Option Int} : slK3 x l h s = gSl x l h s := rfl
def partK  : AV → Sto → Res (Option Int) := fun x s1 => match x with | .int i => .ok (some i) s1 | _ => .stuck
theorem e_part {fa : AE} {σ : ASt} {s : Sto} : aPart fa σ s = (fa σ s).bind partK := rfl
theorem e_partK {i : Int} {s : Sto} : partK (.int i) s = .ok (some i) s := rfl
theorem e_nopart {σ : ASt} {s : Sto} : aNoPart σ s = .ok none s := rfl
def revK  : AV → Sto → Res AV := fun x s1 => match lstOf s1 x with | some xs => newL xs.reverse s1 | none => .stuck
theorem e_rev {fa : AE} {σ : ASt} {s : Sto} : aRev fa σ s = (fa σ s).bind revK := rfl
def bmK (g : AV → List AV → Sto → Res AV) (fr : AA) (σ : ASt) : AV → Sto → Res AV := fun x s1 => if isSeqL s1 x = true then (fr σ s1).bind (g x) else .stuck
theorem e_bm {fa : AE} {fr : AA} {σ : ASt} {s : Sto} {g : AV → List AV → Sto → Res AV} : aBM g fa fr σ s = (fa σ s).bind (bmK g fr σ) := rfl
theorem e_bmK {fr : AA} {σ : ASt} {s : Sto} {g : AV → List AV → Sto → Res AV} {x : AV} : bmK g fr σ x s = grd (isSeqL s x = true) ((fr σ s).bind (g x)) := rfl
def prK3 (x y : AV) : List (AV × AV) → Sto → Res (List (AV × AV)) := fun ps s3 => .ok ((x, y) :: ps) s3
def prK2 (r : List (AE × AE)) (σ : ASt) (x : AV) : AV → Sto → Res (List (AV × AV)) := fun y s2 => (aPairs r σ s2).bind (prK3 x y)
def prK1 (fv : AE) (r : List (AE × AE)) (σ : ASt) : AV → Sto → Res (List (AV × AV)) := fun x s1 => (fv σ s1).bind (prK2 r σ x)
def dispK (n : Nat) : List (AV × AV) → Sto → Res AV := fun ps s1 => match s1.c n, keysA ps with | .dic [], some kvs => if kvs.length ≤ 15 then .ok (.obj n) (s1.set n (.dic (mergeA [] kvs))) else .stuck | _, _ => .stuck
theorem e_pr {fa fb : AE} {σ : ASt} {s : Sto} {r : List (AE × AE)} : aPairs ((fa, fb) :: r) σ s = (fa σ s).bind (prK1 fb r σ) := rfl
theorem e_pr0 {σ : ASt} {s : Sto} : aPairs [] σ s = .ok [] s := rfl
theorem e_prK1 {fb : AE} {σ : ASt} {s : Sto} {r : List (AE × AE)} {x : AV} : prK1 fb r σ x s = (fb σ s).bind (prK2 r σ x) := rfl
theorem e_prK2 {σ : ASt} {s : Sto} {r : List (AE × AE)} {x y : AV} : prK2 r σ x y s = (aPairs r σ s).bind (prK3 x y) := rfl
theorem e_prK3 {s : Sto} {x y : AV} {ps : List (AV × AV)} : prK3 x y ps s = .ok ((x, y) :: ps) s := rfl
theorem e_disp {σ : ASt} {s : Sto} {fs : List (AE × AE)} : aDisp fs σ s = (aPairs fs σ (s.new (.dic []))).bind (dispK s.n) := rfl
theorem e_dispK {s1 : Sto} {n : Nat} {ps : List (AV × AV)} {kvs : List (Key × AV)} (h : s1.c n = .dic []) (k : keysA ps = some kvs) (l : kvs.length ≤ 15) : dispK n ps s1 = .ok (.obj n) (s1.set n (.dic (mergeA [] kvs))) := by unfold dispK; simp only [h, k, if_pos l]
theorem e_dnew {σ : ASt} {s : Sto} : aDNew σ s = .ok (.obj s.n) (s.new (.dic [])) := rfl
def ownK1 (c : String) (ts : List String) (F : List AV → Sto → Res AV) (fb : AE) (σ : ASt) : AV → Sto → Res AV := fun x s1 => (fb σ s1).bind (gOwn c ts F x)
theorem e_own {fa fb : AE} {σ : ASt} {s : Sto} {n : Nat} {F : List AV → Sto → Res AV} {c : String} {ts : List String} : aOwn c ts n F fa fb σ s = (fa σ s).bind (ownK1 c ts F fb σ) := rfl
theorem e_ownK {fb : AE} {σ : ASt} {s : Sto} {F : List AV → Sto → Res AV} {c : String} {ts : List String} {x : AV} : ownK1 c ts F fb σ x s = (fb σ s).bind (gOwn c ts F x) := rfl
def lcK (g : AV → AS) (ft : AT) (fe : AE) (vs : List Nat) (σ : ASt) : List AV × (Sto → Prop) → Sto → Res AV := fun p s1 => oObj s1.n (lcI s1.n p.2 g ft fe (wipeA σ vs) p.1 (s1.new (.lst [])))
theorem e_lc {fa : AE} {t : AT} {σ : ASt} {s : Sto} {fi : AI} {g : AV → AS} {vs : List Nat} : aLc fi g t fa vs σ s = (fi σ s).bind (lcK g t fa vs σ) := rfl
theorem e_lcK {fa : AE} {t : AT} {σ : ASt} {s : Sto} {g : AV → AS} {vs : List Nat} {xs : List AV} {G : Sto → Prop} : lcK g t fa vs σ (xs, G) s = oObj s.n (lcI s.n G g t fa (wipeA σ vs) xs (s.new (.lst []))) := rfl
theorem e_iter {fa : AE} {σ : ASt} {s : Sto} : aIter fa σ s = (fa σ s).bind iterOf := rfl
def rng1K  : List AV → Sto → Res (List AV × (Sto → Prop)) := fun xs s1 => match xs with | [.int j] => if -(2 ^ 62) ≤ j ∧ j < 2 ^ 62 then .ok (rngA 0 j.toNat, fun _ => True) s1 else .stuck | _ => .stuck
def rng2K  : List AV → Sto → Res (List AV × (Sto → Prop)) := fun xs s1 => match xs with | [.int i, .int j] => if -(2 ^ 62) ≤ i ∧ i < 2 ^ 62 ∧ -(2 ^ 62) ≤ j ∧ j < 2 ^ 62 then .ok (rngA i (j - i).toNat, fun _ => True) s1 else .stuck | _ => .stuck
theorem e_rng1 {fr : AA} {σ : ASt} {s : Sto} : aRng1 fr σ s = (fr σ s).bind rng1K := rfl
theorem e_rng1K {j : Int} {s : Sto} : rng1K [.int j] s = grd (-(2 ^ 62) ≤ j ∧ j < 2 ^ 62) (.ok (rngA 0 j.toNat, fun _ => True) s) := rfl
theorem e_rng2 {fr : AA} {σ : ASt} {s : Sto} : aRng2 fr σ s = (fr σ s).bind rng2K := rfl
theorem e_rng2K {i j : Int} {s : Sto} : rng2K [.int i, .int j] s = grd (-(2 ^ 62) ≤ i ∧ i < 2 ^ 62 ∧ -(2 ^ 62) ≤ j ∧ j < 2 ^ 62) (.ok (rngA i (j - i).toNat, fun _ => True) s) := rfl
def enumK  : List AV → Sto → Res (List AV × (Sto → Prop)) := fun xs s1 => match xs with | [x] => (match lstOf s1 x with | some ys => .ok (enumA ys, fun s2 => lstOf s2 x = some ys) s1 | none => .stuck) | _ => .stuck
theorem e_enum {fr : AA} {σ : ASt} {s : Sto} : aEnum fr σ s = (fr σ s).bind enumK := rfl
theorem e_enumK {x : AV} {ys : List AV} {s : Sto} (h : lstOf s x = some ys) : enumK [x] s = .ok (enumA ys, fun s2 => lstOf s2 x = some ys) s := by unfold enumK; simp only [h]
theorem post_enum {x : AV} {ys : List AV} {s : Sto} {P : List AV × (Sto → Prop) → Sto → Prop} {R : String → List Str → List AV → Sto → Prop} (h : lstOf s x = some ys) (q : P (enumA ys, fun s2 => lstOf s2 x = some ys) s) : (enumK [x] s).Post P R := by rw [e_enumK h]; exact q
def dropK (σ : ASt) : AV → Sto → SRes := fun _ s1 => .nx σ s1
theorem s_drop {fa : AE} {σ : ASt} {s : Sto} : aDrop fa σ s = (fa σ s).st σ (dropK σ) := rfl
theorem s_dropK {σ : ASt} {s : Sto} {v : AV} : dropK σ v s = .nx σ s := rfl
def retK  : AV → Sto → SRes := fun v s1 => .rt v s1
theorem s_ret {fa : AE} {σ : ASt} {s : Sto} : aRet fa σ s = (fa σ s).st σ retK := rfl
theorem s_retK {v : AV} {s : Sto} : retK v s = .rt v s := rfl
theorem s_retN {σ : ASt} {s : Sto} : aRetN σ s = .rt .non s := rfl
theorem s_next {σ : ASt} {s : Sto} : aNext σ s = .nx σ s := rfl
theorem s_break {σ : ASt} {s : Sto} : aBreak σ s = .bk σ s := rfl
theorem s_cont {σ : ASt} {s : Sto} : aCont σ s = .ct σ s := rfl
theorem s_seq {f1 f2 : AS} {σ : ASt} {s : Sto} : aSeq f1 f2 σ s = (f1 σ s).thn f2 := rfl
def ifSK (f g : AS) (σ : ASt) : Bool → Sto → SRes := fun b s1 => if b = true then f σ s1 else g σ s1
theorem s_if {t : AT} {f1 f2 : AS} {σ : ASt} {s : Sto} : aIfS t f1 f2 σ s = (t σ s).st σ (ifSK f1 f2 σ) := rfl
theorem s_ifK {f1 f2 : AS} {σ : ASt} {s : Sto} {b : Bool} : ifSK f1 f2 σ b s = if b = true then f1 σ s else f2 σ s := rfl
def asgK (g : AV → AS) (σ : ASt) : AV → Sto → SRes := fun v s1 => g v σ s1
theorem s_asg {fa : AE} {σ : ASt} {s : Sto} {g : AV → AS} : aAsg fa g σ s = (fa σ s).st σ (asgK g σ) := rfl
theorem s_asgK {σ : ASt} {s : Sto} {g : AV → AS} {v : AV} : asgK g σ v s = g v σ s := rfl
theorem s_name {σ : ASt} {s : Sto} {i : Nat} {v : AV} : agName i v σ s = .nx (σ.set i (some v)) s := rfl
theorem s_par {fr : AA} {σ : ASt} {s : Sto} {i j : Nat} : aPar i j fr σ s = (fr σ s).st σ (parK i j σ) := rfl
theorem s_parK {σ : ASt} {s : Sto} {i j : Nat} {v u : AV} : parK i j σ [v, u] s = .nx ((σ.set i (some v)).set j (some u)) s := rfl
theorem s_par3 {fr : AA} {σ : ASt} {s : Sto} {i j l : Nat} : aPar3 i j l fr σ s = (fr σ s).st σ (parK3 i j l σ) := rfl
theorem s_parK3 {σ : ASt} {s : Sto} {i j l : Nat} {v u w : AV} : parK3 i j l σ [v, u, w] s = .nx (((σ.set i (some v)).set j (some u)).set l (some w)) s := rfl
theorem s_gnil {σ : ASt} {s : Sto} : agNil [] σ s = .nx σ s := rfl
theorem s_gcons {σ : ASt} {s : Sto} {g : AV → AS} {h : List AV → AS} {x : AV} {r : List AV} : agCons g h (x :: r) σ s = (g x σ s).thn (h r) := rfl
theorem s_gtup {σ : ASt} {s : Sto} {n : Nat} {g : List AV → AS} {xs : List AV} : agTup n g (.tup xs) σ s = grdS (xs.length = n) (g xs σ s) := rfl
def forK (g : AV → AS) (b : AS) (σ : ASt) : List AV × (Sto → Prop) → Sto → SRes := fun p s1 => forI p.2 g b p.1 σ s1
theorem s_for {f1 : AS} {σ : ASt} {s : Sto} {fi : AI} {g : AV → AS} : aFor fi g f1 σ s = (fi σ s).st σ (forK g f1 σ) := rfl
theorem s_forK {f1 : AS} {σ : ASt} {s : Sto} {g : AV → AS} {xs : List AV} {G : Sto → Prop} : forK g f1 σ (xs, G) s = forI G g f1 xs σ s := rfl
theorem s_raise {fr : AA} {σ : ASt} {s : Sto} {c : String} {fl : Str} : aRaise c fl fr σ s = (fr σ s).st σ (raiseK c fl σ) := rfl
theorem s_raiseK {σ : ASt} {s : Sto} {c : String} {fl : Str} {v : AV} : raiseK c fl σ [v] s = .err c [fl] [v] σ s := rfl
def sfK2 (cs : List String) (f : Str) (σ : ASt) (y : AV) : AV → Sto → SRes := fun x s2 => oNx σ (setF cs f x y s2)
def sfK1 (cs : List String) (f : Str) (fo : AE) (σ : ASt) : AV → Sto → SRes := fun y s1 => (fo σ s1).st σ (sfK2 cs f σ y)
theorem s_sf {fa fb : AE} {σ : ASt} {s : Sto} {cs : List String} {f : Str} : aSFld cs f fa fb σ s = (fb σ s).st σ (sfK1 cs f fa σ) := rfl
theorem s_sfK1 {fa : AE} {σ : ASt} {s : Sto} {cs : List String} {f : Str} {y : AV} : sfK1 cs f fa σ y s = (fa σ s).st σ (sfK2 cs f σ y) := rfl
theorem s_sfK2 {σ : ASt} {s : Sto} {cs : List String} {f : Str} {x y : AV} : sfK2 cs f σ y x s = oNx σ (setF cs f x y s) := rfl
def dpK3 (σ : ASt) (z x : AV) : AV → Sto → SRes := fun y s3 => oNx σ (setD x y z s3)
def dpK2 (fy : AE) (σ : ASt) (z : AV) : AV → Sto → SRes := fun x s2 => (fy σ s2).st σ (dpK3 σ z x)
def dpK1 (fd fy : AE) (σ : ASt) : AV → Sto → SRes := fun z s1 => (fd σ s1).st σ (dpK2 fy σ z)
theorem s_dp {fa fb fc : AE} {σ : ASt} {s : Sto} : aDPut fa fb fc σ s = (fc σ s).st σ (dpK1 fa fb σ) := rfl
theorem s_dpK1 {fa fb : AE} {σ : ASt} {s : Sto} {z : AV} : dpK1 fa fb σ z s = (fa σ s).st σ (dpK2 fb σ z) := rfl
theorem s_dpK2 {fb : AE} {σ : ASt} {s : Sto} {x z : AV} : dpK2 fb σ z x s = (fb σ s).st σ (dpK3 σ z x) := rfl
theorem s_dpK3 {σ : ASt} {s : Sto} {x y z : AV} : dpK3 σ z x y s = oNx σ (setD x y z s) := rfl
theorem s_forget {f1 : AS} {σ : ASt} {s : Sto} {n : Nat} : aForget n f1 σ s = (f1 σ s).forget n := rfl
theorem s_def {k : Nat} {f : AS} {args : List AV} {s : Sto} : aDef k f args s = (f (args.map some ++ List.replicate k none) s).fn := rfl
theorem s_fld {fa : AE} {σ : ASt} {s : Sto} {cs : List String} {f : Str} : aFld cs f fa σ s = (fa σ s).bind (gFld cs f) := rfl
end
end Ab
set_option Elab.async false
set_option linter.all false
set_option maxRecDepth 100000
set_option maxHeartbeats 1000000
namespace Ab
open PySem PySem.Spec PyProof.Rows L2
open Classical
theorem u65 {k : Nat} {A : Around} (r : Room k A) : A.units + 65 < cLine := by have := r.un; omega
noncomputable section
section
variable {W : Wl} {E : L2.St → XK} {ta tb to tv te : TE} {fa fb fo fv : AE} {tr : TA} {fr : AA}
def augK (i : Nat) (g : AV → AV → Sto → Res AV) (σ : ASt) (x : AV) : AV → Sto → SRes := fun y s1 => (g x y s1).st σ fun z s2 => .nx (σ.set i (some z)) s2
def aAug (i : Nat) (g : AV → AV → Sto → Res AV) (fa : AE) : AS := fun σ s => (aVar i σ s).st σ fun x _ => (fa σ s).st σ (augK i g σ x)
theorem DS.aug {i : Nat} {r : R2} {g : AV → AV → Sto → Res AV} (hr : DR W r g) (hg : NE2 g) (ha : DE W E ta fa) : DS W E (tAug i ta r) (aAug i g fa) := fun w s σ σc D S R h => by
  unfold aAug aVar at h
  split at h
  · rename_i x e
    obtain ⟨vc, h1, h2⟩ := R.get i x e
    have h : ((fa σ s).st σ (augK i g σ x)).P W w D E := h
    refine ⟨vc, h1, ha w s σ σc _ S R ((exp_post R h).mono (fun y s1 k1 w1 u e1 S1 r1 => ?_) fun _ _ _ _ z => z)⟩
    refine hr w1 s1 x y vc u _ S1 (h2.mono e1) r1 ?_
    have k1 : ((g x y s1).st σ fun z s2 => .nx (σ.set i (some z)) s2).P W w D E := k1
    cases hh : g x y s1 with
    | err c ns vs s3 => exact absurd hh (hg _ _ _ _ _ _ _)
    | stuck => rw [hh] at k1; exact k1.elim
    | ok z s2 =>
      rw [hh] at k1
      intro w2 zc e2 S2 r2
      exact k1 w2 _ (e1.trans e2) S2 ((R.mono (e1.trans e2)).set (x := some z) (v := some zc) r2 i)
  · exact h.elim
end
def gMulT : AV → AV → Sto → Res AV := fun x y s => match x, y with
  | .tup a, .int k => if a ≠ [] ∧ 2 ≤ k ∧ k ≤ 1000 ∧ a.length ≤ 1000 then .ok (.tup (List.replicate k.toNat a).flatten) s else .stuck
  | x, y => gMul x y s
@[simp] theorem gMulT_int {i j : Int} {s : Sto} : gMulT (.int i) (.int j) s = gMul (.int i) (.int j) s := rfl
@[simp] theorem gMulT_str {i : Str} {j : Int} {s : Sto} : gMulT (.str i) (.int j) s = gMul (.str i) (.int j) s := rfl
@[simp] theorem gMulT_obj {i : Nat} {j : Int} {s : Sto} : gMulT (.obj i) (.int j) s = gMul (.obj i) (.int j) s := rfl
end
end Ab
namespace Ab
open PySem PySem.Spec PyProof.Rows L2
open Classical
end Ab
namespace Gx
open PySem PySem.Spec PyProof.Rows L2
end Gx
namespace Ab
open PySem PySem.Spec PyProof.Rows L2
open Classical
end Ab
namespace Ab
open PySem PySem.Spec PyProof.Rows L2
open Classical
end Ab
set_option Elab.async false
set_option linter.all false
set_option maxRecDepth 100000
set_option maxHeartbeats 1000000
namespace Gx
open PySem PySem.Spec PyProof.Rows L2 GenW
end Gx
namespace Ab
open PySem PySem.Spec PyProof.Rows L2
open Classical
noncomputable section
def SRes.hd (y : Option AV) : SRes → SRes
  | .nx σ s => .nx (y :: σ) s
  | .bk σ s => .bk (y :: σ) s
  | .ct σ s => .ct (y :: σ) s
  | .err c ns vs σ s => .err c ns vs (y :: σ) s
  | .rt _ _ => .stuck
  | .stuck => .stuck
def aPl (f : AS) : AS := fun σ s => match σ with
  | some (.tup ys) :: σ' => (f σ' s).hd (some (.tup ys))
  | _ => .stuck
@[simp] theorem aPl_at {f : AS} {ys : List AV} {σ : ASt} {s : Sto} : aPl f (some (.tup ys) :: σ) s = (f σ s).hd (some (.tup ys)) := rfl
def SRes.PG (W : Wl) (r : SRes) (w : Wd) (D : GEnds) (E : XK) : Prop := match r with
  | .nx σ s => ∃ ys σ0, σ = some (.tup ys) :: σ0 ∧ ∀ w' σc ysc, Ext w w' → Sim W w' s → RSt W.toWc w' σ0 σc → RelL W.toWc w' ys ysc → D.nx ysc σc w'.H
  | .bk σ s => ∃ ys σ0, σ = some (.tup ys) :: σ0 ∧ ∀ w' σc ysc, Ext w w' → Sim W w' s → RSt W.toWc w' σ0 σc → RelL W.toWc w' ys ysc → D.bk ysc σc w'.H
  | .ct σ s => ∃ ys σ0, σ = some (.tup ys) :: σ0 ∧ ∀ w' σc ysc, Ext w w' → Sim W w' s → RSt W.toWc w' σ0 σc → RelL W.toWc w' ys ysc → D.ct ysc σc w'.H
  | .err c ns vs σ s => ErrP W w E c ns vs s
  | .rt _ _ => False
  | .stuck => False
theorem SRes.PG.mono {W : Wl} {r : SRes} {w w2 : Wd} {D : GEnds} {E : XK} (e : Ext w w2) (h : r.PG W w D E) : r.PG W w2 D E := by
  cases r with
  | nx σ s => obtain ⟨ys, σ0, rfl, k⟩ := h; exact ⟨ys, σ0, rfl, fun w' σc ysc e' => k w' σc ysc (e.trans e')⟩
  | bk σ s => obtain ⟨ys, σ0, rfl, k⟩ := h; exact ⟨ys, σ0, rfl, fun w' σc ysc e' => k w' σc ysc (e.trans e')⟩
  | ct σ s => obtain ⟨ys, σ0, rfl, k⟩ := h; exact ⟨ys, σ0, rfl, fun w' σc ysc e' => k w' σc ysc (e.trans e')⟩
  | err c ns vs σ s => exact fun w' d e' => h w' d (e.trans e')
  | rt v s => exact h
  | stuck => exact h
def Frm (f : AS) : Prop := ∀ σ s, f σ s = .stuck ∨ ∃ ys σ0, σ = some (AV.tup ys) :: σ0
theorem frm_match {k : List AV → ASt → SRes} {σ : ASt} : (match σ with | some (.tup ys) :: σ' => k ys σ' | _ => .stuck : SRes) = .stuck ∨ ∃ ys σ0, σ = some (AV.tup ys) :: σ0 := by
  match σ with
  | some (.tup ys) :: σ' => exact .inr ⟨_, _, rfl⟩
  | [] => exact .inl rfl
  | none :: _ => exact .inl rfl
  | some (.non) :: _ => exact .inl rfl
  | some (.bl _) :: _ => exact .inl rfl
  | some (.int _) :: _ => exact .inl rfl
  | some (.str _) :: _ => exact .inl rfl
  | some (.ty _) :: _ => exact .inl rfl
  | some (.cls _) :: _ => exact .inl rfl
  | some (.obj _) :: _ => exact .inl rfl
  | some (.raw _) :: _ => exact .inl rfl
  | some (.scr _) :: _ => exact .inl rfl
  | some (.exn _ _ _) :: _ => exact .inl rfl
theorem Frm.pl {f : AS} : Frm (aPl f) := fun σ s => frm_match
theorem Frm.seq {f g : AS} (h : Frm f) : Frm (aSeq f g) := fun σ s => by
  rcases h σ s with e | e
  · left; unfold aSeq; rw [e]; rfl
  · exact .inr e
structure DGn (W : Wl) (E : XK) (tg : TGn) (f : AS) : Prop where
  frm : Frm f
  run : ∀ (w : Wd) (s : Sto) (σ : ASt) (σc : L2.St) (ys : List AV) (ysc : List V) (D : GEnds), Sim W w s → RSt W.toWc w σ σc → RelL W.toWc w ys ysc → (f (some (.tup ys) :: σ) s).PG W w D E → tg D ysc σc w.H
section
variable {W : Wl} {E : XK} {ts : TS} {f g : AS} {te : TE} {fe : AE} {tg ug : TGn}
theorem DGn.pl (hs : DS W (fun _ => E) ts f) : DGn W E (tPlain ts) (aPl f) := ⟨Frm.pl, fun w s σ σc ys ysc D S R Y h => by
  refine hs w s σ σc (D.at ysc) S R ?_
  have h : ((f σ s).hd (some (.tup ys))).PG W w D E := h
  cases e : f σ s with
  | nx σ' s' =>
    rw [e] at h
    obtain ⟨ys', σ0, e2, k⟩ := h
    cases e2
    exact fun w' σc' e' S' R' => k w' σc' ysc e' S' R' (Y.mono e')
  | bk σ' s' =>
    rw [e] at h
    obtain ⟨ys', σ0, e2, k⟩ := h
    cases e2
    exact fun w' σc' e' S' R' => k w' σc' ysc e' S' R' (Y.mono e')
  | ct σ' s' =>
    rw [e] at h
    obtain ⟨ys', σ0, e2, k⟩ := h
    cases e2
    exact fun w' σc' e' S' R' => k w' σc' ysc e' S' R' (Y.mono e')
  | rt v s' => rw [e] at h; exact (show False from h).elim
  | err c ns vs σ' s' => rw [e] at h; exact fun w' σc' d e' S' R' x => h w' d e' S' x
  | stuck => rw [e] at h; exact (show False from h).elim⟩
theorem DGn.nil : DGn W E (tPlain fun D σ H => D.nx σ H) (aPl aNext) := DGn.pl DS.next
theorem DGn.seq (hf : DGn W E tg f) (hg : DGn W E ug g) : DGn W E (tGThen tg ug) (aSeq f g) := ⟨hf.frm.seq, fun w s σ σc ys ysc D S R Y h => by
  refine hf.run w s σ σc ys ysc _ S R Y ?_
  have h : ((f (some (.tup ys) :: σ) s).thn g).PG W w D E := h
  cases e : f (some (.tup ys) :: σ) s with
  | nx σ' s' =>
    rw [e] at h
    have h : (g σ' s').PG W w D E := h
    rcases hg.frm σ' s' with e2 | ⟨ys', σ0, rfl⟩
    · rw [e2] at h; exact (show False from h).elim
    · exact ⟨ys', σ0, rfl, fun w' σc' ysc' e' S' R' Y' => hg.run w' s' σ0 σc' ys' ysc' D S' R' Y' (h.mono e')⟩
  | bk σ' s' => rw [e] at h; exact h
  | ct σ' s' => rw [e] at h; exact h
  | rt v s' => rw [e] at h; exact h
  | err c ns vs σ' s' => rw [e] at h; exact h
  | stuck => rw [e] at h; exact h⟩
/-- a generator's promise -/
def spGF (W : Wl) (n : Nat) (F : List AV → Sto → Res AV) : SpG := fun vs H cont E => ∃ (w : Wd) (s : Sto) (args : List AV), H = w.H ∧ Sim W w s ∧ RelL W.toWc w args vs ∧ args.length = n ∧
  (F args s).Post (fun v s' => ∃ ys, v = .tup ys ∧ ∀ w' ysc, Ext w w' → Sim W w' s' → RelL W.toWc w' ys ysc → cont ysc w'.H) (ErrP W w E)
theorem spGF.len {n : Nat} {F : List AV → Sto → Res AV} {vs : List V} {H : Hp} {Q : List V → Hp → Prop} {E : XK} (h : spGF W n F vs H Q E) : vs.length = n := by
  obtain ⟨w, s, args, rfl, S, R, hn, p⟩ := h
  rw [← R.length]; exact hn
def toL (r : Res AV) : Res AV := r.bind fun v s => match v with | .tup ys => newL ys s | _ => .stuck
@[simp] theorem toL_ok {ys : List AV} {s : Sto} : toL (.ok (.tup ys) s) = newL ys s := rfl
@[simp] theorem toL_err {c : String} {ns : List Str} {vs : List AV} {s : Sto} : toL (.err c ns vs s) = .err c ns vs s := rfl
variable {ta : TE} {tr : TA} {fa : AE} {fr : AA}
end
end
end Ab
namespace Ab
open PySem PySem.Spec PyProof.Rows L2
open Classical
end Ab
namespace Ab
open PySem PySem.Spec PyProof.Rows L2
open Classical
end Ab
namespace Gx
open PySem PySem.Spec PyProof.Rows L2
end Gx
namespace Ab
open PySem PySem.Spec PyProof.Rows L2
open Classical
noncomputable section
def Rows (xs : List AV) : Prop := ∃ rows : List (List Int), xs = rows.map (fun r => AV.tup (r.map AV.int)) ∧ rows.Nodup ∧ rows.length < 64
end
end Ab
namespace Ab
open PySem PySem.Spec PyProof.Rows L2 GenW
/-- int of a whole number or of True, False -/
def gIntOf : List AV → Sto → Res AV := fun xs s => match xs with | [.int i] => .ok (.int i) s | [.bl b] => .ok (.int (if b then 1 else 0)) s | _ => .stuck
@[simp] theorem gIntOf_int {i : Int} {s : Sto} : gIntOf [.int i] s = .ok (.int i) s := rfl
@[simp] theorem gIntOf_bl {b : Bool} {s : Sto} : gIntOf [.bl b] s = .ok (.int (if b then 1 else 0)) s := rfl
end Ab
set_option Elab.async false
set_option linter.all false
set_option maxRecDepth 100000
set_option maxHeartbeats 1000000
set_option Elab.async false
set_option linter.all false
set_option maxRecDepth 100000
set_option maxHeartbeats 1000000
namespace Ab
open PySem PySem.Spec PyProof.Rows L2
open Classical
noncomputable section
section
variable {W : Wl} {E : L2.St → XK} {ta te : TE} {fa fe : AE} {t1 t2 : TA} {f1 f2 : AA}
theorem RelL.at {w : Wd} {xs : List AV} {vs : List V} (h : RelL W w xs vs) : ∀ i : Nat, (xs[i]? = none ∧ vs[i]? = none) ∨ ∃ x v, xs[i]? = some x ∧ vs[i]? = some v ∧ Rel W w x v := by
  induction xs generalizing vs with
  | nil => cases h; exact fun i => .inl ⟨rfl, rfl⟩
  | cons x xs ih =>
    cases h with
    | cons h t =>
      intro i
      cases i with
      | zero => exact .inr ⟨_, _, rfl, rfl, h⟩
      | succ i => exact ih t i
end
end
end Ab
set_option Elab.async false
set_option linter.all false
set_option maxRecDepth 100000
set_option maxHeartbeats 1000000
namespace Gx
open PySem PySem.Spec PyProof.Rows L2 GenW
end Gx
namespace Ab
open PySem PySem.Spec PyProof.Rows L2 GenW
open Classical
end Ab
set_option Elab.async false
set_option linter.all false
set_option maxRecDepth 100000
set_option maxHeartbeats 1000000
namespace PySem
theorem newE_any {v : Value} {o : Obj} {HH : Heap → Prop} (B : Begins v o HH) :
    Meets (Builtin.«enumerate.__new__» ⟨[.type "enumerate", v], []⟩) (fun _ R s => HH s.heap ∧
      R (.ok (.ret (.ref (s.heap.push o).objs.size))) { s with heap := (s.heap.push o).push { cls := .type "enumerate", data := .fields #[.none, .bool false, .ref s.heap.objs.size, rawInt 0, .none, .none] } }) :=
  .of_wp fun P w A R st => fun ⟨g1, g2⟩ => by
    obtain ⟨hp, a1, a2, a3, a4⟩ := st
    have hsub := sub_enumerate
    have go : ∀ {A' : Around} {E Q : Value → Shared → Prop}, Q (.ref hp.objs.size) ⟨hp.push o, a1, a2, a3, a4⟩ → wpAny (model P w) A' (pyIter v) Q E ⟨hp, a1, a2, a3, a4⟩ := fun q => B.iter P w _ _ ⟨hp, a1, a2, a3, a4⟩ _ g1 q
    wp_walk using go
    refine wpAny_stack_any fun _ => wpAny_pure ?_
    split
    · rename_i c _ _ _ _ _
      cases (c == Value.type "enumerate")
      all_goals wp_walk using go
      all_goals exact ⟨_, rfl, g2⟩
    · wp_walk using go
      exact ⟨_, rfl, g2⟩
end PySem
namespace Gx
open PySem PySem.Spec PyProof.Rows L2
/-- the tuple at a, its items in new pairs -/
def ItE (K : PySem.W.Frag) (a : Addr) : It :=
  ⟨fun i H => ∃ (xs : List V) (x : V), SqT K H a xs ∧ xs[i]? = some x, fun i H v H' => ∃ T x, v = .ref T ∧ H T = none ∧ H' = upd H T (.tup [.int (i : Nat), x]) ∧ ∀ xs, SqT K H a xs → xs[i]? = some x, fun i H => ∃ xs : List V, SqT K H a xs ∧ xs.length ≤ i⟩
theorem turnE {P : Program} {w : World} {K : PySem.W.Frag} {es : List Expr} {n : Nat} {ps : Pos} (a e it : Addr) :
    Turn P w K (.Tuple es n ps) (ItE K a) [e, it] e (fun i h => (∃ old, IsEnum h e it ((i : Nat) : Int) old) ∧ h.IsTupleIter it a i ∧ e ≠ it ∧ e ≠ a ∧ a ≠ it) where
  mem := List.mem_cons_self
  obj := fun i h st b hb => by
    obtain ⟨⟨old, k1⟩, ⟨o, k2, _, k3⟩, _⟩ := st
    simp only [List.mem_cons, List.not_mem_nil, or_false] at hb
    rcases hb with rfl | rfl
    · exact ⟨_, k1, fun v q => nomatch q⟩
    · exact ⟨o, k2, fun v q => by rw [k3] at q; cases q⟩
  keep := fun i h h' ⟨⟨old, k1⟩, k2, k3⟩ k => ⟨⟨old, k e List.mem_cons_self _ k1⟩, k2.at fun o q => k it (.tail _ List.mem_cons_self) o q, k3⟩
  item := by
    rintro X rfl rfl rfl hc i pins s σ H E I hf ⟨⟨old, k1⟩, k2, n1, n2, n3⟩ ⟨xs, x, hq, hx⟩
    obtain ⟨its, rv, p, hz⟩ := I.tuple hq
    have p : s.heap.IsTuple a its.toArray := p
    obtain ⟨u, hu, ru⟩ := rv.get hx
    have le : e < s.heap.objs.size := Heap.lt_size k1
    have li : it < s.heap.objs.size := by obtain ⟨_, q, _⟩ := k2; exact Heap.lt_size q
    have il : i < its.toArray.size := by
      have := (List.getElem?_eq_some_iff.mp hu).1
      simpa using this
    refine wpAny_pyNext_enum_itemD (Draws.tuple (prog := X.prog) (w := X.w) (A := X.A.in1) (show X.A.in1.handled = none from I.ok.hd hc) it a n3 its.toArray) k1 ⟨k2, p⟩ il n1 (by simp [n1, n2]) fun y h' tk hy ho ⟨hit', _⟩ hT hsz hk => ?_
    have hy : u = y := by
      have hy : its.toArray[i]? = some y := hy
      rw [List.getElem?_toArray, hu] at hy
      exact Option.some.inj hy
    subst hy
    refine ⟨_, rfl, wpAny_letOwnedTupleGo_enum (s := { s with heap := h', toks := tk + 1 }) ho fun h'' he' sb => ?_⟩
    have hT2 : h''.get? s.heap.objs.size = some { cls := .type "tuple", data := .seq #[.int i tk, u] } := (sb.2 _ (Nat.ne_of_gt le)).trans hT
    have new : ObjOk X.prog X.w (upd H s.heap.objs.size (.tup [.int (i : Nat), x])) h'' s.heap.objs.size (.tup [.int (i : Nat), x]) :=
      ⟨show 2 ≤ sizeLine by decide, [.int i tk, u], .cons ⟨_, rfl⟩ (.cons ru .nil), ⟨_, hT2, rfl, _, rfl⟩⟩
    have I1 : Inv X pins σ (upd H s.heap.objs.size (.tup [.int (i : Nat), x])) { s with heap := h'', toks := tk + 1 } :=
      I.turnedNew (t' := tk + 1) (ch := [e, it]) (fun b ob hb q => (sb.2 b fun z => hb (by simp [z])).trans (hk b ob (fun z => hb (by simp [z])) (fun z => hb (by simp [z])) q)) hf (Nat.le_refl _) new
    refine ⟨.ref s.heap.objs.size, _, I1, rfl, ⟨_, x, rfl, I.hok.fresh (Nat.le_refl _), rfl, fun ys hy => by rw [I.tuple_inj hy hq]; exact hx⟩, ⟨⟨u, ?_⟩, hit'.at fun o q => (sb.2 it (Ne.symm n1)).trans q, n1, n2, n3⟩, fun b hb => ?_⟩
    · rw [show ((i + 1 : Nat) : Int) = (i : Int) + 1 by omega]
      exact he'
    · have hb' : b < s.heap.objs.size := by
        simp only [List.mem_cons, List.not_mem_nil, or_false] at hb
        rcases hb with rfl | rfl
        · exact le
        · exact li
      rw [upd_ne (Nat.ne_of_lt hb')]
      exact (hf b hb).1
  done := by
    rintro X rfl rfl rfl hc i pins s σ H E I hf ⟨⟨old, k1⟩, k2, n1, n2, n3⟩ ⟨xs, hq, hx⟩
    obtain ⟨its, rv, p, hz⟩ := I.tuple hq
    have p : s.heap.IsTuple a its.toArray := p
    obtain ⟨f0, f1, f2, f3, f4, f5⟩ := hf it (.tail _ List.mem_cons_self)
    have hl := rv.length
    have hne : its.toArray[i]? = none := by simp; omega
    exact endE (I.ok.hd hc) k1 k2 p hne fun h' eb => ⟨rfl, I.turned (t' := s.toks) (fun b o hb q => eb b o hb q) f0 f1 f3 f4 f5⟩
  self := fun A i s Q E ⟨⟨_, k1⟩, _⟩ h => wpAny_pyIter_enum k1 h
where
  endE {P : Program} {w : World} {A : Around} {E : Value → Shared → Prop} {s : Shared} {e it l : Addr} {i : Nat} {items : Array Value} {old : Value} {Q : Option Value → Shared → Prop} (hh : A.handled = none)
    (he : IsEnum s.heap e it i old) (hit : s.heap.IsTupleIter it l i) (hl : s.heap.IsTuple l items) (hx : items[i]? = none) (hQ : ∀ h', Heap.ExtBut it s.heap h' → Q none { s with heap := h' }) :
    wpAny (model P w) A (pyNext (.ref e)) Q E s := by
    unfold pyNext
    refine wpAny_bind (wpAny_attempt (wpAny_callSpecial?_slot (name := Str.ofString "__next__") ⟨_, he, rfl⟩ F.slot_enumerate_next (wpAny_call_entry F.slot_enumerate_next ⟨_, he, rfl⟩ F.entry_enumerate_next ?_ (F.args_enumerate_next_1 _))))
    show wpAny _ _ (field (.ref e) 2 >>= _) _ _ _
    refine wpAny_bind (wpAny_field he rfl (x := .ref it) rfl ?_)
    refine wpAny_bind (wpAny_nextOf_tuple_end hh hit hl hx fun h' x k1 ⟨o, k2, k3⟩ => ?_)
    exact wpAny_bind (wpAny_isInstance (T := "StopIteration") (b := true) ⟨o, k2, k3⟩ isSubtype_stop (wpAny_pure (hQ _ k1)))
def iEnT (K : PySem.W.Frag) (ta : TA) : TI := fun σ H R => ta σ H fun vs H1 => ∃ a xs, vs = [.ref a] ∧ SqT K H1 a xs ∧ R (ItE K a) H1
theorem pi_enT {X : Cx} {e : Expr} {ta : TA} {p pos tp : Pos} {es : List Expr} {n : Nat} (hg : Gl X "enumerate") (hm : X.mg "enumerate" = none) (ha : PA X [e] ta) (hs : starEach [e] X.env = [(false, eval e X.env)] := by rfl) :
    PI X (.Tuple es n tp) (.Call (.Name "enumerate" p) [e] [] pos) (iEnT X.K ta) := ⟨fun pins s σ H R I h => by
  refine Call_ (ld_blt I hg hm boot_enumerate (PyProof.Rows.callWith_type1 (thn (ha.run pos pins s σ H _ I h) fun us s1 ⟨vs, H1, I1, r1, a, xs, ex, hq, q⟩ => ?_) hs rfl))
  subst ex
  cases r1 with
  | cons r rr =>
    cases rr
    cases r
    obtain ⟨its, rv, p', hz⟩ := I1.tuple hq
    have p' : s1.heap.IsTuple a its.toArray := p'
    have la : a < s1.heap.objs.size := by obtain ⟨o, q, _⟩ := id p'; exact Heap.lt_size q
    refine callType_new F.called_enumerate (by decide) (F.typeCall_enumerate_1 _) (F.newCall_enumerate_1 _) (fun obj => F.args_object_init_2 obj _) F.entry_enumerate_new (newE_any (begins_tuple a its.toArray)) ⟨p', ?_⟩
    obtain ⟨o, ho⟩ : ∃ o : Obj, o = { cls := .type "tuple_iterator", data := .fields #[.ref a, .int 0 0] } := ⟨_, rfl⟩
    rw [← ho]
    have of : o.isFreed = false := by rw [ho]; rfl
    have sz : (s1.heap.push o).objs.size = s1.heap.objs.size + 1 := Heap.size_push ..
    show _ ∧ _
    rw [sz]
    have he : IsEnum ((s1.heap.push o).push { cls := .type "enumerate", data := .fields #[.none, .bool false, .ref s1.heap.objs.size, rawInt 0, .none, .none] }) (s1.heap.objs.size + 1) s1.heap.objs.size 0 .none := by
      have := Heap.get?_push_size (s1.heap.push o) (o := { cls := .type "enumerate", data := .fields #[.none, .bool false, .ref s1.heap.objs.size, rawInt 0, .none, .none] }) rfl
      rw [sz] at this; exact this
    refine ⟨⟨_, he, rfl⟩, wpAny_pyIter_enum he ?_⟩
    have kk : ∀ b ob, s1.heap.get? b = some ob → ((s1.heap.push o).push { cls := .type "enumerate", data := .fields #[.none, .bool false, .ref s1.heap.objs.size, rawInt 0, .none, .none] }).get? b = some ob := fun b ob q => Heap.get?_push_of_some _ (Heap.get?_push_of_some _ q)
    have hti : ((s1.heap.push o).push { cls := .type "enumerate", data := .fields #[.none, .bool false, .ref s1.heap.objs.size, rawInt 0, .none, .none] }).IsTupleIter s1.heap.objs.size a 0 := ⟨o, Heap.get?_push_of_some _ (Heap.get?_push_size _ of), by rw [ho]; first | done | rfl, by rw [ho]; first | done | rfl⟩
    refine ⟨s1.heap.objs.size + 1, [s1.heap.objs.size + 1, s1.heap.objs.size], _, _, H1, rfl, I1.kept (t' := s1.toks) kk, turnE a (s1.heap.objs.size + 1) s1.heap.objs.size, ⟨⟨.none, he⟩, hti, Nat.succ_ne_self _, Nat.ne_of_gt (Nat.lt_succ_of_lt la), Nat.ne_of_lt la⟩, fun b hb => ?_, q⟩
    have hle : s1.heap.objs.size ≤ b := by
      simp only [List.mem_cons, List.not_mem_nil, or_false] at hb
      rcases hb with rfl | rfl
      · exact Nat.le_succ _
      · exact Nat.le_refl _
    exact I1.fpOk hle (I1.hok.fresh hle)⟩
end Gx
set_option Elab.async false
set_option linter.all false
set_option maxRecDepth 100000
set_option maxHeartbeats 4000000
namespace Gx
open PySem PySem.Spec PyProof.Rows L2
end Gx
set_option Elab.async false
set_option linter.all false
set_option maxRecDepth 100000
set_option maxHeartbeats 4000000
set_option exponentiation.threshold 2000
namespace Gx
open PySem PySem.Spec PyProof.Rows L2
mutual
inductive DpE (K : PySem.W.Frag) (H : Hp) : V → PyData → Prop
  | non : DpE K H .non .none
  | bl (b : Bool) : DpE K H (.bl b) (.bool b)
  | int (i : Int) : DpE K H (.int i) (.int i)
  | str (x : Str) : DpE K H (.str x) (.str x)
  | lst {a : Addr} {xs : List V} {ds : List PyData} : SqL K H a xs → DpEA K H xs ds → DpE K H (.ref a) (.list ds)
  | tup {a : Addr} {xs : List V} {ds : List PyData} : SqT K H a xs → DpEA K H xs ds → DpE K H (.ref a) (.tuple ds)
  | dic {a : Addr} : H a = some (.dK []) → DpE K H (.ref a) (.dict [])
inductive DpEA (K : PySem.W.Frag) (H : Hp) : List V → List PyData → Prop
  | nil : DpEA K H [] []
  | cons {v : V} {vs : List V} {d : PyData} {ds : List PyData} : DpE K H v d → DpEA K H vs ds → DpEA K H (v :: vs) (d :: ds)
end
section
variable {X : Cx} {pins : List (Addr × Obj)} {σ : L2.St} {H : Hp} {s : Shared}
/-- what is told of a value: how it is read, and its text -/
def TxE (P : Program) (w : World) (h : Heap) (u : Value) (d : PyData) : Prop := ∃ as bs, Reads h u d as ∧ ReadAtMost h d.depth bs ∧ ReprK P w bs h d.depth u d.shown
def TxA (P : Program) (w : World) (h : Heap) (us : List Value) (ds : List PyData) : Prop := ∃ as bs, ReadsAll h us ds as ∧ ReadAtMost h (PyData.depthAll ds) bs ∧ ReprAllK P w bs h (PyData.depthAll ds) us (PyData.shownAll ds)
theorem dic_obj (I : Inv X pins σ H s) {a : Addr} (h : H a = some (.dK [])) : (a == sysModules) = false ∧ ∃ o n, s.heap.get? a = some o ∧ o.cls = .type "dict" ∧ o.data = .dict #[] n := by
  obtain ⟨_, hs, vs, kv, o, es, ep, h1, h2, h3, _, h5, _⟩ := dk_of I.hok h
  cases kv
  refine ⟨hs, o, ep, h1, h2.1, ?_⟩
  have : es.toList = [] := by
    generalize es.toList = l at h5
    cases h5
    rfl
  rw [h3, Array.toList_eq_nil_iff.mp this]
mutual
theorem txE (I : Inv X pins σ H s) : ∀ (d : PyData) (v : V) (u : Value), DpE X.K H v d → RelV v u → d.showable = true → d.shown.length ≤ sizeLine → TxE X.prog X.w s.heap u d
  | .none, _, _, h, r, _, _ => by
    cases h; cases r
    exact ⟨_, [], .none, (fun _ k => nomatch k), by simp only [PyData.shown]; exact .of_is ReprIs.none _ _ _⟩
  | .bool b, _, _, h, r, _, _ => by
    cases h; cases r
    exact ⟨_, [], .bool b, (fun _ k => nomatch k), by simp only [PyData.shown]; exact .of_is (ReprIs.bool b) _ _ _⟩
  | .int i, _, _, h, r, hs, _ => by
    cases h
    obtain ⟨t, rfl⟩ := r
    exact ⟨_, [], .int i t, (fun _ k => nomatch k), by simp only [PyData.shown]; exact .of_is (ReprIs.int t (by simpa only [PyData.showable, decide_eq_true_eq] using hs)) _ _ _⟩
  | .str x, _, _, h, r, _, hz => by
    cases h
    obtain ⟨t, rfl⟩ := r
    exact ⟨_, [], .str x t, (fun _ k => nomatch k), by simp only [PyData.shown]; exact .of_is (ReprIs.str x t (by simpa only [PyData.shown] using hz)) _ _ _⟩
  | .list ds, _, _, h, r, hs, hz => by
    cases h with
    | lst h1 h2 =>
      cases r
      obtain ⟨its, rv, ⟨o, n, ho, hc, _, hd⟩, _⟩ := I.list h1
      have hz : (listText (PyData.shownAll ds)).length ≤ sizeLine := by simpa only [PyData.shown] using hz
      obtain ⟨as, bs, r, hb, hk⟩ := txA I ds _ its h2 rv (by simpa only [PyData.showable] using hs) fun t ht => Nat.le_trans (listText_mem_le ht) hz
      have rd := Reads.list ho hc hd r
      have na := not_mem_of_deeper rd (by simp only [PyData.depth]; omega) hb
      refine ⟨_, _ :: bs, rd, ReadAtMost.cons rd (Nat.le_refl _) fun b hm => ?_, ?_⟩
      · obtain ⟨d', as', r', hd'⟩ := hb b hm
        exact ⟨d', as', r', by simp only [PyData.depth]; omega⟩
      · simp only [PyData.depth, PyData.shown]
        cases its with
        | nil =>
          cases r
          simp only [PyData.shownAll, listText_nil]
          exact ReprK.listEmpty ho hc hd
        | cons x l => exact ReprK.list ho hc hd na (by simpa using hk.length_eq) fun i y e => hk.item i y (by simpa using e)
  | .tuple ds, _, _, h, r, hs, hz => by
    cases h with
    | tup h1 h2 =>
      cases r
      obtain ⟨its, rv, ⟨o, ho, hc, n, hd⟩, _⟩ := I.tuple h1
      have hz : (tupleText (PyData.shownAll ds)).length ≤ sizeLine := by simpa only [PyData.shown] using hz
      obtain ⟨as, bs, r, hb, hk⟩ := txA I ds _ its h2 rv (by simpa only [PyData.showable] using hs) fun t ht => Nat.le_trans (tupleText_mem_le ht) hz
      have rd := Reads.tuple ho hc hd r
      have na := not_mem_of_deeper rd (by simp only [PyData.depth]; omega) hb
      refine ⟨_, _ :: bs, rd, ReadAtMost.cons rd (Nat.le_refl _) fun b hm => ?_, ?_⟩
      · obtain ⟨d', as', r', hd'⟩ := hb b hm
        exact ⟨d', as', r', by simp only [PyData.depth]; omega⟩
      · simp only [PyData.depth, PyData.shown]
        exact ReprK.tuple ho hc hd na hk
  | .dict kvs, _, _, h, r, hs, hz => by
    cases h with
    | dic h1 =>
      cases r
      obtain ⟨hm, o, n, ho, hc, hd⟩ := dic_obj I h1
      have rd : Reads s.heap (.ref _) (.dict []) _ := Reads.dict (as := []) (bs := []) ho hc hd .nil .nil
      refine ⟨_, [_], rd, ReadAtMost.cons rd (Nat.le_refl _) (fun b k => nomatch k), ?_⟩
      simp only [PyData.depth, PyData.depthKv, PyData.shown, PyData.shownKv]
      exact ReprK.dict (as := []) ho hc hd hm (fun k => nomatch k) .nil
theorem txA (I : Inv X pins σ H s) : ∀ (ds : List PyData) (vs : List V) (us : List Value), DpEA X.K H vs ds → Vals vs us → PyData.showableAll ds = true → (∀ t ∈ PyData.shownAll ds, t.length ≤ sizeLine) → TxA X.prog X.w s.heap us ds
  | [], _, _, h, r, _, _ => by
    cases h; cases r
    exact ⟨_, [], .nil, (fun _ k => nomatch k), by simp only [PyData.shownAll]; exact .nil⟩
  | d :: ds, _, _, h, r, hs, hz => by
    cases h with
    | cons h1 h2 =>
      cases r with
      | cons r1 r2 =>
        simp only [PyData.showableAll, Bool.and_eq_true] at hs
        simp only [PyData.shownAll, List.mem_cons, forall_eq_or_imp] at hz
        obtain ⟨as, bs, q1, q2, q3⟩ := txE I d _ _ h1 r1 hs.1 hz.1
        obtain ⟨at_, bt, p1, p2, p3⟩ := txA I ds _ _ h2 r2 hs.2 hz.2
        refine ⟨_, bs ++ bt, .cons q1 p1, fun b hm => ?_, ?_⟩
        · simp only [PyData.depthAll]
          rcases List.mem_append.mp hm with k | k
          · obtain ⟨e, f, g1, g2⟩ := q2 b k
            exact ⟨e, f, g1, Nat.le_trans g2 (Nat.le_max_left _ _)⟩
          · obtain ⟨e, f, g1, g2⟩ := p2 b k
            exact ⟨e, f, g1, Nat.le_trans g2 (Nat.le_max_right _ _)⟩
        · simp only [PyData.depthAll, PyData.shownAll]
          exact .cons ((q3.more fun b k => List.mem_append_left _ k).level_le (Nat.le_max_left _ _)) (p3.more_le (fun b k => List.mem_append_right _ k) (Nat.le_max_right _ _))
end
/-- a list's or a tuple's text, by the call of repr -/
theorem showsE (I : Inv X pins σ H s) : ∀ (d : PyData) (a : Addr), DpE X.K H (.ref a) d → d.showable = true → d.shown.length ≤ sizeLine → ∃ T idr, ShowsBy X.prog X.w s.heap a d T idr := by
  intro d a h hs hz
  cases h with
  | @lst _ xs ds h1 h2 =>
    obtain ⟨its, rv, ⟨o, n, ho, hc, _, hd⟩, _⟩ := I.list h1
    have hz : (listText (PyData.shownAll ds)).length ≤ sizeLine := by simpa only [PyData.shown] using hz
    obtain ⟨as, bs, r, hb, hk⟩ := txA I ds _ its h2 rv (by simpa only [PyData.showable] using hs) fun t ht => Nat.le_trans (listText_mem_le ht) hz
    have rd := Reads.list ho hc hd r
    have na := not_mem_of_deeper rd (by simp only [PyData.depth]; omega) hb
    refine ⟨"list", "list.__repr__", F.slot_list_repr.toG, F.slot_list_str, F.slot_list_format, fun t k => ⟨o, k _ _ ho, hc⟩, fun A E t Q hg hu k0 q => ?_⟩
    simp only [PyData.depth] at hu
    simp only [PyData.shown] at q
    cases its with
    | nil =>
      cases r
      simp only [PyData.shownAll, listText_nil] at q
      exact call_list_repr_empty ⟨o, k0 _ _ ho, hc⟩ (k0 _ _ ho) hd (q t.heap _ _ fun _ _ e => e)
    | cons x l => exact call_list_reprK ho hc hd na (by simpa using hk.length_eq) (fun i y e => hk.item i y (by simpa using e)) hg (fun b _ => Clear.nil b) hu k0 q hz
  | @tup _ xs ds h1 h2 =>
    obtain ⟨its, rv, ⟨o, ho, hc, n, hd⟩, _⟩ := I.tuple h1
    have hz : (tupleText (PyData.shownAll ds)).length ≤ sizeLine := by simpa only [PyData.shown] using hz
    obtain ⟨as, bs, r, hb, hk⟩ := txA I ds _ its h2 rv (by simpa only [PyData.showable] using hs) fun t ht => Nat.le_trans (tupleText_mem_le ht) hz
    have rd := Reads.tuple ho hc hd r
    have na := not_mem_of_deeper rd (by simp only [PyData.depth]; omega) hb
    refine ⟨"tuple", "tuple.__repr__", F.slot_tuple_repr, F.slot_tuple_str, F.slot_tuple_format, fun t k => ⟨o, k _ _ ho, hc⟩, fun A E t Q hg hu k0 q => ?_⟩
    simp only [PyData.depth] at hu
    simp only [PyData.shown] at q
    exact call_tuple_reprK ho hc hd na hk hg (fun b _ => Clear.nil b) hu k0 q hz
  | dic h1 =>
    obtain ⟨hm, o, n, ho, hc, hd⟩ := dic_obj I h1
    refine ⟨"dict", "dict.__repr__", F.slot_dict_repr, F.slot_dict_str, F.slot_dict_format, fun t k => ⟨o, k _ _ ho, hc⟩, fun A E t Q hg hu k0 q => ?_⟩
    simp only [PyData.depth, PyData.depthKv] at hu
    simp only [PyData.shown, PyData.shownKv] at q
    exact call_dict_reprK (as := []) ho hc hd hm (fun k => nomatch k) .nil hg (fun b _ => Clear.nil b) hu k0 q (by simpa only [PyData.shown, PyData.shownKv] using hz)
end
def rReprE (K : PySem.W.Frag) : List V → Hp → VK → Prop := fun xs H Q => ∃ (x : V) (d : PyData), xs = [x] ∧ DpE K H x d ∧ d.showable = true ∧ d.depth ≤ 60 ∧ d.shown.length ≤ sizeLine ∧ Q (.str d.shown) H
theorem call_reprE {X : Cx} (hg : X.A.guards = some []) (hu : X.A.units + 64 < cLine) : CallR X (.builtin "repr") (rReprE X.K) := by
  intro pins s σ H xs us Q I r h
  obtain ⟨x, d, rfl, hd, hs, hp, hz, q⟩ := h
  obtain ⟨u, rfl, ru⟩ := vals1 r
  have big : ∀ a : Addr, DpE X.K H (.ref a) d → wpAny (model X.prog X.w) X.A (call (.builtin "repr") [.ref a]) (fun v s1 => ∃ x H1, Inv X pins σ H1 s1 ∧ RelV x v ∧ Q x H1) X.xe s := fun a ha => by
    obtain ⟨T, idr, S⟩ := showsE I d a ha hs hz
    exact call_repr_slot (by omega) (S.typeIs s fun _ _ e => e) S.slotRepr (S.call X.A.in1 X.xe s _ hg (by show X.A.units + 1 + d.depth < cLine; omega) (fun _ _ e => e) fun h' u tk hk => ⟨_, _, rfl, .str _, H, I.kept (t' := tk) hk, ⟨_, rfl⟩, q⟩)
  cases hd with
  | non =>
    cases ru
    exact PySem.P.repr_of_none ⟨.str _, H, I.tok _, ⟨_, rfl⟩, q⟩
  | bl b =>
    cases ru
    exact PySem.P.repr_of_bool ⟨.str _, H, I.tok _, ⟨_, rfl⟩, q⟩
  | int i =>
    obtain ⟨t, rfl⟩ := ru
    exact PySem.P.repr_of_int (of_decide_eq_true (by simpa [PyData.showable] using hs)) ⟨.str _, H, I.tok _, ⟨_, rfl⟩, q⟩
  | str z =>
    obtain ⟨t, rfl⟩ := ru
    exact PySem.P.repr_of_str (hsz := hz) ⟨.str _, H, I.tok _, ⟨_, rfl⟩, q⟩
  | lst h1 h2 =>
    cases ru
    exact big _ (.lst h1 h2)
  | tup h1 h2 =>
    cases ru
    exact big _ (.tup h1 h2)
  | dic h1 =>
    cases ru
    exact big _ (.dic h1)
end Gx
set_option Elab.async false
set_option linter.all false
set_option maxRecDepth 100000
set_option maxHeartbeats 4000000
set_option exponentiation.threshold 2000
namespace Gx
open PySem PySem.Spec PyProof.Rows L2
mutual
def SmE : PyData → Prop
  | .none => True
  | .bool _ => True
  | .int i => i.natAbs < 2 ^ 600
  | .str z => (PyData.str z).showable = true ∧ (PyData.str z).shown.length + 2 ≤ 612
  | .list xs => SmEAll xs
  | .tuple xs => SmEAll xs
  | .dict xs => xs = []
def SmEAll : List PyData → Prop
  | [] => True
  | x :: xs => SmE x ∧ SmEAll xs
end
mutual
theorem smE_show : ∀ d : PyData, SmE d → d.showable = true
  | .none, _ => by simp only [PyData.showable]
  | .bool _, _ => by simp only [PyData.showable]
  | .int i, h => by
    simp only [PyData.showable, decide_eq_true_eq]
    exact Nat.lt_trans (log_lt (by decide) (show i.natAbs < 2 ^ 600 from by simpa only [SmE] using h)) (by decide)
  | .str z, h => (show (PyData.str z).showable = true ∧ _ from by simpa only [SmE] using h).1
  | .list xs, h => by
    simp only [PyData.showable]
    exact smE_showAll xs (by simpa only [SmE] using h)
  | .tuple xs, h => by
    simp only [PyData.showable]
    exact smE_showAll xs (by simpa only [SmE] using h)
  | .dict xs, h => by
    have h : xs = [] := by simpa only [SmE] using h
    subst h
    simp only [PyData.showable, PyData.showableKv]
theorem smE_showAll : ∀ xs : List PyData, SmEAll xs → PyData.showableAll xs = true
  | [], _ => by simp only [PyData.showableAll]
  | x :: xs, h => by
    simp only [SmEAll] at h
    simp only [PyData.showableAll, Bool.and_eq_true]
    exact ⟨smE_show x h.1, smE_showAll xs h.2⟩
end
mutual
theorem smE_len : ∀ d : PyData, SmE d → d.shown.length + 2 ≤ 612 * nodes d
  | .none, _ => by simp only [nodes, PyData.shown]; decide
  | .bool b, _ => by cases b <;> simp only [nodes, PyData.shown] <;> decide
  | .int i, h => by
    have z : (toString i).length ≤ 601 := int_text_length_le (by decide) (log_lt (by decide) (show i.natAbs < 2 ^ 600 from by simpa only [SmE] using h))
    have e : (PyData.shown (.int i)).length = (toString i).length := by simp only [PyData.shown]; exact PySem.ofString_length _
    rw [e]
    simp only [nodes]
    omega
  | .str z, h => by
    have h2 : (PyData.str z).shown.length + 2 ≤ 612 := (show _ ∧ _ from by simpa only [SmE] using h).2
    simp only [nodes]
    omega
  | .list xs, h => by
    simp only [PyData.shown, nodes]
    have a := listText_len_le (PyData.shownAll xs)
    have b := smE_lenAll xs (by simpa only [SmE] using h)
    omega
  | .tuple xs, h => by
    simp only [PyData.shown, nodes]
    have a := tupleText_len_le (PyData.shownAll xs)
    have b := smE_lenAll xs (by simpa only [SmE] using h)
    omega
  | .dict xs, h => by
    have h : xs = [] := by simpa only [SmE] using h
    subst h
    simp only [PyData.shown, PyData.shownKv, nodes]
    exact Nat.le_of_ble_eq_true (by decide +kernel)
theorem smE_lenAll : ∀ xs : List PyData, SmEAll xs → ((PyData.shownAll xs).map (·.length)).sum + 2 * (PyData.shownAll xs).length ≤ 612 * nodesAll xs
  | [], _ => by simp [PyData.shownAll, nodesAll]
  | x :: xs, h => by
    simp only [SmEAll] at h
    have a := smE_len x h.1
    have b := smE_lenAll xs h.2
    simp only [PyData.shownAll, nodesAll, List.map_cons, List.sum_cons, List.length_cons]
    omega
end
theorem okdE {d : PyData} (h : SmE d) (hd : d.depth ≤ 60) (hn : nodes d ≤ 20000) : Okd d := ⟨smE_show d h, hd, by
  have := smE_len d h
  have e : sizeLine = 16777216 := sizeLine_eq
  omega⟩
end Gx
set_option Elab.async false
set_option linter.all false
set_option maxRecDepth 100000
set_option maxHeartbeats 1000000
namespace Ab
open PySem PySem.Spec PyProof.Rows L2
open Classical
noncomputable section
section
variable {W : Wl} {E : L2.St → XK} {tr : TA} {fr : AA}
def enumUK : List AV → Sto → Res (List AV × (Sto → Prop)) := fun xs s1 => match xs with
  | [.tup ys] => .ok (enumA ys, fun _ => True) s1
  | xs => enumK xs s1
theorem enumUK_of {xs : List AV} {s1 : Sto} (c : ¬ ∃ ys, xs = [.tup ys]) : enumUK xs s1 = enumK xs s1 := by
  unfold enumUK
  split
  · exact absurd ⟨_, rfl⟩ c
  · rfl
def aEnumU (fr : AA) : AI := fun σ s => (fr σ s).bind enumUK
def enU (K : PySem.W.Frag) (ta : TA) : TI := fun σ H R => iEnum K ta σ H R ∨ Gx.iEnT K ta σ H R
theorem itw_enT {w0 : Wd} {a : Addr} {xs : List AV} {vs : List V} (h : SqT W.K w0.H a vs) (r : RelL W w0 xs vs) (G : Sto → Prop) : ItW W w0 (Gx.ItE W.K a) (enumA xs) G := by
  have hl := r.length
  refine ⟨xs.length, fun H => ∃ e, SqT W.K H a vs ∧ e = vs.length, fun i H v H' => ∃ T x, v = .ref T ∧ H T = none ∧ H' = upd H T (.tup [.int (i : Nat), x]) ∧ vs[i]? = some x, ⟨fun i H hi ⟨_, h1, h2⟩ => ⟨vs, vs[i], h1, by simp⟩, fun H ⟨_, h1, h2⟩ => ⟨vs, h1, Nat.le_of_eq hl.symm⟩, fun i H x H' hi ⟨_, h1, _⟩ ⟨T, x', y1, y2, y3, y4⟩ => ⟨T, x', y1, y2, y3, y4 vs h1⟩⟩, by simp [enumA], fun w s e S' g => ⟨_, sqt_ext e h, rfl⟩, fun w s i y H' e S' g hi hy => ?_⟩
  obtain ⟨T, u, rfl, hT, rfl, h2⟩ := hy
  obtain ⟨z, y1, y2⟩ := (r.mono e).getv i u h2
  have gr := grow_upd (o := .tup [.int (i : Nat), u]) hT
  refine ⟨.tup [.int (i : Nat), z], _, ?_, rfl, .grow gr, S'.grow gr, .tup (.inl (.inl upd_same)) (.cons (.int _) (.cons (y2.mono (.grow gr)) .nil))⟩
  unfold enumA
  rw [List.getElem?_mapIdx, y1]
  rfl
theorem DI.enumU (ha : DA W E tr fr) : DI W E (enU W.K tr) (aEnumU fr) := fun w s σ σc R S Rs h => by
  cases e : fr σ s with
  | stuck =>
    have : aEnumU fr σ s = .stuck := by unfold aEnumU; rw [e]; rfl
    rw [this] at h; exact h.elim
  | err c ns vs s1 =>
    have : aEnumU fr σ s = .err c ns vs s1 := by unfold aEnumU; rw [e]; rfl
    rw [this] at h
    exact .inl (ha w s σ σc _ S Rs (by rw [e]; exact h))
  | ok xs s1 =>
    have e1 : aEnumU fr σ s = enumUK xs s1 := by unfold aEnumU; rw [e]; rfl
    rw [e1] at h
    by_cases c : ∃ ys, xs = [.tup ys]
    · obtain ⟨ys, rfl⟩ := c
      refine .inr (ha w s σ σc _ S Rs ?_)
      rw [e]
      intro w1 v x1 S1 r1
      cases r1 with
      | cons r1 r2 =>
        cases r2
        cases r1 with
        | @tup a _ vs k1 k2 => exact ⟨a, vs, rfl, k1, h w1 _ x1 S1 (itw_enT k1 k2 _)⟩
    · have e2 : aEnum fr σ s = enumUK xs s1 := by
        rw [e_enum, e, Res.bind_ok, enumUK_of c]
      rw [← e2] at h
      exact .inl (DI.enum ha w s σ σc R S Rs h)
theorem e_enumU {σ : ASt} {s : Sto} : aEnumU fr σ s = (fr σ s).bind enumUK := rfl
theorem e_enumUT {ys : List AV} {s : Sto} : enumUK [.tup ys] s = .ok (enumA ys, fun _ => True) s := rfl
def gMulV : AV → AV → Sto → Res AV := fun x y s => match x, y with
  | .tup a, .int k => if a ≠ [] ∧ -1000 ≤ k ∧ k ≤ 1000 ∧ a.length ≤ 1000 then .ok (.tup (List.replicate k.toNat a).flatten) s else .stuck
  | x, y => gMul x y s
@[simp] theorem gMulV_int {i j : Int} {s : Sto} : gMulV (.int i) (.int j) s = gMul (.int i) (.int j) s := rfl
@[simp] theorem gMulV_str {i : Str} {j : Int} {s : Sto} : gMulV (.str i) (.int j) s = gMul (.str i) (.int j) s := rfl
@[simp] theorem gMulV_obj {i : Nat} {j : Int} {s : Sto} : gMulV (.obj i) (.int j) s = gMul (.obj i) (.int j) s := rfl
def datE : Nat → Sto → AV → Option PyData
  | 0, _, _ => none
  | n + 1, s, x => match x with
    | .non => some .none
    | .bl b => some (.bool b)
    | .int i => some (.int i)
    | .str z => some (.str z)
    | .tup xs => (optL (datE n s) xs).map .tuple
    | .scr xs => (optL (datE n s) xs).map .list
    | .obj i => match s.c i with | .lst xs => (optL (datE n s) xs).map .list | .dic [] => some (.dict []) | _ => none
    | _ => none
section
variable {w : Wd} {s : Sto}
theorem optL_dpE {n : Nat} (ih : ∀ (x : AV) (v : V) (d : PyData), Rel W w x v → datE n s x = some d → Gx.DpE W.K w.H v d) : ∀ {xs : List AV} {vs : List V} {ds : List PyData}, RelL W w xs vs → optL (datE n s) xs = some ds → Gx.DpEA W.K w.H vs ds
  | _, _, _, .nil, e => by
    cases e
    exact .nil
  | _, _, _, .cons h r, e => by
    unfold optL at e
    split at e
    · rename_i d ds e1 e2
      cases e
      exact .cons (ih _ _ _ h e1) (optL_dpE ih r e2)
    · cases e
theorem datE_dp (S : Sim W w s) : ∀ (n : Nat) (x : AV) (v : V) (d : PyData), Rel W w x v → datE n s x = some d → Gx.DpE W.K w.H v d
  | 0, _, _, _, _, e => by cases e
  | n + 1, x, v, d, r, e => by
    cases r with
    | non => cases e; exact .non
    | bl b => cases e; exact .bl b
    | int i => cases e; exact .int i
    | str z => cases e; exact .str z
    | ty => cases e
    | cls => cases e
    | raw => cases e
    | exn => cases e
    | @tup a xs vs h1 h2 =>
      have e : (optL (datE n s) xs).map PyData.tuple = some d := e
      cases k : optL (datE n s) xs with
      | none => rw [k] at e; cases e
      | some ds =>
        rw [k] at e
        cases e
        exact .tup h1 (optL_dpE (datE_dp S n) h2 k)
    | @scr a xs vs h1 h2 =>
      have e : (optL (datE n s) xs).map PyData.list = some d := e
      cases k : optL (datE n s) xs with
      | none => rw [k] at e; cases e
      | some ds =>
        rw [k] at e
        cases e
        exact .lst h1.sql (optL_dpE (datE_dp S n) h2 k)
    | @obj i hi =>
      have e : (match s.c i with | .lst xs => (optL (datE n s) xs).map .list | .dic [] => some (.dict []) | _ => none) = some d := e
      obtain ⟨o, k1, k2⟩ := S.cell i (S.n ▸ hi)
      split at e
      · rename_i xs ec
        rw [ec] at k2
        cases k2 with
        | lst k3 =>
          cases k : optL (datE n s) xs with
          | none => rw [k] at e; cases e
          | some ds =>
            rw [k] at e
            cases e
            exact .lst (.inl (.inl k1)) (optL_dpE (datE_dp S n) k3 k)
      · rename_i ec
        rw [ec] at k2
        cases e
        cases k2 with
        | dic k3 =>
          cases k3
          exact .dic k1
      · cases e
end
def gReprE : List AV → Sto → Res AV := fun xs s => match xs with | [x] => (match datE 12 s x with | some d => if d.showable = true ∧ d.depth ≤ 60 ∧ d.shown.length ≤ sizeLine then .ok (.str d.shown) s else .stuck | none => .stuck) | _ => .stuck
theorem gReprE_dat {x : AV} {s : Sto} {d : PyData} (e : datE 12 s x = some d) (h : d.showable = true ∧ d.depth ≤ 60 ∧ d.shown.length ≤ sizeLine) : gReprE [x] s = .ok (.str d.shown) s := by
  unfold gReprE; simp only [e]; exact if_pos h
theorem NEL.reprE : NEL gReprE := fun x s c ns vs s' h => by 
  unfold gReprE at h
  repeat' split at h
  all_goals first | cases h | (unfold newL at h; cases h)
theorem DB.reprE {W : Wl} : DB W (Gx.rReprE W.K) gReprE := fun w s x v Q S r h => by
  unfold gReprE at h
  split at h
  · cases r with
    | cons r1 r2 =>
      cases r2
      split at h
      · rename_i d e
        split at h
        · rename_i hc
          exact ⟨_, d, rfl, datE_dp S _ _ _ _ r1 e, hc.1, hc.2.1, hc.2.2, h w _ (.refl w) S (.str _)⟩
        · exact h.elim
      · exact h.elim
  · exact h.elim
theorem s_aug {i : Nat} {g : AV → AV → Sto → Res AV} {fa : AE} {σ : ASt} {s : Sto} {x : AV} (h : σ[i]? = some (some x)) : aAug i g fa σ s = (fa σ s).st σ (augK i g σ x) := by
  unfold aAug aVar
  simp only [h]
  rfl
end
end
end Ab
set_option Elab.async false
set_option linter.all false
set_option maxRecDepth 100000
set_option maxHeartbeats 1000000
namespace Gx
open PySem PySem.Spec PyProof.Rows L2
end Gx
set_option Elab.async false
set_option linter.all false
set_option maxRecDepth 100000
set_option maxHeartbeats 1000000
namespace Ab
open PySem PySem.Spec PyProof.Rows L2
open Classical
end Ab
set_option Elab.async false
set_option linter.all false
set_option maxRecDepth 100000
set_option maxHeartbeats 4000000
namespace Gx
open PySem PySem.Spec PyProof.Rows L2
end Gx
set_option Elab.async false
set_option linter.all false
set_option maxRecDepth 100000
set_option maxHeartbeats 2000000
namespace Ab
open PySem PySem.Spec PyProof.Rows L2
section
def aMNil : AV → AS := fun _ => aNext
def aMAny (f : AS) : AV → AS := fun _ => f
def aMCase (k : Str) (fb : AS) (fr : AV → AS) : AV → AS := fun x σ s => match x with | .str y => if y = k then fb σ s else fr (.str y) σ s | _ => .stuck
def aMCase2 (k l : Str) (fb : AS) (fr : AV → AS) : AV → AS := aMCase k fb (aMCase l fb fr)
def aMatch (fa : AE) (fc : AV → AS) : AS := fun σ s => (fa σ s).st σ fun x s1 => fc x σ s1
variable {W : Wl} {E : L2.St → XK}
def DMt (W : Wl) (E : L2.St → XK) (tc : V → TS) (fc : AV → AS) : Prop := ∀ (w : Wd) (s : Sto) (σ : ASt) (σc : L2.St) (D : Ends) (x : AV) (v : V), Sim W w s → RSt W w σ σc → Rel W w x v → (fc x σ s).P W w D E → tc v D σc w.H
theorem DMt.nil : DMt W E Mt.tEnd aMNil := fun w s σ σc D x v S R r h => h w σc (.refl w) S R
theorem DMt.any {tb : TS} {fb : AS} (hb : DS W E tb fb) : DMt W E (Mt.tAny tb) (aMAny fb) := fun w s σ σc D x v S R r h => hb w s σ σc D S R h
theorem DS.match {ta : TE} {fa : AE} {tc : V → TS} {fc : AV → AS} (ha : DE W E ta fa) (hc : DMt W E tc fc) : DS W E (Mt.tMatch ta tc) (aMatch fa fc) := fun w s σ σc D S R h =>
  ha w s σ σc _ S R ((exp_post R h).mono (fun v s1 h1 w1 vc e1 S1 r1 => hc w1 s1 σ σc D v vc S1 (R.mono e1) r1 (P.mono e1 h1)) fun _ _ _ _ z => z)
end
section
noncomputable def gMulB : AV → AV → Sto → Res AV := fun x y s => match x, y with
  | .tup [a], .int k => if 2 ≤ k ∧ k ≤ 100000 then .ok (.tup (List.replicate k.toNat [a]).flatten) s else gMulV (.tup [a]) (.int k) s
  | x, y => gMulV x y s
@[simp] theorem gMulB_int {i j : Int} {s : Sto} : gMulB (.int i) (.int j) s = gMul (.int i) (.int j) s := rfl
@[simp] theorem gMulB_str {i : Str} {j : Int} {s : Sto} : gMulB (.str i) (.int j) s = gMul (.str i) (.int j) s := rfl
@[simp] theorem gMulB_obj {i : Nat} {j : Int} {s : Sto} : gMulB (.obj i) (.int j) s = gMul (.obj i) (.int j) s := rfl
end
section
variable {k l : Str} {fb : AS} {fr : AV → AS} {y : Str} {x : AV} {σ : ASt} {s : Sto} {fa : AE} {fc : AV → AS}
theorem e_match : aMatch fa fc σ s = (fa σ s).st σ fun x s1 => fc x σ s1 := rfl
theorem e_mcase : aMCase k fb fr (.str y) σ s = if y = k then fb σ s else fr (.str y) σ s := rfl
theorem e_mcase2 : aMCase2 k l fb fr (.str y) σ s = if y = k then fb σ s else if y = l then fb σ s else fr (.str y) σ s := rfl
theorem e_many : aMAny fb x σ s = fb σ s := rfl
theorem e_mnil : aMNil x σ s = .nx σ s := rfl
end
end Ab
set_option Elab.async false
set_option linter.all false
set_option maxRecDepth 100000
set_option maxHeartbeats 1000000
set_option Elab.async false
set_option linter.all false
set_option maxRecDepth 100000
set_option maxHeartbeats 1000000
namespace Ab
open PySem PySem.Spec PyProof.Rows L2
open Classical
noncomputable section
/-- a tuple == () -/
def gEq0 : AV → AV → Sto → Res AV := fun x y s => match x, y with
  | .tup (_ :: _), .tup [] => .ok (.bl false) s
  | x, y => gEq x y s
@[simp] theorem gEq0_tup {a : AV} {l : List AV} {s : Sto} : gEq0 (.tup (a :: l)) (.tup []) s = .ok (.bl false) s := rfl
end
end Ab
set_option Elab.async false
set_option linter.all false
set_option maxRecDepth 100000
set_option maxHeartbeats 1000000
set_option Elab.async false
set_option linter.all false
set_option maxRecDepth 100000
set_option maxHeartbeats 1000000
namespace Gx
open PySem PySem.Spec PyProof.Rows L2 PySem.HandSPX
/-- what is wanted behind the block -/
def compEnd (M : Model) (A : Around) (E : Value → Shared → Prop) (Q : Value → Shared → Prop) (acc : Value) (v : Env) (r : Result) (t : Shared) : Prop :=
  match r with
  | .ok _ => ∃ m, t.heap.Ns v.locals m ∧ ∀ k, Heap.SameBut v.locals t.heap k → Q acc { t with heap := k }
  | .error x => ∃ m, t.heap.Ns v.locals m ∧ ∀ k, Heap.SameBut v.locals t.heap k → wpAny M A (PySem.passOn "comprehension.variables-let-go" x v : Sem Value) (fun _ _ => False) E { t with heap := k }
theorem comp_end {M : Model} {A : Around} {E : Value → Shared → Prop} {s : Shared} {env : Env} {e : Expr} {sc : Scope} {pos : Pos} {mk fst : Sem Value} {g : Comprehension} {gs : List Comprehension} {cl : List (Str × Addr)} {Q : Value → Shared → Prop}
    (h1 : clausesOf e = g :: gs) (h2 : ∀ x, foldedSetIterable g.iter env x = pure x) (h3 : closureFor sc env = pure cl) (h4 : sc.kind = .function) (h5 : ∀ x ∈ sc.names, x.2 = .local → sc.names.lookup x.1 = some .local)
    (h : wpAny M A fst (fun x t1 => wpAny M A (pyIter x) (fun it t2 => wpAny M A mk (fun acc t3 => wpAny M A (newFunctionEnv sc env.globals cl [] env.qual none .none (some env)) (fun v t4 =>
      codeAny M A (.compStart e 0 it acc { v with scope := relabel sc env }) (compEnd M A E Q acc { v with scope := relabel sc env }) t4) E t3) E t2) E t1) E s) :
    wpAny M A (comprehension e sc env pos mk false fst none) Q E s := by
  unfold comprehension
  rw [h3, h1]
  have kp : ∀ {a : Value} {t : Shared}, E a t → E a t := fun x => x
  refine wpAny_bind (wpAny_mono h (fun x t1 k1 => ?_) fun _ _ => kp)
  refine wpAny_bind (wpAny_standAt (wpAny_bind (wpAny_of_eq (h2 x) (wpAny_bind (wpAny_holding (wpAny_mono k1 (fun it t2 k2 => ?_) fun _ _ => kp))))))
  refine wpAny_standIf (wpAny_bind (wpAny_mono k2 (fun acc t3 k3 => ?_) fun _ _ => kp))
  refine wpAny_bind (wpAny_pure (wpAny_bind (wpAny_mono k3 (fun v t4 k4 => ?_) fun _ _ => kp)))
  dsimp only
  have loc : ∀ x ∈ (sc.names.filter fun x => (x.2 == .local || x.2 == .cell) && x.1 != (".0" : Str)).reverse, x.2 = .local → Env.kindOf { v with scope := relabel sc env } x.1 = some .local :=
    fun x hx hl => lookup_relabel_local (h5 x (List.mem_filter.mp (List.mem_reverse.mp hx)).1 hl)
  refine wpAny_holding (wpAny_bind (wpAny_attempt (wpAny_holding (wpAny_run (codeAny_mono k4 fun r t hr => ?_)))))
  cases r with
  | ok f =>
    obtain ⟨m, hn, hq⟩ := hr
    exact wpAny_bind (wpAny_holding (wpAny_comp_letGo (cenv := { v with scope := relabel sc env }) h4 _ t m loc hn fun k _ _ hk => wpAny_pure (hq k hk)))
  | error x =>
    obtain ⟨m, hn, hq⟩ := hr
    exact wpAny_bind (wpAny_holding (wpAny_comp_letGo (cenv := { v with scope := relabel sc env }) h4 _ t m loc hn fun k _ _ hk => wpAny_mono (hq k hk) (fun _ _ f => f.elim) fun _ _ => kp))
end Gx
set_option Elab.async false
set_option linter.all false
set_option maxRecDepth 100000
set_option maxHeartbeats 1000000
namespace Ab
open PySem PySem.Spec PyProof.Rows L2
open Classical
noncomputable section
section
variable {W : Wl} {E : L2.St → XK} {ta tb td : TE} {fa fb fd : AE}
/-- d.get(y, z) -/
def isDic (s : Sto) (x : AV) : Prop := ∃ i kvs, x = .obj i ∧ s.c i = .dic kvs
def gGet2 (x y z : AV) (s : Sto) : Res AV := match x, toKey y with | .obj i, some k => (match s.c i with | .dic kvs => .ok ((valA kvs k).getD z) s | _ => .stuck) | _, _ => .stuck
def aGet2 (fd fa fb : AE) : AE := fun σ s => (fd σ s).bind fun x s1 => if isDic s1 x then (fa σ s1).bind fun y s2 => (fb σ s2).bind fun z s3 => gGet2 x y z s3 else .stuck
def get2K (fa fb : AE) (σ : ASt) : AV → Sto → Res AV := fun x s1 => if isDic s1 x then (fa σ s1).bind fun y s2 => (fb σ s2).bind fun z s3 => gGet2 x y z s3 else .stuck
theorem e_get2 {σ : ASt} {s : Sto} : aGet2 fd fa fb σ s = (fd σ s).bind (get2K fa fb σ) := rfl
end
def augSK (g : AV → AV → Sto → Res AV) (σ : ASt) (o i x y : AV) (s : Sto) : SRes := (g x y s).st σ fun z s2 => oNx σ (setL o i z s2)
def getLN (o i : AV) (s : Sto) : Option AV := match o, i with | .obj j, .int k => (match s.c j with | .lst xs => if 0 ≤ k ∧ k < 2 ^ 63 then xs[k.toNat]? else none | _ => none) | _, _ => none
def augS2 (g : AV → AV → Sto → Res AV) (fe : AE) (σ : ASt) (o i : AV) (s : Sto) : SRes := match getLN o i s with | some x => (fe σ s).st σ (augSK g σ o i x) | none => .stuck
def augS1 (g : AV → AV → Sto → Res AV) (fi fe : AE) (σ : ASt) (o : AV) (s : Sto) : SRes := (fi σ s).st σ (augS2 g fe σ o)
def aAugS (g : AV → AV → Sto → Res AV) (fo fi fe : AE) : AS := fun σ s => (fo σ s).st σ (augS1 g fi fe σ)
theorem s_augS {g : AV → AV → Sto → Res AV} {fo fi fe : AE} {σ : ASt} {s : Sto} : aAugS g fo fi fe σ s = (fo σ s).st σ (augS1 g fi fe σ) := rfl
theorem s_augS1 {g : AV → AV → Sto → Res AV} {fi fe : AE} {σ : ASt} {s : Sto} {o : AV} : augS1 g fi fe σ o s = (fi σ s).st σ (augS2 g fe σ o) := rfl
/-- lists of the very same things are equal -/
def gEqS : AV → AV → Sto → Res AV := fun x y s => match lstOf s x, lstOf s y with
  | some xs, some ys => if xs = ys ∧ xs.all (smA 19) = true then .ok (.bl true) s else gEq x y s
  | _, _ => gEq x y s
@[simp] theorem gEqS_int {i j : Int} {s : Sto} : gEqS (.int i) (.int j) s = .ok (.bl (decide (i = j))) s := gEq_int
@[simp] theorem gEqS_str {i j : Str} {s : Sto} : gEqS (.str i) (.str j) s = .ok (.bl (decide (i = j))) s := gEq_str
@[simp] theorem gEqS_bl {i j : Bool} {s : Sto} : gEqS (.bl i) (.bl j) s = .ok (.bl (decide (i = j))) s := gEq_bl
@[simp] theorem gEqS_tup {i : List AV} {j : AV} {s : Sto} : gEqS (.tup i) j s = gEq (.tup i) j s := rfl
def gMulW : AV → AV → Sto → Res AV := fun x y s => match x, y with
  | .tup [a], .int k => if 1000 < k ∧ k ≤ 100000 then .ok (.tup (List.replicate k.toNat [a]).flatten) s else gMulV (.tup [a]) (.int k) s
  | x, y => gMulV x y s
@[simp] theorem gMulW_int {i j : Int} {s : Sto} : gMulW (.int i) (.int j) s = gMul (.int i) (.int j) s := rfl
@[simp] theorem gMulW_str {i : Str} {j : Int} {s : Sto} : gMulW (.str i) (.int j) s = gMul (.str i) (.int j) s := rfl
@[simp] theorem gMulW_obj {i : Nat} {j : Int} {s : Sto} : gMulW (.obj i) (.int j) s = gMul (.obj i) (.int j) s := rfl
end
end Ab
namespace Gx
open PySem PySem.Spec PyProof.Rows L2
end Gx
namespace Ab
open PySem PySem.Spec PyProof.Rows L2
open Classical
end Ab
namespace Gx
open PySem PySem.Spec PyProof.Rows L2
end Gx
namespace Ab
open PySem PySem.Spec PyProof.Rows L2
open Classical
end Ab
namespace Gx
open PySem PySem.Spec PyProof.Rows L2
end Gx
namespace Ab
open PySem PySem.Spec PyProof.Rows L2
open Classical
noncomputable section
def aMethS (c : String) (m : Str) (F : List AV → Sto → Res AV) (fa : AE) (fr : AA) : AE := fun σ s => (fa σ s).bind fun x s1 => if clsIs s1 x c m = true then (fr σ s1).bind fun xs s2 => if xs.length ≤ sizeLine then F [x, .tup xs] s2 else .stuck else .stuck
section
variable {c : String} {m : Str} {F : List AV → Sto → Res AV} {fa : AE} {fr : AA} {σ : ASt} {s : Sto} {x : AV} {xs : List AV}
def mSK2 (F : List AV → Sto → Res AV) (x : AV) : List AV → Sto → Res AV := fun xs s2 => if xs.length ≤ sizeLine then F [x, .tup xs] s2 else .stuck
def mSK1 (c : String) (m : Str) (F : List AV → Sto → Res AV) (fr : AA) (σ : ASt) : AV → Sto → Res AV := fun x s1 => if clsIs s1 x c m = true then (fr σ s1).bind (mSK2 F x) else .stuck
theorem e_methS : aMethS c m F fa fr σ s = (fa σ s).bind (mSK1 c m F fr σ) := rfl
theorem e_methS1 : mSK1 c m F fr σ x s = grd (clsIs s x c m = true) ((fr σ s).bind (mSK2 F x)) := rfl
theorem e_methS2 : mSK2 F x xs s = grd (xs.length ≤ sizeLine) (F [x, .tup xs] s) := rfl
end
end
end Ab
namespace Ab
open PySem PySem.Spec PyProof.Rows L2
open Classical
noncomputable section
def lcIX (k : Nat) (G : Sto → Prop) (g : AV → AS) (ft : AT) (fe : AE) (σ0 : ASt) : List AV → Sto → Res AV
  | [] => fun s => if G s then .ok (.obj k) s else .stuck
  | x :: r => fun s => if G s then (match g x σ0 s with
    | .nx σ2 s2 => (match ft σ2 s2 with
      | .ok true s3 => (match fe σ2 s3 with
        | .ok y s4 => (match s4.c k with | .lst acc => if acc.length < sizeLine then lcIX k G g ft fe σ0 r (s4.set k (.lst (acc ++ [y]))) else .stuck | _ => .stuck)
        | .err c ns vs s4 => .err c ns vs s4
        | .stuck => .stuck)
      | .ok false s3 => lcIX k G g ft fe σ0 r s3
      | .err c ns vs s3 => .err c ns vs s3
      | .stuck => .stuck)
    | _ => .stuck) else .stuck
def aLcX (fi : AI) (g : AV → AS) (ft : AT) (fe : AE) (vs : List Nat) : AE := fun σ s => (fi σ s).bind fun p s1 => lcIX s1.n p.2 g ft fe (wipeA σ vs) p.1 (s1.new (.lst []))
section
variable {σ : ASt} {s : Sto} {fi : AI} {g : AV → AS} {ft : AT} {fe : AE} {vs : List Nat}
def lcXK (g : AV → AS) (ft : AT) (fe : AE) (vs : List Nat) (σ : ASt) : List AV × (Sto → Prop) → Sto → Res AV := fun p s1 => lcIX s1.n p.2 g ft fe (wipeA σ vs) p.1 (s1.new (.lst []))
theorem e_lcX : aLcX fi g ft fe vs σ s = (fi σ s).bind (lcXK g ft fe vs σ) := rfl
theorem e_lcXK {xs : List AV} {G : Sto → Prop} : lcXK g ft fe vs σ (xs, G) s = lcIX s.n G g ft fe (wipeA σ vs) xs (s.new (.lst [])) := rfl
end
end
end Ab
set_option Elab.async false
set_option linter.all false
set_option maxRecDepth 100000
set_option maxHeartbeats 2000000
namespace Gx
open PySem PySem.Spec PyProof.Rows L2
end Gx
set_option Elab.async false
set_option linter.all false
set_option maxRecDepth 100000
set_option maxHeartbeats 1000000
namespace Ab
open PySem PySem.Spec PyProof.Rows L2
open Classical
end Ab
set_option Elab.async false
set_option linter.all false
set_option maxRecDepth 100000
set_option maxHeartbeats 2000000
namespace Ve
open PySem
/-- it could not be woken -/
def veil : GenState → GenState
  | .suspended _ l c p fs cl => .suspended (fun _ => .unsupported "") l c p fs cl
  | x => x
def sleeps : GenState → Bool
  | .suspended .. => true
  | _ => false
theorem veil_seen (x : GenState) : (veil x).seen = x.seen := by cases x <;> rfl
/-- no generator's frame among them -/
def pureG : GenState → Prop
  | .suspended _ _ _ _ fs _ => splitAtGen fs = none
  | _ => True
/-- the tables: where V holds, the state st stands, veiled in the first one; elsewhere they are alike -/
structure Rg (V : Nat → Prop) (st : Nat → GenState) (a b : Array GenState) : Prop where
  sz : b.size = a.size
  v : ∀ i, V i → sleeps (st i) = true ∧ a[i]? = some (veil (st i)) ∧ b[i]? = some (st i)
  e : ∀ i, ¬ V i → b[i]? = a[i]?
  p : ∀ i x, ¬ V i → a[i]? = some x → pureG x
variable {V : Nat → Prop} {st : Nat → GenState} {a b : Array GenState}
theorem Rg.lt (r : Rg V st a b) {i : Nat} (h : V i) : i < a.size := by
  obtain ⟨_, h1, _⟩ := r.v i h
  exact (Array.getElem?_eq_some_iff.mp h1).1
theorem Rg.push (r : Rg V st a b) {x : GenState} (hx : pureG x) : Rg V st (a.push x) (b.push x) where
  sz := by simp [r.sz]
  v := fun i h => by
    obtain ⟨h0, h1, h2⟩ := r.v i h
    have l := r.lt h
    refine ⟨h0, ?_, ?_⟩
    · rw [Array.getElem?_push_lt l]
      rw [← h1, Array.getElem?_eq_getElem l]
    · have l2 : i < b.size := by rw [r.sz]; exact l
      rw [Array.getElem?_push_lt l2]
      rw [← h2, Array.getElem?_eq_getElem l2]
  e := fun i h => by
    rw [Array.getElem?_push, Array.getElem?_push, r.sz, r.e i h]
  p := fun i y h e => by
    rw [Array.getElem?_push] at e
    split at e
    · cases e; exact hx
    · exact r.p i y h e
theorem Rg.set (r : Rg V st a b) {g : Nat} {x : GenState} (hg : ¬ V g) (hx : pureG x) : Rg V st (a.setIfInBounds g x) (b.setIfInBounds g x) where
  sz := by simp [r.sz]
  v := fun i h => by
    obtain ⟨h0, h1, h2⟩ := r.v i h
    have ne : g ≠ i := fun e => hg (e ▸ h)
    refine ⟨h0, ?_, ?_⟩
    · rw [Array.getElem?_setIfInBounds_ne ne]; exact h1
    · rw [Array.getElem?_setIfInBounds_ne ne]; exact h2
  e := fun i h => by
    by_cases ne : g = i
    · subst ne
      rw [Array.getElem?_setIfInBounds_self, Array.getElem?_setIfInBounds_self, r.sz]
    · rw [Array.getElem?_setIfInBounds_ne ne, Array.getElem?_setIfInBounds_ne ne, r.e i h]
  p := fun i y h e => by
    by_cases ne : g = i
    · subst ne
      rw [Array.getElem?_setIfInBounds_self] at e
      split at e
      · cases e; exact hx
      · cases e
    · rw [Array.getElem?_setIfInBounds_ne ne] at e
      exact r.p i y h e
theorem no_runs {M : Model} {Γ : Ctx} {p : Pos} {m : String} {t : Sem PySem.Fin} {fs : List Frame} {s s' : Shared} {e : End} (ht : t = .unsupported m) (h : Runs M Γ p t fs s e s') : False := by
  induction h <;> first | cases ht | (rename_i ih _; exact ih ht) | (rename_i ih; exact ih ht) | skip
  all_goals (rename_i ih; exact ih rfl)
theorem split_app : ∀ {x y : List Frame}, splitAtGen x = none → splitAtGen y = none → splitAtGen (x ++ y) = none
  | [], y, _, h => h
  | .gen .. :: r, y, h, _ => by cases h
  | .ret .. :: r, y, h, h2 => by
    have h : (splitAtGen r).map _ = none := h
    have h := Option.map_eq_none_iff.mp h
    show (splitAtGen (r ++ y)).map _ = none
    rw [split_app h h2]
    rfl
theorem split_ret {k : Result → Sem PySem.Fin} {h : Option Value} {g : Bool} {l kp : List Value} {c : Code} {p : Pos} {r : List Frame} (e : splitAtGen (.ret k h g l c p kp :: r) = none) : splitAtGen r = none :=
  Option.map_eq_none_iff.mp (show (splitAtGen r).map _ = none from e)
def PEnd : End → Prop
  | .ret _ => True
  | .susp _ _ _ _ _ _ fs => splitAtGen fs = none
theorem pure_end {e : End} (h : PEnd e) : pureG e.genState := by
  cases e with
  | ret r => trivial
  | susp v g l k c p fs => exact h
theorem Rg.awake (r : Rg V st a b) {g : Nat} {x : GenState} (h : a[g]? = some x) (hx : sleeps x = false) : ¬ V g := fun hv => by
  obtain ⟨h0, h1, _⟩ := r.v g hv
  rw [h] at h1
  cases h1
  cases e : st g with
  | suspended k l c p fs cl => rw [e] at hx; cases hx
  | fresh c => rw [e] at h0; cases h0
  | running => rw [e] at h0; cases h0
  | finished => rw [e] at h0; cases h0
/-- THE RUN UNDER THE VEIL -/
theorem runs_veil {M : Model} {Γ : Ctx} {p : Pos} {t : Sem PySem.Fin} {fs : List Frame} {s s' : Shared} {e : End} (h : Runs M Γ p t fs s e s') : splitAtGen fs = none → ∀ b, Rg V st s.gens b →
    PEnd e ∧ ∃ b', Runs M Γ p t fs { s with gens := b } e { s' with gens := b' } ∧ Rg V st s'.gens b' := by
  induction h with
  | done => exact fun _ b r => ⟨trivial, b, .done, r⟩
  | raise => exact fun _ b r => ⟨trivial, b, .raise, r⟩
  | again hq _ ih => exact fun hf b r => let ⟨z, b', h', r'⟩ := ih hf b r; ⟨z, b', .again hq h', r'⟩
  | rule _ ih => exact fun hf b r => let ⟨z, b', h', r'⟩ := ih hf b r; ⟨z, b', .rule h', r'⟩
  | «at» _ ih => exact fun hf b r => let ⟨z, b', h', r'⟩ := ih hf b r; ⟨z, b', .at h', r'⟩
  | load hl _ ih => exact fun hf b r => let ⟨z, b', h', r'⟩ := ih hf b r; ⟨z, b', .load hl h', r'⟩
  | update hl _ ih => exact fun hf b r => let ⟨z, b', h', r'⟩ := ih hf b r; ⟨z, b', .update hl h', r'⟩
  | loadIfAlive _ ih => exact fun hf b r => let ⟨z, b', h', r'⟩ := ih hf b r; ⟨z, b', .loadIfAlive h', r'⟩
  | point _ ih => exact fun hf b r => let ⟨z, b', h', r'⟩ := ih hf b r; ⟨z, b', .point h', r'⟩
  | alloc _ ih => exact fun hf b r => let ⟨z, b', h', r'⟩ := ih hf b r; ⟨z, b', .alloc h', r'⟩
  | fresh _ ih => exact fun hf b r => let ⟨z, b', h', r'⟩ := ih hf b r; ⟨z, b', .fresh h', r'⟩
  | ask _ ih => exact fun hf b r => let ⟨z, b', h', r'⟩ := ih hf b r; ⟨z, b', .ask h', r'⟩
  | choose hn _ ih => exact fun hf b r => let ⟨z, b', h', r'⟩ := ih hf b r; ⟨z, b', .choose hn h', r'⟩
  | os _ ih => exact fun hf b r => let ⟨z, b', h', r'⟩ := ih hf b r; ⟨z, b', .os h', r'⟩
  | handled _ ih => exact fun hf b r => let ⟨z, b', h', r'⟩ := ih hf b r; ⟨z, b', .handled h', r'⟩
  | @genState g x Γ p k s e s' hg _ ih =>
    intro hf b r
    obtain ⟨z, b', h', r'⟩ := ih hf b r
    by_cases hv : V g
    · obtain ⟨_, h1, h2⟩ := r.v g hv
      rw [hg] at h1
      cases h1
      refine ⟨z, b', .genState (st := st g) h2 ?_, r'⟩
      rw [← veil_seen (st g)]
      exact h'
    · exact ⟨z, b', .genState ((r.e g hv).trans hg) h', r'⟩
  | stack _ ih => exact fun hf b r => let ⟨z, b', h', r'⟩ := ih hf b r; ⟨z, b', .stack h', r'⟩
  | thread _ ih => exact fun hf b r => let ⟨z, b', h', r'⟩ := ih hf b r; ⟨z, b', .thread h', r'⟩
  | @newGen Γ p k s e s' c _ ih =>
    intro hf b r
    obtain ⟨z, b', h', r'⟩ := ih hf (b.push (.fresh c)) (r.push trivial)
    refine ⟨z, b', .newGen ?_, r'⟩
    show Runs _ _ _ (k b.size) _ _ _ _
    rw [r.sz]
    exact h'
  | call _ _ ih1 ih2 =>
    intro hf b r
    obtain ⟨_, b1, h1, r1⟩ := ih1 rfl b r
    obtain ⟨z, b2, h2, r2⟩ := ih2 hf b1 r1
    exact ⟨z, b2, .call h1 h2, r2⟩
  | callSusp _ ih =>
    intro hf b r
    obtain ⟨z, b1, h1, r1⟩ := ih rfl b r
    exact ⟨split_app z rfl, b1, .callSusp h1, r1⟩
  | yield => exact fun hf b r => ⟨rfl, b, .yield, r⟩
  | @resumeFresh Γ p g l k s c e₁ s₁ e s' hg _ hq _ ih1 ih2 =>
    intro hf b r
    have hv := r.awake hg rfl
    obtain ⟨z1, b1, h1, r1⟩ := ih1 rfl (b.setIfInBounds g .running) (r.set hv trivial)
    obtain ⟨z, b2, h2, r2⟩ := ih2 hf (b1.setIfInBounds g e₁.genState) (r1.set hv (pure_end z1))
    exact ⟨z, b2, .resumeFresh (s := { s with gens := b }) ((r.e g hv).trans hg) h1 hq h2, r2⟩
  | @resumeSuspended Γ p g rr l k s k₀ l₀ c₀ p₀ fs cl e₁ s₁ e s' hg h0 hq _ ih1 ih2 =>
    intro hf b r
    by_cases hv : V g
    · exfalso
      obtain ⟨hs, h1, _⟩ := r.v g hv
      rw [hg] at h1
      have h1 := Option.some.inj h1
      cases hx : st g with
      | suspended k l c p f cl =>
        rw [hx] at h1
        have e : k₀ = fun _ => .unsupported "" := by
          injection h1
        exact no_runs (m := "") (by rw [e]) h0
      | fresh c => rw [hx] at hs; cases hs
      | running => rw [hx] at hs; cases hs
      | finished => rw [hx] at hs; cases hs
    · have pf : splitAtGen fs = none := r.p g _ hv hg
      obtain ⟨z1, b1, h1, r1⟩ := ih1 pf (b.setIfInBounds g .running) (r.set hv trivial)
      obtain ⟨z, b2, h2, r2⟩ := ih2 hf (b1.setIfInBounds g e₁.genState) (r1.set hv (pure_end z1))
      exact ⟨z, b2, .resumeSuspended (s := { s with gens := b }) ((r.e g hv).trans hg) h1 hq h2, r2⟩
  | resumeJustStarted hg hn _ ih =>
    intro hf b r
    obtain ⟨z, b', h', r'⟩ := ih hf b r
    exact ⟨z, b', .resumeJustStarted ((r.e _ (r.awake hg rfl)).trans hg) hn h', r'⟩
  | @resumeThrowFresh g Γ p k e s' x l s c hg _ ih =>
    intro hf b r
    have hv := r.awake hg rfl
    obtain ⟨z, b', h', r'⟩ := ih hf (b.setIfInBounds g .finished) (r.set hv trivial)
    exact ⟨z, b', .resumeThrowFresh (s := { s with gens := b }) ((r.e _ hv).trans hg) h', r'⟩
  | resumeRunning hg _ ih =>
    intro hf b r
    obtain ⟨z, b', h', r'⟩ := ih hf b r
    exact ⟨z, b', .resumeRunning ((r.e _ (r.awake hg rfl)).trans hg) h', r'⟩
  | resumeFinished hg _ ih =>
    intro hf b r
    obtain ⟨z, b', h', r'⟩ := ih hf b r
    exact ⟨z, b', .resumeFinished ((r.e _ (r.awake hg rfl)).trans hg) h', r'⟩
  | segRet _ _ ih1 ih2 =>
    intro hf b r
    obtain ⟨_, b1, h1, r1⟩ := ih1 rfl b r
    obtain ⟨z, b2, h2, r2⟩ := ih2 (split_ret hf) b1 r1
    exact ⟨z, b2, .segRet h1 h2, r2⟩
  | segGen => exact fun hf => by cases hf
  | segSuspOut hn _ ih =>
    intro hf b r
    obtain ⟨z, b1, h1, r1⟩ := ih rfl b r
    exact ⟨split_app z hn, b1, .segSuspOut hn h1, r1⟩
  | segSuspGen hn => exact fun hf => by rw [hn] at hf; cases hf
open Sem (wp)
theorem wp_veil {α : Type} {M : Model} {Γ : Ctx} (t : Sem α) : ∀ {Q : α → Pos → Shared → Prop} {E : Value → Pos → Shared → Prop} {p : Pos} {s : Shared} {b : Array GenState}, Rg V st s.gens b → wp M Γ t Q E p s →
    wp M Γ t (fun a p' u => ∃ s' b', u = { s' with gens := b' } ∧ Rg V st s'.gens b' ∧ Q a p' s') (fun e p' u => ∃ s' b', u = { s' with gens := b' } ∧ Rg V st s'.gens b' ∧ E e p' s') p { s with gens := b } := by
  induction t with
  | pure a => intro Q E p s b r h; exact ⟨s, b, rfl, r, h⟩
  | raise e => intro Q E p s b r h; exact ⟨s, b, rfl, r, h⟩
  | unsupported _ => intro Q E p s b r h; exact h
  | finish _ => intro Q E p s b r h; exact h
  | rule _ k ih => intro Q E p s b r h; exact ih () r h
  | «at» p' k ih => intro Q E p s b r h; exact ih () r h
  | load a _ k ih => intro Q E p s b r h; obtain ⟨o, ho, h⟩ := h; exact ⟨o, ho, ih o r h⟩
  | update a _ f k ih => intro Q E p s b r h; exact ⟨h.1, ih () (s := { s with heap := s.heap.update a f }) r h.2⟩
  | loadIfAlive a k ih => intro Q E p s b r h; exact ih _ r h
  | point _ k ih => intro Q E p s b r h; exact ih () r h
  | register _ _ => intro Q E p s b r h; exact h
  | alloc o k ih => intro Q E p s b r h; exact ih _ (s := { s with heap := s.heap.push o }) r h
  | fresh k ih => intro Q E p s b r h; exact ih _ (s := { s with toks := s.toks + 1 }) r h
  | ask k ih => intro Q E p s b r h; exact ih _ r h
  | choose src m k ih => intro Q E p s b r h; exact ⟨h.1, ih _ (s := { s with drawn := s.drawn.bump src }) r h.2⟩
  | os q _ k ih => intro Q E p s b r h; exact ih _ (s := { s with os := (Os.step s.os q).1 }) r h
  | call c hd _ _ k ih =>
    intro Q E p s b r h
    obtain ⟨res, s1, hr, h⟩ := h
    obtain ⟨_, b1, h1, r1⟩ := runs_veil hr rfl b r
    exact ⟨res, { s1 with gens := b1 }, h1, ih res r1 h⟩
  | handled own k ih => intro Q E p s b r h; exact ih _ r h
  | genState g k ih =>
    intro Q E p s b r h
    obtain ⟨x, hs, h⟩ := h
    by_cases hv : V g
    · obtain ⟨_, h1, h2⟩ := r.v g hv
      rw [hs] at h1
      cases h1
      refine ⟨st g, h2, ?_⟩
      rw [← veil_seen (st g)]
      exact ih _ r h
    · exact ⟨x, (r.e g hv).trans hs, ih _ r h⟩
  | newGen c k ih =>
    intro Q E p s b r h
    have := ih s.gens.size (s := { s with gens := s.gens.push (.fresh c) }) (b := b.push (.fresh c)) (r.push trivial) h
    show wp M Γ (k b.size) _ _ _ _
    rw [r.sz]
    exact this
  | resume g rr _ k ih =>
    intro Q E p s b r h
    obtain ⟨res, s1, hw, h⟩ := h
    suffices hh : ∃ b1, Wakes M Γ p g rr { s with gens := b } res { s1 with gens := b1 } ∧ Rg V st s1.gens b1 by
      obtain ⟨b1, h1, r1⟩ := hh
      exact ⟨res, _, h1, ih res r1 h⟩
    unfold Wakes at hw ⊢
    cases hg : s.gens[g]? with
    | none => rw [hg] at hw; exact hw.elim
    | some x =>
      rw [hg] at hw
      by_cases hv : V g
      · exfalso
        obtain ⟨hs, h1, _⟩ := r.v g hv
        rw [hg] at h1
        have h1 := Option.some.inj h1
        subst h1
        cases hx : st g with
        | suspended k0 l c p0 f cl =>
          rw [hx] at hw
          obtain ⟨e1, s2, hr, _⟩ := hw
          exact no_runs (m := "") rfl hr
        | fresh c => rw [hx] at hs; cases hs
        | running => rw [hx] at hs; cases hs
        | finished => rw [hx] at hs; cases hs
      · have hb : b[g]? = some x := (r.e g hv).trans hg
        show ∃ b1, (match b[g]? with | none => False | some (.fresh c) => _ | some (.suspended k₀ _ c₀ p₀ fs _) => _ | some .running => _ | some .finished => _) ∧ _
        rw [hb]
        cases x with
        | fresh c =>
          cases rr with
          | send v =>
            cases v with
            | none =>
              obtain ⟨e1, s2, hr, hq, rfl, rfl⟩ := hw
              obtain ⟨z, b1, h1, r1⟩ := runs_veil hr rfl (b.setIfInBounds g .running) (r.set hv trivial)
              exact ⟨b1.setIfInBounds g e1.genState, ⟨e1, _, h1, hq, rfl, rfl⟩, r1.set hv (pure_end z)⟩
            | _ => obtain ⟨rfl, rfl⟩ := hw; exact ⟨b, ⟨rfl, rfl⟩, r⟩
          | throw v => obtain ⟨rfl, rfl⟩ := hw; exact ⟨b.setIfInBounds g .finished, ⟨rfl, rfl⟩, r.set hv trivial⟩
        | suspended k0 l0 c0 p0 fs0 cl =>
          obtain ⟨e1, s2, hr, hq, rfl, rfl⟩ := hw
          obtain ⟨z, b1, h1, r1⟩ := runs_veil hr (r.p g _ hv hg) (b.setIfInBounds g .running) (r.set hv trivial)
          exact ⟨b1.setIfInBounds g e1.genState, ⟨e1, _, h1, hq, rfl, rfl⟩, r1.set hv (pure_end z)⟩
        | running => obtain ⟨rfl, rfl⟩ := hw; exact ⟨b, ⟨rfl, rfl⟩, r⟩
        | finished => obtain ⟨rfl, rfl⟩ := hw; exact ⟨b, ⟨rfl, rfl⟩, r⟩
  | yield _ _ _ _ => intro Q E p s b r h; exact h
  | stack k ih => intro Q E p s b r h; exact ih _ r h
  | fork _ _ => intro Q E p s b r h; exact h
  | thread k ih => intro Q E p s b r h; exact ih _ r h
  | await _ _ _ _ _ => intro Q E p s b r h; exact h
end Ve
set_option Elab.async false
set_option linter.all false
set_option maxRecDepth 100000
set_option maxHeartbeats 2000000
namespace Lv
open PySem PySem.Spec PyProof.Rows L2 GenW
def cut (L : Addr) (h : Heap) : Heap := { h with objs := h.objs.extract 0 L }
theorem cut_size (L : Addr) (h : Heap) : (cut L h).objs.size = min L h.objs.size := by
  show (h.objs.extract 0 L).size = _
  simp
theorem cut_get {L b : Addr} {h : Heap} (hb : b < L) : (cut L h).get? b = h.get? b := by
  have e : (h.objs.extract 0 L)[b]? = h.objs[b]? := by
    by_cases hs : b < h.objs.size
    · rw [Array.getElem?_eq_getElem hs, Array.getElem?_eq_getElem (by simp only [Array.size_extract]; exact Nat.lt_min.mpr ⟨hb, hs⟩ |> fun z => by simpa using z)]
      simp
    · have hs : h.objs.size ≤ b := Nat.le_of_not_lt hs
      rw [Array.getElem?_eq_none hs, Array.getElem?_eq_none (by simp only [Array.size_extract]; exact Nat.le_trans (by simp) (Nat.le_trans (Nat.min_le_right L h.objs.size) hs))]
  unfold Heap.get? cut
  simp only [e]
theorem of_cut {L b : Addr} {h : Heap} {o : Obj} (e : (cut L h).get? b = some o) : b < L ∧ h.get? b = some o := by
  have hb : b < L := by
    have := Heap.lt_size e
    rw [cut_size] at this
    exact Nat.lt_of_lt_of_le this (Nat.min_le_left _ _)
  exact ⟨hb, (cut_get hb).symm.trans e⟩
structure G where
  P : Program
  w : World
  K : PySem.W.Frag
  mg : Str → Option Value
  base : Heap
  N : List Str
  qual : Str
  scope : Scope
  f : Addr
  cd : Value
  A : Around
  outer : List Env
  L : Addr
abbrev G.env (g : G) : Env := envOfC g.qual g.scope g.L g.f g.cd
/-- the frame's context between two yields: s0, H0 as they stood when it was woken; Y: young things that stay -/
abbrev lX (g : G) (Y : List Addr) (s0 : Shared) (H0 : Hp) : Cx where
  prog := g.P
  w := g.w
  K := g.K
  mg := g.mg
  base := g.base
  A := g.A.deeper g.env
  N := g.N
  s_0 := { s0 with heap := cut g.L s0.heap }
  H_0 := H0
  env := g.env
  outer := g.outer
  stack := g.env :: g.outer
  ex := []
  fn := fun _ => true
  calm := true
  pn := pinsAt Y s0.heap
  xe := fun _ _ => False
/-- what never changes -/
structure G.Ok (g : G) : Prop where
  mod : Mod g.K g.mg g.base
  kind : g.scope.kind = .function
  nocell : g.env.cells = []
  noname : ∀ x, g.env.kindOf x ≠ some .cell ∧ g.env.kindOf x ≠ some .free
  hd : g.A.handled = none
  frames : g.A.frames = some g.outer
  bsz : g.base.objs.size ≤ g.L
  fl : ∀ b ∈ frs g.outer, b < g.L
/-- the world around, whenever it is woken -/
structure Wo (g : G) (Y : List Addr) (s : Shared) (H : Hp) : Prop where
  bare : AllBare s.gens
  hok : HOk g.P g.w H s.heap
  bs : ∀ b o, g.base.get? b = some o → s.heap.get? b = some o ∧ H b = none
  funs : s.heap.FunFrames g.base g.outer
  frf : ∀ b ∈ frs g.outer, H b = none
  y : ∀ b ∈ Y, H b = none ∧ b ≠ g.L ∧ b ∉ frs g.outer ∧ ∀ o, s.heap.get? b = some o → ∀ v, o.data ≠ .cell v
theorem ff_cut {L : Addr} {h base : Heap} : ∀ {l : List Env}, h.FunFrames base l → (∀ b ∈ frs l, b < L) → (cut L h).FunFrames base l
  | [], _, _ => trivial
  | v :: l, f, n => by
    obtain ⟨f1, ⟨x, o, f2, f3, f4, f5⟩, f6⟩ := f
    have hx : x ∈ frs (v :: l) := List.mem_filterMap.mpr ⟨v, List.mem_cons_self, f2⟩
    refine ⟨f1, ⟨x, o, f2, f3, (cut_get (n x hx)).trans f4, f5⟩, ff_cut f6 fun b hb => n b ?_⟩
    obtain ⟨u, hu, hv⟩ := List.mem_filterMap.mp hb
    exact List.mem_filterMap.mpr ⟨u, List.mem_cons_of_mem _ hu, hv⟩
/-- the frame's own names in its dict o -/
structure Core (g : G) (o : Obj) (σ : L2.St) : Prop where
  ns : ∃ es ep, ∃ m : Str → Option Value, o.data = .dict es ep ∧ StrKeys es ∧ (∀ name, nsFind es name = m name) ∧ ∀ (i : Nat) (x : Str) (v : V), g.N[i]? = some x → σ[i]? = some (some v) → Vis g.scope x → ∃ u, RelV v u ∧ g.env.kindOf x = some .local ∧ m x = some u
  len : σ.length = g.N.length
theorem core_of {g : G} {X : Cx} {ps : List (Addr × Obj)} {σ : L2.St} {H : Hp} {s : Shared} (ok : g.Ok) (he : X.env = g.env) (hN : X.N = g.N) (I : Inv X ps σ H s) : ∃ o, s.heap.get? g.L = some o ∧ Core g o σ := by
  obtain ⟨m, ⟨o, es, ep, h1, h2, h3, h4⟩, hl⟩ := I.loc
  rw [he] at h1
  refine ⟨o, h1, ⟨es, ep, m, h2, h3, h4, fun i x v e1 e2 e3 => ?_⟩, by rw [I.len, hN]⟩
  obtain ⟨u, r, q⟩ := hl i x v (by rw [hN]; exact e1) e2 (by rw [he]; exact e3)
  rw [he] at q
  rcases q with ⟨q1, q2⟩ | ⟨q1, _⟩
  · exact ⟨u, r, q1, q2⟩
  · exact absurd q1 (fun z => z.elim (ok.noname x).1 (ok.noname x).2)
/-- woken: the frame's state in the world as it is -/
theorem Core.inv {g : G} {Y : List Addr} {o : Obj} {σ : L2.St} {H : Hp} {s : Shared} {ip : List (Addr × Obj)} (c : Core g o σ) (ok : g.Ok) (W : Wo g Y s H) (ho : s.heap.get? g.L = some o) (hn : H g.L = none)
    (hip : ∀ p ∈ ip, s.heap.get? p.1 = some p.2 ∧ H p.1 = none ∧ p.1 ≠ g.L ∧ p.1 ∉ frs g.outer ∧ ∀ v, p.2.data ≠ .cell v) : Inv (lX g Y s H) ip σ H s := by
  obtain ⟨es, ep, m, d1, d2, d3, d4⟩ := c.ns
  have lt : g.L < s.heap.objs.size := Heap.lt_size ho
  have nc : ∀ x c, g.env.cells.lookup x = some c → False := fun x c e => by rw [ok.nocell] at e; cases e
  have okx : (lX g Y s H).Ok := by
    refine ⟨ok.mod, ok.kind, rfl, rfl, ?_, fun x y c e => (nc x c e).elim, fun x h => ?_, fun x c _ e => (nc x c e).elim, fun _ => ok.hd, Around.frames_deeper ok.frames, .inr ⟨rfl, rfl⟩, fun b hb => (nomatch hb), fun b u e => ?_, ?_, fun _ _ _ h => (nomatch h), fun b hb => (nomatch hb), ff_cut W.funs ok.fl, W.frf⟩
    · show (cut g.L s.heap).objs.size ≤ g.L
      rw [cut_size]; exact Nat.min_le_left _ _
    · exact absurd h (fun z => z.elim (ok.noname x).1 (ok.noname x).2)
    · obtain ⟨z1, z2⟩ := W.bs b u e
      exact ⟨(cut_get (Nat.lt_of_lt_of_le (Heap.lt_size e) ok.bsz)).trans z1, z2⟩
    · show g.base.objs.size ≤ (cut g.L s.heap).objs.size
      rw [cut_size]
      exact Nat.le_min.mpr ⟨ok.bsz, Nat.le_trans ok.bsz (Nat.le_of_lt lt)⟩
  refine ⟨okx, rfl, W.bare, Un.kept fun b u e => (of_cut e).2, ⟨m, ⟨o, es, ep, ho, d1, d2, d3⟩, fun i x v e1 e2 e3 => ?_⟩, fun x c e => (nc x c e).elim, hn, fun x c e => (nc x c e).elim, fun p hp => ?_, W.hok, c.len⟩
  · obtain ⟨u, r, q1, q2⟩ := d4 i x v e1 e2 e3
    exact ⟨u, r, .inl ⟨q1, q2⟩⟩
  · rcases List.mem_append.mp hp with z | z
    · obtain ⟨hb, e⟩ := of_pinsAt z
      obtain ⟨y1, y2, y3, y4⟩ := W.y p.1 hb
      exact ⟨e, y1, y2, y3, y4 _ e⟩
    · exact hip p z
end Lv
set_option Elab.async false
set_option linter.all false
set_option maxRecDepth 100000
set_option maxHeartbeats 2000000
namespace Lv
open PySem PySem.Spec PyProof.Rows L2 GenW
theorem veil_bare (x : GenState) : (Ve.veil x).bare = x.bare := by cases x <;> rfl
theorem veil_self {x : GenState} (h : Ve.sleeps x = false) : Ve.veil x = x := by cases x <;> first | rfl | cases h
theorem pure_awake {x : GenState} (h : Ve.sleeps x = false) : Ve.pureG x := by cases x <;> first | trivial | cases h
abbrev veiled (t : Shared) : Shared := { t with gens := t.gens.map Ve.veil }
/-- it sleeps on as it was -/
def Sleep (t u : Shared) : Prop := ∀ (i : Nat) (x : GenState), t.gens[i]? = some x → Ve.sleeps x = true → u.gens[i]? = some x
theorem Sleep.refl (t : Shared) : Sleep t t := fun _ _ h _ => h
theorem Sleep.trans {t u v : Shared} (a : Sleep t u) (b : Sleep u v) : Sleep t v := fun i x h z => b i x (a i x h z) z
theorem veiled_bare {t : Shared} (h : AllBare t.gens) : AllBare (veiled t).gens := fun x hx => by
  obtain ⟨y, hy, rfl⟩ := Array.mem_map.mp hx
  rw [veil_bare]
  exact h y hy
theorem under {α : Type} {M : Model} {A : Around} {m : Sem α} {Q : α → Shared → Prop} {E : Value → Shared → Prop} {t : Shared} (h : wpAny M A m Q E (veiled t)) :
    wpAny M A m (fun a u => Sleep t u ∧ ∃ G, Q a { u with gens := G } ∧ (AllBare G → AllBare u.gens)) (fun e u => Sleep t u ∧ ∃ G, E e { u with gens := G } ∧ (AllBare G → AllBare u.gens)) t := by
  let V : Nat → Prop := fun i => ∃ x, t.gens[i]? = some x ∧ Ve.sleeps x = true
  let st : Nat → GenState := fun i => t.gens[i]?.getD .finished
  have r : Ve.Rg V st (veiled t).gens t.gens := by
    refine ⟨by simp, fun i ⟨x, hx, hs⟩ => ?_, fun i hn => ?_, fun i x hn hx => ?_⟩
    · have e : st i = x := by show t.gens[i]?.getD .finished = x; rw [hx]; rfl
      rw [e]
      exact ⟨hs, by show (t.gens.map Ve.veil)[i]? = _; rw [Array.getElem?_map, hx]; rfl, hx⟩
    · show t.gens[i]? = (t.gens.map Ve.veil)[i]?
      rw [Array.getElem?_map]
      cases e : t.gens[i]? with
      | none => rfl
      | some x =>
        have : Ve.sleeps x = false := by
          cases hs : Ve.sleeps x with
          | false => rfl
          | true => exact absurd ⟨x, e, hs⟩ hn
        show some x = some (Ve.veil x)
        rw [veil_self this]
    · have hx : (t.gens.map Ve.veil)[i]? = some x := hx
      rw [Array.getElem?_map] at hx
      cases e : t.gens[i]? with
      | none => rw [e] at hx; cases hx
      | some y =>
        rw [e] at hx
        cases hx
        have : Ve.sleeps y = false := by
          cases hs : Ve.sleeps y with
          | false => rfl
          | true => exact absurd ⟨y, e, hs⟩ hn
        rw [veil_self this]
        exact pure_awake this
  have fin : ∀ (s' : Shared) (b' : Array GenState), Ve.Rg V st s'.gens b' → Sleep t { s' with gens := b' } ∧ (AllBare s'.gens → AllBare b') := fun s' b' r' => by
    refine ⟨fun i x hx hs => ?_, fun hb x hx => ?_⟩
    · obtain ⟨_, _, h3⟩ := r'.v i ⟨x, hx, hs⟩
      have e : st i = x := by show t.gens[i]?.getD .finished = x; rw [hx]; rfl
      rw [e] at h3
      exact h3
    · obtain ⟨i, hi, rfl⟩ := Array.mem_iff_getElem.mp hx
      have hg : b'[i]? = some b'[i] := Array.getElem?_eq_getElem hi
      by_cases hv : V i
      · obtain ⟨_, h2, h3⟩ := r'.v i hv
        rw [hg] at h3
        have := hb _ (Array.mem_of_getElem? h2)
        rw [veil_bare] at this
        rw [Option.some.inj h3]
        exact this
      · rw [r'.e i hv] at hg
        exact hb _ (Array.mem_of_getElem? hg)
  intro Γ p hΓ
  refine Sem.wp_mono M Γ m ?_ ?_ _ _ (Ve.wp_veil (s := veiled t) (b := t.gens) m r (h Γ p hΓ))
  all_goals
    rintro a p' u ⟨s', b', rfl, r', q⟩
    exact ⟨(fin s' b' r').1, s'.gens, q, (fin s' b' r').2⟩
/-- the tables matter by their cleanups alone -/
theorem inv_gens {X : Cx} {ps : List (Addr × Obj)} {σ : L2.St} {H : Hp} {u : Shared} {G : Array GenState} (I : Inv X ps σ H { u with gens := G }) (h : AllBare u.gens) : Inv X ps σ H u :=
  ⟨I.ok, I.os, h, I.base, I.loc, I.cell, I.free, I.freeC, I.pin, I.hok, I.len⟩
theorem inv_gens' {X : Cx} {ps : List (Addr × Obj)} {σ : L2.St} {H : Hp} {u : Shared} {G : Array GenState} (I : Inv X ps σ H u) (h : AllBare G) : Inv X ps σ H { u with gens := G } :=
  ⟨I.ok, I.os, h, I.base, I.loc, I.cell, I.free, I.freeC, I.pin, I.hok, I.len⟩
/-- young things that a turn may change: all but Y -/
def young (L n : Nat) (Y : List Addr) : List Addr := (List.range n).filter fun b => decide (L ≤ b) && decide (b ∉ Y)
theorem mem_young {L n b : Nat} {Y : List Addr} : b ∈ young L n Y ↔ b < n ∧ L ≤ b ∧ b ∉ Y := by
  unfold young
  rw [List.mem_filter, List.mem_range, Bool.and_eq_true, decide_eq_true_eq, decide_eq_true_eq]
/-- what a turn keeps: old things as a call does, Y as they are -/
structure Turned (g : G) (Y : List Addr) (s0 : Shared) (H0 : Hp) (s : Shared) (H : Hp) : Prop where
  os : s.os = s0.os
  bare : AllBare s.gens
  hok : HOk g.P g.w H s.heap
  un : Un (frs g.outer) [] H0 H (cut g.L s0.heap) s.heap
  y : ∀ b ∈ Y, ∀ o, s0.heap.get? b = some o → s.heap.get? b = some o ∧ H b = none
theorem Turned.whole {g : G} {Y : List Addr} {s0 s : Shared} {H0 H : Hp} (t : Turned g Y s0 H0 s H) (fl : ∀ b ∈ frs g.outer, b < g.L) : Un (frs g.outer) (young g.L s0.heap.objs.size Y) H0 H s0.heap s.heap := by
  have case : ∀ b o, s0.heap.get? b = some o → b ∉ young g.L s0.heap.objs.size Y → ((cut g.L s0.heap).get? b = some o) ∨ (b ∈ Y ∧ g.L ≤ b) := fun b o e hx => by
    by_cases hb : b < g.L
    · exact .inl ((cut_get hb).trans e)
    · by_cases hy : b ∈ Y
      · exact .inr ⟨hy, Nat.le_of_not_lt hb⟩
      · exact absurd (mem_young.mpr ⟨Heap.lt_size e, Nat.le_of_not_lt hb, hy⟩) hx
  refine ⟨fun b o e n hb hx => ?_, fun b o e n hb hx => ?_, fun b o e n hx => ?_, fun b o e hx => ?_, t.un.tups, t.un.frzs, t.un.tbls⟩
  · rcases case b o e hx with z | ⟨z, _⟩
    · exact t.un.keep b o z n hb (fun h => (nomatch h))
    · exact (t.y b z o e).1
  · rcases case b o e hx with z | ⟨z, l⟩
    · exact t.un.slot b o z n hb (fun h => (nomatch h))
    · exact absurd (fl b hb) (Nat.not_lt_of_le l)
  · rcases case b o e hx with z | ⟨z, _⟩
    · exact t.un.free b o z n (fun h => (nomatch h))
    · exact (t.y b z o e).2
  · rcases case b o e hx with z | ⟨z, _⟩
    · exact t.un.there b o z (fun h => (nomatch h))
    · exact ⟨o, (t.y b z o e).1⟩
/-- the consumer's own things are older than the frame, or among Y -/
structure Safe (g : G) (Y : List Addr) (X : Cx) (pins : List (Addr × Obj)) : Prop where
  prog : X.prog = g.P
  w : X.w = g.w
  stack : X.stack = g.outer
  yo : ∀ b, g.L ≤ b → b ∉ Y → b ∈ X.ex ∨ X.s_0.heap.objs.size ≤ b
  loc : X.env.locals < g.L ∨ X.env.locals ∈ Y
  cell : ∀ x c, X.env.cells.lookup x = some c → c < g.L ∨ c ∈ Y
  pin : ∀ p ∈ X.pn ++ pins, p.1 < g.L ∨ p.1 ∈ Y
theorem Safe.inv {g : G} {Y : List Addr} {X : Cx} {pins : List (Addr × Obj)} {σ : L2.St} {s0 s : Shared} {H0 H : Hp} (S : Safe g Y X pins) (fl : ∀ b ∈ frs g.outer, b < g.L) (I : Inv X pins σ H0 s0) (t : Turned g Y s0 H0 s H) : Inv X pins σ H s := by
  have out : ∀ b c, b ∈ young g.L s0.heap.objs.size Y → (c < g.L ∨ c ∈ Y) → c ≠ b := fun b c hb hc e => by
    obtain ⟨_, l, n⟩ := mem_young.mp hb
    rcases hc with hc | hc
    · rw [e] at hc; exact absurd hc (Nat.not_lt_of_le l)
    · exact n (e ▸ hc)
  refine I.call' (ch := young g.L s0.heap.objs.size Y) t.os (by rw [S.stack]; exact t.whole fl) (by rw [S.prog, S.w]; exact t.hok) t.bare fun b hb => ?_
  obtain ⟨_, l, ny⟩ := mem_young.mp hb
  exact ⟨S.yo b l ny, (out b _ hb S.loc).symm, fun x c e => out b c hb (S.cell x c e), fun p hp => out b _ hb (S.pin p hp)⟩
end Lv
set_option Elab.async false
set_option linter.all false
set_option maxRecDepth 100000
set_option maxHeartbeats 2000000
namespace Lv
open PySem PySem.Spec PyProof.Rows L2 GenW
/-- what the consumer does with an item: where it stands, the heap, what is wanted when the next one is asked for -/
abbrev CB (C : Type) := V → C → Hp → (C → Hp → Prop) → Prop
/-- the consumer's invariant beside the generator -/
structure CO (g : G) (Y : List Addr) {C : Type} (CI : C → Shared → Hp → Prop) : Prop where
  step : ∀ c s0 H0 s H, CI c s0 H0 → Turned g Y s0 H0 s H → CI c s H
  wo : ∀ c s H, CI c s H → Wo g Y s H
  y : ∀ c s H, CI c s H → ∀ b ∈ Y, b ≠ g.L ∧ ∃ o, s.heap.get? b = some o
  gens : ∀ c s H G, CI c s H → AllBare G → CI c { s with gens := G } H
/-- running: woken at s0, H0 -/
def LI (g : G) (Y : List Addr) {C : Type} (CI : C → Shared → Hp → Prop) (ip : List (Addr × Obj)) (σ : L2.St) (σc : C) (H : Hp) (s : Shared) : Prop := ∃ s0 H0, g.L < s0.heap.objs.size ∧ CI σc s0 H0 ∧ Inv (lX g Y s0 H0) ip σ H s
theorem LI.turned {g : G} {Y : List Addr} {ip : List (Addr × Obj)} {σ : L2.St} {s0 s : Shared} {H0 H : Hp} (I : Inv (lX g Y s0 H0) ip σ H s) : Turned g Y s0 H0 s H :=
  ⟨I.os, I.bare, I.hok, I.base, fun b hb o e => by
    have z := I.pin (b, o) (List.mem_append_left _ (mem_pinsAt hb e))
    exact ⟨z.1, z.2.1⟩⟩
/-- the frame's dict and its iterators, asleep -/
def Asleep (g : G) (Y : List Addr) (q : List (Addr × Obj)) (H : Hp) (s : Shared) : Prop :=
  ∀ p ∈ q, s.heap.get? p.1 = some p.2 ∧ H p.1 = none
/-- they are young, none of Y -/
def Young (g : G) (Y : List Addr) (q : List (Addr × Obj)) : Prop := ∀ p ∈ q, g.L ≤ p.1 ∧ p.1 ∉ Y ∧ p.1 ∉ frs g.outer ∧ ∀ v, p.2.data ≠ .cell v
/-- an item is handed out -/
def LY (g : G) (Y : List Addr) {C : Type} (CI : C → Shared → Hp → Prop) (cb : CB C) : Protocol := fun n s₀ v s kap =>
  ∃ k x q σc H K, n + 1 + k = sizeLine ∧ RelV x v ∧ CI σc s H ∧ Young g Y q ∧ Asleep g Y q H s ∧ cb x σc H K ∧
    ∀ σ' H' s', K σ' H' → CI σ' s' H' → Asleep g Y q H' s' → kap (.send .none) s'
/-- the end -/
def LR (g : G) {C : Type} (CI : C → Shared → Hp → Prop) (fin : C → Hp → Prop) : GenEnd := fun n s₀ r s => r = .ok (.ret .none) ∧ ∃ σc H, CI σc s H ∧ fin σc H
/-- what is wanted behind a statement: items so far, the generator's slots, the consumer's -/
structure LEnds (C : Type) where
  nx : Nat → L2.St → C → Hp → Prop
  rt : Nat → V → C → Hp → Prop
  bk : Nat → L2.St → C → Hp → Prop := fun _ _ _ _ => False
  ct : Nat → L2.St → C → Hp → Prop := fun _ _ _ _ => False
def LEnds.at {C : Type} (D : LEnds C) (k : Nat) (σc : C) : Ends := { nx := fun σ H => D.nx k σ σc H, rt := fun v H => D.rt k v σc H, bk := fun σ H => D.bk k σ σc H, ct := fun σ H => D.ct k σ σc H }
abbrev TL (C : Type) := CB C → LEnds C → Nat → L2.St → C → Hp → Prop
def LSP (g : G) (Y : List Addr) {C : Type} (CI : C → Shared → Hp → Prop) (ip : List (Addr × Obj)) (D : LEnds C) (k : Nat) (f : Flow) (s : Shared) : Prop := match f with
  | .next => ∃ σ σc H, LI g Y CI ip σ σc H s ∧ D.nx k σ σc H
  | .brk => ∃ σ σc H, LI g Y CI ip σ σc H s ∧ D.bk k σ σc H
  | .cont => ∃ σ σc H, LI g Y CI ip σ σc H s ∧ D.ct k σ σc H
  | .ret u => ∃ v σ σc H, LI g Y CI ip σ σc H s ∧ RelV v u ∧ D.rt k v σc H
/-- where the code stands -/
structure LC (g : G) (Y : List Addr) {C : Type} (CI : C → Shared → Hp → Prop) (ip : List (Addr × Obj)) (A : Around) (c : Code) (fs : List Frame) (gd : Bool → Bool) : Prop where
  ok : g.Ok
  co : CO g Y CI
  ip : ∀ p ∈ ip, g.L ≤ p.1 ∧ p.1 ∉ Y ∧ p.1 ≠ g.L ∧ p.1 ∉ frs g.outer ∧ ∀ v, p.2.data ≠ .cell v
  over : A.over c fs = g.A.deeper g.env
  split : splitAtGen fs = none
  guard : fs.any Frame.guarded = false
  gd : gd false = false
def LK (g : G) (Y : List Addr) {C : Type} (CI : C → Shared → Hp → Prop) (ip : List (Addr × Obj)) (cb : CB C) (A : Around) (R : GenEnd) (c : Code) (fs : List Frame) (K : Flow → Sem PySem.Fin) (D : LEnds C) : Prop :=
  ∀ (n k : Nat) (s₀ s : Shared) (f : Flow), n + k = sizeLine → LSP g Y CI ip D k f s → Seg (model g.P g.w) A R (LY g Y CI cb) n s₀ c (K f) fs s
structure LS (g : G) (Y : List Addr) {C : Type} (CI : C → Shared → Hp → Prop) (st : Stmt) (t : TL C) : Prop where
  run : ∀ (cb : CB C) (A : Around) (ip : List (Addr × Obj)) (R : GenEnd) (n k : Nat) (s₀ : Shared) (c : Code) (fs : List Frame) (K : Flow → Sem PySem.Fin) (J : Value → Sem PySem.Fin) (gd : Bool → Bool) (lv : List Value → List Value) (s : Shared) (σ : L2.St) (σc : C) (H : Hp) (D : LEnds C),
    LC g Y CI ip A c fs gd → n + k = sizeLine → LK g Y CI ip cb A R c fs K D → LI g Y CI ip σ σc H s → t cb D k σ σc H → Seg (model g.P g.w) A R (LY g Y CI cb) n s₀ c ((exec st g.env).wrap K J gd lv) fs s
structure LSs (g : G) (Y : List Addr) {C : Type} (CI : C → Shared → Hp → Prop) (st : List Stmt) (t : TL C) : Prop where
  run : ∀ (cb : CB C) (A : Around) (ip : List (Addr × Obj)) (R : GenEnd) (n k : Nat) (s₀ : Shared) (c : Code) (fs : List Frame) (K : Flow → Sem PySem.Fin) (J : Value → Sem PySem.Fin) (gd : Bool → Bool) (lv : List Value → List Value) (s : Shared) (σ : L2.St) (σc : C) (H : Hp) (D : LEnds C),
    LC g Y CI ip A c fs gd → n + k = sizeLine → LK g Y CI ip cb A R c fs K D → LI g Y CI ip σ σc H s → t cb D k σ σc H → Seg (model g.P g.w) A R (LY g Y CI cb) n s₀ c ((execs st g.env).wrap K J gd lv) fs s
section
variable {g : G} {Y : List Addr} {C : Type} {CI : C → Shared → Hp → Prop} {st : Stmt} {rest : List Stmt}
def tLPlain (t : TS) : TL C := fun _ D k σ σc H => t (D.at k σc) σ H
theorem sp_lsp {ip : List (Addr × Obj)} {σc : C} {s0 s : Shared} {H0 : Hp} {D : LEnds C} {k : Nat} {f : Flow} (hL : g.L < s0.heap.objs.size) (I0 : CI σc s0 H0) (h : SP (lX g Y s0 H0) ip (D.at k σc) f s) : LSP g Y CI ip D k f s := by
  cases f with
  | next => obtain ⟨σ, H, I, q⟩ := h; exact ⟨σ, σc, H, ⟨s0, H0, hL, I0, I⟩, q⟩
  | brk => obtain ⟨σ, H, I, q⟩ := h; exact ⟨σ, σc, H, ⟨s0, H0, hL, I0, I⟩, q⟩
  | cont => obtain ⟨σ, H, I, q⟩ := h; exact ⟨σ, σc, H, ⟨s0, H0, hL, I0, I⟩, q⟩
  | ret u => obtain ⟨v, σ, H, I, r, q⟩ := h; exact ⟨v, σ, σc, H, ⟨s0, H0, hL, I0, I⟩, r, q⟩
theorem ls_ps {t : TS} (h : ∀ s0 H0, PS (lX g Y s0 H0) st t) : LS g Y CI st (tLPlain t) := by
  refine ⟨fun cb A ip R n k s₀ c fs K J gd lv s σ σc H D lc hn kk hI ht => ?_⟩
  obtain ⟨s0, H0, hL, I0, I⟩ := hI
  refine seg_wrap ?_
  rw [lc.over]
  exact wpAny_mono ((h s0 H0).run _ s σ H (D.at k σc) I ht) (fun f s' hs => kk n k s₀ s' f hn (sp_lsp hL I0 hs)) fun x s' hx => hx.elim
def tLNil : TL C := fun _ D k σ σc H => D.nx k σ σc H
theorem lss_nil : LSs g Y CI [] tLNil := by
  refine ⟨fun cb A ip R n k s₀ c fs K J gd lv s σ σc H D lc hn kk hI ht => ?_⟩
  exact seg_execs_nil (kk n k s₀ s .next hn ⟨σ, σc, H, hI, ht⟩)
def tLThen (t u : TL C) : TL C := fun cb D k σ σc H => t cb { D with nx := fun k' σ' σc' H' => u cb D k' σ' σc' H' } k σ σc H
theorem lss_cons {t u : TL C} (a : LS g Y CI st t) (b : LSs g Y CI rest u) : LSs g Y CI (st :: rest) (tLThen t u) := by
  refine ⟨fun cb A ip R n k s₀ c fs K J gd lv s σ σc H D lc hn kk hI ht => ?_⟩
  refine seg_execs_cons (a.run cb A ip R n k s₀ c fs _ J gd lv s σ σc H { D with nx := fun k' σ' σc' H' => u cb D k' σ' σc' H' } lc hn (fun n' k' s₀' s' f hn' hs => ?_) hI ht)
  cases f with
  | next =>
    obtain ⟨σ', σc', H', I', q⟩ := hs
    exact b.run cb A ip R n' k' s₀' c fs K J gd lv s' σ' σc' H' D lc hn' kk I' q
  | brk => exact kk n' k' s₀' s' .brk hn' hs
  | cont => exact kk n' k' s₀' s' .cont hn' hs
  | ret u => exact kk n' k' s₀' s' (.ret u) hn' hs
def tLYield (te : TE) : TL C := fun cb D k σ σc H => k < sizeLine ∧ te σ H fun x H1 => cb x σc H1 fun σc' H' => D.nx (k + 1) σ σc' H'
theorem ls_yield {e : Expr} {yp pos : Pos} {te : TE} (he : ∀ s0 H0, PE (lX g Y s0 H0) e te) (hco : g.env.scope.isCoroutine = false) (hi : interactive g.env = false) : LS g Y CI (.Expr (.Yield (some e) yp) pos) (tLYield te) := by
  refine ⟨fun cb A ip R n k s₀ c fs K J gd lv s σ σc H D lc hn kk hI ht => ?_⟩
  obtain ⟨hlt, ht⟩ := ht
  obtain ⟨n, rfl⟩ : ∃ m, n = m + 1 := ⟨n - 1, by omega⟩
  obtain ⟨s0, H0, hL, I0, I⟩ := hI
  refine seg_Expr_Yield lc.split lc.gd lc.guard ?_ hco hi
  rw [lc.over]
  refine wpAny_mono ((he s0 H0).run _ s σ H _ I ht) (fun v s' hv => ?_) fun x s' hx => hx.elim
  obtain ⟨x, H1, I1, rv, q⟩ := hv
  have Ic : CI σc s' H1 := lc.co.step _ _ _ _ _ I0 (LI.turned I1)
  obtain ⟨o, ho, core⟩ := core_of lc.ok rfl rfl I1
  have nd : ∀ v, o.data ≠ .cell v := fun v z => by
    obtain ⟨es, ep, m, d, _⟩ := core.ns
    rw [d] at z; cases z
  have nL : H1 g.L = none := I1.free
  intro kap hk
  refine ⟨k, x, (g.L, o) :: ip, σc, H1, _, hn, rv, Ic, fun p hp => ?_, fun p hp => ?_, q, fun σ' H' s'' z I' a' => hk .none s'' ?_⟩
  · rcases List.mem_cons.mp hp with rfl | hp
    · refine ⟨Nat.le_refl _, fun hy => ?_, fun hf => absurd (lc.ok.fl _ hf) (Nat.lt_irrefl _), nd⟩
      exact (lc.co.y σc s' H1 Ic _ hy).1 rfl
    · obtain ⟨z1, z2, z3, z4, z5⟩ := lc.ip p hp
      exact ⟨z1, z2, z4, z5⟩
  · rcases List.mem_cons.mp hp with rfl | hp
    · exact ⟨ho, nL⟩
    · have z := I1.pin p (List.mem_append_right _ hp)
      exact ⟨z.1, z.2.1⟩
  · obtain ⟨eL, hL⟩ := a' (g.L, o) List.mem_cons_self
    have J : Inv (lX g Y s'' H') ip σ H' s'' := core.inv lc.ok (lc.co.wo _ _ _ I') eL hL fun p hp => by
      obtain ⟨z1, z2, z3, z4, z5⟩ := lc.ip p hp
      obtain ⟨y1, y2⟩ := a' p (List.mem_cons_of_mem _ hp)
      exact ⟨y1, y2, z3, z4, z5⟩
    exact kk n (k + 1) s'' s'' .next (by omega) ⟨σ, σ', H', ⟨s'', H', Heap.lt_size eL, I', J⟩, z⟩
theorem lc_loop {ip : List (Addr × Obj)} {A : Around} {c c' : Code} {fs : List Frame} {gd : Bool → Bool} {k : Result → Sem PySem.Fin} {l kp : List Value} {p : Pos} (lc : LC g Y CI ip A c fs gd) (hw : c'.weight = 0) (hu : c'.cUnits = 0) :
    LC g Y CI ip A c' (.ret k none (gd false) l c p kp :: fs) id :=
  ⟨lc.ok, lc.co, lc.ip, (over_loop hw hu).trans lc.over, by show (splitAtGen fs).map _ = none; rw [lc.split]; rfl, by show (gd false || fs.any Frame.guarded) = false; rw [lc.gd, lc.guard]; rfl, rfl⟩
def tLFor (wi : TI) (gt : TG) (tb : TL C) : TL C := fun cb D k σ σc H => wi σ H fun J H1 => ∃ W : Nat → Nat → Nat → L2.St → C → Hp → Prop, (∃ m, W 0 m k σ σc H1) ∧ ∀ i m k σ σc H, W i m k σ σc H →
  (J.stop i H ∧ D.nx k σ σc H) ∨ (J.go i H ∧ ∃ N : Nat → L2.St → C → Hp → Prop, (∀ k' σ' σc' H', N k' σ' σc' H' → ∃ m', m' < m ∧ W (i + 1) m' k' σ' σc' H') ∧
    ∀ x H', J.yld i H x H' → gt x σ H' fun σ2 H2 => tb cb { D with nx := N, ct := N, bk := D.nx } k σ2 σc H2)
theorem ls_for {tg iter : Expr} {body : List Stmt} {pos : Pos} {wi : TI} {gt : TG} {tb : TL C} (hi : ∀ s0 H0, PI (lX g Y s0 H0) tg iter wi) (hg : ∀ s0 H0, PG (lX g Y s0 H0) tg gt) (hb : LSs g Y CI body tb)
    (hs : ∀ x, foldedSetIterable iter g.env x = pure x := by intro _; rfl) : LS g Y CI (.For tg iter body [] pos) (tLFor wi gt tb) := by
  refine ⟨fun cb A ip R n k s₀ c fs K J gd lv s σ σc H D lc hn kk hI ht => ?_⟩
  obtain ⟨sA, HA, hLA, IA, I0⟩ := hI
  rw [exec_For]
  refine seg_bind_wrap (wpAny_standAt ?_)
  refine seg_bind_wrap ?_
  rw [lc.over]
  refine wpAny_mono ((hi sA HA).run _ s σ H _ I0 ht) (fun v s1 h1 => ?_) fun x s' hx => hx.elim
  refine seg_bind_wrap (wpAny_of_eq (hs v) ?_)
  refine seg_bind_wrap (wpAny_standAt ?_)
  refine seg_bind_wrap (wpAny_holding ?_)
  rw [lc.over]
  refine wpAny_mono h1 (fun itv s2 h2 => ?_) fun x s' hx => hx.elim
  obtain ⟨it, fp, tn, JJ, H2, e, I2, T, st2, f2, W, ⟨m0, w0⟩, turn⟩ := h2
  subst e
  refine seg_call fun p => ?_
  have gl := fun (q : Result → Sem PySem.Fin) => lc_loop (k := q) (c' := .forLoop tg (.ref it) body [] g.env) (l := lv []) (kp := []) (p := p) lc rfl rfl
  -- the iterator's objects
  have sta : ∀ b ∈ fp, g.L ≤ b ∧ b ∉ Y ∧ b ≠ g.L ∧ b ∉ frs g.outer ∧ ∀ p ∈ ip, p.1 ≠ b := fun b hb => by
    obtain ⟨_, q1, q2, q3, q4, q5⟩ := f2 b hb
    have le : g.L ≤ b := by
      rcases q3 with q3 | q3
      · cases q3
      · have q3 : (cut g.L sA.heap).objs.size ≤ b := q3
        rw [cut_size, Nat.min_eq_left (Nat.le_of_lt hLA)] at q3
        exact q3
    refine ⟨le, fun hy => ?_, q1, q2, fun p hp => q5 p (List.mem_append_right _ hp)⟩
    obtain ⟨_, o, eo⟩ := lc.co.y σc sA HA IA b hy
    exact q5 (b, o) (List.mem_append_left _ (mem_pinsAt hy eo)) rfl
  have fpo : ∀ {sB : Shared} {HB H' : Hp}, (∀ b ∈ fp, H' b = none) → ∀ b ∈ fp, FpOk (lX g Y sB HB) ip H' b := fun {sB HB H'} hn b hb => by
    obtain ⟨q1, q2, q3, q4, q5⟩ := sta b hb
    refine ⟨hn b hb, q3, q4, .inr ?_, fun x c e => ?_, fun p hp => ?_⟩
    · show (cut g.L sB.heap).objs.size ≤ b
      rw [cut_size]
      exact Nat.le_trans (Nat.min_le_left _ _) q1
    · have e : g.env.cells.lookup x = some c := e
      rw [lc.ok.nocell] at e
      cases e
    · rcases List.mem_append.mp hp with z | z
      · exact fun w => q2 (w ▸ (of_pinsAt z).1)
      · exact q5 p z
  have loop : ∀ (m n i k : Nat) (s₀ s : Shared) (σ : L2.St) (σc : C) (H : Hp), n + k = sizeLine → W i m k σ σc H → LI g Y CI ip σ σc H s → tn i s.heap → (∀ b ∈ fp, H b = none) →
      Seg (model g.P g.w) A R (LY g Y CI cb) n s₀ (.forLoop tg (.ref it) body [] g.env) ((model g.P g.w).den (.forLoop tg (.ref it) body [] g.env))
        (.ret (fun r => ((match r with | .ok f => (.pure f : Sem Flow) | .error e => .raise e).onRaise (cameBack g.env)).wrap K J gd lv) none (gd false) (lv []) c p [] :: fs) s := by
    intro m
    induction m using Nat.strongRecOn with
    | ind m ih =>
      intro n i k s₀ s σ σc H hn w hI hst hfr
      refine Gx.seg_forLoop ?_
      rw [(gl _).over]
      obtain ⟨sB, HB, hLB, IB, I⟩ := hI
      rcases turn i m k σ σc H w with ⟨stop, qn⟩ | ⟨gog, N, hN, step⟩
      · refine wpAny_mono (T.done (lX g Y sB HB) rfl rfl rfl rfl i _ s σ H (fun _ _ => False) I (fpo hfr) hst stop) (fun q s4 ⟨hr, I4⟩ => ?_) fun x s' hx => hx.elim
        subst hr
        refine seg_again rfl ?_
        show Seg _ _ _ _ n s₀ (.block [] g.env) (((execs [] g.env).onRaise _) >>= fun f => pure (.done f)) _ s4
        exact seg_leaf (.ok .next) (kk n k s₀ s4 .next hn ⟨σ, σc, H, ⟨sB, HB, hLB, IB, I4⟩, qn⟩)
      · refine wpAny_mono (T.item (lX g Y sB HB) rfl rfl rfl rfl i _ s σ H (fun _ _ => False) I (fpo hfr) hst gog) (fun q s4 ⟨u, hr, h4⟩ => ?_) fun x s' hx => hx.elim
        subst hr
        refine wpAny_mono h4 (fun _ s5 ⟨x, H5, I5, r5, y5, st5, fr5⟩ => ?_) fun x s' hx => hx.elim
        have I5' := I5.pinned (fpo fr5) (T.obj _ _ st5)
        refine wpAny_mono ((hg sB HB).run _ s5 σ H5 x u _ I5' r5 (step x H5 y5)) (fun _ s6 ⟨σ6, H6, I6, q6⟩ => ?_) fun x s' hx => hx.elim
        have lcb : ∀ q, LC g Y CI (ip ++ pinsAt fp s5.heap) A (.forLoop tg (.ref it) body [] g.env) (.ret q none (gd false) (lv []) c p [] :: fs) id := fun q =>
          ⟨lc.ok, lc.co, fun pp hp => by
            rcases List.mem_append.mp hp with z | z
            · exact lc.ip pp z
            · obtain ⟨zb, ze⟩ := of_pinsAt z
              obtain ⟨q1, q2, q3, q4, q5⟩ := sta _ zb
              obtain ⟨o, eo, no⟩ := T.obj _ _ st5 _ zb
              rw [ze] at eo
              cases eo
              exact ⟨q1, q2, q3, q4, no⟩, (gl q).over, (gl q).split, (gl q).guard, rfl⟩
        have un : ∀ {σ' : L2.St} {σc' : C} {H' : Hp} {s' : Shared}, LI g Y CI (ip ++ pinsAt fp s5.heap) σ' σc' H' s' → LI g Y CI ip σ' σc' H' s' ∧ tn (i + 1) s'.heap ∧ ∀ b ∈ fp, H' b = none := fun {σ' σc' H' s'} hI => by
          obtain ⟨sC, HC, hLC, IC, I⟩ := hI
          have pn := fun b hb o e => I.pin (b, o) (List.mem_append_right _ (List.mem_append_right _ (mem_pinsAt (fp := fp) (h := s5.heap) (b := b) (o := o) hb e)))
          refine ⟨⟨sC, HC, hLC, IC, I.unpinned⟩, T.keep _ _ _ st5 fun b hb o e => (pn b hb o e).1, fun b hb => ?_⟩
          obtain ⟨o, e, d⟩ := T.obj _ _ st5 b hb
          exact (pn b hb o e).2.1
        refine hb.run cb A (ip ++ pinsAt fp s5.heap) R n k s₀ _ _ _ _ id id s6 σ6 σc H6 { D with nx := N, ct := N, bk := D.nx } (lcb _) hn (fun n' k' s₀' s7 f hn' hs => ?_) ⟨sB, HB, hLB, IB, I6⟩ q6
        cases f with
        | next =>
          obtain ⟨σ7, σc7, H7, I7, n7⟩ := hs
          obtain ⟨I8, st8, fr8⟩ := un I7
          obtain ⟨m', hm, w7⟩ := hN k' σ7 σc7 H7 n7
          exact seg_again rfl (ih m' hm n' (i + 1) k' s₀' s7 σ7 σc7 H7 hn' w7 I8 st8 fr8)
        | cont =>
          obtain ⟨σ7, σc7, H7, I7, n7⟩ := hs
          obtain ⟨I8, st8, fr8⟩ := un I7
          obtain ⟨m', hm, w7⟩ := hN k' σ7 σc7 H7 n7
          exact seg_again rfl (ih m' hm n' (i + 1) k' s₀' s7 σ7 σc7 H7 hn' w7 I8 st8 fr8)
        | brk =>
          obtain ⟨σ7, σc7, H7, I7, n7⟩ := hs
          exact seg_leaf (.ok .next) (kk n' k' s₀' s7 .next hn' ⟨σ7, σc7, H7, (un I7).1, n7⟩)
        | ret v =>
          obtain ⟨x7, σ7, σc7, H7, I7, r7, n7⟩ := hs
          exact seg_leaf (.ok (.ret v)) (kk n' k' s₀' s7 (.ret v) hn' ⟨x7, σ7, σc7, H7, (un I7).1, r7, n7⟩)
  exact loop m0 n 0 k s₀ s2 σ σc H2 hn w0 ⟨sA, HA, hLA, IA, I2⟩ st2 fun b hb => (f2 b hb).1
end
end Lv
set_option Elab.async false
set_option linter.all false
set_option maxRecDepth 100000
set_option maxHeartbeats 2000000
namespace Lv
open PySem PySem.Spec PyProof.Rows L2 GenW
/-- a generator def's promise to a consumer -/
abbrev SpL := ∀ C : Type, List V → Hp → CB C → (C → Hp → Prop) → C → Prop
/-- what a call's generator does for its consumer -/
abbrev SpQ := ∀ C : Type, CB C → (C → Hp → Prop) → C → Prop
/-- the generator that a call makes -/
def LMade (P : Program) (w : World) (K : PySem.W.Frag) (mg : Str → Option Value) (base : Heap) (k : Nat) (outer : List Env) (H : Hp) (s : Shared) (spq : SpQ) (u : Value) (s' : Shared) : Prop :=
  ∃ (N : List Str) (qual : Str) (scope : Scope) (f : Addr) (cd : Value) (L a : Addr) (gi : Nat) (go o : Obj) (c : Code), u = .ref a ∧ s.heap.objs.size ≤ L ∧ L < a ∧ a < s'.heap.objs.size ∧ s'.heap.get? a = some go ∧ (∀ h : Heap, h.get? a = some go → h.IsGen a gi) ∧ (∀ v, go.data ≠ .cell v) ∧
    s'.gens[gi]? = some (.fresh c) ∧ s'.os = s.os ∧ AllBare s'.gens ∧ s'.heap.NoLimit ∧ (∀ b ob, s.heap.get? b = some ob → s'.heap.get? b = some ob) ∧ s'.heap.get? L = some o ∧ (∀ v, o.data ≠ .cell v) ∧
    ∀ A : Around, Room k A → A.frames = some outer → G.Ok ⟨P, w, K, mg, base, N, qual, scope, f, cd, A, outer, L⟩ ∧
      ∀ (Y : List Addr) (C : Type) (CI : C → Shared → Hp → Prop) (cb : CB C) (fin : C → Hp → Prop) (σc : C) (s2 : Shared), CO ⟨P, w, K, mg, base, N, qual, scope, f, cd, A, outer, L⟩ Y CI → CI σc s2 H → s2.heap.get? L = some o → spq C cb fin σc →
        Seg (model P w) A (LR ⟨P, w, K, mg, base, N, qual, scope, f, cd, A, outer, L⟩ CI fin) (LY ⟨P, w, K, mg, base, N, qual, scope, f, cd, A, outer, L⟩ Y CI cb) sizeLine s2 c ((model P w).den c) [] s2
structure LFn (P : Program) (w : World) (K : PySem.W.Frag) (mg : Str → Option Value) (base : Heap) (k : Nat) (f : Addr) (fd : FuncData) (ps : List Str) (sp : SpL) : Prop where
  run : ∀ (A : Around) (outer : List Env) (s : Shared) (H : Hp) (args : Args) (us : List Value) (vs : List V), Room k A → Env0 P w K mg base A outer s H → BindsTo s fd args (ps.zip us) → Vals vs us → vs.length = ps.length →
    codeAny (model P w) A (.call (.ref f) args) (fun r s' => match r with | .ok (.ret u) => LMade P w K mg base k outer H s (fun C cb fin c => sp C vs H cb fin c) u s' | _ => False) s
/-- THE RULE: by its body -/
theorem lfn_of {P : Program} {w : World} {K : PySem.W.Frag} {mg : Str → Option Value} {base : Heap} {k : Nat} {f : Addr} {name qual : Str} {params : Arguments} {body : List Stmt} {scope : Scope} {dV kV doc pm cdv ct oc : Value} {an od : Option Addr}
    {osl : Array (Option Value)} {N ps : List Str} {sp : SpL} (lk : K.lookup f = some ⟨oc, od, .func (PySem.W.fnOf name qual params body scope dV kV doc pm an cdv ct), osl⟩) (hcd : PySem.W.codeIn K cdv qual = true) (S : GScope N ps scope)
    (hc : ∀ n, cellsFrom n scope.names [] = []) (hcn : ∀ y ∈ scope.names, y.2 ≠ .cell)
    (hbody : ∀ (A : Around) (outer : List Env) (L : Addr) (Y : List Addr) (C : Type) (CI : C → Shared → Hp → Prop) (H : Hp) (vs : List V) (cb : CB C) (fin : C → Hp → Prop) (σc : C), Room k (A.deeper (envOfC qual scope L f cdv)) → sp C vs H cb fin σc →
      ∃ t, LSs ⟨P, w, K, mg, base, N, qual, scope, f, cdv, A, outer, L⟩ Y CI body t ∧ t cb { nx := fun _ _ σ' H' => fin σ' H', rt := fun _ v σ' H' => v = .non ∧ fin σ' H' } 0 (start N vs) σc H) :
    LFn P w K mg base (k + 1) f (PySem.W.fnOf name qual params body scope dV kV doc pm an cdv ct) ps sp := by
  refine ⟨fun A outer s H args us vs hr e0 hb r hl => ?_⟩
  have KX : K.In s.heap := e0.mod.kin.keeps fun b o e => (e0.bs b o e).1
  have lim : s.heap.NoLimit := e0.mod.nolimit.keeps fun b o e => (e0.bs b o e).1
  have hkind : ∀ y ∈ ps.zip us, scope.names.lookup y.1 = some .local ∨ (scope.names.lookup y.1 = some .cell ∧ ((cellsFrom (s.heap.objs.size + 1) scope.names []).lookup y.1).isSome = true) := fun ⟨n, v⟩ hy => by
    rcases S.par n (List.of_mem_zip hy).1 with q | q
    · exact .inl q
    · exact absurd rfl (hcn _ (PySem.mem_of_lookup q))
  refine codeAny_call_generator hr.depth (KX _ _ lk) rfl S.co S.gen rfl (PySem.W.codeRec_of KX hcd) (hb _ _ _ _ (wpAny_newFunctionEnv_cells S.kind hkind fun env he s1 x => ?_))
  subst he
  have lim1 : s1.heap.NoLimit := lim.keeps x.toInCall.keep
  refine ⟨lim1, ?_⟩
  obtain ⟨h1, tk, es1, hk1⟩ := x.done
  have gen1 : s1.gens = s.gens := by rw [es1]
  have lt1 : s.heap.objs.size < s1.heap.objs.size := x.toInCall.ns.lt
  have kp1 : ∀ b o, s.heap.get? b = some o → s1.heap.get? b = some o := x.toInCall.keep
  have main : ∀ (go : Obj) (nm qn : Value) (tk2 : Nat), go.cls = .type "generator" → go.data = .fields #[.int s1.gens.size 0, nm, qn] → go.slots = #[] → (∀ h : Heap, (h.push go).get? h.objs.size = some go) →
      LMade P w K mg base (k + 1) outer H s (fun C cb fin c => sp C vs H cb fin c) (.ref s1.heap.objs.size) { s1 with gens := s1.gens.push (.fresh (.func body (envOfC qual scope s.heap.objs.size f cdv))), toks := tk2, heap := s1.heap.push go } := by
    intro go nm qn tk2 hgc hgd0 hgs hgp
    obtain ⟨m, o, es, ep, eL, dL, kL, nL⟩ : ∃ m, s1.heap.Ns s.heap.objs.size m := ⟨_, x.toInCall.ns⟩
    have nLc : ∀ v, o.data ≠ .cell v := fun v z => by
      rw [dL] at z
      cases z
    have hgd : ∀ v, go.data ≠ .cell v := fun v z => by
      rw [hgd0] at z
      cases z
    refine ⟨N, qual, scope, f, cdv, s.heap.objs.size, s1.heap.objs.size, s1.gens.size, go, o, _, rfl, Nat.le_refl _, lt1, ?_, hgp _, fun h e => ⟨go, nm, qn, e, hgc, hgd0, hgs⟩, hgd, Array.getElem?_push_size .., by rw [es1], AllBare.push (by rw [gen1]; exact e0.bare) rfl,
      lim1.keeps fun b o e => Heap.get?_push_of_some _ e, fun b o e => Heap.get?_push_of_some _ (kp1 b o e), Heap.get?_push_of_some _ eL, nLc, fun Aw hrw hfr => ?_⟩
    · show _ < (s1.heap.push _).objs.size
      rw [Heap.size_push]; exact Nat.lt_succ_self _
    have e0w : Env0 P w K mg base Aw outer s H := ⟨hfr, e0.mod, e0.bs, e0.bsz, e0.funs, e0.frf, e0.hok, e0.bare⟩
    have ok : G.Ok ⟨P, w, K, mg, base, N, qual, scope, f, cdv, Aw, outer, s.heap.objs.size⟩ := by
      refine ⟨e0.mod, S.kind, hc _, fun y => ⟨fun z => ?_, fun z => ?_⟩, hrw.hd, hfr, e0.bsz, fun b hb => ?_⟩
      · exact absurd rfl (hcn _ (PySem.mem_of_lookup z))
      · exact absurd rfl (S.nofree _ (PySem.mem_of_lookup z))
      · obtain ⟨_, ob, eb, _⟩ := e0.funs.mem hb
        exact Heap.lt_size eb
    refine ⟨ok, fun Y C CI cb fin σc s2 co I hL hsp => ?_⟩
    obtain ⟨t, ht, hq⟩ := hbody Aw outer s.heap.objs.size Y C CI H vs cb fin σc (hrw.deeper _) hsp
    have I1 : Inv (gcxOf P w K mg base N qual scope f cdv Aw outer s H (fun _ _ _ => False) []) [] (start N vs) H s1 := inv_startG S hrw.hd e0w hl r x
    obtain ⟨o', eo', core⟩ := core_of (g := ⟨P, w, K, mg, base, N, qual, scope, f, cdv, Aw, outer, s.heap.objs.size⟩) ok rfl rfl I1
    have : o' = o := by
      have e2 : s1.heap.get? s.heap.objs.size = some o' := eo'
      rw [eL] at e2
      exact (Option.some.inj e2).symm
    subst this
    have J : Inv (lX ⟨P, w, K, mg, base, N, qual, scope, f, cdv, Aw, outer, s.heap.objs.size⟩ Y s2 H) [] (start N vs) H s2 := core.inv ok (co.wo _ _ _ I) hL (e0.hok.fresh (Nat.le_refl _)) fun p hp => (nomatch hp)
    refine seg_func ?_
    refine ht.run cb Aw [] _ sizeLine 0 s2 _ [] _ _ id id s2 (start N vs) σc H _ ⟨ok, co, fun p hp => (nomatch hp), over_func, rfl, rfl, rfl⟩ (Nat.add_zero _) (fun n k' s₀ s' fl hn hs => ?_) ⟨s2, H, Heap.lt_size hL, I, J⟩ hq
    cases fl with
    | next =>
      obtain ⟨σ', σc', H', ⟨sA, HA, _, IA, IG⟩, q⟩ := hs
      exact seg_end (.ok (.ret .none)) ⟨rfl, σc', H', co.step _ _ _ _ _ IA (LI.turned IG), q⟩
    | brk => obtain ⟨_, _, _, _, q⟩ := hs; exact False.elim q
    | cont => obtain ⟨_, _, _, _, q⟩ := hs; exact False.elim q
    | ret u =>
      obtain ⟨v, σ', σc', H', ⟨sA, HA, _, IA, IG⟩, rv, ev, q⟩ := hs
      subst ev
      have eu : u = Value.none := rv
      subst eu
      exact seg_end (.ok (.ret .none)) ⟨rfl, σc', H', co.step _ _ _ _ _ IA (LI.turned IG), q⟩
  exact main _ _ _ _ rfl rfl rfl fun h => Heap.get?_push_size _ rfl
end Lv
set_option Elab.async false
set_option linter.all false
set_option maxRecDepth 100000
set_option maxHeartbeats 2000000
namespace Lv
open PySem PySem.Spec PyProof.Rows L2 GenW
open Sem (wp)
/-- a later waking, if there is one -/
def later (M : Model) (A : Around) (R : GenEnd) (Y : Protocol) (gs : GenState) (n : Nat) (r : Resume) (s : Shared) : Prop := ∃ m, n = m + 1 ∧ gs.Goes M A R Y m r s
/-- woken; where it hands out an item it sleeps again -/
theorem wake_ok {M : Model} {A : Around} {R : GenEnd} {Y : Protocol} {n : Nat} {E : Value → Shared → Prop} {s : Shared} {gi : Nat} {gs : GenState} {r : Resume} {l : List Value} {α : Type} {k : GenResult → Sem α} {Q : α → Shared → Prop} (hg : s.gens[gi]? = some gs)
    (hgo : gs.Goes M A R Y n r (s.setGen gi .running)) (hR : ∀ x s1, R n (s.setGen gi .running) x s1 → wpAny M A (k (End.ret x).result) Q E (s1.setGen gi .finished))
    (hY : ∀ v s1 gs', gs'.bare = true → Ve.sleeps gs' = true → Y (n - 1) (s.setGen gi .running) v s1 (later M A R Y gs' n) → wpAny M A (k (.yielded v)) Q E (s1.setGen gi gs')) :
    wpAny M A (.resume gi r l k) Q E s := fun Γ p hΓ => by
  rw [Sem.wp_resume]
  have out : ∀ e s1, SegEnd R Y n (Seg.next M A R Y n) (s.setGen gi .running) e s1 → e.quiet = true ∧ wp M Γ (k e.result) (fun a _ s' => Q a s') (fun x _ s' => E x s') p (s1.setGen gi e.genState) := fun e s1 he => by
    cases e with
    | ret x => exact ⟨rfl, hR x s1 he Γ p hΓ⟩
    | susp v g0 l0 k0 c0 p0 fs0 =>
      refine ⟨he.1, hY v s1 _ (End.bare_of_quiet he.1) rfl ?_ Γ p hΓ⟩
      have e : later M A R Y (End.susp v g0 l0 k0 c0 p0 fs0).genState n = fun r' s' => match n with | 0 => False | m + 1 => (End.susp v g0 l0 k0 c0 p0 fs0).genState.Goes M A R Y m r' s' := by
        funext r' s'
        unfold later
        cases n with
        | zero => exact propext ⟨fun ⟨m, z, _⟩ => absurd z (Nat.succ_ne_zero m).symm, fun z => z.elim⟩
        | succ m => exact propext ⟨fun ⟨m', z, q⟩ => (Nat.succ.inj z).symm ▸ q, fun q => ⟨m, rfl, q⟩⟩
      rw [e]
      cases n with
      | zero => exact he.2
      | succ m => exact he.2
  have woken : ∀ c, (Γ.wake c p).Woken A := fun c => hΓ.wake c p
  cases gs with
  | running => exact hgo.elim
  | finished => exact hgo.elim
  | fresh c =>
    obtain ⟨rfl, hs⟩ := hgo
    obtain ⟨e, s1, hr, he⟩ := seg_iff.mp hs (Γ.wake c p) p rfl (woken c)
    exact ⟨_, _, by unfold Wakes; rw [hg]; exact ⟨e, s1, hr, (out e s1 he).1, rfl, rfl⟩, (out e s1 he).2⟩
  | suspended k0 l0 c p0 fs0 cl =>
    obtain ⟨e, s1, hr, he⟩ := seg_iff.mp hgo (Γ.wake c p) p0 rfl (woken c)
    exact ⟨_, _, by unfold Wakes; rw [hg]; exact ⟨e, s1, hr, (out e s1 he).1, rfl, rfl⟩, (out e s1 he).2⟩
section
variable {P : Program} {w : World} {A : Around} {E : Value → Shared → Prop} {s : Shared}
theorem next_live {a : Addr} {gi n : Nat} {gs : GenState} {R : GenEnd} {Y : Protocol} {Q : Option Value → Shared → Prop} (hh : A.handled = none) (hl : s.heap.NoLimit) (hroom : A.depth < recursionLimit) (hg : s.heap.IsGen a gi) (hgs : s.gens[gi]? = some gs)
    (hgo : gs.Goes (model P w) A.in1 R Y n (.send .none) (s.setGen gi .running)) (hr : ∀ n s0 r s1, R n s0 r s1 → r = .ok (.ret .none))
    (hY : ∀ v s1 gs', gs'.bare = true → Ve.sleeps gs' = true → Y (n - 1) (s.setGen gi .running) v s1 (later (model P w) A.in1 R Y gs' n) → Q (some v) (s1.setGen gi gs'))
    (hP : ∀ s1, R n (s.setGen gi .running) (.ok (.ret .none)) s1 → ∀ h', (∀ b o, s1.heap.get? b = some o → h'.get? b = some o) → Q none { s1.setGen gi .finished with heap := h' }) :
    wpAny (model P w) A (pyNext (.ref a)) Q E s := by
  unfold pyNext
  refine wpAny_bind (wpAny_attempt (wpAny_callSpecial?_slot (name := Str.ofString "__next__") hg.typeIs slot_gen_next
    (wpAny_call_entry slot_gen_next hg.typeIs entry_gen_next ?_ (args_gen_next _))))
  show wpAny _ A.in1 (Builtin.Generator.genWake (.ref a) (.send .none)) _ _ s
  unfold Builtin.Generator.genWake
  refine wpAny_bind (wpAny_holding (wpAny_genNumber hg (wpAny_bind (wpAny_genState hgs ?_))))
  have go : ∀ {α : Type} {l : List Value} {k : GenResult → Sem α} {Q' : α → Shared → Prop} {E' : Value → Shared → Prop}, (∀ s1, R n (s.setGen gi .running) (.ok (.ret .none)) s1 → wpAny (model P w) A.in1 (k (.returned .none)) Q' E' (s1.setGen gi .finished)) →
      (∀ v s1 gs', gs'.bare = true → Ve.sleeps gs' = true → Y (n - 1) (s.setGen gi .running) v s1 (later (model P w) A.in1 R Y gs' n) → wpAny (model P w) A.in1 (k (.yielded v)) Q' E' (s1.setGen gi gs')) →
      wpAny (model P w) A.in1 (.resume gi (.send .none) l k) Q' E' s := fun {α l k Q' E'} h1 h2 => wake_ok hgs hgo (fun x s1 hx => by
    have e := hr _ _ _ _ hx
    subst e
    exact h1 s1 hx) h2
  cases gs with
  | running => exact hgo.elim
  | finished => exact hgo.elim
  | _ =>
    refine wpAny_bind (wpAny_roomToWake hl hroom ?_)
    show wpAny _ A.in1 (.resume gi (.send .none) [] _) _ _ s
    refine go (fun s1 hp => ?_) fun v s1 gs' hb hsl hv => wpAny_pure ⟨v, rfl, wpAny_pure (hY v s1 gs' hb hsl hv)⟩
    show wpAny _ A.in1 (newExc (.type "StopIteration") [] >>= _) _ _ _
    refine wpAny_bind ?_
    simp only [newExc, newTuple]
    refine wpAny_bind (wpAny_newObj_type ?_ (by size_fits))
    refine wpAny_bind (m := firstArgMember _ _) (wpAny_of_eq (a := Value.none) (by first | rfl | (simp only [firstArgMember]; rfl)) ?_)
    refine wpAny_newObj_type ?_ (by size_fits)
    simp only [raiseNew]
    refine wpAny_bind (wpAny_bind (wpAny_handled ?_))
    first | rw [show A.in1.handled = none from hh] | rw [hh]
    refine wpAny_throw ?_
    refine wpAny_bind (wpAny_isInstance (T := "StopIteration") (b := true) ⟨_, Heap.get?_push_size _ rfl, rfl⟩ isSubtype_stop ?_)
    exact wpAny_pure (hP s1 hp _ fun b o hb => Heap.get?_push_of_some _ (Heap.get?_push_of_some _ hb))
end
/-- it waits: at any state where these hold it goes on -/
def Waits (g : G) (Y : List Addr) {C : Type} (CI : C → Shared → Hp → Prop) (cb : CB C) (fin : C → Hp → Prop) (n : Nat) (gs : GenState) (q : List (Addr × Obj)) (Kc : C → Hp → Prop) : Prop :=
  Young g Y q ∧ ∀ σ' H' s', Kc σ' H' → CI σ' s' H' → Asleep g Y q H' s' → later (model g.P g.w) g.A (LR g CI fin) (LY g Y CI cb) gs n (.send .none) s'
/-- the next item, or the end -/
theorem next_ok {g : G} {Y : List Addr} {C : Type} {CI : C → Shared → Hp → Prop} {A : Around} {cb : CB C} {fin : C → Hp → Prop} {a : Addr} {gi n : Nat} {gs : GenState} {q : List (Addr × Obj)} {Kc : C → Hp → Prop} {c : C} {H : Hp} {s : Shared} {E : Value → Shared → Prop} {Q : Option Value → Shared → Prop} (co : CO g Y CI) (hA : g.A = A.in1) (hcalm : A.handled = none)
    (hroom : A.depth < recursionLimit) (hgen : ∀ c s H, CI c s H → s.heap.IsGen a gi ∧ s.heap.NoLimit ∧ AllBare s.gens) (grow : ∀ c s H h', CI c s H → (∀ b o, s.heap.get? b = some o → h'.get? b = some o) → CI c { s with heap := h' } H) (I : CI c s H) (hgs : s.gens[gi]? = some gs) (W : Waits g Y CI cb fin n gs q Kc) (hK : Kc c H) (hq : Asleep g Y q H s)
    (hY : ∀ (v : Value) (s1 : Shared) (gs' : GenState) (x : V) (q' : List (Addr × Obj)) (c' : C) (H' : Hp) (K' : C → Hp → Prop), Ve.sleeps gs' = true → s1.gens[gi]? = some gs' → RelV x v → CI c' s1 H' → Asleep g Y q' H' s1 → cb x c' H' K' → (∃ m, n = m + 1 ∧ Waits g Y CI cb fin m gs' q' K') → Q (some v) s1)
    (hP : ∀ s1 c' H', CI c' s1 H' → fin c' H' → Q none s1) : wpAny (model g.P g.w) A (pyNext (.ref a)) Q E s := by
  have gl : gi < s.gens.size := (Array.getElem?_eq_some_iff.mp hgs).1
  obtain ⟨h1, h2, h3⟩ := hgen c s H I
  have run0 : CI c (s.setGen gi .running) H := co.gens c s H _ I (allBare_setGen h3 rfl)
  obtain ⟨m, hnm, hgoes⟩ := W.2 c H _ hK run0 hq
  rw [hA] at hgoes
  refine wpAny_gsz (n := gi + 1) gl (next_live (R := LR g CI fin) (Y := LY g Y CI cb) (n := m) hcalm h2 hroom h1 hgs hgoes (fun _ _ _ _ h => h.1) (fun v s1 gs' hb hsl hy => ?_) fun s1 hr h' hk => ?_)
  · intro hsz
    obtain ⟨k, x, q', c', H', K', hn, rv, I', yq, aq, hcb, hkap⟩ := hy
    have hsz1 : gi < s1.gens.size := by
      have e : (s1.setGen gi gs').gens.size = s1.gens.size := setGen_size _ _ _
      have : gi + 1 ≤ (s1.setGen gi gs').gens.size := hsz
      omega
    exact hY v _ gs' x q' c' H' K' hsl (setGen_at hsz1) rv (co.gens _ _ _ _ I' (allBare_setGen (hgen _ _ _ I').2.2 hb)) aq hcb ⟨m, hnm, yq, fun σ2 H2 s2 k2 I2 a2 => by rw [hA]; exact hkap σ2 H2 s2 k2 I2 a2⟩
  · intro _
    obtain ⟨_, c', H', I', hf⟩ := hr
    exact hP _ c' H' (grow _ _ _ _ (co.gens _ _ _ _ I' (allBare_setGen (hgen _ _ _ I').2.2 rfl)) hk) hf
end Lv
set_option Elab.async false
set_option linter.all false
set_option maxRecDepth 100000
set_option maxHeartbeats 2000000
namespace Lv
open PySem PySem.Spec PyProof.Rows L2 GenW
abbrev TLG := L2.St → Hp → (Hp → SpQ → Prop) → Prop
/-- an expression whose value is a generator that has not begun -/
structure PLG (X : Cx) (k : Nat) (e : Expr) (tl : TLG) : Prop where
  run : ∀ (pins : List (Addr × Obj)) (s : Shared) (σ : L2.St) (H : Hp) (Q : Hp → SpQ → Prop), Inv X pins σ H s → tl σ H Q → wpAny (model X.prog X.w) X.A (eval e X.env)
    (fun u s' => ∃ H1 sc spq, Inv X pins σ H1 sc ∧ LMade X.prog X.w X.K X.mg X.base k X.stack H1 sc spq u s' ∧ Q H1 spq) X.xe s
section
variable {X : Cx} {pins : List (Addr × Obj)} {σ : L2.St} {H : Hp} {s : Shared}
theorem Inv.more (I : Inv X pins σ H s) {q : List (Addr × Obj)} (h : ∀ p ∈ q, s.heap.get? p.1 = some p.2 ∧ H p.1 = none ∧ p.1 ≠ X.env.locals ∧ p.1 ∉ X.fs ∧ ∀ v, p.2.data ≠ .cell v) : Inv X (pins ++ q) σ H s :=
  I.pins_of fun p hp => by
    rcases List.mem_append.mp hp with z | z
    · exact I.pin p (List.mem_append_right _ z)
    · exact h p z
theorem Inv.less {q : List (Addr × Obj)} (I : Inv X (pins ++ q) σ H s) : Inv X pins σ H s := I.pins_of fun p hp => I.pin p (List.mem_append_right _ (List.mem_append_left _ hp))
theorem Inv.them {q : List (Addr × Obj)} (I : Inv X (pins ++ q) σ H s) : ∀ p ∈ q, s.heap.get? p.1 = some p.2 ∧ H p.1 = none := fun p hp => by
  have z := I.pin p (List.mem_append_right _ (List.mem_append_right _ hp))
  exact ⟨z.1, z.2.1⟩
theorem wo_of {g : G} {Y : List Addr} (I : Inv X pins σ H s) (e : g.P = X.prog ∧ g.w = X.w ∧ g.base = X.base ∧ g.outer = X.stack) (y : ∀ b ∈ Y, H b = none ∧ b ≠ g.L ∧ b ∉ frs g.outer ∧ ∀ o, s.heap.get? b = some o → ∀ v, o.data ≠ .cell v) : Wo g Y s H := by
  obtain ⟨e1, e2, e3, e4⟩ := e
  have z := I.env0
  rw [← e1, ← e2, ← e3, ← e4] at z
  exact ⟨z.bare, z.hok, z.bs, z.funs, z.frf, y⟩
variable {k : Nat} {f C : Addr} {fd : FuncData} {ps : List Str} {sp : SpL} {dvs : List V} {ds : List Value} {x m : Str} {p pos' apos : Pos} {o : Expr} {ta : TE}
theorem run_lfn {us : List Value} {vs : List V} {Q : Hp → SpQ → Prop} {E : Value → Shared → Prop} (F : LFn X.prog X.w X.K X.mg X.base k f fd ps sp) (hr : Room k X.A) (hb : Binds X.K fd ps ds) (hd : Vals dvs ds) (I : Inv X pins σ H s) (r : Vals vs us) (hl : (vs ++ dvs).length = ps.length)
    (h : Q H fun C cb fin c => sp C (vs ++ dvs) H cb fin c) : wpAny (model X.prog X.w) X.A (call (.ref f) us) (fun u s' => ∃ H1 sc spq, Inv X pins σ H1 sc ∧ LMade X.prog X.w X.K X.mg X.base k X.stack H1 sc spq u s' ∧ Q H1 spq) E s := by
  have r2 : Vals (vs ++ dvs) (us ++ ds) := r.append hd
  refine wpAny_call (codeAny_mono (F.run X.A X.stack s H ⟨us, []⟩ (us ++ ds) (vs ++ dvs) hr I.env0 (hb s us I.kIn (by rw [← r2.length]; exact hl)) r2 hl) fun r s' hq => ?_)
  cases r with
  | error e => exact False.elim hq
  | ok fl =>
    cases fl with
    | ret u => exact ⟨H, s, _, I, hq, h⟩
    | next => exact False.elim hq
    | brk => exact False.elim hq
    | cont => exact False.elim hq
def tMethL (C : Addr) (m : Str) (n : Nat) (sp : SpL) (dvs : List V) (ta : TE) (t : TA) : TLG := fun σ H Q => ta σ H fun x H1 => ∃ a dx fs, x = .ref a ∧ H1 a = some (.ins C dx fs) ∧ fs.lookup m = none ∧
  t σ H1 fun vs H2 => (x :: (vs ++ dvs)).length = n ∧ Q H2 fun T cb fin c => sp T (x :: (vs ++ dvs)) H2 cb fin c
/-- o.m(e, ..) of a generator method -/
theorem plg_meth {pl : Sem Bool} {e : Expr} {es : List Expr} {t : TA} (he : PE X o ta) (c : Cls X.K C) (hm : Meth X.K C m f) (F : LFn X.prog X.w X.K X.mg X.base k f fd ps sp) (hr : Room k X.A) (hb : Binds X.K fd ps ds) (hd : Vals dvs ds) (ha : PA X (e :: es) t)
    (hst : starEach (e :: es) X.env = (false, eval e X.env) :: starEach es X.env := by rfl) (hpl : (backTo pos' (starEach es X.env)).any (·.1) = false := by rfl)
    (ht : eval (.Call (.Attribute o m apos) (e :: es) [] pos') X.env = (do
      let ov ← eval o X.env
      standAt apos.atName
      let (f, first) ← holding [ov] (getMethod ov m pl)
      callWith pos' f first (backTo pos' (starEach (e :: es) X.env)) (backToKw pos' (keywordEach [] X.env))) := by rfl) :
    PLG X k (.Call (.Attribute o m apos) (e :: es) [] pos') (tMethL C m ps.length sp dvs ta t) := by
  refine ⟨fun pins s σ H Q I h => ?_⟩
  refine PySem.W.methodCall_KW (pl := pl) (thn (he.run pins s σ H _ I h) fun u s1 ⟨x, H1, I1, rx, a, dx, fs, ex, ea, l, q⟩ => ?_) ht
  subst ex
  obtain rfl : u = Value.ref a := rx
  refine getmeth_ok I1 ea c hm l ?_
  refine PySem.W.callWith_K (first := [.ref a]) (h₀ := X.base) I.ok.mod.kin hm.kp (thn (ha.run pos' pins s1 σ H1 _ I1 q) fun us s2 ⟨vs, H2, I2, r, hl, q2⟩ => ⟨I2.kIn, ?_⟩) hst hpl
  exact run_lfn (us := .ref a :: us) (vs := .ref a :: vs) F hr hb hd I2 (.cons rfl r) hl q2
end
end Lv
set_option Elab.async false
set_option linter.all false
set_option maxRecDepth 100000
set_option maxHeartbeats 2000000
namespace Lv
open PySem PySem.Spec PyProof.Rows L2 GenW
theorem clo_at {cells : List (Str × Addr)} : ∀ (ns : List (Str × NameKind)) (acc : List (Str × Addr)) (x : Str) (c : Addr), (∀ y ∈ ns, y.2 = .free → ∃ d, cells.lookup y.1 = some d) → (cloFrom cells ns acc).lookup x = some c → acc.lookup x = some c ∨ ∃ y, cells.lookup y = some c
  | [], acc, x, c, _, h => .inl h
  | (n, k) :: r, acc, x, c, hf, h => by
    unfold cloFrom at h
    have hf' : ∀ y ∈ r, y.2 = .free → ∃ d, cells.lookup y.1 = some d := fun y hy => hf y (List.mem_cons_of_mem _ hy)
    by_cases hk : (k == .free) = true
    · rw [if_pos hk] at h
      rcases clo_at r _ x c hf' h with z | z
      · rw [List.lookup_cons] at z
        split at z
        · obtain ⟨d, hd⟩ := hf (n, k) List.mem_cons_self (eq_of_beq hk)
          have hd : cells.lookup n = some d := hd
          rw [hd] at z
          exact .inr ⟨n, hd.trans z⟩
        · exact .inl z
      · exact .inr z
    · rw [if_neg hk] at h
      exact clo_at r _ x c hf' h
def cbLc (gt : TG) (tt : TT) (te : TE) (σ : L2.St) (vs : List Nat) : CB (List V) := fun x ys H2 K => gt x (wipe σ vs) H2 fun σ2 H3 => wipe σ2 vs = wipe σ vs ∧ tt σ2 H3 fun b H4 =>
  if b = true then te σ2 H4 fun y H5 => ys.length < sizeLine ∧ K (ys ++ [y]) H5 else K ys H4
def tLcG (tl : TLG) (gt : TG) (tt : TT) (te : TE) (vs : List Nat) : TE := fun σ H Q => tl σ H fun H1 spq => spq (List V) (cbLc gt tt te σ vs) (fun ys H2 => ∀ D, H2 D = none → Q (.ref D) (upd H2 D (.lst ys))) []
/-- the block's own state: what is gathered, the generator's object -/
def CIb (X : Cx) (s3 : Shared) (H1 : Hp) (scope : Scope) (v : Env) (fp : List Addr) (σ : L2.St) (D a : Addr) (go : Obj) (ys : List V) (s : Shared) (H : Hp) : Prop :=
  ys.length ≤ sizeLine ∧ ∃ (acc : Array Value) (c : Nat), Vals ys acc.toList ∧ Inv (X.blk s3 H1 scope v fp) [(D, lstObj acc c), (a, go)] σ H s
section
variable {X : Cx} {elt tg e : Expr} {ifs : List Expr} {scope : Scope} {own : List (Str × Nat)} {pos : Pos} {k : Nat} {tl : TLG} {gt : TG} {tt : TT} {te : TE}
theorem pe_lcG (hcalm : X.calm = true) (hr : Room (k + 1) X.A) (nd : X.N.Nodup) (he : PLG X k e tl) (ok : BlkOk X.N X.env.scope scope own) (hoc : ∀ n acc, cellsFrom n scope.names acc = acc)
    (hg : ∀ s H C cl fp, PG (X.blk s H scope (compEnvC scope cl C X.env) fp) tg gt) (ht : ∀ s H C cl fp, PTs (X.blk s H scope (compEnvC scope cl C X.env) fp) ifs tt) (hel : ∀ s H C cl fp, PE (X.blk s H scope (compEnvC scope cl C X.env) fp) elt te)
    (fold : ∀ x, foldedSetIterable e X.env x = pure x := by intro _; rfl) : PE X (.ListComp elt [⟨tg, e, ifs, 0⟩] scope pos) (tLcG tl gt tt te (own.map (·.2))) := by
  refine ⟨fun pins s σ H Q I h => ?_⟩
  have fr : ∀ y ∈ scope.names, y.2 = .free → ∃ c, X.env.cells.lookup y.1 = some c := fun y hy e => (ok.free y hy e).elim (fun k => I.ok.has _ (.inl k)) fun k => I.ok.has _ (.inr k)
  rw [eval_ListComp]
  refine Gx.comp_end rfl fold (closure_ok fr) ok.kind (fun y hy e => (ok.uniq y hy).trans (congrArg some e)) ?_
  refine thn (he.run pins s σ H _ I h) fun x0 s2 ⟨H1, sc, spq, I1, made, hq⟩ => ?_
  obtain ⟨N, qual, scp, f, cd, L, a, gi, go, o, c, rfl, z1, z2, z3, z4, z5, z6, z7, z8, z9, z10, z11, z12, nL, prom⟩ := made
  refine wpAny_pyIter_gen (z5 _ z4) ?_
  have rk : Room k X.A.in1 := ⟨hr.hd, by have := hr.dp; show X.A.depth + 3 * k + 5 < _; omega, by have := hr.un; show X.A.units + 1 + 16 * k + 200 < _; omega⟩
  obtain ⟨gok, seg⟩ := prom X.A.in1 rk I1.ok.frames
  have I2 : Inv X pins σ H1 s2 := I1.call' (ch := []) z8 (Un.kept z11) (I1.hok.kept z11) z9 fun b hb => (nomatch hb)
  refine wpAny_newObj_type (newEnv_comp (?_)) (Nat.zero_le sizeLine)
  obtain ⟨D, hD⟩ : ∃ D, D = s2.heap.objs.size := ⟨_, rfl⟩
  rw [← hD]
  obtain ⟨s3, hs3⟩ : ∃ t : Shared, t = { s2 with heap := s2.heap.push { cls := .type "list", data := .seq ([] : List Value).toArray } } := ⟨_, rfl⟩
  have pk : ∀ b o, s2.heap.get? b = some o → s3.heap.get? b = some o := fun b o e => by rw [hs3]; exact Heap.get?_push_of_some _ e
  have I3 : Inv X pins σ H1 s3 := by rw [hs3]; exact I2.kept fun b o e => Heap.get?_push_of_some _ e
  have n3 : s3.heap.objs.size = D + 1 := by rw [hs3, hD]; exact Heap.size_push ..
  have eD : s3.heap.get? D = some (lstObj #[] 0) := by rw [hs3, hD]; exact Heap.get?_push_size _ rfl
  have scs : sc.heap.objs.size ≤ L := z1
  have none1 : ∀ b, L ≤ b → H1 b = none := fun b hb => I1.hok.fresh (Nat.le_trans z1 hb)
  obtain ⟨fp, hfp⟩ : ∃ fp, fp = young L s3.heap.objs.size [a] := ⟨_, rfl⟩
  have mfp : ∀ b, b ∈ fp ↔ b < s3.heap.objs.size ∧ L ≤ b ∧ b ∉ [a] := fun b => by rw [hfp]; exact mem_young
  have f3 : ∀ b ∈ fp, FpOk X pins H1 b ∧ b < s3.heap.objs.size := fun b hb => by
    obtain ⟨y1, y2, y3⟩ := (mfp b).mp hb
    exact ⟨I1.fpOk (Nat.le_trans z1 y2) (none1 b y2), y1⟩
  have I4 := block_start I3 ok nd f3
  rw [← hs3]
  obtain ⟨v, hv⟩ : ∃ v, v = compEnvC scope (cellsFrom (s3.heap.objs.size + 1) scope.names (cloFrom X.env.cells scope.names [])) s3.heap.objs.size X.env := ⟨_, rfl⟩
  have vl : v.locals = s3.heap.objs.size := by rw [hv]; rfl
  obtain ⟨s4, hs4⟩ : ∃ t : Shared, t = { s3 with heap := pushCells (s3.heap.push { cls := .type "dict", data := .dict #[] }) scope.names } := ⟨_, rfl⟩
  have pk4 : ∀ b o, s3.heap.get? b = some o → s4.heap.get? b = some o := fun b o e => by rw [hs4]; exact pushCells_keeps _ _ _ _ (Heap.get?_push_of_some _ e)
  rw [← hv, ← hs4] at I4
  have pg := hg s3 H1 s3.heap.objs.size (cellsFrom (s3.heap.objs.size + 1) scope.names (cloFrom X.env.cells scope.names [])) fp
  have pt := ht s3 H1 s3.heap.objs.size (cellsFrom (s3.heap.objs.size + 1) scope.names (cloFrom X.env.cells scope.names [])) fp
  have pe := hel s3 H1 s3.heap.objs.size (cellsFrom (s3.heap.objs.size + 1) scope.names (cloFrom X.env.cells scope.names [])) fp
  rw [← hv] at pg pt pe
  obtain ⟨g, hg'⟩ : ∃ g : G, g = ⟨X.prog, X.w, X.K, X.mg, X.base, N, qual, scp, f, cd, X.A.in1, X.stack, L⟩ := ⟨_, rfl⟩
  have gL : g.L = L := by rw [hg']
  have gP : g.P = X.prog := by rw [hg']
  have gw : g.w = X.w := by rw [hg']
  have gA : g.A = X.A.in1 := by rw [hg']
  have gB : g.base = X.base := by rw [hg']
  have gO : g.outer = X.stack := by rw [hg']
  rw [← hg'] at seg gok
  have aD : a ≠ D := Nat.ne_of_lt (by rw [hD]; exact z3)
  have LD : L < D := by rw [hD]; exact Nat.lt_trans z2 z3
  have DC : D < v.locals := by rw [vl, n3]; exact Nat.lt_succ_self _
  have aC : a < v.locals := Nat.lt_trans (by rw [hD]; exact z3) DC
  have LC' : L < v.locals := Nat.lt_trans LD DC
  have nst : ∀ b, L ≤ b → b ∉ frs X.stack := fun b hb hm => by
    obtain ⟨_, ob, eb, _⟩ := I1.env0.funs.mem hm
    exact absurd (Nat.lt_of_lt_of_le (Heap.lt_size eb) (Nat.le_trans z1 hb)) (Nat.lt_irrefl _)
  have S : ∀ acc c, Safe g [a, D, v.locals] (X.blk s3 H1 scope v fp) [(D, lstObj acc c), (a, go)] := fun acc c => by
    refine ⟨gP.symm, gw.symm, gO.symm, fun b hb hn => ?_, .inr (by show v.locals ∈ _; simp), fun x d e => ?_, fun p hp => ?_⟩
    · by_cases hl : b < s3.heap.objs.size
      · refine .inl ((mfp b).mpr ⟨hl, by rw [← gL]; exact hb, fun hm => hn ?_⟩)
        rw [List.mem_singleton.mp hm]
        exact List.mem_cons_self
      · exact .inr (Nat.le_of_not_lt hl)
    · have e : v.cells.lookup x = some d := e
      have ec : v.cells = cloFrom X.env.cells scope.names [] := by rw [hv]; exact hoc _ _
      rw [ec] at e
      rcases clo_at _ _ _ _ fr e with z | ⟨y, z⟩
      · cases z
      · obtain ⟨_, ob, eb, _⟩ := I1.cell y d z
        exact .inl (by rw [gL]; exact Nat.lt_of_lt_of_le (Heap.lt_size eb) z1)
    · have hp : p ∈ ([] : List (Addr × Obj)) ++ [(D, lstObj acc c), (a, go)] := hp
      simp only [List.nil_append, List.mem_cons, List.not_mem_nil, or_false] at hp
      rcases hp with rfl | rfl
      · exact .inr (by simp)
      · exact .inr (by simp)
  have inD : ∀ acc c, (D, lstObj acc c) ∈ (X.blk s3 H1 scope v fp).pn ++ [(D, lstObj acc c), (a, go)] := fun acc c => by show _ ∈ ([] : List (Addr × Obj)) ++ _; simp
  have inA : ∀ acc c, (a, go) ∈ (X.blk s3 H1 scope v fp).pn ++ [(D, lstObj acc c), (a, go)] := fun acc c => by show _ ∈ ([] : List (Addr × Obj)) ++ _; simp
  have B : CO g [a, D, v.locals] (CIb X s3 H1 scope v fp (wipe σ (own.map (·.2))) D a go) := by
    refine ⟨fun ys s0 H0 s H ⟨hl, acc, c, r, J⟩ t => ⟨hl, acc, c, r, (S acc c).inv gok.fl J t⟩, fun ys s H ⟨hl, acc, c, r, J⟩ => wo_of J ⟨gP, gw, gB, gO⟩ fun b hb => ?_, fun ys s H ⟨hl, acc, c, r, J⟩ b hb => ?_, fun ys s H G ⟨hl, acc, c, r, J⟩ hb => ⟨hl, acc, c, r, inv_gens' J hb⟩⟩
    · rw [gL, gO]
      simp only [List.mem_cons, List.not_mem_nil, or_false] at hb
      rcases hb with rfl | rfl | rfl
      · obtain ⟨y1, y2, _, _, y5⟩ := J.pin _ (inA acc c)
        exact ⟨y2, Nat.ne_of_gt z2, nst _ (Nat.le_of_lt z2), fun o e => by rw [y1] at e; cases e; exact y5⟩
      · obtain ⟨y1, y2, _, _, y5⟩ := J.pin _ (inD acc c)
        exact ⟨y2, Nat.ne_of_gt LD, nst _ (Nat.le_of_lt LD), fun o e => by rw [y1] at e; cases e; exact y5⟩
      · obtain ⟨m, ⟨ob, es, ep, e1, e2, _⟩, _⟩ := J.loc
        exact ⟨J.free, Nat.ne_of_gt LC', nst _ (Nat.le_of_lt LC'), fun o e w hw => by
          have e1 : s.heap.get? v.locals = some ob := e1
          rw [e1] at e
          cases e
          rw [e2] at hw
          cases hw⟩
    · rw [gL]
      simp only [List.mem_cons, List.not_mem_nil, or_false] at hb
      rcases hb with rfl | rfl | rfl
      · exact ⟨Nat.ne_of_gt z2, _, (J.pin _ (inA acc c)).1⟩
      · exact ⟨Nat.ne_of_gt LD, _, (J.pin _ (inD acc c)).1⟩
      · obtain ⟨m, ⟨ob, es, ep, e1, e2, _⟩, _⟩ := J.loc
        exact ⟨Nat.ne_of_gt LC', ob, e1⟩
  have nD : ∀ acc c (v : Option Value), (lstObj acc c).data ≠ .cell v := fun acc c v z => by cases z
  have I5 : CIb X s3 H1 scope v fp (wipe σ (own.map (·.2))) D a go [] s4 H1 := by
    refine ⟨Nat.zero_le _, #[], 0, .nil, I4.pins_of fun p hp => ?_⟩
    simp only [List.mem_cons, List.not_mem_nil, or_false] at hp
    rcases hp with rfl | rfl
    · exact ⟨pk4 _ _ eD, none1 D (Nat.le_of_lt LD), Nat.ne_of_lt DC, nst D (Nat.le_of_lt LD), nD _ _⟩
    · exact ⟨pk4 _ _ (pk _ _ z4), none1 a (Nat.le_of_lt z2), Nat.ne_of_lt aC, nst a (Nat.le_of_lt z2), z6⟩
  have W0 : Waits g [a, D, v.locals] (CIb X s3 H1 scope v fp (wipe σ (own.map (·.2))) D a go) (cbLc gt tt te σ (own.map (·.2))) (fun ys H2 => ∀ D, H2 D = none → Q (.ref D) (upd H2 D (.lst ys))) (sizeLine + 1) (.fresh c) [(L, o)] (fun ys H' => ys = [] ∧ H' = H1) := by
    refine ⟨fun p hp => ?_, fun ys H' s' hk J as => ⟨sizeLine, rfl, rfl, ?_⟩⟩
    · rw [List.mem_singleton.mp hp]
      refine ⟨Nat.le_of_eq gL, fun hm => ?_, fun hm => ?_, nL⟩
      · simp only [List.mem_cons, List.not_mem_nil, or_false] at hm
        rcases hm with z | z | z
        · exact absurd z (Nat.ne_of_lt z2)
        · exact absurd z (Nat.ne_of_lt LD)
        · exact absurd z (Nat.ne_of_lt LC')
      · have := gok.fl L hm
        rw [gL] at this
        exact absurd this (Nat.lt_irrefl _)
    · obtain ⟨rfl, rfl⟩ := hk
      rw [gA, gP, gw]
      exact seg _ (List V) _ (cbLc gt tt te σ (own.map (·.2))) _ [] s' B J (as (L, o) (List.mem_singleton.mpr rfl)).1 hq
  show codeAny _ _ (.compStart (.ListComp elt [⟨tg, e, ifs, 0⟩] scope pos) 0 (.ref a) (.ref D) (compEnvC scope (cellsFrom (s3.heap.objs.size + 1) scope.names (cloFrom X.env.cells scope.names [])) s3.heap.objs.size X.env)) (Gx.compEnd (model X.prog X.w) X.A X.xe (EP X pins σ Q) (.ref D) (compEnvC scope (cellsFrom (s3.heap.objs.size + 1) scope.names (cloFrom X.env.cells scope.names [])) s3.heap.objs.size X.env)) _
  rw [← hv, ← hs4]
  have walk : codeAny (model X.prog X.w) X.A (.compLoop (.ListComp elt [⟨tg, e, ifs, 0⟩] scope pos) 0 (.ref a) (.ref D) v) (Gx.compEnd (model X.prog X.w) X.A X.xe (EP X pins σ Q) (.ref D) v) s4 := by
    refine compLoop_any (fun n t => ∃ ys H' gs q Kc, CIb X s3 H1 scope v fp (wipe σ (own.map (·.2))) D a go ys t H' ∧ t.gens[gi]? = some gs ∧ Waits g [a, D, v.locals] (CIb X s3 H1 scope v fp (wipe σ (own.map (·.2))) D a go) (cbLc gt tt te σ (own.map (·.2))) (fun ys H2 => ∀ D, H2 D = none → Q (.ref D) (upd H2 D (.lst ys))) n gs q Kc ∧ Kc ys H' ∧ Asleep g [a, D, v.locals] q H' t) ?_ (sizeLine + 1)
      ⟨[], H1, _, _, _, I5, by rw [hs4, hs3]; exact z7, W0, ⟨rfl, rfl⟩, fun p hp => by rw [List.mem_singleton.mp hp]; exact ⟨pk4 _ _ (pk _ _ z12), none1 L (Nat.le_refl _)⟩⟩
    rintro n t ⟨ys, H', gs, q, Kc, K0, hgs, W, hK, as⟩
    rw [← gP, ← gw]
    refine next_ok B gA (I3.ok.hd hcalm) (by have := hr.dp; omega) (fun ys s H ⟨_, acc, c, _, J⟩ => ⟨z5 _ (J.pin _ (inA acc c)).1, J.nolimit, J.bare⟩) (fun ys s H h' ⟨hl, acc, c, r, J⟩ k => ⟨hl, acc, c, r, Inv.kept J k⟩) K0 hgs W hK as (fun u t1 gs' x q' ys1 H2 K1 hsl hgs' rv ⟨hl, acc, cc, r, J1⟩ as1 hcb ⟨m, hnm, W1⟩ => ?_) fun t1 ys1 H2 ⟨hl, acc, cc, r, J1⟩ hf => ?_
    · rw [gP, gw]
      obtain ⟨ho, nm, qn, e1, e2, e3, e4⟩ := z5 _ (J1.pin _ (inA acc cc)).1
      refine go_of e1 e2 e3 (by decide) ?_
      have qs : ∀ p ∈ q', L ≤ p.1 ∧ p.1 ≠ a ∧ p.1 ≠ D ∧ p.1 ≠ v.locals ∧ ∀ v, p.2.data ≠ .cell v := fun p hp => by
        obtain ⟨y1, y2, y3, y4⟩ := W1.1 p hp
        rw [gL] at y1
        simp only [List.mem_cons, List.not_mem_nil, or_false, not_or] at y2
        exact ⟨y1, y2.1, y2.2.1, y2.2.2, y4⟩
      have J2 : Inv (X.blk s3 H1 scope v fp) ([(D, lstObj acc cc), (a, go)] ++ q') (wipe σ (own.map (·.2))) H2 t1 := Inv.more J1 fun p hp => by
        obtain ⟨y1, y2, y3, y4, y5⟩ := qs p hp
        obtain ⟨w1, w2⟩ := as1 p hp
        exact ⟨w1, w2, y4, nst _ y1, y5⟩
      refine wpAny_mono (under (pg.run _ (veiled t1) _ H2 x u _ (inv_gens' J2 (veiled_bare J2.bare)) rv hcb)) (fun _ t2 ⟨sl2, G2, ⟨σ3, H3, J3, hw, q3⟩, b2⟩ => ?_) fun _ _ z => z.2.elim fun _ y => y.1.elim
      have J3 := inv_gens J3 (b2 J3.bare)
      refine wpAny_mono (under (pt.run _ (veiled t2) σ3 H3 _ (inv_gens' J3 (veiled_bare J3.bare)) q3)) (fun b t3 ⟨sl3, G3, ⟨H4, J4, q4⟩, b3⟩ => ?_) fun _ _ z => z.2.elim fun _ y => y.1.elim
      have J4 := inv_gens J4 (b3 J4.bare)
      have again : ∀ {t' : Shared} {acc' : Array Value} {c' : Nat} {ys' : List V} {H5 : Hp}, ys'.length ≤ sizeLine → Vals ys' acc'.toList → Inv (X.blk s3 H1 scope v fp) ([(D, lstObj acc' c'), (a, go)] ++ q') σ3 H5 t' → t'.gens[gi]? = some gs' → K1 ys' H5 → ∃ m, m < n ∧ ∃ ys H' gs q Kc, CIb X s3 H1 scope v fp (wipe σ (own.map (·.2))) D a go ys t' H' ∧ t'.gens[gi]? = some gs ∧ Waits g [a, D, v.locals] (CIb X s3 H1 scope v fp (wipe σ (own.map (·.2))) D a go) (cbLc gt tt te σ (own.map (·.2))) (fun ys H2 => ∀ D, H2 D = none → Q (.ref D) (upd H2 D (.lst ys))) m gs q Kc ∧ Kc ys H' ∧ Asleep g [a, D, v.locals] q H' t' := fun {t' acc' c' ys' H5} hl' r' J5 hg5 k5 => by
        refine ⟨m, by omega, ys', H5, gs', q', K1, ⟨hl', acc', c', r', (Inv.less J5).weak (by rw [← hw, wipe_length]) fun j y e => ?_⟩, hg5, W1, k5, Inv.them J5⟩
        rw [← hw] at e
        exact (wipe_some e).1
      have g3 : t3.gens[gi]? = some gs' := sl3 gi gs' (sl2 gi gs' hgs' hsl) hsl
      cases b with
      | false =>
        rw [if_neg Bool.false_ne_true] at q4 ⊢
        exact again hl r J4 g3 q4
      | true =>
        rw [if_pos rfl] at q4 ⊢
        refine wpAny_mono (under (pe.run _ (veiled t3) σ3 H4 _ (inv_gens' J4 (veiled_bare J4.bare)) q4)) (fun y t4 ⟨sl4, G4, ⟨yv, H5, J5, ry, hlt, k5⟩, b4⟩ => ?_) fun _ _ z => z.2.elim fun _ y => y.1.elim
        have J5 := inv_gens J5 (b4 J5.bare)
        have pD := J5.pin (D, lstObj acc cc) (by show _ ∈ ([] : List (Addr × Obj)) ++ _; simp)
        have rl := r.length
        refine append_at (hsz := by have : acc.toList.length = acc.size := Array.length_toList; omega) pD.1 fun h' sb ho' => ?_
        have base : Inv (X.blk s3 H1 scope v fp) ([(a, go)] ++ q') σ3 H5 t4 := J5.pins_of fun p hp => J5.pin p (List.mem_append_right _ (by
          rcases List.mem_append.mp hp with z | z
          · rw [List.mem_singleton.mp z]; simp
          · exact List.mem_append_right _ z))
        have DJ : Inv (X.blk s3 H1 scope v fp) ([(a, go)] ++ q') σ3 H5 { t4 with heap := h' } := base.turned (it := D) (t' := t4.toks) (fun b o hb e => (sb.2 b hb).trans e) pD.2.1 (Nat.ne_of_lt DC) (.inl ((mfp D).mpr ⟨by rw [n3]; exact Nat.lt_succ_self _, Nat.le_of_lt LD, fun hm => aD (List.mem_singleton.mp hm).symm⟩)) (fun x c e z => by
            have := (S acc cc).cell x c e
            rcases this with y | y
            · rw [gL] at y; rw [z] at y; exact absurd y (Nat.not_lt_of_le (Nat.le_of_lt LD))
            · obtain ⟨w, ob, eb, db⟩ := J5.cell x c e
              rw [z, pD.1] at eb
              cases eb
              cases db) (fun p hp => by
            have hp : p ∈ ([] : List (Addr × Obj)) ++ ([(a, go)] ++ q') := hp
            rw [List.nil_append] at hp
            rcases List.mem_append.mp hp with z | z
            · rw [List.mem_singleton.mp z]; exact aD
            · exact (qs p z).2.2.1)
        refine again (acc' := acc.push y) (c' := cc + 1) (ys' := ys1 ++ [yv]) (by rw [List.length_append, List.length_singleton]; omega) (by rw [Array.toList_push]; exact r.append (.cons ry .nil)) (DJ.pins_of fun p hp => ?_) (sl4 gi gs' g3 hsl) k5
        rcases List.mem_append.mp hp with z | z
        · rcases List.mem_cons.mp z with z | z
          · rw [z]
            exact ⟨ho', pD.2.1, Nat.ne_of_lt DC, nst D (Nat.le_of_lt LD), nD _ _⟩
          · exact DJ.pin p (List.mem_append_right _ (List.mem_append_left _ z))
        · exact DJ.pin p (List.mem_append_right _ (List.mem_append_right _ z))
    · rw [gP, gw]
      obtain ⟨m, hn, _⟩ := J1.loc
      refine ⟨m, hn, fun k sb => ?_⟩
      have pD := J1.pin (D, lstObj acc cc) (inD acc cc)
      have os3 : s3.os = s2.os := by rw [hs3]
      have end1 : Inv X pins σ (upd H2 D (.lst ys1)) t1 := I2.drained (ex := fp) (Nat.le_of_eq hD.symm) hl pD.1 r (fun b hb => by
        obtain ⟨⟨_, y1, _, y3, y4, y5⟩, _⟩ := f3 b hb
        exact ⟨y3, y1, y4, y5⟩) (J1.os.trans os3) J1.bare ((Un.kept pk).trans J1.base) J1.hok pD.2.1
      obtain ⟨_, w1, _, w3, w4, w5⟩ := I3.fpOk (b := v.locals) (by rw [vl]; exact Nat.le_refl _) J1.free
      exact ⟨.ref D, upd H2 D (.lst ys1), end1.turned (t' := t1.toks) (fun b o hb e => (sb.2 b hb).trans e) ((upd_ne (Nat.ne_of_gt DC)).trans J1.free) w1 w3 w4 w5, rfl, hf D pD.2.1⟩
  exact codeAny_compStart_list walk (wpAny_pyIter_gen (z5 _ (pk4 _ _ (pk _ _ z4))) walk)
end
end Lv
set_option Elab.async false
set_option linter.all false
set_option maxRecDepth 100000
set_option maxHeartbeats 2000000
namespace Lv
open PySem PySem.Spec PyProof.Rows L2 GenW
structure LMet (P : Program) (w : World) (K : PySem.W.Frag) (mg : Str → Option Value) (base : Heap) (k : Nat) (C : Addr) (m : Str) (n : Nat) (sp : SpL) : Prop where
  ex : ∃ (f : Addr) (fd : FuncData) (ps : List Str), Cls K C ∧ Meth K C m f ∧ LFn P w K mg base k f fd ps sp ∧ Binds K fd ps [] ∧ ps.length = n
theorem lmet0 {P : Program} {w : World} {K : PySem.W.Frag} {mg : Str → Option Value} {base : Heap} {m qual : Str} {C : Addr} {st : Stmt} {f : Addr} {fd : FuncData} {N ps : List Str} {k n : Nat} {sp : SpL} (c : Cls K C) (me : Meth K C m f) (F : C8.Fun K m qual st f fd) (b : Binds K fd ps [])
    (S : GScope N ps (C8.fnScope st)) (hl : ps.length = n) (hc : ∀ n, cellsFrom n (C8.fnScope st).names [] = []) (hcn : ∀ y ∈ (C8.fnScope st).names, y.2 ≠ .cell)
    (hbody : ∀ (cdv : Value) (A : Around) (outer : List Env) (L : Addr) (Y : List Addr) (T : Type) (CI : T → Shared → Hp → Prop) (H : Hp) (vs : List V) (cb : CB T) (fin : T → Hp → Prop) (σc : T), Room k (A.deeper (envOfC qual (C8.fnScope st) L f cdv)) → sp T vs H cb fin σc →
      ∃ t, LSs ⟨P, w, K, mg, base, N, qual, C8.fnScope st, f, cdv, A, outer, L⟩ Y CI (C8.fnBody st) t ∧ t cb { nx := fun _ _ σ' H' => fin σ' H', rt := fun _ v σ' H' => v = .non ∧ fin σ' H' } 0 (start N vs) σc H) : LMet P w K mg base (k + 1) C m n sp := by
  obtain ⟨oc, od, dV, kV, doc, pm, an, cdv, ct, osl, rfl, lk, hcd⟩ := F.ex
  exact ⟨f, _, ps, c, me, lfn_of lk hcd S hc hcn (hbody cdv), b, hl⟩
section
variable {X : Cx} {k j n : Nat} {C : Addr} {m : Str} {sp : SpL} {pos pos' apos : Pos} {e o : Expr} {es : List Expr} {ta : TE} {t : TA} {pl : Sem Bool}
theorem plg_m (c : LMet X.prog X.w X.K X.mg X.base k C m n sp) (hr : Room j X.A) (hk : k + 1 ≤ j) (he : PE X o ta) (ha : PA X (e :: es) t)
    (hst : starEach (e :: es) X.env = (false, eval e X.env) :: starEach es X.env := by rfl) (hpl : (backTo pos' (starEach es X.env)).any (·.1) = false := by rfl)
    (ht : eval (.Call (.Attribute o m apos) (e :: es) [] pos') X.env = (do
      let ov ← eval o X.env
      standAt apos.atName
      let (f, first) ← holding [ov] (getMethod ov m pl)
      callWith pos' f first (backTo pos' (starEach (e :: es) X.env)) (backToKw pos' (keywordEach [] X.env))) := by rfl) : PLG X k (.Call (.Attribute o m apos) (e :: es) [] pos') (tMethL C m n sp [] ta t) := by
  obtain ⟨f, fd, ps, hc, hm, F, b, rfl⟩ := c.ex
  exact plg_meth (pl := pl) he hc hm F (hr.mono (by omega)) b .nil ha hst hpl ht
/-- [.. for x in o.m(..)] -/
theorem pe_lcMX {elt tg : Expr} {ifs : List Expr} {scope : Scope} {own : List (Str × Nat)} {gt : TG} {tt : TT} {te : TE} (c : LMet X.prog X.w X.K X.mg X.base k C m n sp) (hcalm : X.calm = true) (hr : Room j X.A) (hk : k + 1 ≤ j) (nd : X.N.Nodup) (he : PE X o ta) (ha : PA X (e :: es) t) (ok : BlkOk X.N X.env.scope scope own) (hoc : ∀ n acc, cellsFrom n scope.names acc = acc)
    (hg : ∀ s H C cl fp, PG (X.blk s H scope (compEnvC scope cl C X.env) fp) tg gt) (ht' : ∀ s H C cl fp, PTs (X.blk s H scope (compEnvC scope cl C X.env) fp) ifs tt) (hel : ∀ s H C cl fp, PE (X.blk s H scope (compEnvC scope cl C X.env) fp) elt te)
    (hst : starEach (e :: es) X.env = (false, eval e X.env) :: starEach es X.env := by rfl) (hpl : (backTo pos' (starEach es X.env)).any (·.1) = false := by rfl)
    (ht : eval (.Call (.Attribute o m apos) (e :: es) [] pos') X.env = (do
      let ov ← eval o X.env
      standAt apos.atName
      let (f, first) ← holding [ov] (getMethod ov m pl)
      callWith pos' f first (backTo pos' (starEach (e :: es) X.env)) (backToKw pos' (keywordEach [] X.env))) := by rfl)
    (fold : ∀ x, foldedSetIterable (.Call (.Attribute o m apos) (e :: es) [] pos') X.env x = pure x := by intro _; rfl) : PE X (.ListComp elt [⟨tg, .Call (.Attribute o m apos) (e :: es) [] pos', ifs, 0⟩] scope pos) (tLcG (tMethL C m n sp [] ta t) gt tt te (own.map (·.2))) :=
  pe_lcG hcalm (hr.mono hk) nd (plg_m (pl := pl) c hr hk he ha hst hpl ht) ok hoc hg ht' hel fold
end
end Lv
set_option Elab.async false
set_option linter.all false
set_option maxRecDepth 100000
set_option maxHeartbeats 2000000
namespace Ab
open PySem PySem.Spec PyProof.Rows L2 Lv
open Classical
noncomputable section
abbrev LKx (γ ρ : Type) := Nat → ASt → γ → Sto → ρ
/-- what follows a generator's statement -/
structure LKs (γ ρ : Type) where
  nx : LKx γ ρ
  bk : LKx γ ρ
  ct : LKx γ ρ
  rt : Nat → AV → γ → Sto → ρ
/-- the consumer: what it does with an item -/
structure LHd (γ ρ : Type) where
  cb : AV → γ → Sto → (γ → Sto → ρ) → ρ
  bad : ρ
abbrev AL := ∀ γ ρ : Type, LHd γ ρ → LKs γ ρ → LKx γ ρ
def aLP (f : AS) : AL := fun _ _ h k n σ c s => match f σ s with
  | .nx σ s => k.nx n σ c s
  | .bk σ s => k.bk n σ c s
  | .ct σ s => k.ct n σ c s
  | .rt v s => k.rt n v c s
  | _ => h.bad
def aLNil : AL := fun _ _ h k n σ c s => k.nx n σ c s
def aLSeq (f g : AL) : AL := fun γ ρ h k n σ c s => f γ ρ h { k with nx := g γ ρ h k } n σ c s
def aLYd (fe : AE) : AL := fun _ _ h k n σ c s => if n < sizeLine then (match fe σ s with | .ok x s1 => h.cb x c s1 fun c' s' => k.nx (n + 1) σ c' s' | _ => h.bad) else h.bad
def loopL (G : Sto → Prop) (g : AV → AS) (b : AL) : List AV → AL
  | [] => fun _ _ h k n σ c s => if G s then k.nx n σ c s else h.bad
  | x :: r => fun γ ρ h k n σ c s => if G s then (match g x σ s with | .nx σ' s' => b γ ρ h { nx := loopL G g b r γ ρ h k, ct := loopL G g b r γ ρ h k, bk := k.nx, rt := k.rt } n σ' c s' | _ => h.bad) else h.bad
def aLFor (fi : AI) (g : AV → AS) (b : AL) : AL := fun γ ρ h k n σ c s => match fi σ s with | .ok p s1 => loopL p.2 g b p.1 γ ρ h k n σ c s1 | _ => h.bad
/-- a generator def -/
abbrev FL := ∀ γ ρ : Type, LHd γ ρ → (γ → Sto → ρ) → List AV → γ → Sto → ρ
def aLDef (m : Nat) (f : AL) : FL := fun γ ρ h fin xs c s => f γ ρ h { nx := fun _ _ c s => fin c s, bk := fun _ _ _ _ => h.bad, ct := fun _ _ _ _ => h.bad, rt := fun _ v c s => if v = .non then fin c s else h.bad } 0 (xs.map some ++ List.replicate m none) c s
section
variable (W : Wl)
abbrev E0c : L2.St → XK := fun _ _ _ _ => False
/-- the consumer's reading follows -/
def CbOk {γ ρ C : Type} (R : Wd → γ → C → Prop) (Good : ρ → Prop) (cb : CB C) (h : LHd γ ρ) (w0 : Wd) : Prop := ∀ (w : Wd) (s : Sto) (x : AV) (v : V) (c : γ) (cc : C) (K : C → Hp → Prop) (kk : γ → Sto → ρ), Ext w0 w → Sim W w s → Rel W w x v → R w c cc →
  (∀ w' s' c' cc', Ext w w' → Sim W w' s' → R w' c' cc' → Good (kk c' s') → K cc' w'.H) → Good (h.cb x c s kk) → cb v cc w.H K
structure KOk {γ ρ C : Type} (R : Wd → γ → C → Prop) (Good : ρ → Prop) (D : LEnds C) (k : LKs γ ρ) (w0 : Wd) : Prop where
  nx : ∀ n w s σ σc c cc, Ext w0 w → Sim W w s → RSt W w σ σc → R w c cc → Good (k.nx n σ c s) → D.nx n σc cc w.H
  bk : ∀ n w s σ σc c cc, Ext w0 w → Sim W w s → RSt W w σ σc → R w c cc → Good (k.bk n σ c s) → D.bk n σc cc w.H
  ct : ∀ n w s σ σc c cc, Ext w0 w → Sim W w s → RSt W w σ σc → R w c cc → Good (k.ct n σ c s) → D.ct n σc cc w.H
  rt : ∀ n w s x v c cc, Ext w0 w → Sim W w s → Rel W w x v → R w c cc → Good (k.rt n x c s) → D.rt n v cc w.H
/-- places that stay related -/
def Mono {γ C : Type} (R : Wd → γ → C → Prop) : Prop := ∀ w w' c cc, Ext w w' → R w c cc → R w' c cc
/-- a reading of a generator's statement -/
def DL (t : ∀ C, TL C) (f : AL) : Prop := ∀ (γ ρ C : Type) (R : Wd → γ → C → Prop) (Good : ρ → Prop) (cb : CB C) (D : LEnds C) (h : LHd γ ρ) (k : LKs γ ρ) (w : Wd) (s : Sto) (σ : ASt) (σc : L2.St) (c : γ) (cc : C) (n : Nat),
  Mono R → ¬ Good h.bad → CbOk W R Good cb h w → KOk W R Good D k w → Sim W w s → RSt W w σ σc → R w c cc → Good (f γ ρ h k n σ c s) → t C cb D n σc cc w.H
/-- a generator def's promise -/
def spL (m : Nat) (F : FL) : SpL := fun C vs H cb fin cc => ∃ (γ ρ : Type) (R : Wd → γ → C → Prop) (Good : ρ → Prop) (h : LHd γ ρ) (kf : γ → Sto → ρ) (w : Wd) (s : Sto) (args : List AV) (c : γ), H = w.H ∧ Sim W w s ∧ RelL W w args vs ∧ args.length = m ∧ R w c cc ∧ Mono R ∧ ¬ Good h.bad ∧ CbOk W R Good cb h w ∧
  (∀ w' s' c' cc', Ext w w' → Sim W w' s' → R w' c' cc' → Good (kf c' s') → fin cc' w'.H) ∧ Good (F γ ρ h kf args c s)
end
section
variable {W : Wl}
theorem CbOk.mono {γ ρ C : Type} {R : Wd → γ → C → Prop} {Good : ρ → Prop} {cb : CB C} {h : LHd γ ρ} {w w' : Wd} (e : Ext w w') (o : CbOk W R Good cb h w) : CbOk W R Good cb h w' := fun w2 s x v c cc K kk e2 => o w2 s x v c cc K kk (e.trans e2)
theorem KOk.mono {γ ρ C : Type} {R : Wd → γ → C → Prop} {Good : ρ → Prop} {D : LEnds C} {k : LKs γ ρ} {w w' : Wd} (e : Ext w w') (o : KOk W R Good D k w) : KOk W R Good D k w' :=
  ⟨fun n w2 s σ σc c cc e2 => o.nx n w2 s σ σc c cc (e.trans e2), fun n w2 s σ σc c cc e2 => o.bk n w2 s σ σc c cc (e.trans e2), fun n w2 s σ σc c cc e2 => o.ct n w2 s σ σc c cc (e.trans e2), fun n w2 s x v c cc e2 => o.rt n w2 s x v c cc (e.trans e2)⟩
theorem DL.plain {t : TS} {f : AS} (d : DS W E0c t f) : DL W (fun _ => tLPlain t) (aLP f) := fun γ ρ C R Good cb D h k w s σ σc c cc n hm hb _ ko S Rs Rc g => by
  refine d w s σ σc (D.at n cc) S Rs ?_
  unfold aLP at g
  cases e : f σ s with
  | nx σ' s' => rw [e] at g; exact fun w' σc' e' S' R' => ko.nx n w' s' σ' σc' c cc e' S' R' (hm _ _ _ _ e' Rc) g
  | bk σ' s' => rw [e] at g; exact fun w' σc' e' S' R' => ko.bk n w' s' σ' σc' c cc e' S' R' (hm _ _ _ _ e' Rc) g
  | ct σ' s' => rw [e] at g; exact fun w' σc' e' S' R' => ko.ct n w' s' σ' σc' c cc e' S' R' (hm _ _ _ _ e' Rc) g
  | rt v s' => rw [e] at g; exact fun w' vc e' S' r' => ko.rt n w' s' v vc c cc e' S' r' (hm _ _ _ _ e' Rc) g
  | err => rw [e] at g; exact absurd g hb
  | stuck => rw [e] at g; exact absurd g hb
theorem DL.nil : DL W (fun _ => tLNil) aLNil := fun γ ρ C R Good cb D h k w s σ σc c cc n _ _ _ ko S Rs Rc g => ko.nx n w s σ σc c cc (.refl w) S Rs Rc g
theorem DL.seq {t u : ∀ C, TL C} {f g : AL} (a : DL W t f) (b : DL W u g) : DL W (fun C => tLThen (t C) (u C)) (aLSeq f g) := fun γ ρ C R Good cb D h k w s σ σc c cc n hm hb co ko S Rs Rc gd =>
  a γ ρ C R Good cb _ h { k with nx := g γ ρ h k } w s σ σc c cc n hm hb co ⟨fun n' w' s' σ' σc' c' cc' e' S' R' Rc' g' => b γ ρ C R Good cb D h k w' s' σ' σc' c' cc' n' hm hb (co.mono e') (ko.mono e') S' R' Rc' g', ko.bk, ko.ct, ko.rt⟩ S Rs Rc gd
theorem DL.yd {te : TE} {fe : AE} (d : DE W E0c te fe) : DL W (fun _ => tLYield te) (aLYd fe) := fun γ ρ C R Good cb D h k w s σ σc c cc n hm hb co ko S Rs Rc g => by
  unfold aLYd at g
  split at g
  · rename_i hn
    refine ⟨hn, d w s σ σc _ S Rs ?_⟩
    cases e : fe σ s with
    | ok x s1 =>
      rw [e] at g
      intro w1 v e1 S1 r1
      exact co w1 s1 x v c cc _ _ e1 S1 r1 (hm _ _ _ _ e1 Rc) (fun w' s' c' cc' e' S' Rc' g' => ko.nx (n + 1) w' s' σ σc c' cc' (e1.trans e') S' (Rs.mono (e1.trans e')) Rc' g') g
    | err => rw [e] at g; exact absurd g hb
    | stuck => rw [e] at g; exact absurd g hb
  · exact absurd g hb
/-- a for over an iterator, in a generator -/
theorem lfor_it {C : Type} {J : It} {n : Nat} {G : Hp → Prop} {Y : Nat → Hp → V → Hp → Prop} (w : Walk J n G Y) {g : TG} {tb : TL C} {cb : CB C} {D : LEnds C} {k : Nat} {σ : L2.St} {cc : C} {H : Hp} (Pv : Nat → Nat → L2.St → C → Hp → Prop) (h0 : Pv 0 k σ cc H) (hG : ∀ i k σ cc H, i ≤ n → Pv i k σ cc H → G H)
    (hs : ∀ i x k σ cc H H', i < n → Pv i k σ cc H → Y i H x H' → g x σ H' fun σ2 H2 => tb cb { D with nx := Pv (i + 1), ct := Pv (i + 1), bk := D.nx } k σ2 cc H2) (hd : ∀ k σ cc H, Pv n k σ cc H → D.nx k σ cc H) :
    ∃ W : Nat → Nat → Nat → L2.St → C → Hp → Prop, (∃ m, W 0 m k σ cc H) ∧ ∀ i m k σ cc H, W i m k σ cc H →
      (J.stop i H ∧ D.nx k σ cc H) ∨ (J.go i H ∧ ∃ N : Nat → L2.St → C → Hp → Prop, (∀ k' σ' cc' H', N k' σ' cc' H' → ∃ m', m' < m ∧ W (i + 1) m' k' σ' cc' H') ∧ ∀ x H', J.yld i H x H' → g x σ H' fun σ2 H2 => tb cb { D with nx := N, ct := N, bk := D.nx } k σ2 cc H2) := by
  refine ⟨fun i m k σ cc H => m = n - i ∧ i ≤ n ∧ Pv i k σ cc H, ⟨n, by simp, Nat.zero_le _, h0⟩, ?_⟩
  rintro i m k σ cc H ⟨rfl, hi, p⟩
  have q := hG i k σ cc H hi p
  by_cases hlt : i < n
  · exact .inr ⟨w.goes i H hlt q, Pv (i + 1), fun k' σ' cc' H' p' => ⟨n - (i + 1), by omega, rfl, hlt, p'⟩, fun x H' y => hs i x k σ cc H H' hlt p (w.yields i H x H' hlt q y)⟩
  · have e : i = n := by omega
    subst e
    exact .inl ⟨w.stops H q, hd k σ cc H p⟩
theorem DL.for {wi : TI} {fi : AI} {tg : TG} {g : AV → AS} {t : ∀ C, TL C} {f : AL} (hi : DI W E0c wi fi) (hg : DG W tg g) (hn : Goes g) (hb : DL W t f) : DL W (fun C => tLFor wi tg (t C)) (aLFor fi g f) := fun γ ρ C R Good cb D h k w s σ σc c cc n hm hbad co ko S Rs Rc gd => by
  refine hi w s σ σc _ S Rs ?_
  unfold aLFor at gd
  cases e : fi σ s with
  | err => rw [e] at gd; exact absurd gd hbad
  | stuck => rw [e] at gd; exact absurd gd hbad
  | ok p s1 =>
    rw [e] at gd
    obtain ⟨items, G⟩ := p
    intro w1 J e1 S1 it
    obtain ⟨nn, GC, Y, wk, hn', hG, hY⟩ := it
    simp only at hn' hG hY gd
    refine lfor_it wk (fun i kk σc cc H => ∃ w' s' σ' c', H = w'.H ∧ Ext w1 w' ∧ Sim W w' s' ∧ RSt W w' σ' σc ∧ R w' c' cc ∧ Good (loopL G g f (items.drop i) γ ρ h k kk σ' c' s')) ⟨w1, s1, σ, c, rfl, .refl w1, S1, Rs.mono e1, hm _ _ _ _ e1 Rc, by rw [List.drop_zero]; exact gd⟩ ?_ ?_ ?_
    · rintro i kk σc' cc' H hi ⟨w', s', σ', c', rfl, e', S', R', Rc', h'⟩
      refine hG w' s' e' S' (Classical.byContradiction fun ng => ?_)
      cases hd : items.drop i with
      | nil => rw [hd] at h'; unfold loopL at h'; rw [if_neg ng] at h'; exact hbad h'
      | cons x r => rw [hd] at h'; unfold loopL at h'; rw [if_neg ng] at h'; exact hbad h'
    · rintro i x kk σc' cc' H H' hi ⟨w', s', σ', c', rfl, e', S', R', Rc', h'⟩ hy
      have hg' : G s' := Classical.byContradiction fun ng => by
        cases hd : items.drop i with
        | nil => rw [hd] at h'; unfold loopL at h'; rw [if_neg ng] at h'; exact hbad h'
        | cons x r => rw [hd] at h'; unfold loopL at h'; rw [if_neg ng] at h'; exact hbad h'
      obtain ⟨y, w2, q1, rfl, e2, S2, r2⟩ := hY w' s' i x H' e' S' hg' hi hy
      have hd : items.drop i = y :: items.drop (i + 1) := by
        obtain ⟨hlt, q⟩ := List.getElem?_eq_some_iff.mp q1
        rw [List.drop_eq_getElem_cons hlt, q]
      rw [hd] at h'
      unfold loopL at h'
      rw [if_pos hg'] at h'
      have R2 := R'.mono e2
      refine hg w2 s' σ' σc' y x _ S2 R2 r2 ?_
      rcases hn y σ' s' with ⟨σ3, s3, e3⟩ | e3
      · rw [e3] at h' ⊢
        intro w3 σc3 e4 S3 R3
        have ex := (e'.trans e2).trans e4
        exact hb γ ρ C R Good cb _ h { nx := loopL G g f (items.drop (i + 1)) γ ρ h k, ct := loopL G g f (items.drop (i + 1)) γ ρ h k, bk := k.nx, rt := k.rt } w3 s3 σ3 σc3 c' cc' kk hm hbad (co.mono (e1.trans ex)) ⟨fun n' w4 s4 σ4 σc4 c4 cc4 e5 S4 R4 Rc4 g4 => ⟨w4, s4, σ4, c4, rfl, ex.trans e5, S4, R4, Rc4, g4⟩, fun n' w4 s4 σ4 σc4 c4 cc4 e5 S4 R4 Rc4 g4 => ko.nx n' w4 s4 σ4 σc4 c4 cc4 ((e1.trans ex).trans e5) S4 R4 Rc4 g4,
          fun n' w4 s4 σ4 σc4 c4 cc4 e5 S4 R4 Rc4 g4 => ⟨w4, s4, σ4, c4, rfl, ex.trans e5, S4, R4, Rc4, g4⟩, fun n' w4 s4 x4 v4 c4 cc4 e5 S4 r4 Rc4 g4 => ko.rt n' w4 s4 x4 v4 c4 cc4 ((e1.trans ex).trans e5) S4 r4 Rc4 g4⟩ S3 R3 (hm _ _ _ _ (e2.trans e4) Rc') h'
      · rw [e3] at h'
        exact absurd h' hbad
    · rintro kk σc' cc' H ⟨w', s', σ', c', rfl, e', S', R', Rc', h'⟩
      rw [hn', List.drop_length] at h'
      unfold loopL at h'
      split at h'
      · exact ko.nx kk w' s' σ' σc' c' cc' (e1.trans e') S' R' Rc' h'
      · exact absurd h' hbad
/-- the loop's body, its end given to what follows -/
def SRes.cps (r : SRes) (kk : ASt → Sto → SRes) : SRes := match r with
  | .nx σ s => kk σ s
  | .ct σ s => kk σ s
  | .bk σ s => .nx σ s
  | .rt v s => .rt v s
  | .err c ns vs σ s => .stuck
  | .stuck => .stuck
/-- the arguments of a method of a class, itself ahead -/
def aMArgs (c : String) (m : Str) (n : Nat) (dvs : List AV) (fa : AE) (fr : AA) : AA := fun σ s => (fa σ s).bind fun x s1 => if clsIs s1 x c m = true then (fr σ s1).bind fun xs s2 => if (x :: (xs ++ dvs)).length = n then .ok (x :: (xs ++ dvs)) s2 else .stuck else .stuck
def hLc (g : AV → AS) (ft : AT) (fe : AE) (σ : ASt) (vs : List Nat) : LHd (List AV) (Res AV) := ⟨fun x ys s kk => match g x (wipeA σ vs) s with
  | .nx σ2 s2 => (match ft σ2 s2 with
    | .ok true s3 => (match fe σ2 s3 with
      | .ok y s4 => if ys.length < sizeLine then kk (ys ++ [y]) s4 else .stuck
      | _ => .stuck)
    | .ok false s3 => kk ys s3
    | _ => .stuck)
  | _ => .stuck, .stuck⟩
def aLcG (F : FL) (fr : AA) (g : AV → AS) (ft : AT) (fe : AE) (vs : List Nat) : AE := fun σ s => (fr σ s).bind fun xs s1 => F (List AV) (Res AV) (hLc g ft fe σ vs) (fun ys s => newL ys s) xs [] s1
theorem cbLc_ok {tg : TG} {g : AV → AS} {tt : TT} {ft : AT} {te : TE} {fe : AE} {vs : List Nat} {σ : ASt} {σc : L2.St} {P : AV → Sto → Prop} {Rr : String → List Str → List AV → Sto → Prop} {w0 : Wd} (R0 : RSt W.toWc w0 σ σc) (hg : DG W tg g) (hn : Goes g) (hw : WT tg vs) (ht : DT W E0c tt ft) (he : DE W E0c te fe) :
    CbOk W (fun w ys zs => RelL W.toWc w ys zs) (fun r : Res AV => r.Post P Rr) (cbLc tg tt te σc vs) (hLc g ft fe σ vs) w0 := fun w s x v ys zs K kk e S r R hK gd => by
  have Rw : RSt W.toWc w (wipeA σ vs) (wipe σc vs) := (R0.mono e).wipe vs
  refine hw v (wipe σc vs) w.H _ _ (fun σ2 H2 ew q => ⟨by rw [ew, wipe_wipe], q⟩) (hg w s (wipeA σ vs) (wipe σc vs) x v _ S Rw r ?_)
  have gd : ((hLc g ft fe σ vs).cb x ys s kk).Post P Rr := gd
  unfold hLc at gd
  simp only at gd
  rcases hn x (wipeA σ vs) s with ⟨σ1, s1, e1⟩ | e1
  · rw [e1] at gd ⊢
    simp only at gd
    intro w1 σc1 x1 S1 R1
    refine ht w1 s1 σ1 σc1 _ S1 R1 ?_
    cases et : ft σ1 s1 with
    | err => rw [et] at gd; exact (show False from gd).elim
    | stuck => rw [et] at gd; exact (show False from gd).elim
    | ok bb s2 =>
      rw [et] at gd
      intro w2 x2 S2
      cases bb with
      | false => exact hK w2 s2 ys zs (x1.trans x2) S2 (R.mono (x1.trans x2)) gd
      | true =>
        refine he w2 s2 σ1 σc1 _ S2 (R1.mono x2) ?_
        simp only at gd
        cases ee : fe σ1 s2 with
        | err => rw [ee] at gd; exact (show False from gd).elim
        | stuck => rw [ee] at gd; exact (show False from gd).elim
        | ok y s3 =>
          rw [ee] at gd
          simp only at gd
          intro w3 yc x3 S3 r3
          have Rz := R.mono ((x1.trans x2).trans x3)
          split at gd
          · rename_i hl
            exact ⟨by rw [← Rz.length]; exact hl, hK w3 s3 (ys ++ [y]) (zs ++ [yc]) ((x1.trans x2).trans x3) S3 (Rz.append (.cons r3 .nil)) gd⟩
          · exact (show False from gd).elim
  · rw [e1] at gd
    exact (show False from gd).elim
theorem DE.lcM {E : L2.St → XK} {F : FL} {c : String} {m : Str} {n : Nat} {dvs : List AV} {dcs : List V} {ta : TE} {fa : AE} {tr : TA} {fr : AA} {tg : TG} {g : AV → AS} {tt : TT} {ft : AT} {te : TE} {fe : AE} {vs : List Nat} (hd : ∀ w, RelL W.toWc w dvs dcs) (ha : DE W E ta fa) (hr : DA W E tr fr) (hg : DG W tg g) (hn : Goes g) (hw : WT tg vs) (ht : DT W E0c tt ft) (he : DE W E0c te fe) :
    DE W E (tLcG (tMethL (W.κ c) m n (spL W n F) dcs ta tr) tg tt te vs) (aLcG F (aMArgs c m n dvs fa fr) g ft fe vs) := fun w s σ σc Q S R h => by
  unfold aLcG at h
  have h := post_bind_ok h
  refine ha w s σ σc _ S R ((post_bind_ok h).mono (fun x s1 h1 w1 v e1 S1 r1 => ?_) fun _ _ _ _ z => z)
  split at h1
  · rename_i hcl
    obtain ⟨a, dx, gs, rfl, k1, k2⟩ := cls_is S1 r1 hcl
    refine ⟨a, dx, gs, rfl, k1, k2, hr w1 s1 σ σc _ S1 (R.mono e1) ((post_bind_ok h1).mono (fun xs s2 h2 w2 vs e2 S2 r2 => ?_) fun _ _ _ _ z => z.mono e1)⟩
    split at h2
    · rename_i hl
      have e12 := e1.trans e2
      have R2 := R.mono e12
      have rl : RelL W.toWc w2 (x :: (xs ++ dvs)) (.ref a :: (vs ++ dcs)) := .cons (r1.mono e2) (r2.append (hd w2))
      refine ⟨by rw [← rl.length]; exact hl, List AV, Res AV, fun w ys zs => RelL W.toWc w ys zs, fun r => r.Post (OkP W w2 Q) (ErrP W w2 (E σc)), hLc g ft fe σ _, fun ys s => newL ys s, w2, s2, _, [], rfl, S2, rl, hl, .nil, fun _ _ _ _ e r => r.mono e, fun z => z, cbLc_ok R2 hg hn hw ht he, fun w' s' c' cc' e' S' R' g' => newL_ok S' R' (OkP.mono e' g'), ?_⟩
      exact post_mono e12 h2
    · exact (show False from h2).elim
  · exact (show False from h1).elim
theorem DL.dfn {t : ∀ C, TL C} {f : AL} {k n : Nat} {N : List Str} {C : Type} {H : Hp} {vs : List V} {cb : CB C} {fin : C → Hp → Prop} {cc : C} (h : spL W n (aLDef k f) C vs H cb fin cc) (hk : n + k = N.length) (hs : DL W t f) :
    t C cb { nx := fun _ _ σ' H' => fin σ' H', rt := fun _ v σ' H' => v = .non ∧ fin σ' H' } 0 (L2.start N vs) cc H := by
  obtain ⟨γ, ρ, R, Good, hd, kf, w, s, args, c, rfl, S, rl, hn, Rc, hm, hb, co, hf, gd⟩ := h
  have hv := rl.length
  have e : L2.start N vs = vs.map some ++ List.replicate k none := by
    unfold L2.start
    rw [show N.length - vs.length = k from by omega]
  rw [e]
  exact hs γ ρ C R Good cb _ hd _ w s _ _ c cc 0 hm hb co ⟨fun n' w' s' σ' σc' c' cc' e' S' R' Rc' g' => hf w' s' c' cc' e' S' Rc' g', fun n' w' s' σ' σc' c' cc' e' S' R' Rc' g' => (hb g').elim, fun n' w' s' σ' σc' c' cc' e' S' R' Rc' g' => (hb g').elim,
    fun n' w' s' x v c' cc' e' S' r' Rc' g' => by
      dsimp only at g'
      split at g'
      · rename_i hx
        subst hx
        cases r'
        exact ⟨rfl, hf w' s' c' cc' e' S' Rc' g'⟩
      · exact (hb g').elim⟩ S (RSt.start rl) Rc gd
end
end
end Ab
set_option Elab.async false
set_option linter.all false
set_option maxRecDepth 100000
set_option maxHeartbeats 4000000
set_option exponentiation.threshold 3000
namespace Pf
open PySem PySem.Spec PyProof.Rows L2 Ab
noncomputable section
def B_is_integer : AS := (aRet (aAndV (aCB (gIsi (kitB "int")) (aCons (aVar 0) (aCons (aC (.ty "int")) aNil))) (aNotV (aCB (gIsi (kitB "bool")) (aCons (aVar 0) (aCons (aC (.ty "bool")) aNil))))))
def F_is_integer : List AV → Sto → Res AV := gcF (aDef 0 B_is_integer)
def B_s2_joined : AS := (aRet (aTup (aCons (aOp gAnd (aOp gMul (aOp gIx (aVar 0) (aC (.int 0))) (aOp gIx (aVar 1) (aC (.int 0)))) (aOp gMinus (aC (.int 281474976710656)) (aC (.int 1)))) (aCons (aOp gAnd (aOp gAdd (aOp gMul (aOp gIx (aVar 0) (aC (.int 1))) (aOp gIx (aVar 1) (aC (.int 0)))) (aOp gIx (aVar 1) (aC (.int 1)))) (aOp gMinus (aC (.int 281474976710656)) (aC (.int 1)))) aNil))))
def F_s2_joined : List AV → Sto → Res AV := gcF (aDef 0 B_s2_joined)
def B_s2_mapped : AS := (aRet (aOp gAnd (aOp gAdd (aOp gMul (aOp gIx (aVar 0) (aC (.int 0))) (aVar 1)) (aOp gIx (aVar 0) (aC (.int 1)))) (aOp gMinus (aC (.int 281474976710656)) (aC (.int 1)))))
def F_s2_mapped : List AV → Sto → Res AV := gcF (aDef 0 B_s2_mapped)
def B_Linear_next_word : AS := (aSeq (aSFld ["Linear"] "s2_x" (aVar 0) (aOp gAnd (aOp gAdd (aOp gMul (aC (.int 205891132094649)) (aFld ["Linear"] "s2_x" (aVar 0))) (aC (.int 11))) (aOp gMinus (aC (.int 281474976710656)) (aC (.int 1)))))
  (aRet (aOp gFdiv (aFld ["Linear"] "s2_x" (aVar 0)) (aC (.int 65536)))))
def F_Linear_next_word : List AV → Sto → Res AV := gcF (aDef 0 B_Linear_next_word)
def B_Linear_state : AS := (aRet (aTup (aCons (aFld ["Linear"] "s2_x" (aVar 0)) aNil)))
def F_Linear_state : List AV → Sto → Res AV := gcF (aDef 0 B_Linear_state)
def B__law_begun : AS := (aSeq (aAsg (aOp gAdd (aC (.int 15485863)) (aOp gMul (aC (.int 37)) (aCB gLen (aCons (aVar 0) aNil)))) (agName 1))
  (aSeq (aFor (aEnumU (aCons (aVar 0) aNil)) (agTup 2 (agCons (agName 2) (agCons (agName 3) agNil))) (aAsg (aOp gMod (aOp gAdd (aOp gAdd (aOp gMul (aVar 1) (aC (.int 998244353))) (aVar 3)) (aOp gMul (aC (.int 104723)) (aVar 2))) (aC (.int 2305843009213693951))) (agName 1)))
  (aRet (aDisp [((aC (.str "run")), (aVar 1)), ((aC (.str "great")), (aLc (aIter (aVar 0)) (agName 3) (aTest (aOp gGe (aVar 3) (aOp gPow (aC (.int 10)) (aC (.int 18))))) (aVar 3) [3])), ((aC (.str "turn")), (aC (.int 0)))]))))
def F__law_begun : List AV → Sto → Res AV := gcF (aDef 3 B__law_begun)
def B__law_next : AS := (aSeq (aAsg (aTup (aCons (aOp gAdd (aOp gDGet (aVar 0) (aC (.str "turn"))) (aC (.int 1))) (aCons (aOp gDGet (aVar 0) (aC (.str "great"))) aNil))) (agTup 2 (agCons (agSub setD (aVar 0) (aC (.str "turn"))) (agCons (agName 2) agNil))))
  (aSeq (aAsg (aOp gMod (aOp gDGet (aVar 0) (aC (.str "turn"))) (aCB gMax2 (aCons (aC (.int 1)) (aCons (aCB gLen (aCons (aVar 2) aNil)) aNil)))) (agName 3))
  (aSeq (aIfS (gcT (aAnd (aTest (aOp gNe (aVar 2) (aLst aNil))) (aTest (aOp gGt (aOp gIx (aVar 2) (aVar 3)) (aC (.int 0)))))) (aSeq (aAsg (aOp gMod (aOp gIx (aVar 2) (aVar 3)) (aVar 1)) (agName 4))
  (aSeq (aAsg (aOp gFdiv (aOp gIx (aVar 2) (aVar 3)) (aVar 1)) (agSub setL (aVar 2) (aVar 3)))
  (aRet (aVar 4)))) aNext)
  (aSeq (aAsg (aOp gAdd (aOp gAdd (aOp gMul (aOp gDGet (aVar 0) (aC (.str "run"))) (aC (.int 6364136223846793))) (aOp gMul (aC (.int 1442695040888963)) (aOp gDGet (aVar 0) (aC (.str "turn"))))) (aC (.int 11))) (agName 5))
  (aSeq (aDPut (aVar 0) (aC (.str "run")) (aOp gMod (aVar 5) (aC (.int 2305843009213693951))))
  (aRet (aOp gMod (aOp gFdiv (aOp gDGet (aVar 0) (aC (.str "run"))) (aC (.int 32749))) (aVar 1))))))))
def F__law_next : List AV → Sto → Res AV := gcF (aDef 4 B__law_next)
def B__law_power : AS := (aRet (aOp gShl (aC (.int 1)) (aVar 0)))
def F__law_power : List AV → Sto → Res AV := gcF (aDef 0 B__law_power)
def B_s2_is_number : AS := (aRet (aAndV (aCall 1 F_is_integer [] (aCons (aVar 0) aNil)) (aChain gLe gLt (aC (.int 0)) (aVar 0) (aC (.int 281474976710656)))))
def F_s2_is_number : List AV → Sto → Res AV := gcF (aDef 0 B_s2_is_number)
def B_s2_step_map : AS := (aSeq (aPar 1 2 (aCons (aTup (aCons (aC (.int 1)) (aCons (aC (.int 0)) aNil))) (aCons (aTup (aCons (aC (.int 205891132094649)) (aCons (aC (.int 11)) aNil))) aNil)))
  (aSeq (aAsg (aOp gAnd (aVar 0) (aOp gMinus (aC (.int 281474976710656)) (aC (.int 1)))) (agName 0))
  (aSeq (aWhile (aTest (aOp gGt (aVar 0) (aC (.int 0)))) (aSeq (aIfS (aTest (aOp gEq (aOp gAnd (aVar 0) (aC (.int 1))) (aC (.int 1)))) (aAsg (aCall 2 F_s2_joined [] (aCons (aVar 1) (aCons (aVar 2) aNil))) (agName 1)) aNext)
  (aSeq (aAsg (aCall 2 F_s2_joined [] (aCons (aVar 2) (aCons (aVar 2) aNil))) (agName 2))
  (aAsg (aOp gFdiv (aVar 0) (aC (.int 2))) (agName 0)))))
  (aRet (aVar 1)))))
def F_s2_step_map : List AV → Sto → Res AV := gcF (aDef 2 B_s2_step_map)
def B__law_x : AS := (aSeq (aAsg (aCall 2 F__law_next [] (aCons (aVar 0) (aCons (aC (.int 281474976710656)) aNil))) (agName 1))
  (aSeq (aAsg (aLst (aCons (aC (.int 0)) (aCons (aC (.int 1)) (aCons (aC (.int 65535)) (aCons (aC (.int 65536)) (aCons (aC (.int 281474976710655)) (aCons (aC (.int 140737488355328)) (aCons (aOp gMinus (aVar 1) (aOp gMod (aVar 1) (aC (.int 65536)))) (aCons (aVar 1) aNil))))))))) (agName 2))
  (aRet (aOp gIx (aVar 2) (aOp gIx (aLst (aCons (aC (.int 0)) (aCons (aC (.int 1)) (aCons (aC (.int 2)) (aCons (aC (.int 3)) (aCons (aC (.int 4)) (aCons (aC (.int 5)) (aCons (aC (.int 6)) (aCons (aC (.int 7)) (aCons (aC (.int 7)) (aCons (aC (.int 7)) (aCons (aC (.int 7)) (aCons (aC (.int 7)) aNil))))))))))))) (aCall 2 F__law_next [] (aCons (aVar 0) (aCons (aC (.int 12)) aNil))))))))
def F__law_x : List AV → Sto → Res AV := gcF (aDef 2 B__law_x)
def B__law_steps : AS := (aSeq (aAsg (aCall 2 F__law_next [] (aCons (aVar 0) (aCons (aC (.int 18446744073709551617)) aNil))) (agName 1))
  (aSeq (aAsg (aLst (aCons (aC (.int 0)) (aCons (aC (.int 1)) (aCons (aC (.int 2)) (aCons (aC (.int 281474976710655)) (aCons (aC (.int 281474976710656)) (aCons (aC (.int 281474976710657)) (aCons (aC (.int 18446744073709551616)) (aCons (aVar 1) aNil))))))))) (agName 2))
  (aRet (aOp gIx (aVar 2) (aOp gIx (aLst (aCons (aC (.int 0)) (aCons (aC (.int 1)) (aCons (aC (.int 2)) (aCons (aC (.int 3)) (aCons (aC (.int 4)) (aCons (aC (.int 5)) (aCons (aC (.int 6)) (aCons (aC (.int 7)) (aCons (aC (.int 7)) (aCons (aC (.int 7)) (aCons (aC (.int 7)) (aCons (aC (.int 7)) aNil))))))))))))) (aCall 2 F__law_next [] (aCons (aVar 0) (aCons (aC (.int 12)) aNil))))))))
def F__law_steps : List AV → Sto → Res AV := gcF (aDef 2 B__law_steps)
def B_need_steps : AS := (aIfS (gcT (aOr (aNot (aTest (aCall 1 F_is_integer [] (aCons (aVar 0) aNil)))) (aNot (aTest (aChain gLe gLe (aC (.int 0)) (aVar 0) (aC (.int 18446744073709551616))))))) (aRaise "BadSteps" "given" (aCons (aVar 0) aNil)) aNext)
def F_need_steps : List AV → Sto → Res AV := gcF (aDef 0 B_need_steps)
def B_need_many : AS := (aIfS (gcT (aOr (aNot (aTest (aCall 1 F_is_integer [] (aCons (aVar 0) aNil)))) (aNot (aTest (aChain gLe gLe (aC (.int 0)) (aVar 0) (aC (.int 1000000))))))) (aRaise "BadSteps" "given" (aCons (aVar 0) aNil)) aNext)
def F_need_many : List AV → Sto → Res AV := gcF (aDef 0 B_need_many)
def B_s2_need_start : AS := (aIfS (gcT (aNot (aTest (aCall 1 F_s2_is_number [] (aCons (aVar 0) aNil))))) (aRaise "BadState" "given" (aCons (aVar 0) aNil)) aNext)
def F_s2_need_start : List AV → Sto → Res AV := gcF (aDef 0 B_s2_need_start)
def B_s2_moved : AS := (aRet (aCall 2 F_s2_mapped [] (aCons (aCall 1 F_s2_step_map [] (aCons (aVar 1) aNil)) (aCons (aVar 0) aNil))))
def F_s2_moved : List AV → Sto → Res AV := gcF (aDef 0 B_s2_moved)
def B_digit_period : AS := (aSeq (aIfS (gcT (aOr (aNot (aTest (aCall 1 F_is_integer [] (aCons (aVar 0) aNil)))) (aNot (aTest (aChain gLe gLt (aC (.int 0)) (aVar 0) (aC (.int 32))))))) (aRaise "BadNumber" "given" (aCons (aVar 0) aNil)) aNext)
  (aRet (aOp gShl (aC (.int 1)) (aOp gAdd (aC (.int 17)) (aVar 0)))))
def F_digit_period : List AV → Sto → Res AV := gcF (aDef 0 B_digit_period)
def B_Linear___init__ : AS := (aSeq (aDrop (aCall 1 F_s2_need_start [] (aCons (aVar 1) aNil)))
  (aSFld ["Linear"] "s2_x" (aVar 0) (aVar 1)))
def F_Linear___init__ : List AV → Sto → Res AV := gcF (aDef 0 B_Linear___init__)
def BL_Linear_words : AL := (aLSeq (aLP (aDrop (aCall 1 F_need_many [] (aCons (aVar 1) aNil))))
  (aLSeq (aLFor (aRng1 (aCons (aVar 1) aNil)) (agName 2) (aLSeq (aLYd (aMeth "Linear" "next_word" 1 F_Linear_next_word [] (aVar 0) aNil))
  aLNil))
  aLNil))
def FL_Linear_words : FL := aLDef 1 BL_Linear_words
def B_Linear_ahead : AS := (aSeq (aDrop (aCall 1 F_need_steps [] (aCons (aVar 1) aNil)))
  (aRet (aMake "Linear" 2 F_Linear___init__ [] (aCons (aCall 2 F_s2_moved [] (aCons (aFld ["Linear"] "s2_x" (aVar 0)) (aCons (aVar 1) aNil))) aNil))))
def F_Linear_ahead : List AV → Sto → Res AV := gcF (aDef 0 B_Linear_ahead)
def B_Linear_behind : AS := (aSeq (aDrop (aCall 1 F_need_steps [] (aCons (aVar 1) aNil)))
  (aRet (aMake "Linear" 2 F_Linear___init__ [] (aCons (aCall 2 F_s2_moved [] (aCons (aFld ["Linear"] "s2_x" (aVar 0)) (aCons (aOp gMinus (aC (.int 0)) (aVar 1)) aNil))) aNil))))
def F_Linear_behind : List AV → Sto → Res AV := gcF (aDef 0 B_Linear_behind)
def B_s2_need_linear : AS := (aIfS (aNot (aTest (aCB (gIsi (kitB "Linear")) (aCons (aVar 0) (aCons (aC (.cls "Linear")) aNil))))) (aRaise "BadSource" "given" (aCons (aVar 0) aNil)) aNext)
def F_s2_need_linear : List AV → Sto → Res AV := gcF (aDef 0 B_s2_need_linear)
def B_Linear___rshift__ : AS := (aRet (aMeth "Linear" "ahead" 2 F_Linear_ahead [] (aVar 0) (aCons (aVar 1) aNil)))
def F_Linear___rshift__ : List AV → Sto → Res AV := gcF (aDef 0 B_Linear___rshift__)
def B_Linear___lshift__ : AS := (aRet (aMeth "Linear" "behind" 2 F_Linear_behind [] (aVar 0) (aCons (aVar 1) aNil)))
def F_Linear___lshift__ : List AV → Sto → Res AV := gcF (aDef 0 B_Linear___lshift__)
def B_shared_digits : AS := (aSeq (aDrop (aCall 1 F_s2_need_linear [] (aCons (aVar 0) aNil)))
  (aSeq (aDrop (aCall 1 F_s2_need_linear [] (aCons (aVar 1) aNil)))
  (aSeq (aPar 2 3 (aCons (aOp gXor (aFld ["Linear"] "s2_x" (aVar 0)) (aFld ["Linear"] "s2_x" (aVar 1))) (aCons (aC (.int 0)) aNil)))
  (aSeq (aWhile (aAnd (aTest (aOp gLt (aVar 3) (aC (.int 48)))) (aTest (aOp gEq (aOp gAnd (aOp gShr (aVar 2) (aVar 3)) (aC (.int 1))) (aC (.int 0))))) (aAug 3 (gI0 fun i j => .int (i + j)) (aC (.int 1))))
  (aRet (aVar 3))))))
def F_shared_digits : List AV → Sto → Res AV := gcF (aDef 2 B_shared_digits)
def B__law_low_right : AS := (aSeq (aAsg (aOp gMul (aVar 2) (aCall 1 F__law_power [] (aCons (aVar 1) aNil))) (agName 3))
  (aSeq (aAsg (gcE (aOp gIx (aProp "Linear" (fun xs s => noErr (F_Linear_state xs s)) (aMeth "Linear" "ahead" 2 F_Linear_ahead [] (aMake "Linear" 2 F_Linear___init__ [] (aCons (aVar 0) aNil)) (aCons (aVar 3) aNil))) (aC (.int 0)))) (agName 4))
  (aSeq (aIfS (gcT (aTest (aOp gNe (aOp gMod (aVar 0) (aCall 1 F__law_power [] (aCons (aVar 1) aNil))) (aOp gMod (aVar 4) (aCall 1 F__law_power [] (aCons (aVar 1) aNil)))))) (aRet (aC (.bl false))) aNext)
  (aRet (aOrV (aOp gEq (aVar 1) (aC (.int 48))) (aOp gEq (aOp gEq (aOp gMod (aOp gShr (aVar 0) (aVar 1)) (aC (.int 2))) (aOp gMod (aOp gShr (aVar 4) (aVar 1)) (aC (.int 2)))) (aOp gEq (aOp gMod (aVar 2) (aC (.int 2))) (aC (.int 0)))))))))
def F__law_low_right : List AV → Sto → Res AV := gcF (aDef 2 B__law_low_right)
def B__law_digit_right : AS := (aSeq (aAsg (aCall 1 F_digit_period [] (aCons (aVar 1) aNil)) (agName 2))
  (aSeq (aIfS (gcT (aTest (aOp gNe (aCB gReprE (aCons (aVar 2) aNil)) (aCB gReprE (aCons (aCall 1 F__law_power [] (aCons (aOp gAdd (aC (.int 17)) (aVar 1)) aNil)) aNil))))) (aRet (aC (.bl false))) aNext)
  (aSeq (aPar 3 4 (aCons (aMake "Linear" 2 F_Linear___init__ [] (aCons (aVar 0) aNil)) (aCons (aMeth "Linear" "ahead" 2 F_Linear_ahead [] (aMake "Linear" 2 F_Linear___init__ [] (aCons (aVar 0) aNil)) (aCons (aVar 2) aNil)) aNil)))
  (aSeq (aAsg (aMeth "Linear" "ahead" 2 F_Linear_ahead [] (aMake "Linear" 2 F_Linear___init__ [] (aCons (aVar 0) aNil)) (aCons (aOp gFdiv (aVar 2) (aC (.int 2))) aNil)) (agName 5))
  (aSeq (aFor (aRng1 (aCons (aC (.int 3)) aNil)) (agName 6) (aSeq (aPar3 7 8 9 (aCons (aMeth "Linear" "next_word" 1 F_Linear_next_word [] (aVar 3) aNil) (aCons (aMeth "Linear" "next_word" 1 F_Linear_next_word [] (aVar 4) aNil) (aCons (aMeth "Linear" "next_word" 1 F_Linear_next_word [] (aVar 5) aNil) aNil))))
  (aSeq (aAsg (aCall 1 F__law_power [] (aCons (aVar 1) aNil)) (agName 10))
  (aIfS (aOr (aTest (aOp gNe (aOp gMod (aVar 7) (aOp gMul (aC (.int 2)) (aVar 10))) (aOp gMod (aVar 8) (aOp gMul (aC (.int 2)) (aVar 10))))) (aOr (aTest (aOp gEq (aOp gMod (aOp gFdiv (aVar 7) (aVar 10)) (aC (.int 2))) (aOp gMod (aOp gFdiv (aVar 9) (aVar 10)) (aC (.int 2))))) (aTest (aOp gNe (aOp gMod (aVar 7) (aVar 10)) (aOp gMod (aVar 9) (aVar 10)))))) (aRet (aC (.bl false))) aNext))))
  (aRet (aC (.bl true))))))))
def F__law_digit_right : List AV → Sto → Res AV := gcF (aDef 9 B__law_digit_right)
def B__law_other_right : AS := (aSeq (aPar 2 3 (aCons (aOp gIx (aProp "Linear" (fun xs s => noErr (F_Linear_state xs s)) (aMeth "Linear" "ahead" 2 F_Linear_ahead [] (aMake "Linear" 2 F_Linear___init__ [] (aCons (aVar 0) aNil)) (aCons (aVar 1) aNil))) (aC (.int 0))) (aCons (aC (.int 0)) aNil)))
  (aSeq (aWhile (aAnd (aTest (aOp gLt (aVar 3) (aC (.int 48)))) (aTest (aOp gEq (aOp gMod (aVar 1) (aCall 1 F__law_power [] (aCons (aOp gAdd (aVar 3) (aC (.int 1))) aNil))) (aC (.int 0))))) (aAsg (aOp gAdd (aVar 3) (aC (.int 1))) (agName 3)))
  (aSeq (aIfS (gcT (aTest (aOp gNe (aCall 2 F_shared_digits [] (aCons (aMake "Linear" 2 F_Linear___init__ [] (aCons (aVar 0) aNil)) (aCons (aMake "Linear" 2 F_Linear___init__ [] (aCons (aVar 2) aNil)) aNil))) (aVar 3)))) (aRet (aC (.bl false))) aNext)
  (aRet (aAndV (aOp gEq (aCall 2 F_shared_digits [] (aCons (aMake "Linear" 2 F_Linear___init__ [] (aCons (aVar 2) aNil)) (aCons (aMake "Linear" 2 F_Linear___init__ [] (aCons (aVar 0) aNil)) aNil))) (aVar 3)) (aOp gEq (aCall 2 F_shared_digits [] (aCons (aMake "Linear" 2 F_Linear___init__ [] (aCons (aVar 0) aNil)) (aCons (aMake "Linear" 2 F_Linear___init__ [] (aCons (aVar 0) aNil)) aNil))) (aC (.int 48))))))))
def F__law_other_right : List AV → Sto → Res AV := gcF (aDef 2 B__law_other_right)
def B__law_pair_right : AS := (aSeq (aPar 4 5 (aCons (aMake "Linear" 2 F_Linear___init__ [] (aCons (aVar 0) aNil)) (aCons (aMake "Linear" 2 F_Linear___init__ [] (aCons (aOp gMod (aOp gAdd (aVar 0) (aOp gMul (aVar 2) (aCall 1 F__law_power [] (aCons (aVar 1) aNil)))) (aC (.int 281474976710656))) aNil)) aNil)))
  (aSeq (aAsg (aCall 2 F_shared_digits [] (aCons (aVar 4) (aCons (aVar 5) aNil))) (agName 6))
  (aSeq (aIfS (aOr (aTest (aOp gLt (aVar 6) (aCB gMin2 (aCons (aVar 1) (aCons (aC (.int 48)) aNil))))) (aAnd (aTest (aOp gLt (aVar 1) (aC (.int 48)))) (aAnd (aTest (aOp gEq (aOp gMod (aVar 2) (aC (.int 2))) (aC (.int 1)))) (aTest (aOp gNe (aVar 6) (aVar 1)))))) (aRet (aC (.bl false))) aNext)
  (aSeq (aIfS (gcT (aOr (aTest (aOp gNe (aCall 2 F_shared_digits [] (aCons (aOwn "Linear" ["int"] 2 F_Linear___rshift__ (aVar 4) (aVar 3)) (aCons (aOwn "Linear" ["int"] 2 F_Linear___rshift__ (aVar 5) (aVar 3)) aNil))) (aVar 6))) (aTest (aOp gNe (aCall 2 F_shared_digits [] (aCons (aOwn "Linear" ["int"] 2 F_Linear___lshift__ (aVar 5) (aVar 3)) (aCons (aOwn "Linear" ["int"] 2 F_Linear___lshift__ (aVar 4) (aVar 3)) aNil))) (aVar 6))))) (aRet (aC (.bl false))) aNext)
  (aSeq (aAsg (aCall 1 F__law_power [] (aCons (aCB gMax2 (aCons (aC (.int 0)) (aCons (aOp gMinus (aVar 6) (aC (.int 16))) aNil))) aNil)) (agName 7))
  (aRet (aOp gEq (aLcG FL_Linear_words (aMArgs "Linear" "words" 2 [] (aVar 4) (aCons (aC (.int 6)) aNil)) (agName 8) aYes (aOp gMod (aVar 8) (aVar 7)) [8]) (aLcG FL_Linear_words (aMArgs "Linear" "words" 2 [] (aVar 5) (aCons (aC (.int 6)) aNil)) (agName 8) aYes (aOp gMod (aVar 8) (aVar 7)) [8]))))))))
def F__law_pair_right : List AV → Sto → Res AV := gcF (aDef 5 B__law_pair_right)
def B_law : AS := (aSeq (aAsg (aCall 1 F__law_begun [] (aCons (aVar 0) aNil)) (agName 1))
  (aSeq (aFor (aRng1 (aCons (aOp gAdd (aC (.int 6)) (aCB gMin2 (aCons (aC (.int 8)) (aCons (aOp gFdiv (aCB gLen (aCons (aVar 0) aNil)) (aC (.int 3))) aNil)))) aNil)) (agName 2) (aSeq (aPar3 3 4 5 (aCons (aCall 1 F__law_x [] (aCons (aVar 1) aNil)) (aCons (aCall 2 F__law_next [] (aCons (aVar 1) (aCons (aC (.int 49)) aNil))) (aCons (aOp gAdd (aC (.int 1)) (aCall 2 F__law_next [] (aCons (aVar 1) (aCons (aC (.int 9)) aNil)))) aNil))))
  (aSeq (aIfS (gcT (aOr (aNot (aTest (aCall 3 F__law_low_right [] (aCons (aVar 3) (aCons (aVar 4) (aCons (aVar 5) aNil)))))) (aNot (aTest (aCall 2 F__law_other_right [] (aCons (aVar 3) (aCons (aOp gAdd (aC (.int 1)) (aCall 2 F__law_next [] (aCons (aVar 1) (aCons (aC (.int 4294967296)) aNil)))) aNil))))))) (aRet (aC (.bl false))) aNext)
  (aIfS (gcT (aOr (aNot (aTest (aCall 2 F__law_digit_right [] (aCons (aVar 3) (aCons (aCall 2 F__law_next [] (aCons (aVar 1) (aCons (aC (.int 32)) aNil))) aNil))))) (aNot (aTest (aCall 4 F__law_pair_right [] (aCons (aVar 3) (aCons (aVar 4) (aCons (aVar 5) (aCons (aCall 1 F__law_steps [] (aCons (aVar 1) aNil)) aNil))))))))) (aRet (aC (.bl false))) aNext))))
  (aRet (aC (.bl true)))))
def F_law : List AV → Sto → Res AV := aDef 5 B_law
end
end Pf
set_option Elab.async false
set_option linter.all false
set_option maxRecDepth 100000
set_option maxHeartbeats 4000000
set_option exponentiation.threshold 3000
namespace Pf
open PySem PySem.Spec PyProof.Rows L2 Ab
def top (i : Nat) : Stmt := PySem.Challenge.pw_drawstate_k13_whole_digits_and_periods.main.body.getD i (.Pass ⟨0, 0, 0, 0⟩)
abbrev s_BadState___init__ : Stmt := inClass (top 3) 0
theorem sc_BadState___init__ : FnScope ["self", "given"] ["self", "given"] (C8.fnScope s_BadState___init__) := C8.fnScope_by (by decide +kernel)
abbrev s_BadSteps___init__ : Stmt := inClass (top 4) 0
theorem sc_BadSteps___init__ : FnScope ["self", "given"] ["self", "given"] (C8.fnScope s_BadSteps___init__) := C8.fnScope_by (by decide +kernel)
abbrev s_BadNumber___init__ : Stmt := inClass (top 5) 0
theorem sc_BadNumber___init__ : FnScope ["self", "given"] ["self", "given"] (C8.fnScope s_BadNumber___init__) := C8.fnScope_by (by decide +kernel)
abbrev s_BadSource___init__ : Stmt := inClass (top 6) 0
theorem sc_BadSource___init__ : FnScope ["self", "given"] ["self", "given"] (C8.fnScope s_BadSource___init__) := C8.fnScope_by (by decide +kernel)
abbrev s_is_integer : Stmt := top 10
theorem sc_is_integer : FnScope ["value"] ["value"] (C8.fnScope s_is_integer) := C8.fnScope_by (by decide +kernel)
abbrev s_need_steps : Stmt := top 14
theorem sc_need_steps : FnScope ["steps"] ["steps"] (C8.fnScope s_need_steps) := C8.fnScope_by (by decide +kernel)
abbrev s_need_many : Stmt := top 15
theorem sc_need_many : FnScope ["many"] ["many"] (C8.fnScope s_need_many) := C8.fnScope_by (by decide +kernel)
abbrev s_s2_is_number : Stmt := top 23
theorem sc_s2_is_number : FnScope ["value"] ["value"] (C8.fnScope s_s2_is_number) := C8.fnScope_by (by decide +kernel)
abbrev s_s2_need_start : Stmt := top 24
theorem sc_s2_need_start : FnScope ["start"] ["start"] (C8.fnScope s_s2_need_start) := C8.fnScope_by (by decide +kernel)
abbrev s_s2_joined : Stmt := top 26
theorem sc_s2_joined : FnScope ["one", "other"] ["one", "other"] (C8.fnScope s_s2_joined) := C8.fnScope_by (by decide +kernel)
abbrev s_s2_step_map : Stmt := top 27
theorem sc_s2_step_map : FnScope ["steps", "found", "power"] ["steps"] (C8.fnScope s_s2_step_map) := C8.fnScope_by (by decide +kernel)
abbrev s_s2_mapped : Stmt := top 28
theorem sc_s2_mapped : FnScope ["one", "start"] ["one", "start"] (C8.fnScope s_s2_mapped) := C8.fnScope_by (by decide +kernel)
abbrev s_s2_moved : Stmt := top 29
theorem sc_s2_moved : FnScope ["start", "steps"] ["start", "steps"] (C8.fnScope s_s2_moved) := C8.fnScope_by (by decide +kernel)
abbrev s_Linear___init__ : Stmt := inClass (top 30) 1
theorem sc_Linear___init__ : FnScope ["self", "start"] ["self", "start"] (C8.fnScope s_Linear___init__) := C8.fnScope_by (by decide +kernel)
abbrev s_Linear_next_word : Stmt := inClass (top 30) 2
theorem sc_Linear_next_word : FnScope ["self"] ["self"] (C8.fnScope s_Linear_next_word) := C8.fnScope_by (by decide +kernel)
abbrev s_Linear_words : Stmt := inClass (top 30) 3
theorem sc_Linear_words : GScope ["self", "many", "turn"] ["self", "many"] (C8.fnScope s_Linear_words) := Gx.gscope_by (by decide +kernel)
abbrev s_Linear_state : Stmt := inClass (top 30) 4
theorem sc_Linear_state : FnScope ["self"] ["self"] (C8.fnScope s_Linear_state) := C8.fnScope_by (by decide +kernel)
abbrev s_Linear_ahead : Stmt := inClass (top 30) 9
theorem sc_Linear_ahead : FnScope ["self", "steps"] ["self", "steps"] (C8.fnScope s_Linear_ahead) := C8.fnScope_by (by decide +kernel)
abbrev s_Linear_behind : Stmt := inClass (top 30) 10
theorem sc_Linear_behind : FnScope ["self", "steps"] ["self", "steps"] (C8.fnScope s_Linear_behind) := C8.fnScope_by (by decide +kernel)
abbrev s_Linear___rshift__ : Stmt := inClass (top 30) 11
theorem sc_Linear___rshift__ : FnScope ["self", "other"] ["self", "other"] (C8.fnScope s_Linear___rshift__) := C8.fnScope_by (by decide +kernel)
abbrev s_Linear___lshift__ : Stmt := inClass (top 30) 12
theorem sc_Linear___lshift__ : FnScope ["self", "other"] ["self", "other"] (C8.fnScope s_Linear___lshift__) := C8.fnScope_by (by decide +kernel)
abbrev s_s2_need_linear : Stmt := top 31
theorem sc_s2_need_linear : FnScope ["source"] ["source"] (C8.fnScope s_s2_need_linear) := C8.fnScope_by (by decide +kernel)
abbrev s_shared_digits : Stmt := top 32
theorem sc_shared_digits : FnScope ["one", "other", "differing", "found"] ["one", "other"] (C8.fnScope s_shared_digits) := C8.fnScope_by (by decide +kernel)
abbrev s_digit_period : Stmt := top 33
theorem sc_digit_period : FnScope ["digit"] ["digit"] (C8.fnScope s_digit_period) := C8.fnScope_by (by decide +kernel)
abbrev s__law_begun : Stmt := top 35
theorem sc__law_begun : FnScope ["_law_script", "_law_run", "_law_k", "_law_cell"] ["_law_script"] (C8.fnScope s__law_begun) := C8.fnScope_by (by decide +kernel)
abbrev s__law_next : Stmt := top 36
theorem sc__law_next : FnScope ["_law_draw", "_law_below", "_law_great", "_law_at", "_law_found", "_law_run"] ["_law_draw", "_law_below"] (C8.fnScope s__law_next) := C8.fnScope_by (by decide +kernel)
abbrev s__law_x : Stmt := top 37
theorem sc__law_x : FnScope ["_law_draw", "_law_far", "_law_some"] ["_law_draw"] (C8.fnScope s__law_x) := C8.fnScope_by (by decide +kernel)
abbrev s__law_steps : Stmt := top 38
theorem sc__law_steps : FnScope ["_law_draw", "_law_far", "_law_some"] ["_law_draw"] (C8.fnScope s__law_steps) := C8.fnScope_by (by decide +kernel)
abbrev s__law_power : Stmt := top 39
theorem sc__law_power : FnScope ["_law_k"] ["_law_k"] (C8.fnScope s__law_power) := C8.fnScope_by (by decide +kernel)
abbrev s__law_low_right : Stmt := top 40
theorem sc__law_low_right : FnScope ["_law_x_here", "_law_k", "_law_times", "_law_steps_here", "_law_far"] ["_law_x_here", "_law_k", "_law_times"] (C8.fnScope s__law_low_right) := C8.fnScope_by (by decide +kernel)
abbrev s__law_other_right : Stmt := top 41
theorem sc__law_other_right : FnScope ["_law_x_here", "_law_steps_here", "_law_far", "_law_twos"] ["_law_x_here", "_law_steps_here"] (C8.fnScope s__law_other_right) := C8.fnScope_by (by decide +kernel)
abbrev s__law_digit_right : Stmt := top 42
theorem sc__law_digit_right : FnScope ["_law_x_here", "_law_digit", "_law_period", "_law_first", "_law_later", "_law_half", "_law_step", "_law_one", "_law_far", "_law_other", "_law_low"] ["_law_x_here", "_law_digit"] (C8.fnScope s__law_digit_right) := C8.fnScope_by (by decide +kernel)
abbrev s__law_pair_right : Stmt := top 43
theorem sc__law_pair_right : FnScope ["_law_x_here", "_law_k", "_law_times", "_law_steps_here", "_law_one", "_law_far", "_law_shared", "_law_low", "_law_word"] ["_law_x_here", "_law_k", "_law_times", "_law_steps_here"] (C8.fnScope s__law_pair_right) := C8.fnScope_by (by decide +kernel)
abbrev s_law : Stmt := top 44
theorem sc_law : FnScope ["_law_script", "_law_draw", "_law_turn", "_law_x_here", "_law_k", "_law_times"] ["_law_script"] (C8.fnScope s_law) := C8.fnScope_by (by decide +kernel)
structure Txt (K : PySem.W.Frag) (mg : Str → Option Value) (C_Linear C_DrawError C_BadState C_BadSteps C_BadNumber C_BadSource : Addr) : Prop where
  d_BadState___init__ : ∃ f fd, PySem.W.findIn K (.ref C_BadState) "__init__" = some (some (.ref f)) ∧ PySem.W.typeIn K (.ref f) = some (.type "function") ∧ C8.Fun K "__init__" "BadState.__init__" s_BadState___init__ f fd ∧ Binds K fd ["self", "given"] []
  d_BadSteps___init__ : ∃ f fd, PySem.W.findIn K (.ref C_BadSteps) "__init__" = some (some (.ref f)) ∧ PySem.W.typeIn K (.ref f) = some (.type "function") ∧ C8.Fun K "__init__" "BadSteps.__init__" s_BadSteps___init__ f fd ∧ Binds K fd ["self", "given"] []
  d_BadNumber___init__ : ∃ f fd, PySem.W.findIn K (.ref C_BadNumber) "__init__" = some (some (.ref f)) ∧ PySem.W.typeIn K (.ref f) = some (.type "function") ∧ C8.Fun K "__init__" "BadNumber.__init__" s_BadNumber___init__ f fd ∧ Binds K fd ["self", "given"] []
  d_BadSource___init__ : ∃ f fd, PySem.W.findIn K (.ref C_BadSource) "__init__" = some (some (.ref f)) ∧ PySem.W.typeIn K (.ref f) = some (.type "function") ∧ C8.Fun K "__init__" "BadSource.__init__" s_BadSource___init__ f fd ∧ Binds K fd ["self", "given"] []
  d_is_integer : ∃ f fd, C8.Def K mg "is_integer" s_is_integer f fd ∧ Binds K fd ["value"] []
  d_need_steps : ∃ f fd, C8.Def K mg "need_steps" s_need_steps f fd ∧ Binds K fd ["steps"] []
  d_need_many : ∃ f fd, C8.Def K mg "need_many" s_need_many f fd ∧ Binds K fd ["many"] []
  d_s2_is_number : ∃ f fd, C8.Def K mg "s2_is_number" s_s2_is_number f fd ∧ Binds K fd ["value"] []
  d_s2_need_start : ∃ f fd, C8.Def K mg "s2_need_start" s_s2_need_start f fd ∧ Binds K fd ["start"] []
  d_s2_joined : ∃ f fd, C8.Def K mg "s2_joined" s_s2_joined f fd ∧ Binds K fd ["one", "other"] []
  d_s2_step_map : ∃ f fd, C8.Def K mg "s2_step_map" s_s2_step_map f fd ∧ Binds K fd ["steps"] []
  d_s2_mapped : ∃ f fd, C8.Def K mg "s2_mapped" s_s2_mapped f fd ∧ Binds K fd ["one", "start"] []
  d_s2_moved : ∃ f fd, C8.Def K mg "s2_moved" s_s2_moved f fd ∧ Binds K fd ["start", "steps"] []
  d_Linear___init__ : ∃ f fd, Mk K C_Linear f ∧ C8.Fun K "__init__" "Linear.__init__" s_Linear___init__ f fd ∧ Binds K fd ["self", "start"] []
  d_Linear_next_word : ∃ f fd, Meth K C_Linear "next_word" f ∧ C8.Fun K "next_word" "Linear.next_word" s_Linear_next_word f fd ∧ Binds K fd ["self"] []
  d_Linear_words : ∃ f fd, Meth K C_Linear "words" f ∧ C8.Fun K "words" "Linear.words" s_Linear_words f fd ∧ Binds K fd ["self", "many"] []
  d_Linear_state : ∃ p f fd, PropOf K C_Linear "state" p f ∧ C8.Fun K "state" "Linear.state" s_Linear_state f fd ∧ Binds K fd ["self"] []
  d_Linear_ahead : ∃ f fd, Meth K C_Linear "ahead" f ∧ C8.Fun K "ahead" "Linear.ahead" s_Linear_ahead f fd ∧ Binds K fd ["self", "steps"] []
  d_Linear_behind : ∃ f fd, Meth K C_Linear "behind" f ∧ C8.Fun K "behind" "Linear.behind" s_Linear_behind f fd ∧ Binds K fd ["self", "steps"] []
  d_Linear___rshift__ : ∃ f fd, Meth K C_Linear "__rshift__" f ∧ C8.Fun K "__rshift__" "Linear.__rshift__" s_Linear___rshift__ f fd ∧ Binds K fd ["self", "other"] []
  d_Linear___lshift__ : ∃ f fd, Meth K C_Linear "__lshift__" f ∧ C8.Fun K "__lshift__" "Linear.__lshift__" s_Linear___lshift__ f fd ∧ Binds K fd ["self", "other"] []
  d_s2_need_linear : ∃ f fd, C8.Def K mg "s2_need_linear" s_s2_need_linear f fd ∧ Binds K fd ["source"] []
  d_shared_digits : ∃ f fd, C8.Def K mg "shared_digits" s_shared_digits f fd ∧ Binds K fd ["one", "other"] []
  d_digit_period : ∃ f fd, C8.Def K mg "digit_period" s_digit_period f fd ∧ Binds K fd ["digit"] []
  d__law_begun : ∃ f fd, C8.Def K mg "_law_begun" s__law_begun f fd ∧ Binds K fd ["_law_script"] []
  d__law_next : ∃ f fd, C8.Def K mg "_law_next" s__law_next f fd ∧ Binds K fd ["_law_draw", "_law_below"] []
  d__law_x : ∃ f fd, C8.Def K mg "_law_x" s__law_x f fd ∧ Binds K fd ["_law_draw"] []
  d__law_steps : ∃ f fd, C8.Def K mg "_law_steps" s__law_steps f fd ∧ Binds K fd ["_law_draw"] []
  d__law_power : ∃ f fd, C8.Def K mg "_law_power" s__law_power f fd ∧ Binds K fd ["_law_k"] []
  d__law_low_right : ∃ f fd, C8.Def K mg "_law_low_right" s__law_low_right f fd ∧ Binds K fd ["_law_x_here", "_law_k", "_law_times"] []
  d__law_other_right : ∃ f fd, C8.Def K mg "_law_other_right" s__law_other_right f fd ∧ Binds K fd ["_law_x_here", "_law_steps_here"] []
  d__law_digit_right : ∃ f fd, C8.Def K mg "_law_digit_right" s__law_digit_right f fd ∧ Binds K fd ["_law_x_here", "_law_digit"] []
  d__law_pair_right : ∃ f fd, C8.Def K mg "_law_pair_right" s__law_pair_right f fd ∧ Binds K fd ["_law_x_here", "_law_k", "_law_times", "_law_steps_here"] []
  d_law : ∃ f fd, C8.Def K mg "law" s_law f fd ∧ Binds K fd ["_law_script"] [] ∧ ∀ (s : Shared) (v : Value), BindsTo s fd ⟨[v], []⟩ [("_law_script", v)]
  c_MOST_STEPS : ∃ u, mg "MOST_STEPS" = some u ∧ RelV (.int 18446744073709551616) u
  c_MOST_WORDS : ∃ u, mg "MOST_WORDS" = some u ∧ RelV (.int 1000000) u
  c_DIGITS : ∃ u, mg "DIGITS" = some u ∧ RelV (.int 48) u
  c_MODULUS : ∃ u, mg "MODULUS" = some u ∧ RelV (.int 281474976710656) u
  c_MULTIPLIER : ∃ u, mg "MULTIPLIER" = some u ∧ RelV (.int 205891132094649) u
  c_ADDEND : ∃ u, mg "ADDEND" = some u ∧ RelV (.int 11) u
  c_LOW_WORD : ∃ u, mg "LOW_WORD" = some u ∧ RelV (.int 65536) u
  k_Linear : ∃ u, mg "Linear" = some u ∧ RelV (.ref C_Linear) u
  cl_Linear : Cls K C_Linear
  is_Linear : C8.InsC K C_Linear
  n_Linear_s2_x : NoAttr K C_Linear "s2_x"
  k_DrawError : ∃ u, mg "DrawError" = some u ∧ RelV (.ref C_DrawError) u
  g_DrawError : mg "DrawError" = some (.ref C_DrawError)
  r_DrawError : ClX.CRead K C_DrawError (.type "type")
  i_DrawError : PySem.W.findCls K (.ref C_DrawError) (.type "type") "__init__" = some (.val (.builtin "ValueError.__init__"))
  ol_Linear_rshift : Gx.OwnL K C_Linear "rshift"
  ot_Linear_rshift_int : Gx.OwnT K C_Linear "rshift" "int"
  ol_Linear_lshift : Gx.OwnL K C_Linear "lshift"
  ot_Linear_lshift_int : Gx.OwnT K C_Linear "lshift" "int"
  e_BadState : ExcC K C_BadState
  e_BadSteps : ExcC K C_BadSteps
  e_BadNumber : ExcC K C_BadNumber
  e_BadSource : ExcC K C_BadSource
  k_BadState : ∃ u, mg "BadState" = some u ∧ RelV (.ref C_BadState) u
  g_BadState : mg "BadState" = some (.ref C_BadState)
  y_BadState : Gx.YexC K C_BadState "ValueError.__init__"
  f_BadState : XfC K C_BadState
  n_BadState_given : PySem.W.findIn K (.ref C_BadState) "given" = some none
  t_BadState_given : PySem.W.takerIn K C_BadState "given" = some none
  m_BadState : PySem.W.exmOne K (.ref C_BadState) (.ref C_BadState) = some true
  k_BadSteps : ∃ u, mg "BadSteps" = some u ∧ RelV (.ref C_BadSteps) u
  g_BadSteps : mg "BadSteps" = some (.ref C_BadSteps)
  y_BadSteps : Gx.YexC K C_BadSteps "ValueError.__init__"
  f_BadSteps : XfC K C_BadSteps
  n_BadSteps_given : PySem.W.findIn K (.ref C_BadSteps) "given" = some none
  t_BadSteps_given : PySem.W.takerIn K C_BadSteps "given" = some none
  m_BadSteps : PySem.W.exmOne K (.ref C_BadSteps) (.ref C_BadSteps) = some true
  k_BadNumber : ∃ u, mg "BadNumber" = some u ∧ RelV (.ref C_BadNumber) u
  g_BadNumber : mg "BadNumber" = some (.ref C_BadNumber)
  y_BadNumber : Gx.YexC K C_BadNumber "ValueError.__init__"
  f_BadNumber : XfC K C_BadNumber
  n_BadNumber_given : PySem.W.findIn K (.ref C_BadNumber) "given" = some none
  t_BadNumber_given : PySem.W.takerIn K C_BadNumber "given" = some none
  m_BadNumber : PySem.W.exmOne K (.ref C_BadNumber) (.ref C_BadNumber) = some true
  k_BadSource : ∃ u, mg "BadSource" = some u ∧ RelV (.ref C_BadSource) u
  g_BadSource : mg "BadSource" = some (.ref C_BadSource)
  y_BadSource : Gx.YexC K C_BadSource "ValueError.__init__"
  f_BadSource : XfC K C_BadSource
  n_BadSource_given : PySem.W.findIn K (.ref C_BadSource) "given" = some none
  t_BadSource_given : PySem.W.takerIn K C_BadSource "given" = some none
  m_BadSource : PySem.W.exmOne K (.ref C_BadSource) (.ref C_BadSource) = some true
  b_bool : mg "bool" = none
  b_enumerate : mg "enumerate" = none
  b_int : mg "int" = none
  b_isinstance : mg "isinstance" = none
  b_len : mg "len" = none
  b_max : mg "max" = none
  b_min : mg "min" = none
  b_range : mg "range" = none
  b_repr : mg "repr" = none
  kt_Linear_int : PySem.W.kitOne K (.ref C_Linear) (.type "int") = some false
  kt_BadState_int : PySem.W.kitOne K (.ref C_BadState) (.type "int") = some false
  kt_BadSteps_int : PySem.W.kitOne K (.ref C_BadSteps) (.type "int") = some false
  kt_BadNumber_int : PySem.W.kitOne K (.ref C_BadNumber) (.type "int") = some false
  kt_BadSource_int : PySem.W.kitOne K (.ref C_BadSource) (.type "int") = some false
  kt_Linear_bool : PySem.W.kitOne K (.ref C_Linear) (.type "bool") = some false
  kt_BadState_bool : PySem.W.kitOne K (.ref C_BadState) (.type "bool") = some false
  kt_BadSteps_bool : PySem.W.kitOne K (.ref C_BadSteps) (.type "bool") = some false
  kt_BadNumber_bool : PySem.W.kitOne K (.ref C_BadNumber) (.type "bool") = some false
  kt_BadSource_bool : PySem.W.kitOne K (.ref C_BadSource) (.type "bool") = some false
  kt_NoneType_Linear : PySem.W.kitOne K (.type "NoneType") (.ref C_Linear) = some false
  kt_bool_Linear : PySem.W.kitOne K (.type "bool") (.ref C_Linear) = some false
  kt_int_Linear : PySem.W.kitOne K (.type "int") (.ref C_Linear) = some false
  kt_str_Linear : PySem.W.kitOne K (.type "str") (.ref C_Linear) = some false
  kt_tuple_Linear : PySem.W.kitOne K (.type "tuple") (.ref C_Linear) = some false
  kt_list_Linear : PySem.W.kitOne K (.type "list") (.ref C_Linear) = some false
  kt_dict_Linear : PySem.W.kitOne K (.type "dict") (.ref C_Linear) = some false
  kt_BadState_Linear : PySem.W.kitOne K (.ref C_BadState) (.ref C_Linear) = some false
  kt_BadSteps_Linear : PySem.W.kitOne K (.ref C_BadSteps) (.ref C_Linear) = some false
  kt_BadNumber_Linear : PySem.W.kitOne K (.ref C_BadNumber) (.ref C_Linear) = some false
  kt_BadSource_Linear : PySem.W.kitOne K (.ref C_BadSource) (.ref C_Linear) = some false
  ns_BadState : PySem.W.subIn K (.ref C_BadState) (.type "StopIteration") = some false
  ns_BadSteps : PySem.W.subIn K (.ref C_BadSteps) (.type "StopIteration") = some false
  ns_BadNumber : PySem.W.subIn K (.ref C_BadNumber) (.type "StopIteration") = some false
  ns_BadSource : PySem.W.subIn K (.ref C_BadSource) (.type "StopIteration") = some false
abbrev Wk (K : PySem.W.Frag) (κ : String → Addr) : Wl := { K := K, κ := κ, T := [], live := ["Linear"], xlive := ["BadState", "BadSteps", "BadNumber", "BadSource"], inv := fun _ => True, cl := fun _ _ _ _ => trivial }
section
variable {P : Program} {w : World} {K : PySem.W.Frag} {mg : Str → Option Value} {base : Heap} {κ : String → Addr}
theorem kit_int (T : Txt K mg (κ "Linear") (κ "DrawError") (κ "BadState") (κ "BadSteps") (κ "BadNumber") (κ "BadSource")) : KitOk (Wk K κ) (kitB "int") := kitOk_of (.cons (kitE (show kitP "NoneType" "int" = some false by decide) (if_pos (by decide)) (if_pos (by decide)) Sx.kb_NoneType_int) (.cons (kitE (show kitP "bool" "int" = some true by decide) (if_pos (by decide)) (if_pos (by decide)) Sx.kb_bool_int) (.cons (kitE (show kitP "int" "int" = some true by decide) (if_pos (by decide)) (if_pos (by decide)) Sx.kb_int_int) (.cons (kitE (show kitP "str" "int" = some false by decide) (if_pos (by decide)) (if_pos (by decide)) Sx.kb_str_int) (.cons (kitE (show kitP "tuple" "int" = some false by decide) (if_pos (by decide)) (if_pos (by decide)) Sx.kb_tuple_int) (.cons (kitE (show kitP "list" "int" = some false by decide) (if_pos (by decide)) (if_pos (by decide)) Sx.kb_list_int) (.cons (kitE (show kitP "dict" "int" = some false by decide) (if_pos (by decide)) (if_pos (by decide)) Sx.kb_dict_int) .nil))))))) (.cons (kitE (show kitP "Linear" "int" = some false by decide) (if_neg (by decide)) (if_pos (by decide)) T.kt_Linear_int) .nil) (.cons (kitE (show kitP "BadState" "int" = some false by decide) (if_neg (by decide)) (if_pos (by decide)) T.kt_BadState_int) (.cons (kitE (show kitP "BadSteps" "int" = some false by decide) (if_neg (by decide)) (if_pos (by decide)) T.kt_BadSteps_int) (.cons (kitE (show kitP "BadNumber" "int" = some false by decide) (if_neg (by decide)) (if_pos (by decide)) T.kt_BadNumber_int) (.cons (kitE (show kitP "BadSource" "int" = some false by decide) (if_neg (by decide)) (if_pos (by decide)) T.kt_BadSource_int) .nil)))) (.cons ⟨by decide, T.is_Linear⟩ .nil) (.cons ⟨by decide, T.e_BadState⟩ (.cons ⟨by decide, T.e_BadSteps⟩ (.cons ⟨by decide, T.e_BadNumber⟩ (.cons ⟨by decide, T.e_BadSource⟩ .nil))))
theorem kit_bool (T : Txt K mg (κ "Linear") (κ "DrawError") (κ "BadState") (κ "BadSteps") (κ "BadNumber") (κ "BadSource")) : KitOk (Wk K κ) (kitB "bool") := kitOk_of (.cons (kitE (show kitP "NoneType" "bool" = some false by decide) (if_pos (by decide)) (if_pos (by decide)) Sx.kb_NoneType_bool) (.cons (kitE (show kitP "bool" "bool" = some true by decide) (if_pos (by decide)) (if_pos (by decide)) Sx.kb_bool_bool) (.cons (kitE (show kitP "int" "bool" = some false by decide) (if_pos (by decide)) (if_pos (by decide)) Sx.kb_int_bool) (.cons (kitE (show kitP "str" "bool" = some false by decide) (if_pos (by decide)) (if_pos (by decide)) Sx.kb_str_bool) (.cons (kitE (show kitP "tuple" "bool" = some false by decide) (if_pos (by decide)) (if_pos (by decide)) Sx.kb_tuple_bool) (.cons (kitE (show kitP "list" "bool" = some false by decide) (if_pos (by decide)) (if_pos (by decide)) Sx.kb_list_bool) (.cons (kitE (show kitP "dict" "bool" = some false by decide) (if_pos (by decide)) (if_pos (by decide)) Sx.kb_dict_bool) .nil))))))) (.cons (kitE (show kitP "Linear" "bool" = some false by decide) (if_neg (by decide)) (if_pos (by decide)) T.kt_Linear_bool) .nil) (.cons (kitE (show kitP "BadState" "bool" = some false by decide) (if_neg (by decide)) (if_pos (by decide)) T.kt_BadState_bool) (.cons (kitE (show kitP "BadSteps" "bool" = some false by decide) (if_neg (by decide)) (if_pos (by decide)) T.kt_BadSteps_bool) (.cons (kitE (show kitP "BadNumber" "bool" = some false by decide) (if_neg (by decide)) (if_pos (by decide)) T.kt_BadNumber_bool) (.cons (kitE (show kitP "BadSource" "bool" = some false by decide) (if_neg (by decide)) (if_pos (by decide)) T.kt_BadSource_bool) .nil)))) (.cons ⟨by decide, T.is_Linear⟩ .nil) (.cons ⟨by decide, T.e_BadState⟩ (.cons ⟨by decide, T.e_BadSteps⟩ (.cons ⟨by decide, T.e_BadNumber⟩ (.cons ⟨by decide, T.e_BadSource⟩ .nil))))
theorem kit_Linear (T : Txt K mg (κ "Linear") (κ "DrawError") (κ "BadState") (κ "BadSteps") (κ "BadNumber") (κ "BadSource")) : KitOk (Wk K κ) (kitB "Linear") := kitOk_of (.cons (kitE (show kitP "NoneType" "Linear" = some false by decide) (if_pos (by decide)) (if_neg (by decide)) T.kt_NoneType_Linear) (.cons (kitE (show kitP "bool" "Linear" = some false by decide) (if_pos (by decide)) (if_neg (by decide)) T.kt_bool_Linear) (.cons (kitE (show kitP "int" "Linear" = some false by decide) (if_pos (by decide)) (if_neg (by decide)) T.kt_int_Linear) (.cons (kitE (show kitP "str" "Linear" = some false by decide) (if_pos (by decide)) (if_neg (by decide)) T.kt_str_Linear) (.cons (kitE (show kitP "tuple" "Linear" = some false by decide) (if_pos (by decide)) (if_neg (by decide)) T.kt_tuple_Linear) (.cons (kitE (show kitP "list" "Linear" = some false by decide) (if_pos (by decide)) (if_neg (by decide)) T.kt_list_Linear) (.cons (kitE (show kitP "dict" "Linear" = some false by decide) (if_pos (by decide)) (if_neg (by decide)) T.kt_dict_Linear) .nil))))))) (.cons (kitE (show kitP "Linear" "Linear" = some true by decide) (if_neg (by decide)) (if_neg (by decide)) (Rd.kit_self K (κ "Linear"))) .nil) (.cons (kitE (show kitP "BadState" "Linear" = some false by decide) (if_neg (by decide)) (if_neg (by decide)) T.kt_BadState_Linear) (.cons (kitE (show kitP "BadSteps" "Linear" = some false by decide) (if_neg (by decide)) (if_neg (by decide)) T.kt_BadSteps_Linear) (.cons (kitE (show kitP "BadNumber" "Linear" = some false by decide) (if_neg (by decide)) (if_neg (by decide)) T.kt_BadNumber_Linear) (.cons (kitE (show kitP "BadSource" "Linear" = some false by decide) (if_neg (by decide)) (if_neg (by decide)) T.kt_BadSource_Linear) .nil)))) (.cons ⟨by decide, T.is_Linear⟩ .nil) (.cons ⟨by decide, T.e_BadState⟩ (.cons ⟨by decide, T.e_BadSteps⟩ (.cons ⟨by decide, T.e_BadNumber⟩ (.cons ⟨by decide, T.e_BadSource⟩ .nil))))
theorem exc_BadState (T : Txt K mg (κ "Linear") (κ "DrawError") (κ "BadState") (κ "BadSteps") (κ "BadNumber") (κ "BadSource")) : Gx.ExcMkY P w K mg base 1 "BadState" (κ "BadState") "given" := by
  obtain ⟨f, fd, hi, ht, F, b⟩ := T.d_BadState___init__
  refine ⟨f, fd, _, _, T.y_BadState, hi, ht, C8.fn0 F sc_BadState___init__ (fun vs H Q E h => ?_) (fun cdv A outer s H vs Q E hr h => ?_), b, T.g_BadState⟩
  · obtain ⟨p, v, rfl, _⟩ := h; rfl
  · obtain ⟨p, v, rfl, hp, q⟩ := h
    refine ⟨_, (pss_cons (ps_expr (Gx.pe_bi (by rfl) T.g_DrawError T.r_DrawError T.i_DrawError (by decide +kernel) (pa_cons (pv 0) (pa_cons pe_str pa_nil)))) (pss_one (Gx.ps_ostY (initId := "ValueError.__init__") (pv 0) (pv 1)))), ?_⟩
    exact ⟨_, rfl, p, (κ "BadState"), [.str "not a state"], rfl, Nat.le_of_ble_eq_true rfl, T.y_BadState, hp, _, rfl, _, rfl, p, (κ "BadState"), rfl, T.y_BadState, T.t_BadState_given, hp, q⟩
theorem exc_BadSteps (T : Txt K mg (κ "Linear") (κ "DrawError") (κ "BadState") (κ "BadSteps") (κ "BadNumber") (κ "BadSource")) : Gx.ExcMkY P w K mg base 1 "BadSteps" (κ "BadSteps") "given" := by
  obtain ⟨f, fd, hi, ht, F, b⟩ := T.d_BadSteps___init__
  refine ⟨f, fd, _, _, T.y_BadSteps, hi, ht, C8.fn0 F sc_BadSteps___init__ (fun vs H Q E h => ?_) (fun cdv A outer s H vs Q E hr h => ?_), b, T.g_BadSteps⟩
  · obtain ⟨p, v, rfl, _⟩ := h; rfl
  · obtain ⟨p, v, rfl, hp, q⟩ := h
    refine ⟨_, (pss_cons (ps_expr (Gx.pe_bi (by rfl) T.g_DrawError T.r_DrawError T.i_DrawError (by decide +kernel) (pa_cons (pv 0) (pa_cons pe_str pa_nil)))) (pss_one (Gx.ps_ostY (initId := "ValueError.__init__") (pv 0) (pv 1)))), ?_⟩
    exact ⟨_, rfl, p, (κ "BadSteps"), [.str "not a number of steps"], rfl, Nat.le_of_ble_eq_true rfl, T.y_BadSteps, hp, _, rfl, _, rfl, p, (κ "BadSteps"), rfl, T.y_BadSteps, T.t_BadSteps_given, hp, q⟩
theorem exc_BadNumber (T : Txt K mg (κ "Linear") (κ "DrawError") (κ "BadState") (κ "BadSteps") (κ "BadNumber") (κ "BadSource")) : Gx.ExcMkY P w K mg base 1 "BadNumber" (κ "BadNumber") "given" := by
  obtain ⟨f, fd, hi, ht, F, b⟩ := T.d_BadNumber___init__
  refine ⟨f, fd, _, _, T.y_BadNumber, hi, ht, C8.fn0 F sc_BadNumber___init__ (fun vs H Q E h => ?_) (fun cdv A outer s H vs Q E hr h => ?_), b, T.g_BadNumber⟩
  · obtain ⟨p, v, rfl, _⟩ := h; rfl
  · obtain ⟨p, v, rfl, hp, q⟩ := h
    refine ⟨_, (pss_cons (ps_expr (Gx.pe_bi (by rfl) T.g_DrawError T.r_DrawError T.i_DrawError (by decide +kernel) (pa_cons (pv 0) (pa_cons pe_str pa_nil)))) (pss_one (Gx.ps_ostY (initId := "ValueError.__init__") (pv 0) (pv 1)))), ?_⟩
    exact ⟨_, rfl, p, (κ "BadNumber"), [.str "not an allowed number"], rfl, Nat.le_of_ble_eq_true rfl, T.y_BadNumber, hp, _, rfl, _, rfl, p, (κ "BadNumber"), rfl, T.y_BadNumber, T.t_BadNumber_given, hp, q⟩
theorem exc_BadSource (T : Txt K mg (κ "Linear") (κ "DrawError") (κ "BadState") (κ "BadSteps") (κ "BadNumber") (κ "BadSource")) : Gx.ExcMkY P w K mg base 1 "BadSource" (κ "BadSource") "given" := by
  obtain ⟨f, fd, hi, ht, F, b⟩ := T.d_BadSource___init__
  refine ⟨f, fd, _, _, T.y_BadSource, hi, ht, C8.fn0 F sc_BadSource___init__ (fun vs H Q E h => ?_) (fun cdv A outer s H vs Q E hr h => ?_), b, T.g_BadSource⟩
  · obtain ⟨p, v, rfl, _⟩ := h; rfl
  · obtain ⟨p, v, rfl, hp, q⟩ := h
    refine ⟨_, (pss_cons (ps_expr (Gx.pe_bi (by rfl) T.g_DrawError T.r_DrawError T.i_DrawError (by decide +kernel) (pa_cons (pv 0) (pa_cons pe_str pa_nil)))) (pss_one (Gx.ps_ostY (initId := "ValueError.__init__") (pv 0) (pv 1)))), ?_⟩
    exact ⟨_, rfl, p, (κ "BadSource"), [.str "not a source"], rfl, Nat.le_of_ble_eq_true rfl, T.y_BadSource, hp, _, rfl, _, rfl, p, (κ "BadSource"), rfl, T.y_BadSource, T.t_BadSource_given, hp, q⟩
theorem calx_is_integer (T : Txt K mg (κ "Linear") (κ "DrawError") (κ "BadState") (κ "BadSteps") (κ "BadNumber") (κ "BadSource")) : Gx.CalX P w K mg base 1 "is_integer" (spF (Wk K κ) 1 F_is_integer) := by
  obtain ⟨f, fd, F, b⟩ := T.d_is_integer
  refine Gx.calX F b sc_is_integer (fun vs H Q E h => spF.len h) (fun cdv A outer s H vs Q E hr h => ?_)
  have hu := hu_of hr
  have hu64 := hr.units
  have hu65 := Ab.u65 hr
  exact ⟨_, (pss_one (ps_ret (pe_and (pe_callB (show CallR _ _ (Ab.rIsiU K) by exact Ab.call_isiU) (by rfl) T.b_isinstance (by decide +kernel) (pa_cons (pv 0) (pa_cons (pe_bltn (v := .ty "int") (by rfl) T.b_int (by decide +kernel) rfl) pa_nil))) (pe_one (pe_not (pe_callB (show CallR _ _ (Ab.rIsiU K) by exact Ab.call_isiU) (by rfl) T.b_isinstance (by decide +kernel) (pa_cons (pv 0) (pa_cons (pe_bltn (v := .ty "bool") (by rfl) T.b_bool (by decide +kernel) rfl) pa_nil)))))))), Ab.DS.dfn (spF_gc h) rfl (DS.ret (DE.andV (DE.cb (DB.isi (kit_int T)) (DA.cons DE.var (DA.cons (DE.c fun _ => .ty _) DA.nil)) NEL.isi) (DE.notV (DE.cb (DB.isi (kit_bool T)) (DA.cons DE.var (DA.cons (DE.c fun _ => .ty _) DA.nil)) NEL.isi))))⟩
theorem calx_s2_joined (T : Txt K mg (κ "Linear") (κ "DrawError") (κ "BadState") (κ "BadSteps") (κ "BadNumber") (κ "BadSource")) : Gx.CalX P w K mg base 1 "s2_joined" (spF (Wk K κ) 2 F_s2_joined) := by
  obtain ⟨f, fd, F, b⟩ := T.d_s2_joined
  refine Gx.calX F b sc_s2_joined (fun vs H Q E h => spF.len h) (fun cdv A outer s H vs Q E hr h => ?_)
  have hu := hu_of hr
  have hu64 := hr.units
  have hu65 := Ab.u65 hr
  exact ⟨_, (pss_one (ps_ret (pe_tup (pa_cons (pe_op op_and (pe_op Ab.op_mulU (pe_ix (show IxR _ (Ab.rIxU K) by exact Ab.ix_U) (pv 0) pe_int (fun _ _ => rfl)) (pe_ix (show IxR _ (Ab.rIxU K) by exact Ab.ix_U) (pv 1) pe_int (fun _ _ => rfl))) (pe_op op_sub (C8.pe_gc (by rfl) T.c_MODULUS) pe_int)) (pa_cons (pe_op op_and (pe_op (show OpR _ _ (Ab.rAddU K) by exact Ab.op_addU) (pe_op Ab.op_mulU (pe_ix (show IxR _ (Ab.rIxU K) by exact Ab.ix_U) (pv 0) pe_int (fun _ _ => rfl)) (pe_ix (show IxR _ (Ab.rIxU K) by exact Ab.ix_U) (pv 1) pe_int (fun _ _ => rfl))) (pe_ix (show IxR _ (Ab.rIxU K) by exact Ab.ix_U) (pv 1) pe_int (fun _ _ => rfl))) (pe_op op_sub (C8.pe_gc (by rfl) T.c_MODULUS) pe_int)) pa_nil))))), Ab.DS.dfn (spF_gc h) rfl (DS.ret (DE.tup (DA.cons (DE.op (DR.i0 fun _ _ _ => .int _) (DE.op DR.mul (DE.op DR.ix DE.var (DE.c fun _ => .int _) NE2.ix) (DE.op DR.ix DE.var (DE.c fun _ => .int _) NE2.ix) NE2.mul) (DE.op (DR.i0 fun _ _ _ => .int _) (DE.c fun _ => .int _) (DE.c fun _ => .int _) NE2.i0) NE2.i0) (DA.cons (DE.op (DR.i0 fun _ _ _ => .int _) (DE.op DR.add (DE.op DR.mul (DE.op DR.ix DE.var (DE.c fun _ => .int _) NE2.ix) (DE.op DR.ix DE.var (DE.c fun _ => .int _) NE2.ix) NE2.mul) (DE.op DR.ix DE.var (DE.c fun _ => .int _) NE2.ix) NE2.add) (DE.op (DR.i0 fun _ _ _ => .int _) (DE.c fun _ => .int _) (DE.c fun _ => .int _) NE2.i0) NE2.i0) DA.nil))))⟩
theorem calx_s2_mapped (T : Txt K mg (κ "Linear") (κ "DrawError") (κ "BadState") (κ "BadSteps") (κ "BadNumber") (κ "BadSource")) : Gx.CalX P w K mg base 1 "s2_mapped" (spF (Wk K κ) 2 F_s2_mapped) := by
  obtain ⟨f, fd, F, b⟩ := T.d_s2_mapped
  refine Gx.calX F b sc_s2_mapped (fun vs H Q E h => spF.len h) (fun cdv A outer s H vs Q E hr h => ?_)
  have hu := hu_of hr
  have hu64 := hr.units
  have hu65 := Ab.u65 hr
  exact ⟨_, (pss_one (ps_ret (pe_op op_and (pe_op (show OpR _ _ (Ab.rAddU K) by exact Ab.op_addU) (pe_op Ab.op_mulU (pe_ix (show IxR _ (Ab.rIxU K) by exact Ab.ix_U) (pv 0) pe_int (fun _ _ => rfl)) (pv 1)) (pe_ix (show IxR _ (Ab.rIxU K) by exact Ab.ix_U) (pv 0) pe_int (fun _ _ => rfl))) (pe_op op_sub (C8.pe_gc (by rfl) T.c_MODULUS) pe_int)))), Ab.DS.dfn (spF_gc h) rfl (DS.ret (DE.op (DR.i0 fun _ _ _ => .int _) (DE.op DR.add (DE.op DR.mul (DE.op DR.ix DE.var (DE.c fun _ => .int _) NE2.ix) DE.var NE2.mul) (DE.op DR.ix DE.var (DE.c fun _ => .int _) NE2.ix) NE2.add) (DE.op (DR.i0 fun _ _ _ => .int _) (DE.c fun _ => .int _) (DE.c fun _ => .int _) NE2.i0) NE2.i0))⟩
theorem metx_Linear_next_word (T : Txt K mg (κ "Linear") (κ "DrawError") (κ "BadState") (κ "BadSteps") (κ "BadNumber") (κ "BadSource")) : Gx.MetX P w K mg base 1 (κ "Linear") "next_word" (spF (Wk K κ) 1 F_Linear_next_word) := by
  obtain ⟨f, fd, M, F, b⟩ := T.d_Linear_next_word
  refine Gx.metX T.cl_Linear M F b sc_Linear_next_word (fun vs H Q E h => spF.len h) (fun cdv A outer s H vs Q E hr h => ?_)
  have hu := hu_of hr
  have hu64 := hr.units
  have hu65 := Ab.u65 hr
  exact ⟨_, (pss_cons (ps_fld (pv 0) (pe_op op_and (pe_op (show OpR _ _ (Ab.rAddU K) by exact Ab.op_addU) (pe_op Ab.op_mulU (C8.pe_gc (by rfl) T.c_MULTIPLIER) (pe_fld (pv 0) rfl)) (C8.pe_gc (by rfl) T.c_ADDEND)) (pe_op op_sub (C8.pe_gc (by rfl) T.c_MODULUS) pe_int)) rfl)
      (pss_one (ps_ret (pe_op op_fdivW (pe_fld (pv 0) rfl) (C8.pe_gc (by rfl) T.c_LOW_WORD))))), Ab.DS.dfn (spF_gc h) rfl (DS.seq (DS.sfld (.cons ⟨T.cl_Linear, T.n_Linear_s2_x⟩ .nil) DE.var (DE.op (DR.i0 fun _ _ _ => .int _) (DE.op DR.add (DE.op DR.mul (DE.c fun _ => .int _) (DE.fld (.cons ⟨T.cl_Linear, T.n_Linear_s2_x⟩ .nil) DE.var) NE2.mul) (DE.c fun _ => .int _) NE2.add) (DE.op (DR.i0 fun _ _ _ => .int _) (DE.c fun _ => .int _) (DE.c fun _ => .int _) NE2.i0) NE2.i0))
      (DS.ret (DE.op (DR.i fun _ _ _ => .int _) (DE.fld (.cons ⟨T.cl_Linear, T.n_Linear_s2_x⟩ .nil) DE.var) (DE.c fun _ => .int _) NE2.i)))⟩
theorem prop_Linear_state (T : Txt K mg (κ "Linear") (κ "DrawError") (κ "BadState") (κ "BadSteps") (κ "BadNumber") (κ "BadSource")) : Gx.PrpC P w K mg base 1 (κ "Linear") "state" (spF (Wk K κ) 1 (fun xs s => noErr (F_Linear_state xs s))) := by
  obtain ⟨pp, f, fd, pr, F, b⟩ := T.d_Linear_state
  refine Gx.prp0 T.cl_Linear pr F b sc_Linear_state (fun vs H Q E h => spF.len h) (fun cdv A outer s H vs Q E hr h => ?_)
  have hu := hu_of hr
  have hu64 := hr.units
  have hu65 := Ab.u65 hr
  have h := spF_noErr (E' := fun _ _ _ => False) h
  exact ⟨_, (pss_one (ps_ret (pe_tup (pa_cons (pe_fld (pv 0) rfl) pa_nil)))), Ab.DS.dfn (spF_gc h) rfl (DS.ret (DE.tup (DA.cons (DE.fld (.cons ⟨T.cl_Linear, T.n_Linear_s2_x⟩ .nil) DE.var) DA.nil)))⟩
theorem calx__law_begun (T : Txt K mg (κ "Linear") (κ "DrawError") (κ "BadState") (κ "BadSteps") (κ "BadNumber") (κ "BadSource")) : Gx.CalX P w K mg base 1 "_law_begun" (spF (Wk K κ) 1 F__law_begun) := by
  obtain ⟨f, fd, F, b⟩ := T.d__law_begun
  refine Gx.calX F b sc__law_begun (fun vs H Q E h => spF.len h) (fun cdv A outer s H vs Q E hr h => ?_)
  have hu := hu_of hr
  have hu64 := hr.units
  have hu65 := Ab.u65 hr
  exact ⟨_, (pss_cons (ps_set (i := 1) sc__law_begun.nd rfl (.inl rfl) (pe_op (show OpR _ _ (Ab.rAddU K) by exact Ab.op_addU) pe_int (pe_op Ab.op_mulU pe_int (pe_callB (show CallR _ _ (Ab.rLenU K) by exact Ab.call_lenU) (by rfl) T.b_len PySem.boot_len (pa_cons (pv 0) pa_nil)))))
      (pss_cons (ps_for (passes_of rfl) rfl (show PI _ _ _ (Ab.enU K _) by exact Ab.PI.or (pi_enum (by rfl) T.b_enumerate (pa_cons (pv 0) pa_nil)) (Gx.pi_enT (by rfl) T.b_enumerate (pa_cons (pv 0) pa_nil))) (show PG _ _ (gTup K 2 _) by exact pg_tup rfl (pgs_cons (pg_name (i := 2) sc__law_begun.nd rfl (.inl rfl)) (pgs_cons (pg_name (i := 3) sc__law_begun.nd rfl (.inl rfl)) pgs_nil))) (pss_one (ps_set (i := 1) sc__law_begun.nd rfl (.inl rfl) (pe_op op_mod (pe_op (show OpR _ _ (Ab.rAddU K) by exact Ab.op_addU) (pe_op (show OpR _ _ (Ab.rAddU K) by exact Ab.op_addU) (pe_op Ab.op_mulU (pv 1) pe_int) (pv 3)) (pe_op Ab.op_mulU pe_int (pv 2))) pe_int))))
      (pss_one (ps_ret (pe_disp (pps_cons pe_str (pv 1) (pps_cons pe_str (pe_lc (own := [("_law_cell", 3)]) rfl sc__law_begun.nd (show PI _ _ _ (Ab.iterU K _) by exact Ab.PI.or (pi_list (pv 0)) (Ab.PI.or (pi_tup (pv 0)) (pi_str (pv 0)))) (blkOk_by (N := ["_law_script", "_law_run", "_law_k", "_law_cell"]) (sc := C8.fnScope s__law_begun) (by decide +kernel)) (fun _ _ _ _ _ => (pg_name (i := 3) sc__law_begun.nd rfl (.inl rfl))) (fun _ _ _ _ _ => (pts_one (pt_cmpR op_ge (pv 3) (pe_op op_pow pe_int pe_int) (nomark _)))) (fun _ _ _ _ _ => (pv 3))) (pps_cons pe_str pe_int pps_nil))) rfl rfl (by simp) (by decide)))))), Ab.DS.dfn (spF_gc h) rfl (DS.seq (DS.asg (DE.op DR.add (DE.c fun _ => .int _) (DE.op DR.mul (DE.c fun _ => .int _) (DE.cb DB.len (DA.cons DE.var DA.nil) NEL.len) NE2.mul) NE2.add) DG.name Goes.name)
      (DS.seq (DS.forS (DI.enumU (DA.cons DE.var DA.nil)) (DG.tup (DGs.cons DG.name (DGs.cons DG.name DGs.nil))) (Goes.tup (GoesL.cons Goes.name (GoesL.cons Goes.name GoesL.nil))) (DS.asg (DE.op (DR.i fun _ _ _ => .int _) (DE.op DR.add (DE.op DR.add (DE.op DR.mul DE.var (DE.c fun _ => .int _) NE2.mul) DE.var NE2.add) (DE.op DR.mul (DE.c fun _ => .int _) DE.var NE2.mul) NE2.add) (DE.c fun _ => .int _) NE2.i) DG.name Goes.name))
      (DS.ret (DE.disp (.cons (DE.c fun _ => .str _) DE.var (.cons (DE.c fun _ => .str _) (DE.lc (DI.iter DE.var) DG.name Goes.name (WT.name (by decide)) (DT.test (DE.op (DR.i0 fun _ _ _ => .bl _) DE.var (DE.op (DR.i fun _ _ _ => .int _) (DE.c fun _ => .int _) (DE.c fun _ => .int _) NE2.i) NE2.i0)) DE.var) (.cons (DE.c fun _ => .str _) (DE.c fun _ => .int _) .nil)))))))⟩
theorem calx__law_next (T : Txt K mg (κ "Linear") (κ "DrawError") (κ "BadState") (κ "BadSteps") (κ "BadNumber") (κ "BadSource")) : Gx.CalX P w K mg base 1 "_law_next" (spF (Wk K κ) 2 F__law_next) := by
  obtain ⟨f, fd, F, b⟩ := T.d__law_next
  refine Gx.calX F b sc__law_next (fun vs H Q E h => spF.len h) (fun cdv A outer s H vs Q E hr h => ?_)
  have hu := hu_of hr
  have hu64 := hr.units
  have hu65 := Ab.u65 hr
  exact ⟨_, (pss_cons (ps_asg (pe_tup (pa_cons (pe_op (show OpR _ _ (Ab.rAddU K) by exact Ab.op_addU) (pe_dget hu (pv 0) pe_str (fun _ _ => rfl)) pe_int) (pa_cons (pe_dget hu (pv 0) pe_str (fun _ _ => rfl)) pa_nil))) (show PG _ _ (gTup K 2 _) by exact pg_tup rfl (pgs_cons (pg_sub (pv 0) pe_str (set_dict hu)) (pgs_cons (pg_name (i := 2) sc__law_next.nd rfl (.inl rfl)) pgs_nil))))
      (pss_cons (ps_set (i := 3) sc__law_next.nd rfl (.inl rfl) (pe_op op_mod (pe_dget hu (pv 0) pe_str (fun _ _ => rfl)) (pe_callB (Rd.call_mx2 rfl) (by rfl) T.b_max (by decide +kernel) (pa_cons pe_int (pa_cons (pe_callB (show CallR _ _ (Ab.rLenU K) by exact Ab.call_lenU) (by rfl) T.b_len PySem.boot_len (pa_cons (pv 2) pa_nil)) pa_nil)))))
      (pss_cons (ps_if (PW.pt (pw_and (pt_cmpR (show OpR _ _ (Ab.rNeU K) by exact Ab.op_neU hu64) (pv 2) (pe_lst pa_nil) (nomark _)) (pw_and1 (pt_cmpR op_gt (pe_ix (show IxR _ (Ab.rIxU K) by exact Ab.ix_U) (pv 2) (pv 3) (fun _ _ => rfl)) pe_int (nomark _))))) (pss_cons (ps_set (i := 4) sc__law_next.nd rfl (.inl rfl) (pe_op op_mod (pe_ix (show IxR _ (Ab.rIxU K) by exact Ab.ix_U) (pv 2) (pv 3) (fun _ _ => rfl)) (pv 1)))
      (pss_cons (ps_asg (pe_op op_fdivW (pe_ix (show IxR _ (Ab.rIxU K) by exact Ab.ix_U) (pv 2) (pv 3) (fun _ _ => rfl)) (pv 1)) (pg_sub (pv 2) (pv 3) set_list))
      (pss_one (ps_ret (pv 4))))) pss_nil)
      (pss_cons (ps_set (i := 5) sc__law_next.nd rfl (.inl rfl) (pe_op (show OpR _ _ (Ab.rAddU K) by exact Ab.op_addU) (pe_op (show OpR _ _ (Ab.rAddU K) by exact Ab.op_addU) (pe_op Ab.op_mulU (pe_dget hu (pv 0) pe_str (fun _ _ => rfl)) pe_int) (pe_op Ab.op_mulU pe_int (pe_dget hu (pv 0) pe_str (fun _ _ => rfl)))) pe_int))
      (pss_cons (ps_dput hu (pv 0) pe_str (pe_op op_mod (pv 5) pe_int) rfl)
      (pss_one (ps_ret (pe_op op_mod (pe_op op_fdivW (pe_dget hu (pv 0) pe_str (fun _ _ => rfl)) pe_int) (pv 1))))))))), Ab.DS.dfn (spF_gc h) rfl (DS.seq (DS.asg (DE.tup (DA.cons (DE.op DR.add (DE.dget DE.var (DE.c fun _ => .str _)) (DE.c fun _ => .int _) NE2.add) (DA.cons (DE.dget DE.var (DE.c fun _ => .str _)) DA.nil))) (DG.tup (DGs.cons (DG.subD DE.var (DE.c fun _ => .str _)) (DGs.cons DG.name DGs.nil))) (Goes.tup (GoesL.cons Goes.sub (GoesL.cons Goes.name GoesL.nil))))
      (DS.seq (DS.asg (DE.op (DR.i fun _ _ _ => .int _) (DE.dget DE.var (DE.c fun _ => .str _)) (DE.cb DB.max2 (DA.cons (DE.c fun _ => .int _) (DA.cons (DE.cb DB.len (DA.cons DE.var DA.nil) NEL.len) DA.nil)) NEL.max2) NE2.i) DG.name Goes.name)
      (DS.seq (DS.ifs (DT.gc (DT.and (DT.test (DE.op DR.ne DE.var (DE.lst DA.nil) NE2.ne)) (DT.test (DE.op (DR.i0 fun _ _ _ => .bl _) (DE.op DR.ix DE.var DE.var NE2.ix) (DE.c fun _ => .int _) NE2.i0)))) (DS.seq (DS.asg (DE.op (DR.i fun _ _ _ => .int _) (DE.op DR.ix DE.var DE.var NE2.ix) DE.var NE2.i) DG.name Goes.name)
      (DS.seq (DS.asg (DE.op (DR.i fun _ _ _ => .int _) (DE.op DR.ix DE.var DE.var NE2.ix) DE.var NE2.i) (DG.subL DE.var DE.var) Goes.sub)
      (DS.ret DE.var))) DS.next)
      (DS.seq (DS.asg (DE.op DR.add (DE.op DR.add (DE.op DR.mul (DE.dget DE.var (DE.c fun _ => .str _)) (DE.c fun _ => .int _) NE2.mul) (DE.op DR.mul (DE.c fun _ => .int _) (DE.dget DE.var (DE.c fun _ => .str _)) NE2.mul) NE2.add) (DE.c fun _ => .int _) NE2.add) DG.name Goes.name)
      (DS.seq (DS.dput DE.var (DE.c fun _ => .str _) (DE.op (DR.i fun _ _ _ => .int _) DE.var (DE.c fun _ => .int _) NE2.i))
      (DS.ret (DE.op (DR.i fun _ _ _ => .int _) (DE.op (DR.i fun _ _ _ => .int _) (DE.dget DE.var (DE.c fun _ => .str _)) (DE.c fun _ => .int _) NE2.i) DE.var NE2.i)))))))⟩
theorem calx__law_power (T : Txt K mg (κ "Linear") (κ "DrawError") (κ "BadState") (κ "BadSteps") (κ "BadNumber") (κ "BadSource")) : Gx.CalX P w K mg base 1 "_law_power" (spF (Wk K κ) 1 F__law_power) := by
  obtain ⟨f, fd, F, b⟩ := T.d__law_power
  refine Gx.calX F b sc__law_power (fun vs H Q E h => spF.len h) (fun cdv A outer s H vs Q E hr h => ?_)
  have hu := hu_of hr
  have hu64 := hr.units
  have hu65 := Ab.u65 hr
  exact ⟨_, (pss_one (ps_ret (pe_op op_shlW pe_int (pv 0)))), Ab.DS.dfn (spF_gc h) rfl (DS.ret (DE.op (DR.i fun _ _ _ => .int _) (DE.c fun _ => .int _) DE.var NE2.i))⟩
theorem calx_s2_is_number (T : Txt K mg (κ "Linear") (κ "DrawError") (κ "BadState") (κ "BadSteps") (κ "BadNumber") (κ "BadSource")) : Gx.CalX P w K mg base 2 "s2_is_number" (spF (Wk K κ) 1 F_s2_is_number) := by
  obtain ⟨f, fd, F, b⟩ := T.d_s2_is_number
  refine Gx.calX F b sc_s2_is_number (fun vs H Q E h => spF.len h) (fun cdv A outer s H vs Q E hr h => ?_)
  have hu := hu_of hr
  have hu64 := hr.units
  have hu65 := Ab.u65 hr
  exact ⟨_, (pss_one (ps_ret (pe_and (Gx.pe_cx (calx_is_integer T) Gx.takes_cx (fun _ _ _ _ h => h) hr (by omega) (by rfl) (pa_cons (pv 0) pa_nil)) (pe_one (pe_chain op_le op_lt pe_int (pv 0) (C8.pe_gc (by rfl) T.c_MODULUS)))))), Ab.DS.dfn (spF_gc h) rfl (DS.ret (DE.andV (DE.call (fun _ => .nil) (DA.cons DE.var DA.nil)) (DE.chain (DR.i0 fun _ _ _ => .bl _) (DR.i0 fun _ _ _ => .bl _) (DE.c fun _ => .int _) DE.var (DE.c fun _ => .int _) NE2.i0 NE2.i0)))⟩
theorem calx_s2_step_map (T : Txt K mg (κ "Linear") (κ "DrawError") (κ "BadState") (κ "BadSteps") (κ "BadNumber") (κ "BadSource")) : Gx.CalX P w K mg base 2 "s2_step_map" (spF (Wk K κ) 1 F_s2_step_map) := by
  obtain ⟨f, fd, F, b⟩ := T.d_s2_step_map
  refine Gx.calX F b sc_s2_step_map (fun vs H Q E h => spF.len h) (fun cdv A outer s H vs Q E hr h => ?_)
  have hu := hu_of hr
  have hu64 := hr.units
  have hu65 := Ab.u65 hr
  exact ⟨_, (pss_cons (ps_par (i := 1) (j := 2) rfl sc_s2_step_map.nd rfl rfl (by decide) rfl rfl (pa_cons (pe_tup (pa_cons pe_int (pa_cons pe_int pa_nil))) (pa_cons (pe_tup (pa_cons (C8.pe_gc (by rfl) T.c_MULTIPLIER) (pa_cons (C8.pe_gc (by rfl) T.c_ADDEND) pa_nil))) pa_nil)) (by rfl))
      (pss_cons (ps_set (i := 0) sc_s2_step_map.nd rfl (.inl rfl) (pe_op op_and (pv 0) (pe_op op_sub (C8.pe_gc (by rfl) T.c_MODULUS) pe_int)))
      (pss_cons (ps_while (passes_of rfl) (pt_cmpR op_gt (pv 0) pe_int (nomark _)) (pss_cons (ps_if (pt_cmpR (show OpR _ _ (Ab.rEqU K) by exact Ab.op_eqU hu64) (pe_op op_and (pv 0) pe_int) pe_int (nomark _)) (pss_one (ps_set (i := 1) sc_s2_step_map.nd rfl (.inl rfl) (Gx.pe_cx (calx_s2_joined T) Gx.takes_cx (fun _ _ _ _ h => h) hr (by omega) (by rfl) (pa_cons (pv 1) (pa_cons (pv 2) pa_nil))))) pss_nil)
      (pss_cons (ps_set (i := 2) sc_s2_step_map.nd rfl (.inl rfl) (Gx.pe_cx (calx_s2_joined T) Gx.takes_cx (fun _ _ _ _ h => h) hr (by omega) (by rfl) (pa_cons (pv 2) (pa_cons (pv 2) pa_nil))))
      (pss_one (ps_set (i := 0) sc_s2_step_map.nd rfl (.inl rfl) (pe_op op_fdivW (pv 0) pe_int))))))
      (pss_one (ps_ret (pv 1)))))), Ab.DS.dfn (spF_gc h) rfl (DS.seq (DS.par (DA.cons (DE.tup (DA.cons (DE.c fun _ => .int _) (DA.cons (DE.c fun _ => .int _) DA.nil))) (DA.cons (DE.tup (DA.cons (DE.c fun _ => .int _) (DA.cons (DE.c fun _ => .int _) DA.nil))) DA.nil)))
      (DS.seq (DS.asg (DE.op (DR.i0 fun _ _ _ => .int _) DE.var (DE.op (DR.i0 fun _ _ _ => .int _) (DE.c fun _ => .int _) (DE.c fun _ => .int _) NE2.i0) NE2.i0) DG.name Goes.name)
      (DS.seq (DS.whileS (DT.test (DE.op (DR.i0 fun _ _ _ => .bl _) DE.var (DE.c fun _ => .int _) NE2.i0)) (DS.seq (DS.ifs (DT.test (DE.op DR.eq (DE.op (DR.i0 fun _ _ _ => .int _) DE.var (DE.c fun _ => .int _) NE2.i0) (DE.c fun _ => .int _) NE2.eq)) (DS.asg (DE.call (fun _ => .nil) (DA.cons DE.var (DA.cons DE.var DA.nil))) DG.name Goes.name) DS.next)
      (DS.seq (DS.asg (DE.call (fun _ => .nil) (DA.cons DE.var (DA.cons DE.var DA.nil))) DG.name Goes.name)
      (DS.asg (DE.op (DR.i fun _ _ _ => .int _) DE.var (DE.c fun _ => .int _) NE2.i) DG.name Goes.name))))
      (DS.ret DE.var))))⟩
theorem calx__law_x (T : Txt K mg (κ "Linear") (κ "DrawError") (κ "BadState") (κ "BadSteps") (κ "BadNumber") (κ "BadSource")) : Gx.CalX P w K mg base 2 "_law_x" (spF (Wk K κ) 1 F__law_x) := by
  obtain ⟨f, fd, F, b⟩ := T.d__law_x
  refine Gx.calX F b sc__law_x (fun vs H Q E h => spF.len h) (fun cdv A outer s H vs Q E hr h => ?_)
  have hu := hu_of hr
  have hu64 := hr.units
  have hu65 := Ab.u65 hr
  exact ⟨_, (pss_cons (ps_set (i := 1) sc__law_x.nd rfl (.inl rfl) (Gx.pe_cx (calx__law_next T) Gx.takes_cx (fun _ _ _ _ h => h) hr (by omega) (by rfl) (pa_cons (pv 0) (pa_cons pe_int pa_nil))))
      (pss_cons (ps_set (i := 2) sc__law_x.nd rfl (.inl rfl) (pe_lst (pa_cons pe_int (pa_cons pe_int (pa_cons pe_int (pa_cons pe_int (pa_cons pe_int (pa_cons pe_int (pa_cons (pe_op op_sub (pv 1) (pe_op op_mod (pv 1) pe_int)) (pa_cons (pv 1) pa_nil))))))))))
      (pss_one (ps_ret (pe_ix (show IxR _ (Ab.rIxU K) by exact Ab.ix_U) (pv 2) (pe_ix (show IxR _ (Ab.rIxU K) by exact Ab.ix_U) (pe_lst (pa_cons pe_int (pa_cons pe_int (pa_cons pe_int (pa_cons pe_int (pa_cons pe_int (pa_cons pe_int (pa_cons pe_int (pa_cons pe_int (pa_cons pe_int (pa_cons pe_int (pa_cons pe_int (pa_cons pe_int pa_nil))))))))))))) (Gx.pe_cx (calx__law_next T) Gx.takes_cx (fun _ _ _ _ h => h) hr (by omega) (by rfl) (pa_cons (pv 0) (pa_cons pe_int pa_nil))) (fun _ _ => rfl)) (fun _ _ => rfl)))))), Ab.DS.dfn (spF_gc h) rfl (DS.seq (DS.asg (DE.call (fun _ => .nil) (DA.cons DE.var (DA.cons (DE.c fun _ => .int _) DA.nil))) DG.name Goes.name)
      (DS.seq (DS.asg (DE.lst (DA.cons (DE.c fun _ => .int _) (DA.cons (DE.c fun _ => .int _) (DA.cons (DE.c fun _ => .int _) (DA.cons (DE.c fun _ => .int _) (DA.cons (DE.c fun _ => .int _) (DA.cons (DE.c fun _ => .int _) (DA.cons (DE.op (DR.i0 fun _ _ _ => .int _) DE.var (DE.op (DR.i fun _ _ _ => .int _) DE.var (DE.c fun _ => .int _) NE2.i) NE2.i0) (DA.cons DE.var DA.nil))))))))) DG.name Goes.name)
      (DS.ret (DE.op DR.ix DE.var (DE.op DR.ix (DE.lst (DA.cons (DE.c fun _ => .int _) (DA.cons (DE.c fun _ => .int _) (DA.cons (DE.c fun _ => .int _) (DA.cons (DE.c fun _ => .int _) (DA.cons (DE.c fun _ => .int _) (DA.cons (DE.c fun _ => .int _) (DA.cons (DE.c fun _ => .int _) (DA.cons (DE.c fun _ => .int _) (DA.cons (DE.c fun _ => .int _) (DA.cons (DE.c fun _ => .int _) (DA.cons (DE.c fun _ => .int _) (DA.cons (DE.c fun _ => .int _) DA.nil))))))))))))) (DE.call (fun _ => .nil) (DA.cons DE.var (DA.cons (DE.c fun _ => .int _) DA.nil))) NE2.ix) NE2.ix))))⟩
theorem calx__law_steps (T : Txt K mg (κ "Linear") (κ "DrawError") (κ "BadState") (κ "BadSteps") (κ "BadNumber") (κ "BadSource")) : Gx.CalX P w K mg base 2 "_law_steps" (spF (Wk K κ) 1 F__law_steps) := by
  obtain ⟨f, fd, F, b⟩ := T.d__law_steps
  refine Gx.calX F b sc__law_steps (fun vs H Q E h => spF.len h) (fun cdv A outer s H vs Q E hr h => ?_)
  have hu := hu_of hr
  have hu64 := hr.units
  have hu65 := Ab.u65 hr
  exact ⟨_, (pss_cons (ps_set (i := 1) sc__law_steps.nd rfl (.inl rfl) (Gx.pe_cx (calx__law_next T) Gx.takes_cx (fun _ _ _ _ h => h) hr (by omega) (by rfl) (pa_cons (pv 0) (pa_cons pe_int pa_nil))))
      (pss_cons (ps_set (i := 2) sc__law_steps.nd rfl (.inl rfl) (pe_lst (pa_cons pe_int (pa_cons pe_int (pa_cons pe_int (pa_cons pe_int (pa_cons pe_int (pa_cons pe_int (pa_cons pe_int (pa_cons (pv 1) pa_nil))))))))))
      (pss_one (ps_ret (pe_ix (show IxR _ (Ab.rIxU K) by exact Ab.ix_U) (pv 2) (pe_ix (show IxR _ (Ab.rIxU K) by exact Ab.ix_U) (pe_lst (pa_cons pe_int (pa_cons pe_int (pa_cons pe_int (pa_cons pe_int (pa_cons pe_int (pa_cons pe_int (pa_cons pe_int (pa_cons pe_int (pa_cons pe_int (pa_cons pe_int (pa_cons pe_int (pa_cons pe_int pa_nil))))))))))))) (Gx.pe_cx (calx__law_next T) Gx.takes_cx (fun _ _ _ _ h => h) hr (by omega) (by rfl) (pa_cons (pv 0) (pa_cons pe_int pa_nil))) (fun _ _ => rfl)) (fun _ _ => rfl)))))), Ab.DS.dfn (spF_gc h) rfl (DS.seq (DS.asg (DE.call (fun _ => .nil) (DA.cons DE.var (DA.cons (DE.c fun _ => .int _) DA.nil))) DG.name Goes.name)
      (DS.seq (DS.asg (DE.lst (DA.cons (DE.c fun _ => .int _) (DA.cons (DE.c fun _ => .int _) (DA.cons (DE.c fun _ => .int _) (DA.cons (DE.c fun _ => .int _) (DA.cons (DE.c fun _ => .int _) (DA.cons (DE.c fun _ => .int _) (DA.cons (DE.c fun _ => .int _) (DA.cons DE.var DA.nil))))))))) DG.name Goes.name)
      (DS.ret (DE.op DR.ix DE.var (DE.op DR.ix (DE.lst (DA.cons (DE.c fun _ => .int _) (DA.cons (DE.c fun _ => .int _) (DA.cons (DE.c fun _ => .int _) (DA.cons (DE.c fun _ => .int _) (DA.cons (DE.c fun _ => .int _) (DA.cons (DE.c fun _ => .int _) (DA.cons (DE.c fun _ => .int _) (DA.cons (DE.c fun _ => .int _) (DA.cons (DE.c fun _ => .int _) (DA.cons (DE.c fun _ => .int _) (DA.cons (DE.c fun _ => .int _) (DA.cons (DE.c fun _ => .int _) DA.nil))))))))))))) (DE.call (fun _ => .nil) (DA.cons DE.var (DA.cons (DE.c fun _ => .int _) DA.nil))) NE2.ix) NE2.ix))))⟩
theorem calx_need_steps (T : Txt K mg (κ "Linear") (κ "DrawError") (κ "BadState") (κ "BadSteps") (κ "BadNumber") (κ "BadSource")) : Gx.CalX P w K mg base 3 "need_steps" (spF (Wk K κ) 1 F_need_steps) := by
  obtain ⟨f, fd, F, b⟩ := T.d_need_steps
  refine Gx.calX F b sc_need_steps (fun vs H Q E h => spF.len h) (fun cdv A outer s H vs Q E hr h => ?_)
  have hu := hu_of hr
  have hu64 := hr.units
  have hu65 := Ab.u65 hr
  exact ⟨_, (pss_one (ps_if (PW.pt (pw_or (pt_not (pt_val (Gx.pe_cx (calx_is_integer T) Gx.takes_cx (fun _ _ _ _ h => h) hr (by omega) (by rfl) (pa_cons (pv 0) pa_nil)))) (pw_or1 (pt_not (pt_chain op_le op_le pe_int (pv 0) (C8.pe_gc (by rfl) T.c_MOST_STEPS)))))) (pss_one (ps_raise rfl Gx.takes_cx (Gx.pmk_exY (exc_BadSteps T) hr (by omega) (by rfl) (pa_cons (pv 0) pa_nil)))) pss_nil)), Ab.DS.dfn (spF_gc h) rfl (DS.ifs (DT.gc (DT.or (DT.not (DT.b (DE.call (fun _ => .nil) (DA.cons DE.var DA.nil)))) (DT.not (DT.test (DE.chain (DR.i0 fun _ _ _ => .bl _) (DR.i0 fun _ _ _ => .bl _) (DE.c fun _ => .int _) DE.var (DE.c fun _ => .int _) NE2.i0 NE2.i0))))) (DS.raise (Wx := fun cls d _ H => E cls d H) (show "BadSteps" ∈ (["BadState", "BadSteps", "BadNumber", "BadSource"] : List String) by decide) (DA.cons DE.var DA.nil)) DS.next)⟩
theorem calx_need_many (T : Txt K mg (κ "Linear") (κ "DrawError") (κ "BadState") (κ "BadSteps") (κ "BadNumber") (κ "BadSource")) : Gx.CalX P w K mg base 3 "need_many" (spF (Wk K κ) 1 F_need_many) := by
  obtain ⟨f, fd, F, b⟩ := T.d_need_many
  refine Gx.calX F b sc_need_many (fun vs H Q E h => spF.len h) (fun cdv A outer s H vs Q E hr h => ?_)
  have hu := hu_of hr
  have hu64 := hr.units
  have hu65 := Ab.u65 hr
  exact ⟨_, (pss_one (ps_if (PW.pt (pw_or (pt_not (pt_val (Gx.pe_cx (calx_is_integer T) Gx.takes_cx (fun _ _ _ _ h => h) hr (by omega) (by rfl) (pa_cons (pv 0) pa_nil)))) (pw_or1 (pt_not (pt_chain op_le op_le pe_int (pv 0) (C8.pe_gc (by rfl) T.c_MOST_WORDS)))))) (pss_one (ps_raise rfl Gx.takes_cx (Gx.pmk_exY (exc_BadSteps T) hr (by omega) (by rfl) (pa_cons (pv 0) pa_nil)))) pss_nil)), Ab.DS.dfn (spF_gc h) rfl (DS.ifs (DT.gc (DT.or (DT.not (DT.b (DE.call (fun _ => .nil) (DA.cons DE.var DA.nil)))) (DT.not (DT.test (DE.chain (DR.i0 fun _ _ _ => .bl _) (DR.i0 fun _ _ _ => .bl _) (DE.c fun _ => .int _) DE.var (DE.c fun _ => .int _) NE2.i0 NE2.i0))))) (DS.raise (Wx := fun cls d _ H => E cls d H) (show "BadSteps" ∈ (["BadState", "BadSteps", "BadNumber", "BadSource"] : List String) by decide) (DA.cons DE.var DA.nil)) DS.next)⟩
theorem calx_s2_need_start (T : Txt K mg (κ "Linear") (κ "DrawError") (κ "BadState") (κ "BadSteps") (κ "BadNumber") (κ "BadSource")) : Gx.CalX P w K mg base 3 "s2_need_start" (spF (Wk K κ) 1 F_s2_need_start) := by
  obtain ⟨f, fd, F, b⟩ := T.d_s2_need_start
  refine Gx.calX F b sc_s2_need_start (fun vs H Q E h => spF.len h) (fun cdv A outer s H vs Q E hr h => ?_)
  have hu := hu_of hr
  have hu64 := hr.units
  have hu65 := Ab.u65 hr
  exact ⟨_, (pss_one (ps_if (pt_not (pt_val (Gx.pe_cx (calx_s2_is_number T) Gx.takes_cx (fun _ _ _ _ h => h) hr (by omega) (by rfl) (pa_cons (pv 0) pa_nil)))) (pss_one (ps_raise rfl Gx.takes_cx (Gx.pmk_exY (exc_BadState T) hr (by omega) (by rfl) (pa_cons (pv 0) pa_nil)))) pss_nil)), Ab.DS.dfn (spF_gc h) rfl (DS.ifs (DT.gc (DT.not (DT.b (DE.call (fun _ => .nil) (DA.cons DE.var DA.nil))))) (DS.raise (Wx := fun cls d _ H => E cls d H) (show "BadState" ∈ (["BadState", "BadSteps", "BadNumber", "BadSource"] : List String) by decide) (DA.cons DE.var DA.nil)) DS.next)⟩
theorem calx_s2_moved (T : Txt K mg (κ "Linear") (κ "DrawError") (κ "BadState") (κ "BadSteps") (κ "BadNumber") (κ "BadSource")) : Gx.CalX P w K mg base 3 "s2_moved" (spF (Wk K κ) 2 F_s2_moved) := by
  obtain ⟨f, fd, F, b⟩ := T.d_s2_moved
  refine Gx.calX F b sc_s2_moved (fun vs H Q E h => spF.len h) (fun cdv A outer s H vs Q E hr h => ?_)
  have hu := hu_of hr
  have hu64 := hr.units
  have hu65 := Ab.u65 hr
  exact ⟨_, (pss_one (ps_ret (Gx.pe_cx (calx_s2_mapped T) Gx.takes_cx (fun _ _ _ _ h => h) hr (by omega) (by rfl) (pa_cons (Gx.pe_cx (calx_s2_step_map T) Gx.takes_cx (fun _ _ _ _ h => h) hr (by omega) (by rfl) (pa_cons (pv 1) pa_nil)) (pa_cons (pv 0) pa_nil))))), Ab.DS.dfn (spF_gc h) rfl (DS.ret (DE.call (fun _ => .nil) (DA.cons (DE.call (fun _ => .nil) (DA.cons DE.var DA.nil)) (DA.cons DE.var DA.nil))))⟩
theorem calx_digit_period (T : Txt K mg (κ "Linear") (κ "DrawError") (κ "BadState") (κ "BadSteps") (κ "BadNumber") (κ "BadSource")) : Gx.CalX P w K mg base 3 "digit_period" (spF (Wk K κ) 1 F_digit_period) := by
  obtain ⟨f, fd, F, b⟩ := T.d_digit_period
  refine Gx.calX F b sc_digit_period (fun vs H Q E h => spF.len h) (fun cdv A outer s H vs Q E hr h => ?_)
  have hu := hu_of hr
  have hu64 := hr.units
  have hu65 := Ab.u65 hr
  exact ⟨_, (pss_cons (ps_if (PW.pt (pw_or (pt_not (pt_val (Gx.pe_cx (calx_is_integer T) Gx.takes_cx (fun _ _ _ _ h => h) hr (by omega) (by rfl) (pa_cons (pv 0) pa_nil)))) (pw_or1 (pt_not (pt_chain op_le op_lt pe_int (pv 0) pe_int))))) (pss_one (ps_raise rfl Gx.takes_cx (Gx.pmk_exY (exc_BadNumber T) hr (by omega) (by rfl) (pa_cons (pv 0) pa_nil)))) pss_nil)
      (pss_one (ps_ret (pe_op op_shlW pe_int (pe_op (show OpR _ _ (Ab.rAddU K) by exact Ab.op_addU) pe_int (pv 0)))))), Ab.DS.dfn (spF_gc h) rfl (DS.seq (DS.ifs (DT.gc (DT.or (DT.not (DT.b (DE.call (fun _ => .nil) (DA.cons DE.var DA.nil)))) (DT.not (DT.test (DE.chain (DR.i0 fun _ _ _ => .bl _) (DR.i0 fun _ _ _ => .bl _) (DE.c fun _ => .int _) DE.var (DE.c fun _ => .int _) NE2.i0 NE2.i0))))) (DS.raise (Wx := fun cls d _ H => E cls d H) (show "BadNumber" ∈ (["BadState", "BadSteps", "BadNumber", "BadSource"] : List String) by decide) (DA.cons DE.var DA.nil)) DS.next)
      (DS.ret (DE.op (DR.i fun _ _ _ => .int _) (DE.c fun _ => .int _) (DE.op DR.add (DE.c fun _ => .int _) DE.var NE2.add) NE2.i)))⟩
theorem makx_Linear (T : Txt K mg (κ "Linear") (κ "DrawError") (κ "BadState") (κ "BadSteps") (κ "BadNumber") (κ "BadSource")) : Gx.MakX P w K mg base 4 "Linear" (κ "Linear") (spF (Wk K κ) 2 F_Linear___init__) [] := by
  obtain ⟨f, fd, M, F, b⟩ := T.d_Linear___init__
  obtain ⟨u, hu1, hu2⟩ := T.k_Linear
  cases hu2
  refine Gx.makX M hu1 F b sc_Linear___init__ (fun vs H Q E h => spF.len h) (fun cdv A outer s H vs Q E hr h => ?_)
  have hu := hu_of hr
  have hu64 := hr.units
  have hu65 := Ab.u65 hr
  exact ⟨_, (pss_cons (ps_expr (Gx.pe_cx (calx_s2_need_start T) Gx.takes_cx (fun _ _ _ _ h => h) hr (by omega) (by rfl) (pa_cons (pv 1) pa_nil)))
      (pss_one (ps_fld (pv 0) (pv 1) rfl))), Ab.DS.dfn (spF_gc h) rfl (DS.seq (DS.drop (DE.call (fun _ => .nil) (DA.cons DE.var DA.nil)))
      (DS.sfld (.cons ⟨T.cl_Linear, T.n_Linear_s2_x⟩ .nil) DE.var DE.var))⟩
theorem lmet_Linear_words (T : Txt K mg (κ "Linear") (κ "DrawError") (κ "BadState") (κ "BadSteps") (κ "BadNumber") (κ "BadSource")) : Lv.LMet P w K mg base 4 (κ "Linear") "words" 2 (spL (Wk K κ) 2 FL_Linear_words) := by
  obtain ⟨f, fd, M, F, b⟩ := T.d_Linear_words
  refine Lv.lmet0 T.cl_Linear M F b sc_Linear_words rfl (fun _ => rfl) (by decide) (fun cdv A outer L Y TT CI H vs cb fin σc hr h => ?_)
  have hu := hu_of hr
  have hu64 := hr.units
  have hu65 := Ab.u65 hr
  exact ⟨_, (Lv.lss_cons (Lv.ls_ps fun s0 H0 => (ps_expr (Gx.pe_cx (calx_need_many T) LamX.takes0 (E := fun _ _ _ => False) (fun _ _ _ _ h => h) hr (by omega) (by rfl) (pa_cons (pv 1) pa_nil))))
      (Lv.lss_cons (Lv.ls_for (fun s0 H0 => (pi_range1 rfl T.b_range (pa_cons (pv 1) pa_nil))) (fun s0 H0 => (pg_name (i := 2) sc_Linear_words.nd rfl (.inl rfl))) (Lv.lss_cons (Lv.ls_yield (fun s0 H0 => (Gx.pe_mx0 (metx_Linear_next_word T) LamX.takes0 (E := fun _ _ _ => False) (fun _ _ _ _ h => h) hr (by omega) (pv 0))) sc_Linear_words.co rfl)
      Lv.lss_nil))
      Lv.lss_nil)), DL.dfn h rfl (DL.seq (DL.plain (DS.drop (DE.call (fun _ => .nil) (DA.cons DE.var DA.nil))))
      (DL.seq (DL.for (DI.rng1 (DA.cons DE.var DA.nil)) DG.name Goes.name (DL.seq (DL.yd (DE.meth (fun _ => .nil) DE.var DA.nil))
      DL.nil))
      DL.nil))⟩
theorem metx_Linear_ahead (T : Txt K mg (κ "Linear") (κ "DrawError") (κ "BadState") (κ "BadSteps") (κ "BadNumber") (κ "BadSource")) : Gx.MetX P w K mg base 6 (κ "Linear") "ahead" (spF (Wk K κ) 2 F_Linear_ahead) := by
  obtain ⟨f, fd, M, F, b⟩ := T.d_Linear_ahead
  refine Gx.metX T.cl_Linear M F b sc_Linear_ahead (fun vs H Q E h => spF.len h) (fun cdv A outer s H vs Q E hr h => ?_)
  have hu := hu_of hr
  have hu64 := hr.units
  have hu65 := Ab.u65 hr
  exact ⟨_, (pss_cons (ps_expr (Gx.pe_cx (calx_need_steps T) Gx.takes_cx (fun _ _ _ _ h => h) hr (by omega) (by rfl) (pa_cons (pv 1) pa_nil)))
      (pss_one (ps_ret (Gx.pe_mkx (makx_Linear T) Gx.takes_cx (fun _ _ _ _ h => h) hr (by omega) (by rfl) (pa_cons (Gx.pe_cx (calx_s2_moved T) Gx.takes_cx (fun _ _ _ _ h => h) hr (by omega) (by rfl) (pa_cons (pe_fld (pv 0) rfl) (pa_cons (pv 1) pa_nil))) pa_nil))))), Ab.DS.dfn (spF_gc h) rfl (DS.seq (DS.drop (DE.call (fun _ => .nil) (DA.cons DE.var DA.nil)))
      (DS.ret (DE.make (fun _ => .nil) (show "Linear" ∈ (["Linear"] : List String) by decide) (DA.cons (DE.call (fun _ => .nil) (DA.cons (DE.fld (.cons ⟨T.cl_Linear, T.n_Linear_s2_x⟩ .nil) DE.var) (DA.cons DE.var DA.nil))) DA.nil))))⟩
theorem metx_Linear_behind (T : Txt K mg (κ "Linear") (κ "DrawError") (κ "BadState") (κ "BadSteps") (κ "BadNumber") (κ "BadSource")) : Gx.MetX P w K mg base 6 (κ "Linear") "behind" (spF (Wk K κ) 2 F_Linear_behind) := by
  obtain ⟨f, fd, M, F, b⟩ := T.d_Linear_behind
  refine Gx.metX T.cl_Linear M F b sc_Linear_behind (fun vs H Q E h => spF.len h) (fun cdv A outer s H vs Q E hr h => ?_)
  have hu := hu_of hr
  have hu64 := hr.units
  have hu65 := Ab.u65 hr
  exact ⟨_, (pss_cons (ps_expr (Gx.pe_cx (calx_need_steps T) Gx.takes_cx (fun _ _ _ _ h => h) hr (by omega) (by rfl) (pa_cons (pv 1) pa_nil)))
      (pss_one (ps_ret (Gx.pe_mkx (makx_Linear T) Gx.takes_cx (fun _ _ _ _ h => h) hr (by omega) (by rfl) (pa_cons (Gx.pe_cx (calx_s2_moved T) Gx.takes_cx (fun _ _ _ _ h => h) hr (by omega) (by rfl) (pa_cons (pe_fld (pv 0) rfl) (pa_cons (pe_op op_sub pe_int (pv 1)) pa_nil))) pa_nil))))), Ab.DS.dfn (spF_gc h) rfl (DS.seq (DS.drop (DE.call (fun _ => .nil) (DA.cons DE.var DA.nil)))
      (DS.ret (DE.make (fun _ => .nil) (show "Linear" ∈ (["Linear"] : List String) by decide) (DA.cons (DE.call (fun _ => .nil) (DA.cons (DE.fld (.cons ⟨T.cl_Linear, T.n_Linear_s2_x⟩ .nil) DE.var) (DA.cons (DE.op (DR.i0 fun _ _ _ => .int _) (DE.c fun _ => .int _) DE.var NE2.i0) DA.nil))) DA.nil))))⟩
theorem calx_s2_need_linear (T : Txt K mg (κ "Linear") (κ "DrawError") (κ "BadState") (κ "BadSteps") (κ "BadNumber") (κ "BadSource")) : Gx.CalX P w K mg base 6 "s2_need_linear" (spF (Wk K κ) 1 F_s2_need_linear) := by
  obtain ⟨f, fd, F, b⟩ := T.d_s2_need_linear
  refine Gx.calX F b sc_s2_need_linear (fun vs H Q E h => spF.len h) (fun cdv A outer s H vs Q E hr h => ?_)
  have hu := hu_of hr
  have hu64 := hr.units
  have hu65 := Ab.u65 hr
  exact ⟨_, (pss_one (ps_if (pt_not (pt_val (pe_callB (show CallR _ _ (Ab.rIsiU K) by exact Ab.call_isiU) (by rfl) T.b_isinstance (by decide +kernel) (pa_cons (pv 0) (pa_cons (C8.pe_gc (by rfl) T.k_Linear) pa_nil))))) (pss_one (ps_raise rfl Gx.takes_cx (Gx.pmk_exY (exc_BadSource T) hr (by omega) (by rfl) (pa_cons (pv 0) pa_nil)))) pss_nil)), Ab.DS.dfn (spF_gc h) rfl (DS.ifs (DT.not (DT.b (DE.cb (DB.isi (kit_Linear T)) (DA.cons DE.var (DA.cons (DE.c fun _ => .cls "Linear") DA.nil)) NEL.isi))) (DS.raise (Wx := fun cls d _ H => E cls d H) (show "BadSource" ∈ (["BadState", "BadSteps", "BadNumber", "BadSource"] : List String) by decide) (DA.cons DE.var DA.nil)) DS.next)⟩
theorem metx_Linear___rshift__ (T : Txt K mg (κ "Linear") (κ "DrawError") (κ "BadState") (κ "BadSteps") (κ "BadNumber") (κ "BadSource")) : Gx.MetX P w K mg base 7 (κ "Linear") "__rshift__" (spF (Wk K κ) 2 F_Linear___rshift__) := by
  obtain ⟨f, fd, M, F, b⟩ := T.d_Linear___rshift__
  refine Gx.metX T.cl_Linear M F b sc_Linear___rshift__ (fun vs H Q E h => spF.len h) (fun cdv A outer s H vs Q E hr h => ?_)
  have hu := hu_of hr
  have hu64 := hr.units
  have hu65 := Ab.u65 hr
  exact ⟨_, (pss_one (ps_ret (Gx.pe_mx (metx_Linear_ahead T) Gx.takes_cx (fun _ _ _ _ h => h) hr (by omega) (pv 0) (pa_cons (pv 1) pa_nil)))), Ab.DS.dfn (spF_gc h) rfl (DS.ret (DE.meth (fun _ => .nil) DE.var (DA.cons DE.var DA.nil)))⟩
theorem metx_Linear___lshift__ (T : Txt K mg (κ "Linear") (κ "DrawError") (κ "BadState") (κ "BadSteps") (κ "BadNumber") (κ "BadSource")) : Gx.MetX P w K mg base 7 (κ "Linear") "__lshift__" (spF (Wk K κ) 2 F_Linear___lshift__) := by
  obtain ⟨f, fd, M, F, b⟩ := T.d_Linear___lshift__
  refine Gx.metX T.cl_Linear M F b sc_Linear___lshift__ (fun vs H Q E h => spF.len h) (fun cdv A outer s H vs Q E hr h => ?_)
  have hu := hu_of hr
  have hu64 := hr.units
  have hu65 := Ab.u65 hr
  exact ⟨_, (pss_one (ps_ret (Gx.pe_mx (metx_Linear_behind T) Gx.takes_cx (fun _ _ _ _ h => h) hr (by omega) (pv 0) (pa_cons (pv 1) pa_nil)))), Ab.DS.dfn (spF_gc h) rfl (DS.ret (DE.meth (fun _ => .nil) DE.var (DA.cons DE.var DA.nil)))⟩
theorem calx_shared_digits (T : Txt K mg (κ "Linear") (κ "DrawError") (κ "BadState") (κ "BadSteps") (κ "BadNumber") (κ "BadSource")) : Gx.CalX P w K mg base 7 "shared_digits" (spF (Wk K κ) 2 F_shared_digits) := by
  obtain ⟨f, fd, F, b⟩ := T.d_shared_digits
  refine Gx.calX F b sc_shared_digits (fun vs H Q E h => spF.len h) (fun cdv A outer s H vs Q E hr h => ?_)
  have hu := hu_of hr
  have hu64 := hr.units
  have hu65 := Ab.u65 hr
  exact ⟨_, (pss_cons (ps_expr (Gx.pe_cx (calx_s2_need_linear T) Gx.takes_cx (fun _ _ _ _ h => h) hr (by omega) (by rfl) (pa_cons (pv 0) pa_nil)))
      (pss_cons (ps_expr (Gx.pe_cx (calx_s2_need_linear T) Gx.takes_cx (fun _ _ _ _ h => h) hr (by omega) (by rfl) (pa_cons (pv 1) pa_nil)))
      (pss_cons (ps_par (i := 2) (j := 3) rfl sc_shared_digits.nd rfl rfl (by decide) rfl rfl (pa_cons (pe_op op_xor (pe_fld (pv 0) rfl) (pe_fld (pv 1) rfl)) (pa_cons pe_int pa_nil)) (by rfl))
      (pss_cons (ps_while (passes_of rfl) (PW.pt (pw_and (pt_cmpR op_lt (pv 3) (C8.pe_gc (by rfl) T.c_DIGITS) (nomark _)) (pw_and1 (pt_cmpR (show OpR _ _ (Ab.rEqU K) by exact Ab.op_eqU hu64) (pe_op op_and (pe_op op_shr (pv 2) (pv 3)) pe_int) pe_int (nomark _))))) (pss_one (ps_aug (i := 3) sc_shared_digits.nd rfl (.inl rfl) pe_int ip_add)))
      (pss_one (ps_ret (pv 3))))))), Ab.DS.dfn (spF_gc h) rfl (DS.seq (DS.drop (DE.call (fun _ => .nil) (DA.cons DE.var DA.nil)))
      (DS.seq (DS.drop (DE.call (fun _ => .nil) (DA.cons DE.var DA.nil)))
      (DS.seq (DS.par (DA.cons (DE.op (DR.i0 fun _ _ _ => .int _) (DE.fld (.cons ⟨T.cl_Linear, T.n_Linear_s2_x⟩ .nil) DE.var) (DE.fld (.cons ⟨T.cl_Linear, T.n_Linear_s2_x⟩ .nil) DE.var) NE2.i0) (DA.cons (DE.c fun _ => .int _) DA.nil)))
      (DS.seq (DS.whileS (DT.and (DT.test (DE.op (DR.i0 fun _ _ _ => .bl _) DE.var (DE.c fun _ => .int _) NE2.i0)) (DT.test (DE.op DR.eq (DE.op (DR.i0 fun _ _ _ => .int _) (DE.op (DR.i fun _ _ _ => .int _) DE.var DE.var NE2.i) (DE.c fun _ => .int _) NE2.i0) (DE.c fun _ => .int _) NE2.eq))) (DS.aug (DR.i0 fun _ _ _ => .int _) NE2.i0 (DE.c fun _ => .int _)))
      (DS.ret DE.var)))))⟩
theorem calx__law_low_right (T : Txt K mg (κ "Linear") (κ "DrawError") (κ "BadState") (κ "BadSteps") (κ "BadNumber") (κ "BadSource")) : Gx.CalX P w K mg base 7 "_law_low_right" (spF (Wk K κ) 3 F__law_low_right) := by
  obtain ⟨f, fd, F, b⟩ := T.d__law_low_right
  refine Gx.calX F b sc__law_low_right (fun vs H Q E h => spF.len h) (fun cdv A outer s H vs Q E hr h => ?_)
  have hu := hu_of hr
  have hu64 := hr.units
  have hu65 := Ab.u65 hr
  exact ⟨_, (pss_cons (ps_set (i := 3) sc__law_low_right.nd rfl (.inl rfl) (pe_op Ab.op_mulU (pv 2) (Gx.pe_cx (calx__law_power T) Gx.takes_cx (fun _ _ _ _ h => h) hr (by omega) (by rfl) (pa_cons (pv 1) pa_nil))))
      (pss_cons (ps_set (i := 4) sc__law_low_right.nd rfl (.inl rfl) (pe_ix (show IxR _ (Ab.rIxU K) by exact Ab.ix_U) (Gx.pe_propC (Gx.pe_mx (metx_Linear_ahead T) Gx.takes_cx (fun _ _ _ _ h => h) hr (by omega) (Gx.pe_mkx (makx_Linear T) Gx.takes_cx (fun _ _ _ _ h => h) hr (by omega) (by rfl) (pa_cons (pv 0) pa_nil)) (pa_cons (pv 3) pa_nil)) (prop_Linear_state T) hr (by omega) rfl) pe_int (fun _ _ => rfl)))
      (pss_cons (ps_if (pt_cmpR (show OpR _ _ (Ab.rNeU K) by exact Ab.op_neU hu64) (pe_op op_mod (pv 0) (Gx.pe_cx (calx__law_power T) Gx.takes_cx (fun _ _ _ _ h => h) hr (by omega) (by rfl) (pa_cons (pv 1) pa_nil))) (pe_op op_mod (pv 4) (Gx.pe_cx (calx__law_power T) Gx.takes_cx (fun _ _ _ _ h => h) hr (by omega) (by rfl) (pa_cons (pv 1) pa_nil))) (nomark _)) (pss_one (ps_ret pe_bl)) pss_nil)
      (pss_one (ps_ret (pe_or (pe_cmpR (show OpR _ _ (Ab.rEqU K) by exact Ab.op_eqU hu64) (pv 1) pe_int (nomark _)) (pe_one (pe_cmpR (show OpR _ _ (Ab.rEqU K) by exact Ab.op_eqU hu64) (pe_cmpR (show OpR _ _ (Ab.rEqU K) by exact Ab.op_eqU hu64) (pe_op op_mod (pe_op op_shr (pv 0) (pv 1)) pe_int) (pe_op op_mod (pe_op op_shr (pv 4) (pv 1)) pe_int) (nomark _)) (pe_cmpR (show OpR _ _ (Ab.rEqU K) by exact Ab.op_eqU hu64) (pe_op op_mod (pv 2) pe_int) pe_int (nomark _)) (nomark _))))))))), Ab.DS.dfn (spF_gc h) rfl (DS.seq (DS.asg (DE.op DR.mul DE.var (DE.call (fun _ => .nil) (DA.cons DE.var DA.nil)) NE2.mul) DG.name Goes.name)
      (DS.seq (DS.asg (DE.gc (DE.op DR.ix (DE.prop (DE.meth (fun _ => .nil) (DE.make (fun _ => .nil) (show "Linear" ∈ (["Linear"] : List String) by decide) (DA.cons DE.var DA.nil)) (DA.cons DE.var DA.nil))) (DE.c fun _ => .int _) NE2.ix)) DG.name Goes.name)
      (DS.seq (DS.ifs (DT.gc (DT.test (DE.op DR.ne (DE.op (DR.i fun _ _ _ => .int _) DE.var (DE.call (fun _ => .nil) (DA.cons DE.var DA.nil)) NE2.i) (DE.op (DR.i fun _ _ _ => .int _) DE.var (DE.call (fun _ => .nil) (DA.cons DE.var DA.nil)) NE2.i) NE2.ne))) (DS.ret (DE.c fun _ => .bl _)) DS.next)
      (DS.ret (DE.orV (DE.op DR.eq DE.var (DE.c fun _ => .int _) NE2.eq) (DE.op DR.eq (DE.op DR.eq (DE.op (DR.i fun _ _ _ => .int _) (DE.op (DR.i fun _ _ _ => .int _) DE.var DE.var NE2.i) (DE.c fun _ => .int _) NE2.i) (DE.op (DR.i fun _ _ _ => .int _) (DE.op (DR.i fun _ _ _ => .int _) DE.var DE.var NE2.i) (DE.c fun _ => .int _) NE2.i) NE2.eq) (DE.op DR.eq (DE.op (DR.i fun _ _ _ => .int _) DE.var (DE.c fun _ => .int _) NE2.i) (DE.c fun _ => .int _) NE2.eq) NE2.eq))))))⟩
theorem cal__law_digit_right (T : Txt K mg (κ "Linear") (κ "DrawError") (κ "BadState") (κ "BadSteps") (κ "BadNumber") (κ "BadSource")) : Gx.CalG P w K mg base 7 "_law_digit_right" (spF (Wk K κ) 2 F__law_digit_right) := by
  obtain ⟨f, fd, F, b⟩ := T.d__law_digit_right
  refine Gx.calG F b sc__law_digit_right (fun vs H Q E h => spF.len h) (fun cdv A outer s H vs Q gd hr h => ?_)
  have hu := hu_of hr
  have hu64 := hr.units
  have hu65 := Ab.u65 hr
  exact ⟨_, (pss_cons (ps_set (i := 2) sc__law_digit_right.nd rfl (.inl rfl) (Gx.pe_cx (calx_digit_period T) LamX.takes0 (E := fun _ _ _ => False) (fun _ _ _ _ h => h) hr (by omega) (by rfl) (pa_cons (pv 1) pa_nil)))
      (pss_cons (ps_if (pt_cmpR (show OpR _ _ (Ab.rNeU K) by exact Ab.op_neU hu64) (pe_callB (show CallR _ _ (Gx.rReprE K) by exact Gx.call_reprE gd hu64) (by rfl) T.b_repr (by decide +kernel) (pa_cons (pv 2) pa_nil)) (pe_callB (show CallR _ _ (Gx.rReprE K) by exact Gx.call_reprE gd hu64) (by rfl) T.b_repr (by decide +kernel) (pa_cons (Gx.pe_cx (calx__law_power T) LamX.takes0 (E := fun _ _ _ => False) (fun _ _ _ _ h => h) hr (by omega) (by rfl) (pa_cons (pe_op (show OpR _ _ (Ab.rAddU K) by exact Ab.op_addU) pe_int (pv 1)) pa_nil)) pa_nil)) (nomark _)) (pss_one (ps_ret pe_bl)) pss_nil)
      (pss_cons (ps_par (i := 3) (j := 4) rfl sc__law_digit_right.nd rfl rfl (by decide) rfl rfl (pa_cons (Gx.pe_mkx (makx_Linear T) LamX.takes0 (E := fun _ _ _ => False) (fun _ _ _ _ h => h) hr (by omega) (by rfl) (pa_cons (pv 0) pa_nil)) (pa_cons (Gx.pe_mx (metx_Linear_ahead T) LamX.takes0 (E := fun _ _ _ => False) (fun _ _ _ _ h => h) hr (by omega) (Gx.pe_mkx (makx_Linear T) LamX.takes0 (E := fun _ _ _ => False) (fun _ _ _ _ h => h) hr (by omega) (by rfl) (pa_cons (pv 0) pa_nil)) (pa_cons (pv 2) pa_nil)) pa_nil)) (by rfl))
      (pss_cons (ps_set (i := 5) sc__law_digit_right.nd rfl (.inl rfl) (Gx.pe_mx (metx_Linear_ahead T) LamX.takes0 (E := fun _ _ _ => False) (fun _ _ _ _ h => h) hr (by omega) (Gx.pe_mkx (makx_Linear T) LamX.takes0 (E := fun _ _ _ => False) (fun _ _ _ _ h => h) hr (by omega) (by rfl) (pa_cons (pv 0) pa_nil)) (pa_cons (pe_op op_fdivW (pv 2) pe_int) pa_nil)))
      (pss_cons (ps_for PassesOwn.never rfl (pi_range1 rfl T.b_range (pa_cons pe_int pa_nil)) (pg_name (i := 6) sc__law_digit_right.nd rfl (.inl rfl)) (pss_cons (ps_par3 (i := 7) (j := 8) (l := 9) rfl sc__law_digit_right.nd rfl rfl rfl (by decide) (by decide) (by decide) rfl rfl rfl (pa_cons (Gx.pe_mx0 (metx_Linear_next_word T) LamX.takes0 (E := fun _ _ _ => False) (fun _ _ _ _ h => h) hr (by omega) (pv 3)) (pa_cons (Gx.pe_mx0 (metx_Linear_next_word T) LamX.takes0 (E := fun _ _ _ => False) (fun _ _ _ _ h => h) hr (by omega) (pv 4)) (pa_cons (Gx.pe_mx0 (metx_Linear_next_word T) LamX.takes0 (E := fun _ _ _ => False) (fun _ _ _ _ h => h) hr (by omega) (pv 5)) pa_nil))) (by rfl))
      (pss_cons (ps_set (i := 10) sc__law_digit_right.nd rfl (.inl rfl) (Gx.pe_cx (calx__law_power T) LamX.takes0 (E := fun _ _ _ => False) (fun _ _ _ _ h => h) hr (by omega) (by rfl) (pa_cons (pv 1) pa_nil)))
      (pss_one (ps_if (PW.pt (pw_or (pt_cmpR (show OpR _ _ (Ab.rNeU K) by exact Ab.op_neU hu64) (pe_op op_mod (pv 7) (pe_op Ab.op_mulU pe_int (pv 10))) (pe_op op_mod (pv 8) (pe_op Ab.op_mulU pe_int (pv 10))) (nomark _)) (pw_or (pt_cmpR (show OpR _ _ (Ab.rEqU K) by exact Ab.op_eqU hu64) (pe_op op_mod (pe_op op_fdivW (pv 7) (pv 10)) pe_int) (pe_op op_mod (pe_op op_fdivW (pv 9) (pv 10)) pe_int) (nomark _)) (pw_or1 (pt_cmpR (show OpR _ _ (Ab.rNeU K) by exact Ab.op_neU hu64) (pe_op op_mod (pv 7) (pv 10)) (pe_op op_mod (pv 9) (pv 10)) (nomark _)))))) (pss_one (ps_ret pe_bl)) pss_nil)))))
      (pss_one (ps_ret pe_bl))))))), Ab.DS.dfn (spF_gc h) rfl (DS.seq (DS.asg (DE.call (fun _ => .nil) (DA.cons DE.var DA.nil)) DG.name Goes.name)
      (DS.seq (DS.ifs (DT.gc (DT.test (DE.op DR.ne (DE.cb DB.reprE (DA.cons DE.var DA.nil) NEL.reprE) (DE.cb DB.reprE (DA.cons (DE.call (fun _ => .nil) (DA.cons (DE.op DR.add (DE.c fun _ => .int _) DE.var NE2.add) DA.nil)) DA.nil) NEL.reprE) NE2.ne))) (DS.ret (DE.c fun _ => .bl _)) DS.next)
      (DS.seq (DS.par (DA.cons (DE.make (fun _ => .nil) (show "Linear" ∈ (["Linear"] : List String) by decide) (DA.cons DE.var DA.nil)) (DA.cons (DE.meth (fun _ => .nil) (DE.make (fun _ => .nil) (show "Linear" ∈ (["Linear"] : List String) by decide) (DA.cons DE.var DA.nil)) (DA.cons DE.var DA.nil)) DA.nil)))
      (DS.seq (DS.asg (DE.meth (fun _ => .nil) (DE.make (fun _ => .nil) (show "Linear" ∈ (["Linear"] : List String) by decide) (DA.cons DE.var DA.nil)) (DA.cons (DE.op (DR.i fun _ _ _ => .int _) DE.var (DE.c fun _ => .int _) NE2.i) DA.nil)) DG.name Goes.name)
      (DS.seq (DS.forS (DI.rng1 (DA.cons (DE.c fun _ => .int _) DA.nil)) DG.name Goes.name (DS.seq (DS.par3 (DA.cons (DE.meth (fun _ => .nil) DE.var DA.nil) (DA.cons (DE.meth (fun _ => .nil) DE.var DA.nil) (DA.cons (DE.meth (fun _ => .nil) DE.var DA.nil) DA.nil))))
      (DS.seq (DS.asg (DE.call (fun _ => .nil) (DA.cons DE.var DA.nil)) DG.name Goes.name)
      (DS.ifs (DT.or (DT.test (DE.op DR.ne (DE.op (DR.i fun _ _ _ => .int _) DE.var (DE.op DR.mul (DE.c fun _ => .int _) DE.var NE2.mul) NE2.i) (DE.op (DR.i fun _ _ _ => .int _) DE.var (DE.op DR.mul (DE.c fun _ => .int _) DE.var NE2.mul) NE2.i) NE2.ne)) (DT.or (DT.test (DE.op DR.eq (DE.op (DR.i fun _ _ _ => .int _) (DE.op (DR.i fun _ _ _ => .int _) DE.var DE.var NE2.i) (DE.c fun _ => .int _) NE2.i) (DE.op (DR.i fun _ _ _ => .int _) (DE.op (DR.i fun _ _ _ => .int _) DE.var DE.var NE2.i) (DE.c fun _ => .int _) NE2.i) NE2.eq)) (DT.test (DE.op DR.ne (DE.op (DR.i fun _ _ _ => .int _) DE.var DE.var NE2.i) (DE.op (DR.i fun _ _ _ => .int _) DE.var DE.var NE2.i) NE2.ne)))) (DS.ret (DE.c fun _ => .bl _)) DS.next))))
      (DS.ret (DE.c fun _ => .bl _)))))))⟩
theorem calx__law_other_right (T : Txt K mg (κ "Linear") (κ "DrawError") (κ "BadState") (κ "BadSteps") (κ "BadNumber") (κ "BadSource")) : Gx.CalX P w K mg base 8 "_law_other_right" (spF (Wk K κ) 2 F__law_other_right) := by
  obtain ⟨f, fd, F, b⟩ := T.d__law_other_right
  refine Gx.calX F b sc__law_other_right (fun vs H Q E h => spF.len h) (fun cdv A outer s H vs Q E hr h => ?_)
  have hu := hu_of hr
  have hu64 := hr.units
  have hu65 := Ab.u65 hr
  exact ⟨_, (pss_cons (ps_par (i := 2) (j := 3) rfl sc__law_other_right.nd rfl rfl (by decide) rfl rfl (pa_cons (pe_ix (show IxR _ (Ab.rIxU K) by exact Ab.ix_U) (Gx.pe_propC (Gx.pe_mx (metx_Linear_ahead T) Gx.takes_cx (fun _ _ _ _ h => h) hr (by omega) (Gx.pe_mkx (makx_Linear T) Gx.takes_cx (fun _ _ _ _ h => h) hr (by omega) (by rfl) (pa_cons (pv 0) pa_nil)) (pa_cons (pv 1) pa_nil)) (prop_Linear_state T) hr (by omega) rfl) pe_int (fun _ _ => rfl)) (pa_cons pe_int pa_nil)) (by rfl))
      (pss_cons (ps_while (passes_of rfl) (PW.pt (pw_and (pt_cmpR op_lt (pv 3) pe_int (nomark _)) (pw_and1 (pt_cmpR (show OpR _ _ (Ab.rEqU K) by exact Ab.op_eqU hu64) (pe_op op_mod (pv 1) (Gx.pe_cx (calx__law_power T) Gx.takes_cx (fun _ _ _ _ h => h) hr (by omega) (by rfl) (pa_cons (pe_op (show OpR _ _ (Ab.rAddU K) by exact Ab.op_addU) (pv 3) pe_int) pa_nil))) pe_int (nomark _))))) (pss_one (ps_set (i := 3) sc__law_other_right.nd rfl (.inl rfl) (pe_op (show OpR _ _ (Ab.rAddU K) by exact Ab.op_addU) (pv 3) pe_int))))
      (pss_cons (ps_if (pt_cmpR (show OpR _ _ (Ab.rNeU K) by exact Ab.op_neU hu64) (Gx.pe_cx (calx_shared_digits T) Gx.takes_cx (fun _ _ _ _ h => h) hr (by omega) (by rfl) (pa_cons (Gx.pe_mkx (makx_Linear T) Gx.takes_cx (fun _ _ _ _ h => h) hr (by omega) (by rfl) (pa_cons (pv 0) pa_nil)) (pa_cons (Gx.pe_mkx (makx_Linear T) Gx.takes_cx (fun _ _ _ _ h => h) hr (by omega) (by rfl) (pa_cons (pv 2) pa_nil)) pa_nil))) (pv 3) (nomark _)) (pss_one (ps_ret pe_bl)) pss_nil)
      (pss_one (ps_ret (pe_and (pe_cmpR (show OpR _ _ (Ab.rEqU K) by exact Ab.op_eqU hu64) (Gx.pe_cx (calx_shared_digits T) Gx.takes_cx (fun _ _ _ _ h => h) hr (by omega) (by rfl) (pa_cons (Gx.pe_mkx (makx_Linear T) Gx.takes_cx (fun _ _ _ _ h => h) hr (by omega) (by rfl) (pa_cons (pv 2) pa_nil)) (pa_cons (Gx.pe_mkx (makx_Linear T) Gx.takes_cx (fun _ _ _ _ h => h) hr (by omega) (by rfl) (pa_cons (pv 0) pa_nil)) pa_nil))) (pv 3) (nomark _)) (pe_one (pe_cmpR (show OpR _ _ (Ab.rEqU K) by exact Ab.op_eqU hu64) (Gx.pe_cx (calx_shared_digits T) Gx.takes_cx (fun _ _ _ _ h => h) hr (by omega) (by rfl) (pa_cons (Gx.pe_mkx (makx_Linear T) Gx.takes_cx (fun _ _ _ _ h => h) hr (by omega) (by rfl) (pa_cons (pv 0) pa_nil)) (pa_cons (Gx.pe_mkx (makx_Linear T) Gx.takes_cx (fun _ _ _ _ h => h) hr (by omega) (by rfl) (pa_cons (pv 0) pa_nil)) pa_nil))) pe_int (nomark _))))))))), Ab.DS.dfn (spF_gc h) rfl (DS.seq (DS.par (DA.cons (DE.op DR.ix (DE.prop (DE.meth (fun _ => .nil) (DE.make (fun _ => .nil) (show "Linear" ∈ (["Linear"] : List String) by decide) (DA.cons DE.var DA.nil)) (DA.cons DE.var DA.nil))) (DE.c fun _ => .int _) NE2.ix) (DA.cons (DE.c fun _ => .int _) DA.nil)))
      (DS.seq (DS.whileS (DT.and (DT.test (DE.op (DR.i0 fun _ _ _ => .bl _) DE.var (DE.c fun _ => .int _) NE2.i0)) (DT.test (DE.op DR.eq (DE.op (DR.i fun _ _ _ => .int _) DE.var (DE.call (fun _ => .nil) (DA.cons (DE.op DR.add DE.var (DE.c fun _ => .int _) NE2.add) DA.nil)) NE2.i) (DE.c fun _ => .int _) NE2.eq))) (DS.asg (DE.op DR.add DE.var (DE.c fun _ => .int _) NE2.add) DG.name Goes.name))
      (DS.seq (DS.ifs (DT.gc (DT.test (DE.op DR.ne (DE.call (fun _ => .nil) (DA.cons (DE.make (fun _ => .nil) (show "Linear" ∈ (["Linear"] : List String) by decide) (DA.cons DE.var DA.nil)) (DA.cons (DE.make (fun _ => .nil) (show "Linear" ∈ (["Linear"] : List String) by decide) (DA.cons DE.var DA.nil)) DA.nil))) DE.var NE2.ne))) (DS.ret (DE.c fun _ => .bl _)) DS.next)
      (DS.ret (DE.andV (DE.op DR.eq (DE.call (fun _ => .nil) (DA.cons (DE.make (fun _ => .nil) (show "Linear" ∈ (["Linear"] : List String) by decide) (DA.cons DE.var DA.nil)) (DA.cons (DE.make (fun _ => .nil) (show "Linear" ∈ (["Linear"] : List String) by decide) (DA.cons DE.var DA.nil)) DA.nil))) DE.var NE2.eq) (DE.op DR.eq (DE.call (fun _ => .nil) (DA.cons (DE.make (fun _ => .nil) (show "Linear" ∈ (["Linear"] : List String) by decide) (DA.cons DE.var DA.nil)) (DA.cons (DE.make (fun _ => .nil) (show "Linear" ∈ (["Linear"] : List String) by decide) (DA.cons DE.var DA.nil)) DA.nil))) (DE.c fun _ => .int _) NE2.eq))))))⟩
theorem calx__law_pair_right (T : Txt K mg (κ "Linear") (κ "DrawError") (κ "BadState") (κ "BadSteps") (κ "BadNumber") (κ "BadSource")) : Gx.CalX P w K mg base 8 "_law_pair_right" (spF (Wk K κ) 4 F__law_pair_right) := by
  obtain ⟨f, fd, F, b⟩ := T.d__law_pair_right
  refine Gx.calX F b sc__law_pair_right (fun vs H Q E h => spF.len h) (fun cdv A outer s H vs Q E hr h => ?_)
  have hu := hu_of hr
  have hu64 := hr.units
  have hu65 := Ab.u65 hr
  exact ⟨_, (pss_cons (ps_par (i := 4) (j := 5) rfl sc__law_pair_right.nd rfl rfl (by decide) rfl rfl (pa_cons (Gx.pe_mkx (makx_Linear T) Gx.takes_cx (fun _ _ _ _ h => h) hr (by omega) (by rfl) (pa_cons (pv 0) pa_nil)) (pa_cons (Gx.pe_mkx (makx_Linear T) Gx.takes_cx (fun _ _ _ _ h => h) hr (by omega) (by rfl) (pa_cons (pe_op op_mod (pe_op (show OpR _ _ (Ab.rAddU K) by exact Ab.op_addU) (pv 0) (pe_op Ab.op_mulU (pv 2) (Gx.pe_cx (calx__law_power T) Gx.takes_cx (fun _ _ _ _ h => h) hr (by omega) (by rfl) (pa_cons (pv 1) pa_nil)))) pe_int) pa_nil)) pa_nil)) (by rfl))
      (pss_cons (ps_set (i := 6) sc__law_pair_right.nd rfl (.inl rfl) (Gx.pe_cx (calx_shared_digits T) Gx.takes_cx (fun _ _ _ _ h => h) hr (by omega) (by rfl) (pa_cons (pv 4) (pa_cons (pv 5) pa_nil))))
      (pss_cons (ps_if (PW.pt (pw_or (pt_cmpR op_lt (pv 6) (pe_callB (Rd.call_mn2 rfl) (by rfl) T.b_min (by decide +kernel) (pa_cons (pv 1) (pa_cons pe_int pa_nil))) (nomark _)) (pw_or1 (PW.pt (pw_and (pt_cmpR op_lt (pv 1) pe_int (nomark _)) (pw_and (pt_cmpR (show OpR _ _ (Ab.rEqU K) by exact Ab.op_eqU hu64) (pe_op op_mod (pv 2) pe_int) pe_int (nomark _)) (pw_and1 (pt_cmpR (show OpR _ _ (Ab.rNeU K) by exact Ab.op_neU hu64) (pv 6) (pv 1) (nomark _))))))))) (pss_one (ps_ret pe_bl)) pss_nil)
      (pss_cons (ps_if (PW.pt (pw_or (pt_cmpR (show OpR _ _ (Ab.rNeU K) by exact Ab.op_neU hu64) (Gx.pe_cx (calx_shared_digits T) Gx.takes_cx (fun _ _ _ _ h => h) hr (by omega) (by rfl) (pa_cons (pe_op (show OpR _ _ (Gx.rOwnX K (κ "Linear") "rshift" _ _) from Gx.op_ownX (op := .RShift) (metx_Linear___rshift__ T) Gx.takes_cx (fun _ _ _ _ h => h) hr (by omega) T.ol_Linear_rshift rfl) (pv 4) (pv 3)) (pa_cons (pe_op (show OpR _ _ (Gx.rOwnX K (κ "Linear") "rshift" _ _) from Gx.op_ownX (op := .RShift) (metx_Linear___rshift__ T) Gx.takes_cx (fun _ _ _ _ h => h) hr (by omega) T.ol_Linear_rshift rfl) (pv 5) (pv 3)) pa_nil))) (pv 6) (nomark _)) (pw_or1 (pt_cmpR (show OpR _ _ (Ab.rNeU K) by exact Ab.op_neU hu64) (Gx.pe_cx (calx_shared_digits T) Gx.takes_cx (fun _ _ _ _ h => h) hr (by omega) (by rfl) (pa_cons (pe_op (show OpR _ _ (Gx.rOwnX K (κ "Linear") "lshift" _ _) from Gx.op_ownX (op := .LShift) (metx_Linear___lshift__ T) Gx.takes_cx (fun _ _ _ _ h => h) hr (by omega) T.ol_Linear_lshift rfl) (pv 5) (pv 3)) (pa_cons (pe_op (show OpR _ _ (Gx.rOwnX K (κ "Linear") "lshift" _ _) from Gx.op_ownX (op := .LShift) (metx_Linear___lshift__ T) Gx.takes_cx (fun _ _ _ _ h => h) hr (by omega) T.ol_Linear_lshift rfl) (pv 4) (pv 3)) pa_nil))) (pv 6) (nomark _))))) (pss_one (ps_ret pe_bl)) pss_nil)
      (pss_cons (ps_set (i := 7) sc__law_pair_right.nd rfl (.inr rfl) (Gx.pe_cx (calx__law_power T) Gx.takes_cx (fun _ _ _ _ h => h) hr (by omega) (by rfl) (pa_cons (pe_callB (Rd.call_mx2 rfl) (by rfl) T.b_max (by decide +kernel) (pa_cons pe_int (pa_cons (pe_op op_sub (pv 6) pe_int) pa_nil))) pa_nil)))
      (pss_one (ps_ret (pe_cmpR (show OpR _ _ (Ab.rEqU K) by exact Ab.op_eqU hu64) (Lv.pe_lcMX (own := [("_law_word", 8)]) (lmet_Linear_words T) rfl hr (by omega) sc__law_pair_right.nd (pv 4) (pa_cons pe_int pa_nil) (blkOk_by (N := ["_law_x_here", "_law_k", "_law_times", "_law_steps_here", "_law_one", "_law_far", "_law_shared", "_law_low", "_law_word"]) (sc := C8.fnScope s__law_pair_right) (by decide +kernel)) (fun _ _ => rfl) (fun _ _ _ _ _ => (pg_name (i := 8) sc__law_pair_right.nd rfl (.inl rfl))) (fun _ _ _ _ _ => pts_nil) (fun _ _ _ _ _ => (pe_op op_mod (pv 8) (pv 7)))) (Lv.pe_lcMX (own := [("_law_word", 8)]) (lmet_Linear_words T) rfl hr (by omega) sc__law_pair_right.nd (pv 5) (pa_cons pe_int pa_nil) (blkOk_by (N := ["_law_x_here", "_law_k", "_law_times", "_law_steps_here", "_law_one", "_law_far", "_law_shared", "_law_low", "_law_word"]) (sc := C8.fnScope s__law_pair_right) (by decide +kernel)) (fun _ _ => rfl) (fun _ _ _ _ _ => (pg_name (i := 8) sc__law_pair_right.nd rfl (.inl rfl))) (fun _ _ _ _ _ => pts_nil) (fun _ _ _ _ _ => (pe_op op_mod (pv 8) (pv 7)))) (nomark _))))))))), Ab.DS.dfn (spF_gc h) rfl (DS.seq (DS.par (DA.cons (DE.make (fun _ => .nil) (show "Linear" ∈ (["Linear"] : List String) by decide) (DA.cons DE.var DA.nil)) (DA.cons (DE.make (fun _ => .nil) (show "Linear" ∈ (["Linear"] : List String) by decide) (DA.cons (DE.op (DR.i fun _ _ _ => .int _) (DE.op DR.add DE.var (DE.op DR.mul DE.var (DE.call (fun _ => .nil) (DA.cons DE.var DA.nil)) NE2.mul) NE2.add) (DE.c fun _ => .int _) NE2.i) DA.nil)) DA.nil)))
      (DS.seq (DS.asg (DE.call (fun _ => .nil) (DA.cons DE.var (DA.cons DE.var DA.nil))) DG.name Goes.name)
      (DS.seq (DS.ifs (DT.or (DT.test (DE.op (DR.i0 fun _ _ _ => .bl _) DE.var (DE.cb DB.min2 (DA.cons DE.var (DA.cons (DE.c fun _ => .int _) DA.nil)) NEL.min2) NE2.i0)) (DT.and (DT.test (DE.op (DR.i0 fun _ _ _ => .bl _) DE.var (DE.c fun _ => .int _) NE2.i0)) (DT.and (DT.test (DE.op DR.eq (DE.op (DR.i fun _ _ _ => .int _) DE.var (DE.c fun _ => .int _) NE2.i) (DE.c fun _ => .int _) NE2.eq)) (DT.test (DE.op DR.ne DE.var DE.var NE2.ne))))) (DS.ret (DE.c fun _ => .bl _)) DS.next)
      (DS.seq (DS.ifs (DT.gc (DT.or (DT.test (DE.op DR.ne (DE.call (fun _ => .nil) (DA.cons (DE.own (.cons T.ot_Linear_rshift_int .nil) DE.var DE.var) (DA.cons (DE.own (.cons T.ot_Linear_rshift_int .nil) DE.var DE.var) DA.nil))) DE.var NE2.ne)) (DT.test (DE.op DR.ne (DE.call (fun _ => .nil) (DA.cons (DE.own (.cons T.ot_Linear_lshift_int .nil) DE.var DE.var) (DA.cons (DE.own (.cons T.ot_Linear_lshift_int .nil) DE.var DE.var) DA.nil))) DE.var NE2.ne)))) (DS.ret (DE.c fun _ => .bl _)) DS.next)
      (DS.seq (DS.asg (DE.call (fun _ => .nil) (DA.cons (DE.cb DB.max2 (DA.cons (DE.c fun _ => .int _) (DA.cons (DE.op (DR.i0 fun _ _ _ => .int _) DE.var (DE.c fun _ => .int _) NE2.i0) DA.nil)) NEL.max2) DA.nil)) DG.name Goes.name)
      (DS.ret (DE.op DR.eq (DE.lcM (fun _ => .nil) DE.var (DA.cons (DE.c fun _ => .int _) DA.nil) DG.name Goes.name (WT.name (by decide)) DT.yes (DE.op (DR.i fun _ _ _ => .int _) DE.var DE.var NE2.i)) (DE.lcM (fun _ => .nil) DE.var (DA.cons (DE.c fun _ => .int _) DA.nil) DG.name Goes.name (WT.name (by decide)) DT.yes (DE.op (DR.i fun _ _ _ => .int _) DE.var DE.var NE2.i)) NE2.eq)))))))⟩
def spLaw (K : PySem.W.Frag) : Sp := fun vs H Q _ => ∃ (a : Addr) (ns : List Int), vs = [.ref a] ∧ SqF K H a (ns.map V.int) ∧ LamX.Tabs [] H ∧ (∃ s', F_law [.scr (ns.map .int)] s0 = .ok (.bl true) s') ∧ ∀ H', Q (.bl true) H'
theorem fn_law (T : Txt K mg (κ "Linear") (κ "DrawError") (κ "BadState") (κ "BadSteps") (κ "BadNumber") (κ "BadSource")) {f : Addr} {fd : FuncData} (F : C8.Def K mg "law" s_law f fd) : Gx.FnG P w K mg base 9 f fd ["_law_script"] (spLaw K) := by
  refine Gx.fnG_of F.fn sc_law (fun vs H Q E h => ?_) (fun cdv A outer s H vs Q gd hr h => ?_)
  · obtain ⟨a, ns, rfl, _⟩ := h; rfl
  · obtain ⟨a, ns, rfl, hS, tb, hl, q⟩ := h
    have hu := hu_of hr
    have hu64 := hr.units
    have hu65 := Ab.u65 hr
    exact ⟨_, (pss_cons (ps_set (i := 1) sc_law.nd rfl (.inl rfl) (Gx.pe_cx (calx__law_begun T) LamX.takes0 (E := fun _ _ _ => False) (fun _ _ _ _ h => h) hr (by omega) (by rfl) (pa_cons (pv 0) pa_nil)))
      (pss_cons (ps_for PassesOwn.never rfl (pi_range1 rfl T.b_range (pa_cons (pe_op (show OpR _ _ (Ab.rAddU K) by exact Ab.op_addU) pe_int (pe_callB (Rd.call_mn2 rfl) (by rfl) T.b_min (by decide +kernel) (pa_cons pe_int (pa_cons (pe_op op_fdivW (pe_callB (show CallR _ _ (Ab.rLenU K) by exact Ab.call_lenU) (by rfl) T.b_len PySem.boot_len (pa_cons (pv 0) pa_nil)) pe_int) pa_nil)))) pa_nil)) (pg_name (i := 2) sc_law.nd rfl (.inl rfl)) (pss_cons (ps_par3 (i := 3) (j := 4) (l := 5) rfl sc_law.nd rfl rfl rfl (by decide) (by decide) (by decide) rfl rfl rfl (pa_cons (Gx.pe_cx (calx__law_x T) LamX.takes0 (E := fun _ _ _ => False) (fun _ _ _ _ h => h) hr (by omega) (by rfl) (pa_cons (pv 1) pa_nil)) (pa_cons (Gx.pe_cx (calx__law_next T) LamX.takes0 (E := fun _ _ _ => False) (fun _ _ _ _ h => h) hr (by omega) (by rfl) (pa_cons (pv 1) (pa_cons pe_int pa_nil))) (pa_cons (pe_op (show OpR _ _ (Ab.rAddU K) by exact Ab.op_addU) pe_int (Gx.pe_cx (calx__law_next T) LamX.takes0 (E := fun _ _ _ => False) (fun _ _ _ _ h => h) hr (by omega) (by rfl) (pa_cons (pv 1) (pa_cons pe_int pa_nil)))) pa_nil))) (by rfl))
      (pss_cons (ps_if (PW.pt (pw_or (pt_not (pt_val (Gx.pe_cx (calx__law_low_right T) LamX.takes0 (E := fun _ _ _ => False) (fun _ _ _ _ h => h) hr (by omega) (by rfl) (pa_cons (pv 3) (pa_cons (pv 4) (pa_cons (pv 5) pa_nil)))))) (pw_or1 (pt_not (pt_val (Gx.pe_cx (calx__law_other_right T) LamX.takes0 (E := fun _ _ _ => False) (fun _ _ _ _ h => h) hr (by omega) (by rfl) (pa_cons (pv 3) (pa_cons (pe_op (show OpR _ _ (Ab.rAddU K) by exact Ab.op_addU) pe_int (Gx.pe_cx (calx__law_next T) LamX.takes0 (E := fun _ _ _ => False) (fun _ _ _ _ h => h) hr (by omega) (by rfl) (pa_cons (pv 1) (pa_cons pe_int pa_nil)))) pa_nil)))))))) (pss_one (ps_ret pe_bl)) pss_nil)
      (pss_one (ps_if (PW.pt (pw_or (pt_not (pt_val (Gx.pe_g (cal__law_digit_right T) gd hr (by omega) (by rfl) (pa_cons (pv 3) (pa_cons (Gx.pe_cx (calx__law_next T) LamX.takes0 (E := fun _ _ _ => False) (fun _ _ _ _ h => h) hr (by omega) (by rfl) (pa_cons (pv 1) (pa_cons pe_int pa_nil))) pa_nil))))) (pw_or1 (pt_not (pt_val (Gx.pe_cx (calx__law_pair_right T) LamX.takes0 (E := fun _ _ _ => False) (fun _ _ _ _ h => h) hr (by omega) (by rfl) (pa_cons (pv 3) (pa_cons (pv 4) (pa_cons (pv 5) (pa_cons (Gx.pe_cx (calx__law_steps T) LamX.takes0 (E := fun _ _ _ => False) (fun _ _ _ _ h => h) hr (by omega) (by rfl) (pa_cons (pv 1) pa_nil)) pa_nil)))))))))) (pss_one (ps_ret pe_bl)) pss_nil)))))
      (pss_one (ps_ret pe_bl)))), law_run (W := (Wk K κ)) (fun _ => trivial) hS tb hl rfl (DS.seq (DS.asg (DE.call (fun _ => .nil) (DA.cons DE.var DA.nil)) DG.name Goes.name)
      (DS.seq (DS.forS (DI.rng1 (DA.cons (DE.op DR.add (DE.c fun _ => .int _) (DE.cb DB.min2 (DA.cons (DE.c fun _ => .int _) (DA.cons (DE.op (DR.i fun _ _ _ => .int _) (DE.cb DB.len (DA.cons DE.var DA.nil) NEL.len) (DE.c fun _ => .int _) NE2.i) DA.nil)) NEL.min2) NE2.add) DA.nil)) DG.name Goes.name (DS.seq (DS.par3 (DA.cons (DE.call (fun _ => .nil) (DA.cons DE.var DA.nil)) (DA.cons (DE.call (fun _ => .nil) (DA.cons DE.var (DA.cons (DE.c fun _ => .int _) DA.nil))) (DA.cons (DE.op DR.add (DE.c fun _ => .int _) (DE.call (fun _ => .nil) (DA.cons DE.var (DA.cons (DE.c fun _ => .int _) DA.nil))) NE2.add) DA.nil))))
      (DS.seq (DS.ifs (DT.gc (DT.or (DT.not (DT.b (DE.call (fun _ => .nil) (DA.cons DE.var (DA.cons DE.var (DA.cons DE.var DA.nil)))))) (DT.not (DT.b (DE.call (fun _ => .nil) (DA.cons DE.var (DA.cons (DE.op DR.add (DE.c fun _ => .int _) (DE.call (fun _ => .nil) (DA.cons DE.var (DA.cons (DE.c fun _ => .int _) DA.nil))) NE2.add) DA.nil))))))) (DS.ret (DE.c fun _ => .bl _)) DS.next)
      (DS.ifs (DT.gc (DT.or (DT.not (DT.b (DE.call (Ek := C8.E0) (fun _ => .nil) (DA.cons DE.var (DA.cons (DE.call (fun _ => .nil) (DA.cons DE.var (DA.cons (DE.c fun _ => .int _) DA.nil))) DA.nil))))) (DT.not (DT.b (DE.call (fun _ => .nil) (DA.cons DE.var (DA.cons DE.var (DA.cons DE.var (DA.cons (DE.call (fun _ => .nil) (DA.cons DE.var DA.nil)) DA.nil))))))))) (DS.ret (DE.c fun _ => .bl _)) DS.next))))
      (DS.ret (DE.c fun _ => .bl _)))) q⟩
end
end Pf
set_option linter.all false
set_option maxRecDepth 100000
namespace TW
/-- the exclusive or of the items behind b whose places are digits of p -/
def act : Nat → Nat → (Nat → Nat) → Nat → Nat
  | 0, _, _, _ => 0
  | n + 1, p, u, b => (if p % 2 = 1 then u b else 0) ^^^ act n (p / 2) u (b + 1)
theorem xor4 (a b c d : Nat) : (a ^^^ b) ^^^ (c ^^^ d) = (a ^^^ c) ^^^ (b ^^^ d) := by
  rw [Nat.xor_assoc, Nat.xor_assoc, ← Nat.xor_assoc b c d, Nat.xor_comm b c, Nat.xor_assoc c b d]
theorem xor_mod2 (p q : Nat) : (p ^^^ q) % 2 = (p % 2 + q % 2) % 2 := by
  have h := Nat.testBit_xor p q 0
  simp only [Nat.testBit_zero] at h
  have a := Nat.mod_two_eq_zero_or_one p
  have b := Nat.mod_two_eq_zero_or_one q
  have c := Nat.mod_two_eq_zero_or_one (p ^^^ q)
  rcases a with a | a <;> rcases b with b | b <;> rcases c with c | c <;> simp [a, b, c] at h ⊢
theorem xor_div2 (p q : Nat) : (p ^^^ q) / 2 = (p / 2) ^^^ (q / 2) := by
  simpa [Nat.shiftRight_eq_div_pow] using @Nat.shiftRight_xor_distrib 1 p q
theorem act_xor : ∀ (n p q : Nat) (u : Nat → Nat) (b : Nat), act n (p ^^^ q) u b = act n p u b ^^^ act n q u b
  | 0, p, q, u, b => by simp [act]
  | n + 1, p, q, u, b => by
    unfold act
    rw [xor_div2, act_xor n, xor_mod2, xor4]
    congr 1
    rcases Nat.mod_two_eq_zero_or_one p with a | a <;> rcases Nat.mod_two_eq_zero_or_one q with c | c <;> simp [a, c]
theorem act_zero : ∀ (n : Nat) (u : Nat → Nat) (b : Nat), act n 0 u b = 0
  | 0, u, b => rfl
  | n + 1, u, b => by unfold act; simp [act_zero n]
theorem act_shift : ∀ (n p : Nat) (u : Nat → Nat) (b k : Nat), act n p (fun b => u (b + k)) b = act n p u (b + k)
  | 0, p, u, b, k => rfl
  | n + 1, p, u, b, k => by
    unfold act
    rw [act_shift n, show b + 1 + k = b + k + 1 by omega]
theorem act_fuel : ∀ (n m p : Nat) (u : Nat → Nat) (b : Nat), p < 2 ^ n → n ≤ m → act m p u b = act n p u b
  | 0, m, p, u, b, h, _ => by
    have : p = 0 := by simpa using h
    rw [this, act_zero]; rfl
  | n + 1, 0, p, u, b, h, k => by omega
  | n + 1, m + 1, p, u, b, h, k => by
    unfold act
    rw [act_fuel n m (p / 2) u (b + 1) (by rw [Nat.pow_succ] at h; omega) (by omega)]
theorem act_ext : ∀ (n p : Nat) (u v : Nat → Nat) (b : Nat), (∀ i, b ≤ i → u i = v i) → act n p u b = act n p v b
  | 0, p, u, v, b, h => rfl
  | n + 1, p, u, v, b, h => by
    unfold act
    rw [h b (Nat.le_refl b), act_ext n (p / 2) u v (b + 1) fun i hi => h i (by omega)]
def A (p : Nat) (u : Nat → Nat) (b : Nat) : Nat := act p p u b
theorem A_fuel {n p : Nat} (h : p < 2 ^ n) (u : Nat → Nat) (b : Nat) : A p u b = act n p u b := by
  unfold A
  rcases Nat.le_total n p with k | k
  · exact act_fuel n p p u b h k
  · exact (act_fuel p n p u b Nat.lt_two_pow_self k).symm
theorem lt_big {p n : Nat} (h : p ≤ n) : p < 2 ^ n := Nat.lt_of_lt_of_le Nat.lt_two_pow_self (Nat.pow_le_pow_right (by decide) h)
theorem A_xor (p q : Nat) (u : Nat → Nat) (b : Nat) : A (p ^^^ q) u b = A p u b ^^^ A q u b := by
  rw [A_fuel (lt_big (n := p + q + (p ^^^ q)) (by omega)), A_fuel (p := p) (lt_big (n := p + q + (p ^^^ q)) (by omega)), A_fuel (p := q) (lt_big (n := p + q + (p ^^^ q)) (by omega)), act_xor]
theorem A_zero (u : Nat → Nat) (b : Nat) : A 0 u b = 0 := rfl
theorem A_step (p : Nat) (u : Nat → Nat) (b : Nat) : A p u b = (if p % 2 = 1 then u b else 0) ^^^ A (p / 2) u (b + 1) := by
  rw [A_fuel (lt_big (n := p + 1) (by omega)), A_fuel (p := p / 2) (lt_big (n := p) (by omega))]
  rfl
theorem A_one (u : Nat → Nat) (b : Nat) : A 1 u b = u b := by rw [A_step]; simp [A_zero]
theorem A_two (p : Nat) (u : Nat → Nat) (b : Nat) : A (2 * p) u b = A p u (b + 1) := by
  rw [A_step, show 2 * p % 2 = 0 by omega, show 2 * p / 2 = p by omega]
  simp
theorem A_shl (p : Nat) (u : Nat → Nat) : ∀ (k b : Nat), A (p * 2 ^ k) u b = A p u (b + k)
  | 0, b => by simp
  | k + 1, b => by
    rw [Nat.pow_succ, show p * (2 ^ k * 2) = 2 * (p * 2 ^ k) by rw [← Nat.mul_assoc]; exact Nat.mul_comm _ _, A_two, A_shl p u k, show b + 1 + k = b + (k + 1) by omega]
theorem A_shift (p : Nat) (u : Nat → Nat) (b k : Nat) : A p (fun b => u (b + k)) b = A p u (b + k) := act_shift p p u b k
theorem A_ext {p : Nat} {u v : Nat → Nat} {b : Nat} (h : ∀ i, b ≤ i → u i = v i) : A p u b = A p v b := act_ext p p u v b h
/-- products -/
def prodN : Nat → Nat → Nat → Nat → Nat
  | 0, f, _, _ => f
  | n + 1, f, s, r => if r = 0 then f else prodN n (if r % 2 = 1 then f ^^^ s else f) (2 * s) (r / 2)
theorem A_prodN (u : Nat → Nat) : ∀ (n f s r b : Nat), r < 2 ^ n → A (prodN n f s r) u b = A f u b ^^^ A r (A s u) b
  | 0, f, s, r, b, h => by
    have : r = 0 := by simpa using h
    subst this
    show A f u b = _
    rw [A_zero, Nat.xor_zero]
  | n + 1, f, s, r, b, h => by
    unfold prodN
    by_cases hr : r = 0
    · subst hr
      rw [if_pos rfl, A_zero, Nat.xor_zero]
    · rw [if_neg hr, A_prodN u n _ _ _ b (by rw [Nat.pow_succ] at h; omega), A_step r]
      have e : A (r / 2) (A (2 * s) u) b = A (r / 2) (A s u) (b + 1) := by
        rw [← A_shift]
        exact A_ext fun i _ => A_two s u i
      rw [e]
      by_cases h2 : r % 2 = 1
      · rw [if_pos h2, if_pos h2, A_xor, Nat.xor_assoc]
      · rw [if_neg h2, if_neg h2, Nat.zero_xor]
/-- rests -/
def len (n : Nat) : Nat := if n = 0 then 0 else n.log2 + 1
theorem len_pos {n : Nat} (h : n ≠ 0) : len n = n.log2 + 1 := if_neg h
theorem lt_len (n : Nat) : n < 2 ^ len n := by
  unfold len
  split
  · subst n; decide
  · exact Nat.lt_log2_self
theorem len_le {n k : Nat} (h : n < 2 ^ k) : len n ≤ k := by
  unfold len
  split
  · omega
  · rename_i hn
    exact (Nat.log2_lt hn).mpr h
theorem len_ge {n : Nat} (h : n ≠ 0) : 2 ^ (len n - 1) ≤ n := by
  rw [len_pos h]
  exact Nat.log2_self_le h
/-- the highest digits go away -/
theorem top_xor {k a b : Nat} (ha : 2 ^ k ≤ a) (ha2 : a < 2 ^ (k + 1)) (hb : 2 ^ k ≤ b) (hb2 : b < 2 ^ (k + 1)) : a ^^^ b < 2 ^ k := by
  refine Nat.lt_pow_two_of_testBit _ fun i hi => ?_
  rw [Nat.testBit_xor]
  rcases Nat.lt_or_ge k i with h | h
  · rw [Nat.testBit_lt_two_pow (Nat.lt_of_lt_of_le ha2 (Nat.pow_le_pow_right (by decide) h)), Nat.testBit_lt_two_pow (Nat.lt_of_lt_of_le hb2 (Nat.pow_le_pow_right (by decide) h))]
    rfl
  · have e : i = k := by omega
    subst e
    have t : ∀ c, 2 ^ i ≤ c → c < 2 ^ (i + 1) → c.testBit i = true := fun c h1 h2 => by
      rw [Nat.testBit_eq_decide_div_mod_eq]
      have : c / 2 ^ i = 1 := by
        rw [Nat.pow_succ] at h2
        exact Nat.div_eq_of_lt_le (by omega) (by omega)
      rw [this]
      decide
    rw [t a ha ha2, t b hb hb2]
    rfl
/-- a step of a division: the rest's highest digit goes -/
theorem len_step {r m : Nat} (hm : m ≠ 0) (h : len m ≤ len r) : len (r ^^^ m * 2 ^ (len r - len m)) < len r := by
  have hr : r ≠ 0 := fun z => by
    subst z
    have : len 0 = 0 := rfl
    have : len m = m.log2 + 1 := len_pos hm
    omega
  have lr := len_pos hr
  have lm := len_pos hm
  have r1 := lt_len r
  have r2 := len_ge hr
  have m1 := lt_len m
  have m2 := len_ge hm
  have e : ∀ a b : Nat, a ≤ b → 2 ^ a * 2 ^ (b - a) = 2 ^ b := fun a b hab => by rw [← Nat.pow_add]; congr 1; omega
  have := top_xor (k := len r - 1) (a := r) (b := m * 2 ^ (len r - len m)) r2 (by rw [show len r - 1 + 1 = len r by omega]; exact r1)
    (by
      have := Nat.mul_le_mul_right (2 ^ (len r - len m)) m2
      rw [show len r - len m = (len r - 1) - (len m - 1) by omega] at this ⊢
      rw [e _ _ (by omega)] at this
      exact this)
    (by
      rw [show len r - 1 + 1 = len r by omega]
      have := Nat.mul_lt_mul_of_pos_right m1 (Nat.pow_pos (n := len r - len m) (show 0 < 2 by decide))
      rw [e _ _ h] at this
      exact this)
  have := len_le this
  omega
def restN : Nat → Nat → Nat → Nat
  | 0, r, _ => r
  | n + 1, r, m => if len m ≤ len r then restN n (r ^^^ m * 2 ^ (len r - len m)) m else r
theorem A_restN {m : Nat} {u : Nat → Nat} (hm : ∀ b, A m u b = 0) : ∀ (n r b : Nat), A (restN n r m) u b = A r u b
  | 0, r, b => rfl
  | n + 1, r, b => by
    unfold restN
    split
    · rw [A_restN hm n, A_xor, A_shl, hm, Nat.xor_zero]
    · rfl
theorem restN_lt {m : Nat} (hm : m ≠ 0) : ∀ (n r : Nat), len r < n + len m → len (restN n r m) < len m
  | 0, r, h => by unfold restN; omega
  | n + 1, r, h => by
    unfold restN
    split
    · rename_i hl
      refine restN_lt hm n _ ?_
      have := len_step hm hl
      omega
    · omega
abbrev RULE : Nat := 2147483657
abbrev PER : Nat := 2147483647
def Rec (u : Nat → Nat) : Prop := ∀ i, u (i + 31) = u i ^^^ u (i + 3)
theorem Rec.shift {u : Nat → Nat} (h : Rec u) (k : Nat) : Rec fun i => u (i + k) := fun i => by
  have := h (i + k)
  rw [show i + k + 31 = i + 31 + k by omega, show i + k + 3 = i + 3 + k by omega] at this
  exact this
theorem xor_self3 (a b : Nat) : a ^^^ (b ^^^ (a ^^^ b)) = 0 := by
  rw [Nat.xor_comm a b, ← Nat.xor_assoc b b a, Nat.xor_self, Nat.zero_xor, Nat.xor_self]
theorem A_rule {u : Nat → Nat} (h : Rec u) (b : Nat) : A RULE u b = 0 := by
  have e : RULE = 1 ^^^ (1 * 2 ^ 3 ^^^ 1 * 2 ^ 31) := by decide
  rw [e, A_xor, A_xor, A_shl, A_shl, A_one, A_one, A_one, h b]
  exact xor_self3 _ _
/-- a polynomial that does what k steps do -/
def Does (p k : Nat) : Prop := ∀ u, Rec u → ∀ b, A p u b = u (b + k)
theorem Does.two : Does 2 1 := fun u _ b => by rw [show (2 : Nat) = 2 * 1 from rfl, A_two, A_one]
theorem Does.rest {p k n : Nat} (h : Does p k) : Does (restN n p RULE) k := fun u hu b => by rw [A_restN (A_rule hu)]; exact h u hu b
theorem Does.prod {p q j k n : Nat} (h : Does p j) (g : Does q k) (hn : q < 2 ^ n) : Does (prodN n 0 p q) (j + k) := fun u hu b => by
  rw [A_prodN u n 0 p q b hn, A_zero, Nat.zero_xor]
  have e : A q (A p u) b = A q (fun i => u (i + j)) b := A_ext fun i _ => h u hu i
  rw [e, A_shift, g u hu, show b + j + k = b + (j + k) by omega]
/-- squares -/
def sq (p : Nat) : Nat := restN 64 (prodN 40 0 p p) RULE
def sqs : Nat → Nat → Nat
  | 0, p => p
  | n + 1, p => sqs n (sq p)
theorem len_rule : len RULE = 32 := by decide
theorem sq_lt {p : Nat} (h : len (prodN 40 0 p p) < 96) : len (sq p) < 32 := by
  have := restN_lt (m := RULE) (by decide) 64 (prodN 40 0 p p) (by rw [len_rule]; omega)
  rw [len_rule] at this
  exact this
/-- 31 squares of t are t -/
theorem sqs31 : sqs 31 2 = 2 := by decide +kernel
theorem prodN_lt : ∀ (n f s r k : Nat), f < 2 ^ (k + n) → s < 2 ^ k → prodN n f s r < 2 ^ (k + n)
  | 0, f, s, r, k, h, _ => h
  | n + 1, f, s, r, k, h, hs => by
    unfold prodN
    split
    · exact h
    · rw [show k + (n + 1) = (k + 1) + n by omega] at h ⊢
      refine prodN_lt n _ _ _ (k + 1) ?_ (by rw [Nat.pow_succ]; omega)
      split
      · exact Nat.xor_lt_two_pow h (Nat.lt_of_lt_of_le hs (Nat.pow_le_pow_right (by decide) (by omega)))
      · exact h
theorem sq_ok {p k : Nat} (h : Does p k) (hp : len p < 32) : Does (sq p) (2 * k) ∧ len (sq p) < 32 := by
  have h31 : p < 2 ^ 31 := Nat.lt_of_lt_of_le (lt_len p) (Nat.pow_le_pow_right (by decide) (by omega))
  refine ⟨?_, sq_lt ?_⟩
  · rw [show 2 * k = k + k by omega]
    exact (h.prod h (n := 40) (Nat.lt_of_lt_of_le h31 (by decide))).rest
  · have := len_le (prodN_lt 40 0 p p 31 (Nat.pow_pos (by decide)) h31)
    omega
theorem sqs_ok : ∀ (n : Nat) {p k : Nat}, Does p k → len p < 32 → Does (sqs n p) (k * 2 ^ n) ∧ len (sqs n p) < 32
  | 0, p, k, h, hp => ⟨by rw [Nat.pow_zero, Nat.mul_one]; exact h, hp⟩
  | n + 1, p, k, h, hp => by
    obtain ⟨a, b⟩ := sq_ok h hp
    have := sqs_ok n a b
    rw [show k * 2 ^ (n + 1) = 2 * k * 2 ^ n by rw [Nat.pow_succ, ← Nat.mul_assoc, Nat.mul_comm (k * 2 ^ n) 2, ← Nat.mul_assoc]]
    exact this
theorem does31 : Does 2 (2 ^ 31) := by
  have := (sqs_ok 31 Does.two (by decide)).1
  rw [sqs31, Nat.one_mul] at this
  exact this
/-- a window tells what is ahead of it and what is behind -/
theorem Rec.back {u : Nat → Nat} (h : Rec u) (i : Nat) : u i = u (i + 31) ^^^ u (i + 3) := by
  rw [h i, Nat.xor_assoc, Nat.xor_self, Nat.xor_zero]
theorem Rec.same {u v : Nat → Nat} (hu : Rec u) (hv : Rec v) {n : Nat} (h : ∀ i, i < 31 → u (n + i) = v (n + i)) : ∀ i, u i = v i := by
  have up : ∀ k i, n ≤ i → i < n + k → u i = v i := by
    intro k
    induction k with
    | zero => intro i h1 h2; omega
    | succ k ih =>
      intro i h1 h2
      by_cases hi : i < n + 31
      · have := h (i - n) (by omega)
        rw [show n + (i - n) = i by omega] at this
        exact this
      · have e1 := ih (i - 31) (by omega) (by omega)
        have e2 := ih (i - 28) (by omega) (by omega)
        have a := hu (i - 31)
        have b := hv (i - 31)
        rw [show i - 31 + 31 = i by omega, show i - 31 + 3 = i - 28 by omega] at a b
        rw [a, b, e1, e2]
  have down : ∀ k i, n ≤ i + k → u i = v i := by
    intro k
    induction k with
    | zero => intro i hi; exact up (i + 1) i hi (by omega)
    | succ k ih =>
      intro i hi
      rw [hu.back i, hv.back i, ih (i + 31) (by omega), ih (i + 3) (by omega)]
  exact fun i => down n i (by omega)
theorem Rec.per {u : Nat → Nat} (h : Rec u) (i : Nat) : u (i + PER) = u i := by
  have e : ∀ j, u (j + 1 + PER) = u (j + 1) := fun j => by
    have a := does31 u h j
    have b := Does.two u h j
    rw [a] at b
    rw [show j + 1 + PER = j + 2 ^ 31 from by show j + 1 + 2147483647 = _; omega]
    exact b
  rw [show u (i + PER) = (fun i => u (i + PER)) i from rfl]
  exact Rec.same (n := 1) (h.shift PER) h (fun j _ => by
    show u (1 + j + PER) = _
    rw [show 1 + j = j + 1 by omega]; exact e j) i
theorem Rec.pers {u : Nat → Nat} (h : Rec u) (i : Nat) : ∀ k, u (i + PER * k) = u i
  | 0 => rfl
  | k + 1 => by rw [show i + PER * (k + 1) = i + PER * k + PER by rw [Nat.mul_succ, Nat.add_assoc], h.per, Rec.pers h i k]
theorem Rec.mod {u : Nat → Nat} (h : Rec u) (i n : Nat) : u (i + n % PER) = u (i + n) := by
  have := h.pers (i + n % PER) (n / PER)
  rw [show i + n % PER + PER * (n / PER) = i + n by have := Nat.mod_add_div n PER; omega] at this
  exact this.symm
/-- a power of t -/
theorem Does.step {f q a b : Nat} (hf : Does f a) (hq : Does q b) (lf : len f < 32) (lq : len q < 32) : Does (restN 64 (prodN 31 0 f q) RULE) (a + b) ∧ len (restN 64 (prodN 31 0 f q) RULE) < 32 := by
  have q31 : q < 2 ^ 31 := Nat.lt_of_lt_of_le (lt_len q) (Nat.pow_le_pow_right (by decide) (by omega))
  have f31 : f < 2 ^ 31 := Nat.lt_of_lt_of_le (lt_len f) (Nat.pow_le_pow_right (by decide) (by omega))
  refine ⟨(hf.prod hq q31).rest, ?_⟩
  have h := len_le (prodN_lt 31 0 f q 31 (Nat.pow_pos (by decide)) f31)
  have := restN_lt (m := RULE) (by decide) 64 (prodN 31 0 f q) (by rw [len_rule]; omega)
  rw [len_rule] at this
  exact this
end TW
set_option Elab.async false
set_option linter.all false
set_option maxRecDepth 100000
set_option maxHeartbeats 1000000
set_option exponentiation.threshold 3000
namespace Pf
open PySem Ab
theorem gcT_f {f : AT} {σ : ASt} {s : Sto} {b : Bool} (h : f σ s = .ok b s) : gcT f σ s = .ok b s := gcT0 h (.refl s) (cut_self s)
theorem z1 : ((1 : Nat) ≤ sizeLine) = True := eq_true (by decide)
theorem z2 : ((2 : Nat) ≤ sizeLine) = True := eq_true (by decide)
theorem z3 : ((3 : Nat) ≤ sizeLine) = True := eq_true (by decide)
theorem z4 : ((4 : Nat) ≤ sizeLine) = True := eq_true (by decide)
theorem z5 : ((5 : Nat) ≤ sizeLine) = True := eq_true (by decide)
theorem z6 : ((6 : Nat) ≤ sizeLine) = True := eq_true (by decide)
theorem z7 : ((7 : Nat) ≤ sizeLine) = True := eq_true (by decide)
theorem z8 : ((8 : Nat) ≤ sizeLine) = True := eq_true (by decide)
theorem z9 : ((9 : Nat) ≤ sizeLine) = True := eq_true (by decide)
theorem z10 : ((10 : Nat) ≤ sizeLine) = True := eq_true (by decide)
theorem z11 : ((11 : Nat) ≤ sizeLine) = True := eq_true (by decide)
theorem z12 : ((12 : Nat) ≤ sizeLine) = True := eq_true (by decide)
theorem z13 : ((13 : Nat) ≤ sizeLine) = True := eq_true (by decide)
theorem z14 : ((14 : Nat) ≤ sizeLine) = True := eq_true (by decide)
theorem z15 : ((15 : Nat) ≤ sizeLine) = True := eq_true (by decide)
theorem z16 : ((16 : Nat) ≤ sizeLine) = True := eq_true (by decide)
local macro_rules | `(tactic| simp! [$xs,*]) => `(tactic| try simp (config := {maxSteps := 1000000}) only [k_bind, k_Kb, k_st, k_Kst, k_Rst, k_thn, k_loop, k_fn, k_forget, k_clr, k_noX, k_try, k_stuck, k_Astuck, d_thn_nx, d_thn_bk, d_thn_ct, d_thn_rt, d_thn_er, d_lp_nx, d_lp_bk, d_lp_ct, d_lp_rt, d_lp_er, d_fg_nx, d_fg_bk, d_fg_ct, d_fg_rt, d_fg_er, d_cl_nx, d_cl_bk, d_cl_ct, d_cl_rt, d_cl_er, d_tr_nx, d_tr_bk, d_tr_ct, d_tr_rt, d_tr_er, d_nX_nx, d_nX_bk, d_nX_ct, d_nX_rt, d_nX_er, d_fn_nx, d_fn_bk, d_fn_ct, d_fn_rt, d_fn_er, A_nx, A_bk, A_ct, A_rt, A_err, post_ok, post_err, post_noErr, e_op, e_opK, e_un, e_cb, e_nil, e_c, e_cons, e_consK, e_consK2, e_and, e_or, e_andK, e_orK, e_not, e_notK, e_test, e_testK, e_tand, e_tandK, e_tor, e_torK, e_tnot, e_tnotK, e_yes, e_if, e_ifK, e_ch, e_chK1, e_chK2, e_chK3, e_tup, e_tupK, e_lst, e_lstK, e_newL, e_call, e_callK, e_meth, e_methK, e_methK2, e_prop, e_propK, e_make, e_makeK, e_makeK2, e_makeV, e_sm, e_smK, e_smK2, e_cm, e_cmK, e_cmK2, e_sl, e_slK1, e_slK2, e_slK3, e_part, e_partK, e_nopart, e_rev, e_bm, e_bmK, e_pr, e_pr0, e_prK1, e_prK2, e_prK3, e_disp, e_dnew, e_own, e_ownK, e_lc, e_lcK, e_iter, e_rng1, e_rng1K, e_rng2, e_rng2K, e_enum, s_drop, s_dropK, s_ret, s_retK, s_retN, s_next, s_break, s_cont, s_seq, s_if, s_ifK, s_asg, s_asgK, s_name, s_par, s_parK, s_par3, s_parK3, s_gnil, s_gcons, s_gtup, s_for, s_forK, s_raise, s_raiseK, s_sf, s_sfK1, s_sfK2, s_dp, s_dpK1, s_dpK2, s_dpK3, s_forget, s_def, s_fld, e_enumU, e_enumUT, e_match, e_mcase, e_mcase2, e_many, e_mnil, e_lcX, e_lcXK, e_get2, e_methS, e_methS1, e_methS2, s_augS, s_augS1, gEqS_int, gEqS_str, gEqS_bl, gEqS_tup, eq_self, beq_self_eq_true, k_grd, k_grdS, k_ite, k_Aite, true_implies, false_implies, implies_true, List.map_cons, List.map_nil, List.nil_append, List.cons_append, List.append_nil, List.replicate_succ, List.replicate_zero, List.getElem?_cons_zero, List.getElem?_cons_succ, List.length_cons, List.length_nil, List.set_cons_zero, List.set_cons_succ, ↓reduceIte, ↓reduceDIte, Nat.reduceAdd, Nat.reduceLeDiff, Nat.reduceEqDiff, Nat.zero_add, if_true, if_false, aVar, gMinus_int, gLt_int, gLe_int, gGt_int, gGe_int, gEq_int, gNe_int, gEq_str, gNe_str, gEq_bl, gNe_bl, gXor_int, gAnd_int, gOr_int, gAdd_int, gIsN_non, gNotN_non, gIsB_bl, gNotB_bl, gNeg_int, gLen_tup, gLen_scr, gMax2_int, gMin2_int, gBits_int, gSl_tup, gSl_scr, Bool.not_true, Bool.not_false, Bool.true_eq_false, Bool.false_eq_true, Bool.true_and, Bool.false_and, Bool.and_true, Bool.and_false, Bool.true_or, Bool.false_or, decide_true, decide_false, and_self, and_true, true_and, and_false, false_and, not_true_eq_false, not_false_eq_true, reduceCtorEq, kz, z1, z2, z3, z4, z5, z6, z7, z8, z9, z10, z11, z12, z13, z14, z15, z16, isCls, isNon, aForget, aHand, toKey, keysA, iterOf_tup, iterOf_scr, oNx_some, noErr_ok, decide_eq_true_eq, decide_eq_false_iff_not, Sto.new_n, Sto.set_n, Sto.set_at, Sto.new_at, Nat.zero_le, aMakeV, Cl_non, Cl_bl, Cl_int, Cl_str, Cl_cls, Cl_obj, Cl_tup, ClL_nil, ClL_cons, $xs,*])
local macro_rules | `(tactic| simp! only [$xs,*]) => `(tactic| simp only [e_op, e_opK, e_un, e_cb, e_nil, e_c, e_cons, e_consK, e_consK2, e_and, e_or, e_andK, e_orK, e_not, e_notK, e_test, e_testK, e_tand, e_tandK, e_tor, e_torK, e_tnot, e_tnotK, e_yes, e_if, e_ifK, e_ch, e_chK1, e_chK2, e_chK3, e_tup, e_tupK, e_lst, e_lstK, e_newL, e_call, e_callK, e_meth, e_methK, e_methK2, e_prop, e_propK, e_make, e_makeK, e_makeK2, e_makeV, e_sm, e_smK, e_smK2, e_cm, e_cmK, e_cmK2, e_sl, e_slK1, e_slK2, e_slK3, e_part, e_partK, e_nopart, e_rev, e_bm, e_bmK, e_pr, e_pr0, e_prK1, e_prK2, e_prK3, e_disp, e_dnew, e_own, e_ownK, e_lc, e_lcK, e_iter, e_rng1, e_rng1K, e_rng2, e_rng2K, e_enum, s_drop, s_dropK, s_ret, s_retK, s_retN, s_next, s_break, s_cont, s_seq, s_if, s_ifK, s_asg, s_asgK, s_name, s_par, s_parK, s_par3, s_parK3, s_gnil, s_gcons, s_gtup, s_for, s_forK, s_raise, s_raiseK, s_sf, s_sfK1, s_sfK2, s_dp, s_dpK1, s_dpK2, s_dpK3, s_forget, s_def, s_fld, e_enumU, e_enumUT, e_match, e_mcase, e_mcase2, e_many, e_mnil, e_lcX, e_lcXK, e_get2, e_methS, e_methS1, e_methS2, s_augS, s_augS1, gEqS_int, gEqS_str, gEqS_bl, gEqS_tup, eq_self, beq_self_eq_true, true_implies, false_implies, implies_true, List.map_cons, List.map_nil, List.nil_append, List.cons_append, List.append_nil, List.replicate_succ, List.replicate_zero, List.getElem?_cons_zero, List.getElem?_cons_succ, List.length_cons, List.length_nil, List.set_cons_zero, List.set_cons_succ, ↓reduceIte, ↓reduceDIte, Nat.reduceAdd, Nat.reduceLeDiff, Nat.reduceEqDiff, Nat.zero_add, if_true, if_false, aVar, gMinus_int, gLt_int, gLe_int, gGt_int, gGe_int, gEq_int, gNe_int, gEq_str, gNe_str, gEq_bl, gNe_bl, gXor_int, gAnd_int, gOr_int, gAdd_int, gIsN_non, gNotN_non, gIsB_bl, gNotB_bl, gNeg_int, gLen_tup, gLen_scr, gMax2_int, gMin2_int, gBits_int, gSl_tup, gSl_scr, Bool.not_true, Bool.not_false, Bool.true_eq_false, Bool.false_eq_true, Bool.true_and, Bool.false_and, Bool.and_true, Bool.and_false, Bool.true_or, Bool.false_or, decide_true, decide_false, and_self, and_true, true_and, and_false, false_and, not_true_eq_false, not_false_eq_true, reduceCtorEq, kz, z1, z2, z3, z4, z5, z6, z7, z8, z9, z10, z11, z12, z13, z14, z15, z16, isCls, isNon, aForget, aHand, toKey, keysA, iterOf_tup, iterOf_scr, oNx_some, noErr_ok, decide_eq_true_eq, decide_eq_false_iff_not, Sto.new_n, Sto.set_n, Sto.set_at, Sto.new_at, Nat.zero_le, aMakeV, Cl_non, Cl_bl, Cl_int, Cl_str, Cl_cls, Cl_obj, Cl_tup, ClL_nil, ClL_cons, grd_pos, grdS_pos, Res.bind_ok, Res.bind_err, Res.st_ok, Res.st_err, SRes.thn_nx, SRes.thn_rt, SRes.thn_err, SRes.fn_rt, SRes.fn_nx, SRes.fn_err, SRes.loop_nx, SRes.loop_rt, SRes.loop_err, SRes.loop_ct, SRes.loop_bk, SRes.forget_nx, SRes.forget_rt, SRes.forget_err, SRes.clr_nx, SRes.clr_rt, SRes.noX_nx, SRes.noX_rt, aTry, sizeLine_ge, $xs,*])
theorem isi_ty {x : AV} {a n : String} {r : Bool} {s : Sto} (h1 : tyN s x = some a) (h2 : kitP a n = some r) (h3 : n ∈ bnames) : gIsi (kitB n) [x, .ty n] s = .ok (.bl r) s := gIsi_ty h1 (by rw [kitB_self]; exact h2) h3
theorem isi_cls {x : AV} {a n : String} {r : Bool} {s : Sto} (h1 : tyN s x = some a) (h2 : kitP a n = some r) (h3 : n ∉ bnames) : gIsi (kitB n) [x, .cls n] s = .ok (.bl r) s := gIsi_cls h1 (by rw [kitB_self]; exact h2) h3
theorem is_int (i : Int) (s : Sto) : F_is_integer [.int i] s = .ok (.bl true) s := by
  refine gc0 ?_ (by simp)
  have h1 : gIsi (kitB "int") [.int i, .ty "int"] s = .ok (.bl true) s := isi_ty (a := "int") rfl (by decide) (by decide)
  have h2 : gIsi (kitB "bool") [.int i, .ty "bool"] s = .ok (.bl false) s := isi_ty (a := "int") rfl (by decide) (by decide)
  simp! only [B_is_integer, h1, h2]
theorem gc0' {F : List AV → Sto → Res AV} {args : List AV} {s : Sto} {v : AV} (h : (F args s).Post (fun v' s' => v' = v ∧ Cl s.n v ∧ Gb s s') (fun _ _ _ _ => False)) : gcF F args s = .ok v s :=
  res_ok (gcF_g (h.mono (fun v' s' z => ⟨z.1 ▸ z.2.1, z.2.2, z.1, rfl⟩) fun _ _ _ _ z => z.elim))
/-- a law's draws: what is left of the cell, the cell, the turns -/
abbrev drC (l c t : Int) : Cell := .dic [(.inr "left", .int l), (.inr "cell", .int c), (.inr "turns", .int t)]
structure Dr (d : Nat) (s : Sto) (B : Nat) : Prop where
  lt : d < s.n
  ex : ∃ l c t : Int, s.c d = drC l c t ∧ 0 ≤ l ∧ 0 ≤ t ∧ t ≤ B
/-- all but d stays -/
def Upto (d : Nat) (s s' : Sto) : Prop := s'.n = s.n ∧ ∀ i, i ≠ d → s'.c i = s.c i
theorem Upto.refl (d : Nat) (s : Sto) : Upto d s s := ⟨rfl, fun _ _ => rfl⟩
theorem Upto.trans {d : Nat} {s s1 s2 : Sto} (a : Upto d s s1) (b : Upto d s1 s2) : Upto d s s2 := ⟨b.1.trans a.1, fun i h => (b.2 i h).trans (a.2 i h)⟩
theorem Upto.set {d : Nat} {s : Sto} {x : Cell} : Upto d s (s.set d x) := ⟨rfl, fun i h => Sto.set_ne h⟩
theorem cmul {i j : Int} {m n : Nat} (hi : i.natAbs < 2 ^ m) (hj : j.natAbs < 2 ^ n) (h : m + n ≤ 134217728) : L2.CMulX i j := by
  have h1 := PySem.intBits_le_iff.mpr hi
  have h2 := PySem.intBits_le_iff.mpr hj
  show (Builtin.Int.intBits i : Int) + (Builtin.Int.intBits j : Int) ≤ 134217728
  omega
theorem gMul_ok {i j : Int} {m n : Nat} {s : Sto} (hi : i.natAbs < 2 ^ m) (hj : j.natAbs < 2 ^ n) (h : m + n ≤ 134217728) : gMul (.int i) (.int j) s = .ok (.int (i * j)) s := gMul_int (cmul hi hj h)
theorem set_set {s : Sto} {d : Nat} {a b : Cell} : (s.set d a).set d b = s.set d b := by
  unfold Sto.set
  simp only [Sto.mk.injEq, true_and]
  funext j
  by_cases h : j = d
  · simp [h]
  · simp [h]
theorem drCl {n : Nat} {l c t : Int} : ClC n (drC l c t) := by simp [ClC]
theorem Upto.clean {d B : Nat} {s s' : Sto} (u : Upto d s s') (D : Dr d s' B) : Clean s s' := by
  obtain ⟨l, c, t, h, _⟩ := D.ex
  refine ⟨Nat.le_of_eq u.1.symm, fun i hi => ?_⟩
  by_cases e : i = d
  · subst e
    exact .inr (by rw [h]; exact drCl)
  · exact .inl (u.2 i e)
theorem Upto.cut {d B : Nat} {s s' : Sto} (u : Upto d s s') (D : Dr d s' B) : s'.cut s = s' := by
  have lt := D.lt
  have h1 := u.1
  cases s' with
  | mk n' c' =>
    cases s with
    | mk n c =>
      unfold Sto.cut
      simp only at h1
      subst h1
      simp only [Sto.mk.injEq, true_and]
      funext j
      by_cases hj : j < n'
      · simp [hj]
      · simp only [if_neg hj]
        exact (u.2 j (by have : d < n' := lt; omega)).symm
theorem Dr.mono {d B C : Nat} {s : Sto} (D : Dr d s B) (h : B ≤ C) : Dr d s C := ⟨D.lt, by
  obtain ⟨l, c, t, a, b, e, f⟩ := D.ex
  exact ⟨l, c, t, a, b, e, by omega⟩⟩
theorem gIx_tup {s : Sto} {xs : List AV} {i : Int} {v : AV} (h : L2.atI xs i = some v) : gIx (.tup xs) (.int i) s = .ok v s := gIx_seq seqOf_tup h
theorem new_set {s : Sto} {a b : Cell} : (s.new a).set s.n b = s.new b := by
  unfold Sto.new Sto.set
  simp only [Sto.mk.injEq, true_and]
  funext j
  by_cases hj : j = s.n
  · simp [hj]
  · simp [hj]
theorem m1 (i : Int) : Builtin.bitAnd i 1 = i % 2 := PySem.W.kbt_mask i 1
theorem gF2 {i : Int} {s : Sto} : gFdiv (.int i) (.int 2) s = .ok (.int (i / 2)) s := gFdiv_int ⟨by decide, by decide⟩
theorem need_steps_t {i : Int} (s : Sto) (h0 : 0 ≤ i) (h1 : i ≤ 18446744073709551616) : F_need_steps [.int i] s = .ok .non s := by
  refine gc0 ?_ (by simp)
  have e := is_int i s
  have e0 := decide_eq_true h0
  have e1 := decide_eq_true h1
  have g : gcT (aOr (aNot (aTest (aCall 1 F_is_integer [] (aCons (aVar 0) aNil)))) (aNot (aTest (aChain gLe gLe (aC (.int 0)) (aVar 0) (aC (.int 18446744073709551616)))))) [some (.int i)] s = .ok false s := gcT0 (by simp! only [e, e0, e1]) (.refl s) (cut_self s)
  simp! only [B_need_steps, g]
theorem gM2 {i : Int} {s : Sto} (h : i.natAbs < 2 ^ 100) : gMul (.int 2) (.int i) s = .ok (.int (2 * i)) s := gMul_ok (m := 2) (by decide) h (by decide)
def DrOK (B : Nat) (x : Cell) : Prop := ∃ l c t : Int, x = drC l c t ∧ 0 ≤ l ∧ 0 ≤ t ∧ t ≤ B
theorem DrOK.mono {B C : Nat} {x : Cell} (h : DrOK B x) (hb : B ≤ C) : DrOK C x := by
  obtain ⟨l, c, t, a, b, e, f⟩ := h
  exact ⟨l, c, t, a, b, e, by omega⟩
theorem DrOK.cl {B n : Nat} {x : Cell} (h : DrOK B x) : ClC n x := by
  obtain ⟨l, c, t, rfl, b, e, f⟩ := h
  exact drCl
theorem Upto.eq {d : Nat} {s s' : Sto} (u : Upto d s s') : s' = s.set d (s'.c d) := by
  obtain ⟨h1, h2⟩ := u
  cases s with
  | mk n c =>
    cases s' with
    | mk n' c' =>
      cases (show n' = n from h1)
      unfold Sto.set
      simp only [Sto.mk.injEq, true_and]
      funext j
      by_cases e : j = d
      · rw [if_pos e, e]
      · rw [if_neg e]; exact h2 j e
theorem Dr.ok {d B : Nat} {s : Sto} (D : Dr d s B) : DrOK B (s.c d) := by
  obtain ⟨l, c, t, h, a⟩ := D.ex
  exact ⟨l, c, t, h, a⟩
structure Inv (d B : Nat) (t s : Sto) : Prop where
  lt : d < t.n
  gd : Gd d t s
  ok : DrOK B (s.c d)
section
variable {P : AV → Sto → Prop} {R : String → List Str → List AV → Sto → Prop} {d B : Nat} {s t : Sto} {x : Cell}
theorem Inv.ls (S : Inv d B t s) : d < s.n := Nat.lt_of_lt_of_le S.lt S.gd.n
theorem Inv.new (S : Inv d B t s) : Inv d B t (s.new x) := ⟨S.lt, S.gd.new, by rw [at_new S.ls]; exact S.ok⟩
theorem Inv.set (S : Inv d B t s) {C : Nat} (h : DrOK C x) : Inv d C t (s.set d x) := ⟨S.lt, S.gd.set, by rw [Sto.set_at]; exact h⟩
theorem Inv.start (hd : d < s.n) (h : DrOK B (s.c d)) : Inv d B s s := ⟨hd, .refl d s, h⟩
theorem Inv.mono {C : Nat} (S : Inv d B t s) (h : B ≤ C) : Inv d C t s := ⟨S.lt, S.gd, S.ok.mono h⟩
end
theorem ix0 {a : AV} {r : List AV} {s : Sto} : gIx (.tup (a :: r)) (.int 0) s = .ok a s := gIx_tup (show L2.atI _ ((0 : Nat) : Int) = _ from L2.atI_nat rfl)
theorem ix1 {a b : AV} {r : List AV} {s : Sto} : gIx (.tup (a :: b :: r)) (.int 1) s = .ok b s := gIx_tup (show L2.atI _ ((1 : Nat) : Int) = _ from L2.atI_nat rfl)
theorem lin_init (i : Int) (h0 : 0 ≤ i) (h1 : i < 281474976710656) (s : Sto) (o : Nat) (ho : s.c o = .ins "Linear" []) (lt : o < s.n) : F_Linear___init__ [.obj o, .int i] s = .ok .non (s.set o (.ins "Linear" [("s2_x", .int i)])) := by
  have e := is_int i s
  have e0 := decide_eq_true h0
  have e1 := decide_eq_true h1
  have n : F_s2_is_number [.int i] s = .ok (.bl true) s := by
    refine gc0 ?_ (by simp)
    simp! only [B_s2_is_number, e, e0, e1]
  have n2 : F_s2_need_start [.int i] s = .ok .non s := by
    refine gc0 ?_ (by simp)
    have g : gcT (aNot (aTest (aCall 1 F_s2_is_number [] (aCons (aVar 0) aNil)))) [some (.int i)] s = .ok false s := gcT_f (by simp! only [n])
    simp! only [B_s2_need_start, g]
  have f1 : setF ["Linear"] "s2_x" (.obj o) (.int i) s = some (s.set o (.ins "Linear" [("s2_x", .int i)])) := by rw [setF_obj ho (by simp) (by simp)]; rfl
  have r : aDef 0 B_Linear___init__ [.obj o, .int i] s = .ok .non (s.set o (.ins "Linear" [("s2_x", .int i)])) := by
    simp! only [B_Linear___init__, n2, f1]
  have := gcF_eq r (by simp) ((Clean.refl s).set (.inr (by simp [ClC])))
  rw [cut_set_old lt, cut_self] at this
  exact this
abbrev dgC (b : Int) (g : Nat) (t : Int) : Cell := .dic [(.inr "run", .int b), (.inr "great", .obj g), (.inr "turn", .int t)]
structure Gd2 (d g : Nat) (s s' : Sto) : Prop where
  n : s.n ≤ s'.n
  c : ∀ i, i < s.n → i ≠ d → i ≠ g → s'.c i = s.c i
section
variable {d g : Nat} {s t u : Sto} {x : Cell}
theorem Gd2.refl (d g : Nat) (s : Sto) : Gd2 d g s s := ⟨Nat.le_refl _, fun _ _ _ _ => rfl⟩
theorem Gd2.trans (a : Gd2 d g s t) (b : Gd2 d g t u) : Gd2 d g s u := ⟨Nat.le_trans a.n b.n, fun i h e f => (b.c i (Nat.lt_of_lt_of_le h a.n) e f).trans (a.c i h e f)⟩
theorem Gd2.setd (a : Gd2 d g s t) : Gd2 d g s (t.set d x) := ⟨a.n, fun i h e f => (Sto.set_ne e).trans (a.c i h e f)⟩
theorem Gd2.setg (a : Gd2 d g s t) : Gd2 d g s (t.set g x) := ⟨a.n, fun i h e f => (Sto.set_ne f).trans (a.c i h e f)⟩
theorem Gd2.new (a : Gd2 d g s t) : Gd2 d g s (t.new x) := ⟨Nat.le_succ_of_le a.n, fun i h e f => (at_new (Nat.lt_of_lt_of_le h a.n)).trans (a.c i h e f)⟩
theorem Gd2.cut (a : Gd2 d g s t) (hd : d < s.n) (hg : g < s.n) : t.cut s = (s.set d (t.c d)).set g (t.c g) := by
  unfold Sto.cut Sto.set
  simp only [Sto.mk.injEq, true_and]
  funext i
  by_cases f : i = g
  · subst f; simp [hg]
  · by_cases e : i = d
    · subst e; simp [hd, f]
    · by_cases hi : i < s.n
      · simp [hi, e, f, a.c i hi e f]
      · simp [hi, e, f]
theorem Gd2.clean (a : Gd2 d g s t) (h1 : ClC s.n (t.c d)) (h2 : ClC s.n (t.c g)) : Clean s t := ⟨a.n, fun i hi => by
  by_cases e : i = d
  · subst e; exact .inr h1
  · by_cases f : i = g
    · subst f; exact .inr h2
    · exact .inl (a.c i hi e f)⟩
variable {P : AV → Sto → Prop} {R : String → List Str → List AV → Sto → Prop}
theorem gcF_d2 {F : List AV → Sto → Res AV} {args : List AV} (hd : d < s.n) (hg : g < s.n) (h : (F args s).Post (fun v s' => Cl s.n v ∧ Gd2 d g s s' ∧ (ClC s.n (s'.c d) ∧ ClC s.n (s'.c g)) ∧ P v ((s.set d (s'.c d)).set g (s'.c g))) (fun c ns vs s' => False)) : (gcF F args s).Post P R :=
  post_gcF.mpr (h.mono (fun v s' z => by rw [if_pos ⟨z.1, z.2.1.clean z.2.2.1.1 z.2.2.1.2⟩, z.2.1.cut hd hg]; exact z.2.2.2) fun c ns vs s' z => z.elim)
theorem gcT_d2 {f : AT} {Q : Bool → Sto → Prop} {σ : ASt} (hd : d < s.n) (hg : g < s.n) (h : (f σ s).Post (fun v s' => Gd2 d g s s' ∧ (ClC s.n (s'.c d) ∧ ClC s.n (s'.c g)) ∧ Q v ((s.set d (s'.c d)).set g (s'.c g))) R) : (gcT f σ s).Post Q R :=
  post_gcT.mpr (h.mono (fun v s' z => by rw [if_pos (z.1.clean z.2.1.1 z.2.1.2), z.1.cut hd hg]; exact z.2.2) fun _ _ _ _ z => z)
end
structure Dg (d g : Nat) (B : Nat) (s : Sto) : Prop where
  ne : d ≠ g
  ex : ∃ (b t : Int) (gs : List Int), s.c d = dgC b g t ∧ 0 ≤ b ∧ b < 2305843009213693951 ∧ 0 ≤ t ∧ t ≤ B ∧ s.c g = .lst (gs.map .int) ∧ (∀ z ∈ gs, 0 ≤ z) ∧ gs.length ≤ 64
theorem Dg.mono {d g B C : Nat} {s : Sto} (D : Dg d g B s) (h : B ≤ C) : Dg d g C s := ⟨D.ne, by
  obtain ⟨b, t, gs, h1, h2, h3, h4, h5, h6⟩ := D.ex
  exact ⟨b, t, gs, h1, h2, h3, h4, by omega, h6⟩⟩
theorem clL_ints {n : Nat} (l : List Int) : ClL n (l.map AV.int) := by
  induction l with
  | nil => simp
  | cons a l ih => simp [ih]
theorem Dg.cl {d g B n : Nat} {s : Sto} (D : Dg d g B s) (hg : g < n) : ClC n (s.c d) ∧ ClC n (s.c g) := by
  obtain ⟨b, t, gs, h1, h2, h3, h4, h5, h6, h7⟩ := D.ex
  refine ⟨?_, ?_⟩
  · rw [h1]; simp [ClC, hg]
  · rw [h6]; exact clL_ints gs
theorem Dg.of {d g B : Nat} {s t : Sto} (D : Dg d g B s) (h1 : t.c d = s.c d) (h2 : t.c g = s.c g) : Dg d g B t := ⟨D.ne, by
  obtain ⟨b, t, gs, k1, k⟩ := D.ex
  exact ⟨b, t, gs, h1.trans k1, k.1, k.2.1, k.2.2.1, k.2.2.2.1, h2.trans k.2.2.2.2.1, k.2.2.2.2.2⟩⟩
structure Inv2 (d g B : Nat) (t s : Sto) : Prop where
  ld : d < t.n
  lg : g < t.n
  gd : Gd2 d g t s
  ok : Dg d g B s
section
variable {P : AV → Sto → Prop} {R : String → List Str → List AV → Sto → Prop} {d g B : Nat} {s t : Sto} {x : Cell}
theorem Inv2.lsd (S : Inv2 d g B t s) : d < s.n := Nat.lt_of_lt_of_le S.ld S.gd.n
theorem Inv2.lsg (S : Inv2 d g B t s) : g < s.n := Nat.lt_of_lt_of_le S.lg S.gd.n
theorem Inv2.new (S : Inv2 d g B t s) : Inv2 d g B t (s.new x) := ⟨S.ld, S.lg, S.gd.new, S.ok.of (at_new S.lsd) (at_new S.lsg)⟩
theorem Inv2.mono {C : Nat} (S : Inv2 d g B t s) (h : B ≤ C) : Inv2 d g C t s := ⟨S.ld, S.lg, S.gd, S.ok.mono h⟩
theorem Inv2.start (hd : d < s.n) (hg : g < s.n) (h : Dg d g B s) : Inv2 d g B s s := ⟨hd, hg, .refl d g s, h⟩
/-- what a def has drawn, seen by its caller -/
theorem Inv2.back {C : Nat} {s' : Sto} (S : Inv2 d g B t s) (h : Dg d g C s') : Inv2 d g C t ((s.set d (s'.c d)).set g (s'.c g)) :=
  ⟨S.ld, S.lg, S.gd.setd.setg, h.of (by rw [Sto.set_ne h.ne, Sto.set_at]) Sto.set_at⟩
theorem Gd2.back {s' : Sto} (d g : Nat) (s : Sto) : Gd2 d g s ((s.set d (s'.c d)).set g (s'.c g)) := (Gd2.refl d g s).setd.setg
end
theorem sz3b : (3 : Nat) < sizeLine := by decide
theorem q12 : ¬ (("run" : Str) = "great") := by decide
theorem q13 : ¬ (("run" : Str) = "turn") := by decide
theorem q21 : ¬ (("great" : Str) = "run") := by decide
theorem q23 : ¬ (("great" : Str) = "turn") := by decide
theorem q31 : ¬ (("turn" : Str) = "run") := by decide
theorem q32 : ¬ (("turn" : Str) = "great") := by decide
section
variable {s : Sto} {d g : Nat} {b t v : Int}
theorem dgM (h : s.c d = dgC b g t) : gDGet (.obj d) (.str "run") s = .ok (.int b) s := gDGet_obj h rfl (by simp [valA])
theorem dgG (h : s.c d = dgC b g t) : gDGet (.obj d) (.str "great") s = .ok (.obj g) s := gDGet_obj h rfl (by simp [valA, q12])
theorem dgT (h : s.c d = dgC b g t) : gDGet (.obj d) (.str "turn") s = .ok (.int t) s := gDGet_obj h rfl (by simp [valA, q13, q23])
theorem sdM (h : s.c d = dgC b g t) : setD (.obj d) (.str "run") (.int v) s = some (s.set d (dgC v g t)) := by
  rw [setD_obj h rfl sz3b]
  simp [putKA, q21, q31]
theorem sdT (h : s.c d = dgC b g t) : setD (.obj d) (.str "turn") (.int v) s = some (s.set d (dgC b g v)) := by
  rw [setD_obj h rfl sz3b]
  simp [putKA, q13, q23]
end
theorem ne_nil {s : Sto} {a e : Nat} {gs : List Int} (h1 : s.c a = .lst (gs.map .int)) (h2 : s.c e = .lst []) : gNe (.obj a) (.obj e) s = .ok (.bl (!gs.isEmpty)) s := by
  have d1 : dat 12 s (.obj a) = some (.list (gs.map PyData.int)) := by
    show (match s.c a with | .lst xs => (optL (dat 11 s) xs).map PyData.list | _ => none) = _
    rw [h1]
    have : ∀ l : List Int, optL (dat 11 s) (l.map AV.int) = some (l.map PyData.int) := by
      intro l
      induction l with
      | nil => rfl
      | cons z l ih =>
        show (match dat 11 s (.int z), optL (dat 11 s) (l.map AV.int) with | some d, some ds => some (d :: ds) | _, _ => none) = _
        rw [ih]; rfl
    show (optL (dat 11 s) (gs.map AV.int)).map PyData.list = _
    rw [this]; rfl
  have d2 : dat 12 s (.obj e) = some (.list []) := by
    show (match s.c e with | .lst xs => (optL (dat 11 s) xs).map PyData.list | _ => none) = _
    rw [h2]; rfl
  have sh : ∀ l : List Int, SeqAt.shaped (.list (l.map PyData.int)) = true := by
    intro l
    have k : PyData.canLayAll0 (l.map PyData.int) = true ∧ PyData.depthAll (l.map PyData.int) = 0 := by
      induction l with
      | nil => simp [PyData.canLayAll0, PyData.depthAll]
      | cons z l ih => simp [PyData.canLayAll0, PyData.canLay0, PyData.depthAll, PyData.depth, ih.1, ih.2]
    simp [SeqAt.shaped, PyData.canLay0, PyData.depth, k.1, k.2]
  rw [gNe_b (eqB_dat rfl d1 d2 (sh gs) (sh []))]
  congr 2
  cases gs <;> simp [PyData.eqv, PyData.eqvAll]
section
variable {P : AV → Sto → Prop} {R : String → List Str → List AV → Sto → Prop} {d g B : Nat} {s t : Sto}
theorem wi_next {n : Int} (S : Inv2 d g B t s) (hB : B ≤ 50000000) (n0 : 0 < n) (n1 : n.natAbs.log2 < 9000) (q : ∀ v s', 0 ≤ v → v < n → Inv2 d g (B + 1) t s' → Gd2 d g s s' → P (.int v) s') : (F__law_next [.obj d, .int n] s).Post P R := by
  unfold F__law_next
  refine gcF_d2 S.lsd S.lsg ?_
  obtain ⟨b, tu, gs, hd, b0, b1, t0, t1, hg, gs0, gl⟩ := S.ok.ex
  have dn := S.ok.ne
  have ld := S.lsd
  have lg := S.lsg
  have fin : ∀ v s', 0 ≤ v → v < n → Dg d g (B + 1) s' → Gd2 d g s s' → (Gd2 d g s s' ∧ (ClC s.n (s'.c d) ∧ ClC s.n (s'.c g)) ∧ P (.int v) ((s.set d (s'.c d)).set g (s'.c g))) := fun v s' h1 h2 h3 h4 =>
    ⟨h4, h3.cl lg, q v _ h1 h2 (S.back h3) (Gd2.back d g s)⟩
  have gT := dgT hd
  have gG := dgG hd
  have sT := sdT (v := tu + 1) hd
  have sub1 : agSub setD (aVar 0) (aC (.str "turn")) (.int (tu + 1)) [some (.obj d), some (.int n), none, none, none, none] s = .nx [some (.obj d), some (.int n), none, none, none, none] (s.set d (dgC b g (tu + 1))) := agSub_eq rfl rfl sT
  have hd1 : (s.set d (dgC b g (tu + 1))).c d = dgC b g (tu + 1) := Sto.set_at
  have hg1 : (s.set d (dgC b g (tu + 1))).c g = .lst (gs.map .int) := (Sto.set_ne (Ne.symm dn)).trans hg
  have G1 : Gd2 d g s (s.set d (dgC b g (tu + 1))) := (Gd2.refl d g s).setd
  have N1 : (s.set d (dgC b g (tu + 1))).n = s.n := rfl
  simp! [B__law_next, gT, gG, sub1]
  generalize s.set d (dgC b g (tu + 1)) = s1 at *
  have gT1 := dgT hd1
  have ln := gLen_seq (seqOf_obj hg1)
  rw [List.length_map] at ln
  obtain ⟨L, hL⟩ : ∃ L : Int, L = (if ((gs.length : Nat) : Int) > 1 then ((gs.length : Nat) : Int) else 1) := ⟨_, rfl⟩
  have L0 : 0 < L := by rw [hL]; split <;> omega
  have mx : gMax2 [.int 1, .int ((gs.length : Nat) : Int)] s1 = .ok (.int L) s1 := by rw [hL]; rfl
  have md : gMod (.int (tu + 1)) (.int L) s1 = .ok (.int ((tu + 1) % L)) s1 := gMod_int (by omega)
  have at0 := Int.emod_nonneg (tu + 1) (show L ≠ 0 by omega)
  have at1 := Int.emod_lt_of_pos (tu + 1) L0
  simp! [gT1, ln, mx, md]
  have ne1 := ne_nil (s := s1.new (.lst [])) (a := g) (e := s1.n) (at_old (by omega) hg1) Sto.new_at
  have gM1 := dgM hd1
  have m1 : gMul (.int b) (.int 6364136223846793) s1 = .ok (.int (b * 6364136223846793)) s1 := gMul_ok (m := 61) (n := 53) (by omega) (by decide) (by decide)
  have m2 : gMul (.int 1442695040888963) (.int (tu + 1)) s1 = .ok (.int (1442695040888963 * (tu + 1))) s1 := gMul_ok (m := 51) (n := 30) (by decide) (by omega) (by decide)
  obtain ⟨z, hz⟩ : ∃ z : Int, z = b * 6364136223846793 + 1442695040888963 * (tu + 1) + 11 := ⟨_, rfl⟩
  have md1 : gMod (.int z) (.int 2305843009213693951) s1 = .ok (.int (z % 2305843009213693951)) s1 := gMod_int (by decide)
  have sM := sdM (v := z % 2305843009213693951) hd1
  have hd2 : (s1.set d (dgC (z % 2305843009213693951) g (tu + 1))).c d = dgC (z % 2305843009213693951) g (tu + 1) := Sto.set_at
  have gM2 := dgM hd2
  have fd : ∀ s, gFdiv (.int (z % 2305843009213693951)) (.int 32749) s = .ok (.int (z % 2305843009213693951 / 32749)) s := fun s => gFdiv_int ⟨by decide, by decide⟩
  have mdn : ∀ s, gMod (.int (z % 2305843009213693951 / 32749)) (.int n) s = .ok (.int (z % 2305843009213693951 / 32749 % n)) s := fun s => gMod_int (by omega)
  have mixed := fin (z % 2305843009213693951 / 32749 % n) _ (Int.emod_nonneg _ (by omega)) (Int.emod_lt_of_pos _ n0) ⟨dn, _, _, gs, hd2, Int.emod_nonneg _ (by decide), Int.emod_lt_of_pos _ (by decide), by omega, by omega, (Sto.set_ne (Ne.symm dn)).trans hg1, gs0, gl⟩ G1.setd
  rw [hd2] at mixed
  by_cases he : gs = []
  · have ne1 : gNe (.obj g) (.obj s1.n) (s1.new (.lst [])) = .ok (.bl false) (s1.new (.lst [])) := by rw [ne1, he]; rfl
    refine gcT_g ?_
    have z0 : ((0 : Nat) ≤ sizeLine) = True := eq_true (Nat.zero_le _)
    simp! [ne1, z0]
    refine ⟨(Gb.refl _).new, ?_⟩
    simp! [gM1, gT1, m1, m2, ← hz, md1, sM, gM2, fd, mdn]
    exact mixed
  · have ne1 : gNe (.obj g) (.obj s1.n) (s1.new (.lst [])) = .ok (.bl true) (s1.new (.lst [])) := by
      rw [ne1]
      cases gs with
      | nil => exact absurd rfl he
      | cons => rfl
    have len : L = (gs.length : Nat) := by
      have : 0 < gs.length := List.length_pos_iff.mpr he
      rw [hL]; split <;> omega
    obtain ⟨k, hk⟩ := Int.eq_ofNat_of_zero_le at0
    have kl : k < gs.length := by omega
    obtain ⟨y, hy⟩ : ∃ y, gs[k]? = some y := ⟨gs[k], List.getElem?_eq_getElem kl⟩
    have z0 := gs0 y (List.mem_of_getElem? hy)
    have hx : (gs.map AV.int)[k]? = some (.int y) := by rw [List.getElem?_map, hy]; rfl
    have ia : L2.atI (gs.map AV.int) ((tu + 1) % L) = some (.int y) := by rw [hk]; exact L2.atI_nat hx
    have ix : ∀ s' : Sto, s'.c g = .lst (gs.map .int) → gIx (.obj g) (.int ((tu + 1) % L)) s' = .ok (.int y) s' := fun s' h => gIx_seq (seqOf_obj h) ia
    have ixN := ix (s1.new (.lst [])) (at_old (by omega) hg1)
    have ix1 := ix s1 hg1
    have z00 : ((0 : Nat) ≤ sizeLine) = True := eq_true (Nat.zero_le _)
    by_cases zp : 0 < y
    · have dz : decide (0 < y) = true := decide_eq_true zp
      have md2 : gMod (.int y) (.int n) s1 = .ok (.int (y % n)) s1 := gMod_int (by omega)
      have fd2 : gFdiv (.int y) (.int n) s1 = .ok (.int (y / n)) s1 := gFdiv_int ⟨by omega, by omega⟩
      have ixn : L2.ixN (gs.map AV.int).length ((tu + 1) % L) = some k := by
        rw [hk, List.length_map]
        unfold L2.ixN
        rw [if_pos (by omega), if_pos (by omega)]
        rfl
      have sl := setL_obj (y := .int (y / n)) hg1 ixn
      have sub2 : ∀ x5, agSub setL (aVar 2) (aVar 3) (.int (y / n)) [some (.obj d), some (.int n), some (.obj g), some (.int ((tu + 1) % L)), some (.int (y % n)), x5] s1 = .nx [some (.obj d), some (.int n), some (.obj g), some (.int ((tu + 1) % L)), some (.int (y % n)), x5] (s1.set g (.lst ((gs.map AV.int).set k (.int (y / n))))) := fun x5 => agSub_eq rfl rfl sl
      refine gcT_g ?_
      simp! [ne1, z00, ixN, dz, gGt_int]
      refine ⟨(Gb.refl _).new, ?_⟩
      simp! [ix1, md2, fd2, sub2]
      have f := fin (y % n) (s1.set g (.lst ((gs.map AV.int).set k (.int (y / n))))) (Int.emod_nonneg _ (by omega)) (Int.emod_lt_of_pos _ n0) ⟨dn, b, _, gs.set k (y / n), (Sto.set_ne dn).trans hd1, b0, b1, by omega, by omega, Sto.set_at.trans (by rw [List.map_set]), fun w hw => by
        rcases List.mem_or_eq_of_mem_set hw with h | rfl
        · exact gs0 w h
        · exact Int.ediv_nonneg z0 (by omega), by rw [List.length_set]; exact gl⟩ G1.setg
      rw [show (s1.set g (.lst ((gs.map AV.int).set k (.int (y / n))))).c g = .lst ((gs.map AV.int).set k (.int (y / n))) from Sto.set_at] at f
      exact f
    · have dz : decide (0 < y) = false := decide_eq_false zp
      refine gcT_g ?_
      simp! [ne1, z00, ixN, dz, gGt_int]
      refine ⟨(Gb.refl _).new, ?_⟩
      simp! [gM1, gT1, m1, m2, ← hz, md1, sM, gM2, fd, mdn]
      exact mixed
end
theorem merge3g (a b c : AV) : mergeA [] [(.inr "run", a), (.inr "great", b), (.inr "turn", c)] = [(.inr "run", a), (.inr "great", b), (.inr "turn", c)] := by
  simp [mergeA, putKA, q12, q13, q21, q23, q31, q32]
theorem pow18 (s : Sto) : gPow (.int 10) (.int 18) s = .ok (.int 1000000000000000000) s := gPow_int (show L2.CPow 10 18 from ⟨by decide, by decide, by decide⟩)
theorem begun_post {ns : List Int} {s : Sto} {P : AV → Sto → Prop} {R : String → List Str → List AV → Sto → Prop} (hl : ns.length ≤ 63) (q : ∀ d g s', Gb s s' → s.n ≤ d → d < s'.n → s.n ≤ g → g < s'.n → Dg d g 0 s' → P (.obj d) s') : (F__law_begun [.scr (ns.map .int)] s).Post P R := by
  unfold F__law_begun
  refine post_gcF.mpr ?_
  have z3 : ((0 : Nat) ≤ sizeLine) = True := eq_true (Nat.zero_le _)
  have ln : gLen [.scr (ns.map .int)] s = .ok (.int (ns.length : Nat)) s := by rw [gLen_scr, List.length_map]
  have m0 : gMul (.int 37) (.int (ns.length : Nat)) s = .ok (.int (37 * (ns.length : Nat))) s := gMul_ok (m := 6) (n := 6) (by decide) (by omega) (by decide)
  simp! [B__law_begun, ln, m0]
  refine post_enum lstOf_scr ?_
  simp! [eq_self]
  refine for_A (fun i σ s' => s' = s ∧ ∃ (b : Int) (x y : Option AV), 0 ≤ b ∧ b < 2305843009213693951 ∧ σ = [some (.scr (ns.map .int)), some (.int b), x, y]) ⟨rfl, _, _, _, by omega, by omega, rfl⟩ ?_ ?_
  · rintro i x σ s' hx ⟨rfl, b, x1, y1, b0, b1, rfl⟩
    refine ⟨lstOf_scr, ?_⟩
    obtain ⟨y, hy, rfl⟩ := enumA_get hx
    have hi : i < 63 := by
      have := (List.getElem?_eq_some_iff.mp hy).1
      rw [List.length_map] at this
      omega
    obtain ⟨z, rfl⟩ : ∃ z, y = .int z := by
      have := List.mem_of_getElem? hy
      obtain ⟨z, _, rfl⟩ := List.mem_map.mp this
      exact ⟨z, rfl⟩
    have m1 : gMul (.int b) (.int 998244353) s' = .ok (.int (b * 998244353)) s' := gMul_ok (m := 61) (n := 30) (by omega) (by decide) (by decide)
    have m2 : gMul (.int 104723) (.int (i : Nat)) s' = .ok (.int (104723 * (i : Nat))) s' := gMul_ok (m := 17) (n := 6) (by decide) (by omega) (by decide)
    have md : ∀ z : Int, gMod (.int z) (.int 2305843009213693951) s' = .ok (.int (z % 2305843009213693951)) s' := fun z => gMod_int (by decide)
    simp! [m1, m2, md]
    exact ⟨_, _, _, Int.emod_nonneg _ (by decide), Int.emod_lt_of_pos _ (by decide), rfl⟩
  rintro σ s' ⟨rfl, b, x1, y1, b0, b1, rfl⟩
  refine ⟨lstOf_scr, ?_⟩
  simp! [pow18]
  refine lc_P (fun i acc s2 => Gb s' s2 ∧ s'.n + 1 < s2.n ∧ s2.c s'.n = .dic [] ∧ acc.length ≤ i ∧ ∃ gs : List Int, acc = gs.map .int ∧ ∀ z ∈ gs, 0 ≤ z) ⟨(Gb.refl s').new.new, Nat.lt_succ_self _, at_old (Nat.lt_succ_self _) Sto.new_at, Nat.le_refl _, [], rfl, fun z hz => by cases hz⟩ Sto.new_at (by rw [List.length_map]; omega) ?_ ?_
  · rintro i y acc s2 hy ⟨g2, n2, dk, hl2, gs, rfl, h0⟩ hk
    obtain ⟨z, rfl⟩ : ∃ z, y = .int z := by
      have := List.mem_of_getElem? hy
      obtain ⟨z, _, rfl⟩ := List.mem_map.mp this
      exact ⟨z, rfl⟩
    refine ⟨trivial, ?_⟩
    by_cases hz : (1000000000000000000 : Int) ≤ z
    · have d : decide ((1000000000000000000 : Int) ≤ z) = true := decide_eq_true hz
      simp! [wipeA, pow18, d]
      refine ⟨hk, g2.set (Nat.le_succ _), n2, (Sto.set_ne (by omega)).trans dk, by simpa using hl2, gs ++ [z], by simp, fun w hw => ?_⟩
      rcases List.mem_append.mp hw with h | h
      · exact h0 w h
      · rw [List.mem_singleton.mp h]; omega
    · have d : decide ((1000000000000000000 : Int) ≤ z) = false := decide_eq_false hz
      simp! [wipeA, pow18, d]
      exact ⟨hk, g2, n2, dk, by omega, gs, rfl, h0⟩
  · rintro acc s2 ⟨g2, n2, dk, hl2, gs, rfl, h0⟩ hk
    refine ⟨trivial, ?_⟩
    rw [List.length_map, List.length_map] at hl2
    simp! [eq_self]
    rw [e_dispK dk rfl (by simp), merge3g]
    simp! [eq_self]
    rw [if_neg (by simp)]
    exact q _ (s'.n + 1) _ (g2.set (Nat.le_refl _)) (Nat.le_refl _) (show s'.n < s2.n by omega) (Nat.le_succ _) n2 ⟨by omega, b, 0, gs, Sto.set_at, b0, b1, Int.le_refl _, Int.le_refl _, (Sto.set_ne (by omega)).trans hk, h0, by omega⟩
end Pf
set_option maxRecDepth 100000
set_option linter.all false
namespace ML
theorem pdvd {a b : Nat} (h : a ≤ b) : (2 ^ a : Int) ∣ 2 ^ b := ⟨2 ^ (b - a), by rw [← Int.pow_add, Nat.add_sub_cancel' h]⟩
theorem emod_iff {m a b : Int} : a % m = b % m ↔ m ∣ a - b := by
  rw [Int.emod_eq_emod_iff_emod_sub_eq_zero, Int.dvd_iff_emod_eq_zero]
theorem p_pos (k : Nat) : (0 : Int) < 2 ^ k := Int.pow_pos (by decide)
theorem dvd_two {k : Nat} {q : Int} : (2 ^ (k + 1) : Int) ∣ 2 ^ k * q ↔ q % 2 = 0 := by
  rw [Int.pow_succ]
  constructor
  · rintro ⟨z, hz⟩
    rw [Int.mul_assoc] at hz
    have := Int.eq_of_mul_eq_mul_left (Int.ne_of_gt (p_pos k)) hz
    omega
  · intro h
    exact ⟨q / 2, by rw [Int.mul_assoc]; congr 1; omega⟩
theorem digit_iff {k : Nat} {a b : Int} (h : (2 ^ k : Int) ∣ a - b) : a / 2 ^ k % 2 = b / 2 ^ k % 2 ↔ (2 ^ (k + 1) : Int) ∣ a - b := by
  obtain ⟨q, hq⟩ := h
  have e : a = b + 2 ^ k * q := by omega
  rw [hq, dvd_two, e, Int.add_mul_ediv_left _ _ (Int.ne_of_gt (p_pos k))]
  omega
theorem div_mod {k j : Nat} {a b : Int} (h : (2 ^ (k + j) : Int) ∣ a - b) : a / 2 ^ k % 2 ^ j = b / 2 ^ k % 2 ^ j := by
  obtain ⟨q, hq⟩ := h
  have e : a = b + 2 ^ k * (2 ^ j * q) := by
    rw [← Int.mul_assoc, ← Int.pow_add]; omega
  rw [e, Int.add_mul_ediv_left _ _ (Int.ne_of_gt (p_pos k)), Int.add_mul_emod_self_left]
theorem A_odd (n : Nat) : A ^ n % 2 = 1 := by
  induction n with
  | zero => rfl
  | succ n ih =>
    rw [Int.pow_succ, Int.mul_emod, ih]
    rfl
theorem mv_raw {k : Nat} (hk : k ≤ 48) (n : Nat) (x : Int) : (2 ^ k : Int) ∣ raw n x - mv n x := by
  unfold mv
  have h1 : (281474976710656 : Int) ∣ raw n x - raw n x % 281474976710656 := ⟨raw n x / 281474976710656, by omega⟩
  have h2 : (2 ^ k : Int) ∣ 281474976710656 := ⟨2 ^ (48 - k), by rw [← Int.pow_add, show k + (48 - k) = 48 by omega]; decide⟩
  exact Int.dvd_trans h2 h1
theorem mv_pair {k : Nat} (hk : k ≤ 48) (n : Nat) (x y : Int) : (2 ^ k : Int) ∣ mv n x - mv n y ↔ (2 ^ k : Int) ∣ x - y := by
  have e : raw n x - raw n y = (x - y) * A ^ n := by unfold raw; grind
  have e1 := mv_raw hk n x
  have e2 := mv_raw hk n y
  rw [← dvd_odd (a := x - y) (A_odd n), ← e]
  constructor
  · intro h
    have := Int.dvd_sub (Int.dvd_add e1 h) e2
    rwa [show raw n x - mv n x + (mv n x - mv n y) - (raw n y - mv n y) = raw n x - raw n y by omega] at this
  · intro h
    have := Int.dvd_add (Int.dvd_sub h e1) e2
    rwa [show raw n x - raw n y - (raw n x - mv n x) + (raw n y - mv n y) = mv n x - mv n y by omega] at this
/-- two states share just their lowest d digits -/
structure Sh (x y : Int) (d : Nat) : Prop where
  le : d ≤ 48
  dv : (2 ^ d : Int) ∣ x - y
  nd : d < 48 → ¬ (2 ^ (d + 1) : Int) ∣ x - y
theorem Sh.least {x y : Int} {d k : Nat} (h : Sh x y d) (hk : k ≤ 48) (dv : (2 ^ k : Int) ∣ x - y) : k ≤ d := by
  rcases Nat.lt_or_ge d k with l | l
  · exact absurd (Int.dvd_trans (pdvd l) dv) (h.nd (by omega))
  · exact l
theorem Sh.uniq {x y : Int} {d e : Nat} (h : Sh x y d) (g : Sh x y e) : d = e :=
  Nat.le_antisymm (g.least h.le h.dv) (h.least g.le g.dv)
theorem Sh.symm {x y : Int} {d : Nat} (h : Sh x y d) : Sh y x d :=
  ⟨h.le, by have := Int.dvd_neg.mpr h.dv; rwa [Int.neg_sub] at this, fun l g => h.nd l (by have := Int.dvd_neg.mpr g; rwa [Int.neg_sub] at this)⟩
theorem Sh.self (x : Int) : Sh x x 48 := ⟨Nat.le_refl _, ⟨0, by omega⟩, fun h => absurd h (by decide)⟩
theorem Sh.mv {x y : Int} {d : Nat} (h : Sh x y d) (n : Nat) : Sh (ML.mv n x) (ML.mv n y) d :=
  ⟨h.le, (mv_pair h.le n x y).mpr h.dv, fun l g => h.nd l ((mv_pair l n x y).mp g)⟩
theorem Sh.upto {x y : Int} : ∀ r d : Nat, d + r = 48 → (2 ^ d : Int) ∣ x - y → ∃ e, Sh x y e
  | 0, d, hd, h => ⟨48, Nat.le_refl _, by rwa [show d = 48 by omega] at h, fun l => absurd l (by decide)⟩
  | r + 1, d, hd, h => by
    by_cases g : (2 ^ (d + 1) : Int) ∣ x - y
    · exact Sh.upto r (d + 1) (by omega) g
    · exact ⟨d, by omega, h, fun _ => g⟩
theorem Sh.ex (x y : Int) : ∃ e, Sh x y e := Sh.upto 48 0 rfl (Int.one_dvd _)
/-- the twos in a number of steps, 48 at most -/
structure Tw (n d : Nat) : Prop where
  le : d ≤ 48
  dv : 2 ^ d ∣ n
  nd : d < 48 → ¬ 2 ^ (d + 1) ∣ n
theorem Tw.sh {n d : Nat} (h : Tw n d) (x : Int) : Sh (ML.mv n x) x d :=
  ⟨h.le, (mv_low h.le n x).mpr h.dv, fun l g => h.nd l ((mv_low l n x).mp g)⟩
theorem Tw.upto {n : Nat} : ∀ r d : Nat, d + r = 48 → 2 ^ d ∣ n → ∃ e, Tw n e
  | 0, d, hd, h => ⟨48, Nat.le_refl _, by rwa [show d = 48 by omega] at h, fun l => absurd l (by decide)⟩
  | r + 1, d, hd, h => by
    by_cases g : 2 ^ (d + 1) ∣ n
    · exact Tw.upto r (d + 1) (by omega) g
    · exact ⟨d, by omega, h, fun _ => g⟩
theorem Tw.ex (n : Nat) : ∃ e, Tw n e := Tw.upto 48 0 rfl (Nat.one_dvd _)
theorem nd_two {k t : Nat} : 2 ^ (k + 1) ∣ t * 2 ^ k ↔ t % 2 = 0 := by
  have p : 0 < 2 ^ k := Nat.pow_pos (by decide)
  rw [Nat.pow_succ, Nat.mul_comm t]
  constructor
  · rintro ⟨z, hz⟩
    rw [Nat.mul_assoc] at hz
    have := Nat.eq_of_mul_eq_mul_left p hz
    omega
  · intro h
    exact ⟨t / 2, by rw [Nat.mul_assoc]; congr 1; omega⟩
/-- t · 2 ^ k steps -/
theorem low_same {k t : Nat} (hk : k ≤ 48) (x : Int) : x % 2 ^ k = mv (t * 2 ^ k) x % 2 ^ k :=
  (emod_iff.mpr ((mv_low hk _ x).mpr ⟨t, Nat.mul_comm _ _⟩)).symm
theorem low_turn {k t : Nat} (hk : k < 48) (x : Int) : x / 2 ^ k % 2 = mv (t * 2 ^ k) x / 2 ^ k % 2 ↔ t % 2 = 0 := by
  rw [eq_comm, digit_iff ((mv_low (by omega) _ x).mpr ⟨t, Nat.mul_comm _ _⟩), mv_low hk, nd_two]
/-- a digit of the words: its period, and half of it -/
theorem word_same {j n : Nat} (hj : 16 + j ≤ 48) (h : 2 ^ (16 + j) ∣ n) (y : Int) : y / 65536 % 2 ^ j = mv n y / 65536 % 2 ^ j :=
  (div_mod (k := 16) ((mv_low hj n y).mpr h)).symm
theorem word_turn {j : Nat} (hj : 16 + j < 48) (y : Int) : ¬ y / 65536 / 2 ^ j % 2 = mv (2 ^ (16 + j)) y / 65536 / 2 ^ j % 2 := by
  have e : ∀ z : Int, z / 65536 / 2 ^ j = z / 2 ^ (16 + j) := fun z => by
    rw [Int.pow_add, Int.ediv_ediv_of_nonneg (by decide)]
    rfl
  rw [e, e, eq_comm, digit_iff ((mv_low (by omega) _ y).mpr ⟨1, by omega⟩), mv_low hj]
  intro h
  have := Nat.le_of_dvd (Nat.pow_pos (by decide)) h
  rw [Nat.pow_succ] at this
  have : 0 < 2 ^ (16 + j) := Nat.pow_pos (by decide)
  omega
/-- two states t · 2 ^ k apart -/
theorem pair_dv {k t : Nat} (hk : k ≤ 48) (x : Int) : (2 ^ k : Int) ∣ x - (x + t * 2 ^ k) % 281474976710656 := by
  have h2 : (2 ^ k : Int) ∣ 281474976710656 := ⟨2 ^ (48 - k), by rw [← Int.pow_add, show k + (48 - k) = 48 by omega]; decide⟩
  obtain ⟨z, hz⟩ := h2
  refine ⟨z * ((x + t * 2 ^ k) / 281474976710656) - t, ?_⟩
  rw [Int.mul_sub, ← Int.mul_assoc, ← hz]
  have := Int.emod_add_mul_ediv (x + t * 2 ^ k) 281474976710656
  have c := Int.mul_comm (t : Int) (2 ^ k)
  omega
theorem pair_sh {k t : Nat} (hk : k < 48) (ht : t % 2 = 1) (x : Int) : Sh x ((x + t * 2 ^ k) % 281474976710656) k := by
  refine ⟨by omega, pair_dv (by omega) x, fun _ h => ?_⟩
  have g := pair_dv (k := k + 1) (t := 0) hk (x + t * 2 ^ k)
  rw [Int.natCast_zero, Int.zero_mul, Int.add_zero] at g
  have q := Int.dvd_sub h g
  rw [show x - (x + t * 2 ^ k) % 281474976710656 - (x + t * 2 ^ k - (x + t * 2 ^ k) % 281474976710656) = -(t * 2 ^ k) by omega] at q
  have q := Int.dvd_neg.mp q
  rw [Int.mul_comm, dvd_two] at q
  omega
theorem pair_word {d i : Nat} {x y : Int} (h : Sh x y d) : mv i x / 65536 % 2 ^ (d - 16) = mv i y / 65536 % 2 ^ (d - 16) := by
  rcases Nat.lt_or_ge d 16 with l | l
  · rw [show d - 16 = 0 by omega, Int.pow_zero, Int.emod_one, Int.emod_one]
  · exact div_mod (k := 16) (by rw [show 16 + (d - 16) = d by omega]; exact (mv_pair h.le i x y).mpr h.dv)
end ML
set_option Elab.async false
set_option linter.all false
set_option maxRecDepth 100000
set_option maxHeartbeats 1000000
set_option exponentiation.threshold 3000
namespace Pf
open PySem Ab
local macro_rules | `(tactic| simp! [$xs,*]) => `(tactic| try simp (config := {maxSteps := 1000000}) only [k_bind, k_Kb, k_st, k_Kst, k_Rst, k_thn, k_loop, k_fn, k_forget, k_clr, k_noX, k_try, k_stuck, k_Astuck, d_thn_nx, d_thn_bk, d_thn_ct, d_thn_rt, d_thn_er, d_lp_nx, d_lp_bk, d_lp_ct, d_lp_rt, d_lp_er, d_fg_nx, d_fg_bk, d_fg_ct, d_fg_rt, d_fg_er, d_cl_nx, d_cl_bk, d_cl_ct, d_cl_rt, d_cl_er, d_tr_nx, d_tr_bk, d_tr_ct, d_tr_rt, d_tr_er, d_nX_nx, d_nX_bk, d_nX_ct, d_nX_rt, d_nX_er, d_fn_nx, d_fn_bk, d_fn_ct, d_fn_rt, d_fn_er, A_nx, A_bk, A_ct, A_rt, A_err, post_ok, post_err, post_noErr, e_op, e_opK, e_un, e_cb, e_nil, e_c, e_cons, e_consK, e_consK2, e_and, e_or, e_andK, e_orK, e_not, e_notK, e_test, e_testK, e_tand, e_tandK, e_tor, e_torK, e_tnot, e_tnotK, e_yes, e_if, e_ifK, e_ch, e_chK1, e_chK2, e_chK3, e_tup, e_tupK, e_lst, e_lstK, e_newL, e_call, e_callK, e_meth, e_methK, e_methK2, e_prop, e_propK, e_make, e_makeK, e_makeK2, e_makeV, e_sm, e_smK, e_smK2, e_cm, e_cmK, e_cmK2, e_sl, e_slK1, e_slK2, e_slK3, e_part, e_partK, e_nopart, e_rev, e_bm, e_bmK, e_pr, e_pr0, e_prK1, e_prK2, e_prK3, e_disp, e_dnew, e_own, e_ownK, e_lc, e_lcK, e_iter, e_rng1, e_rng1K, e_rng2, e_rng2K, e_enum, s_drop, s_dropK, s_ret, s_retK, s_retN, s_next, s_break, s_cont, s_seq, s_if, s_ifK, s_asg, s_asgK, s_name, s_par, s_parK, s_par3, s_parK3, s_gnil, s_gcons, s_gtup, s_for, s_forK, s_raise, s_raiseK, s_sf, s_sfK1, s_sfK2, s_dp, s_dpK1, s_dpK2, s_dpK3, s_forget, s_def, s_fld, e_enumU, e_enumUT, e_match, e_mcase, e_mcase2, e_many, e_mnil, e_lcX, e_lcXK, e_get2, e_methS, e_methS1, e_methS2, s_augS, s_augS1, gEqS_int, gEqS_str, gEqS_bl, gEqS_tup, eq_self, beq_self_eq_true, k_grd, k_grdS, k_ite, k_Aite, true_implies, false_implies, implies_true, List.map_cons, List.map_nil, List.nil_append, List.cons_append, List.append_nil, List.replicate_succ, List.replicate_zero, List.getElem?_cons_zero, List.getElem?_cons_succ, List.length_cons, List.length_nil, List.set_cons_zero, List.set_cons_succ, ↓reduceIte, ↓reduceDIte, Nat.reduceAdd, Nat.reduceLeDiff, Nat.reduceEqDiff, Nat.zero_add, if_true, if_false, aVar, gMinus_int, gLt_int, gLe_int, gGt_int, gGe_int, gEq_int, gNe_int, gEq_str, gNe_str, gEq_bl, gNe_bl, gXor_int, gAnd_int, gOr_int, gAdd_int, gIsN_non, gNotN_non, gIsB_bl, gNotB_bl, gNeg_int, gLen_tup, gLen_scr, gMax2_int, gMin2_int, gBits_int, gSl_tup, gSl_scr, Bool.not_true, Bool.not_false, Bool.true_eq_false, Bool.false_eq_true, Bool.true_and, Bool.false_and, Bool.and_true, Bool.and_false, Bool.true_or, Bool.false_or, decide_true, decide_false, and_self, and_true, true_and, and_false, false_and, not_true_eq_false, not_false_eq_true, reduceCtorEq, kz, z1, z2, z3, z4, z5, z6, z7, z8, z9, z10, z11, z12, z13, z14, z15, z16, isCls, isNon, aForget, aHand, toKey, keysA, iterOf_tup, iterOf_scr, oNx_some, noErr_ok, decide_eq_true_eq, decide_eq_false_iff_not, Sto.new_n, Sto.set_n, Sto.set_at, Sto.new_at, Nat.zero_le, aMakeV, Cl_non, Cl_bl, Cl_int, Cl_str, Cl_cls, Cl_obj, Cl_tup, ClL_nil, ClL_cons, $xs,*])
local macro_rules | `(tactic| simp! only [$xs,*]) => `(tactic| simp only [e_op, e_opK, e_un, e_cb, e_nil, e_c, e_cons, e_consK, e_consK2, e_and, e_or, e_andK, e_orK, e_not, e_notK, e_test, e_testK, e_tand, e_tandK, e_tor, e_torK, e_tnot, e_tnotK, e_yes, e_if, e_ifK, e_ch, e_chK1, e_chK2, e_chK3, e_tup, e_tupK, e_lst, e_lstK, e_newL, e_call, e_callK, e_meth, e_methK, e_methK2, e_prop, e_propK, e_make, e_makeK, e_makeK2, e_makeV, e_sm, e_smK, e_smK2, e_cm, e_cmK, e_cmK2, e_sl, e_slK1, e_slK2, e_slK3, e_part, e_partK, e_nopart, e_rev, e_bm, e_bmK, e_pr, e_pr0, e_prK1, e_prK2, e_prK3, e_disp, e_dnew, e_own, e_ownK, e_lc, e_lcK, e_iter, e_rng1, e_rng1K, e_rng2, e_rng2K, e_enum, s_drop, s_dropK, s_ret, s_retK, s_retN, s_next, s_break, s_cont, s_seq, s_if, s_ifK, s_asg, s_asgK, s_name, s_par, s_parK, s_par3, s_parK3, s_gnil, s_gcons, s_gtup, s_for, s_forK, s_raise, s_raiseK, s_sf, s_sfK1, s_sfK2, s_dp, s_dpK1, s_dpK2, s_dpK3, s_forget, s_def, s_fld, e_enumU, e_enumUT, e_match, e_mcase, e_mcase2, e_many, e_mnil, e_lcX, e_lcXK, e_get2, e_methS, e_methS1, e_methS2, s_augS, s_augS1, gEqS_int, gEqS_str, gEqS_bl, gEqS_tup, eq_self, beq_self_eq_true, true_implies, false_implies, implies_true, List.map_cons, List.map_nil, List.nil_append, List.cons_append, List.append_nil, List.replicate_succ, List.replicate_zero, List.getElem?_cons_zero, List.getElem?_cons_succ, List.length_cons, List.length_nil, List.set_cons_zero, List.set_cons_succ, ↓reduceIte, ↓reduceDIte, Nat.reduceAdd, Nat.reduceLeDiff, Nat.reduceEqDiff, Nat.zero_add, if_true, if_false, aVar, gMinus_int, gLt_int, gLe_int, gGt_int, gGe_int, gEq_int, gNe_int, gEq_str, gNe_str, gEq_bl, gNe_bl, gXor_int, gAnd_int, gOr_int, gAdd_int, gIsN_non, gNotN_non, gIsB_bl, gNotB_bl, gNeg_int, gLen_tup, gLen_scr, gMax2_int, gMin2_int, gBits_int, gSl_tup, gSl_scr, Bool.not_true, Bool.not_false, Bool.true_eq_false, Bool.false_eq_true, Bool.true_and, Bool.false_and, Bool.and_true, Bool.and_false, Bool.true_or, Bool.false_or, decide_true, decide_false, and_self, and_true, true_and, and_false, false_and, not_true_eq_false, not_false_eq_true, reduceCtorEq, kz, z1, z2, z3, z4, z5, z6, z7, z8, z9, z10, z11, z12, z13, z14, z15, z16, isCls, isNon, aForget, aHand, toKey, keysA, iterOf_tup, iterOf_scr, oNx_some, noErr_ok, decide_eq_true_eq, decide_eq_false_iff_not, Sto.new_n, Sto.set_n, Sto.set_at, Sto.new_at, Nat.zero_le, aMakeV, Cl_non, Cl_bl, Cl_int, Cl_str, Cl_cls, Cl_obj, Cl_tup, ClL_nil, ClL_cons, grd_pos, grdS_pos, Res.bind_ok, Res.bind_err, Res.st_ok, Res.st_err, SRes.thn_nx, SRes.thn_rt, SRes.thn_err, SRes.fn_rt, SRes.fn_nx, SRes.fn_err, SRes.loop_nx, SRes.loop_rt, SRes.loop_err, SRes.loop_ct, SRes.loop_bk, SRes.forget_nx, SRes.forget_rt, SRes.forget_err, SRes.clr_nx, SRes.clr_rt, SRes.noX_nx, SRes.noX_rt, aTry, sizeLine_ge, $xs,*])
theorem list_same {s : Sto} {a b : Nat} {xs : List AV} (ha : s.c a = .lst xs) (hb : s.c b = .lst xs) (hd : ∀ x ∈ xs, ∃ d, dat 11 s x = some d ∧ PyData.canLay0 d = true ∧ d.depth ≤ 3) : eqB (.obj a) (.obj b) s = some true := by
  have key : ∀ l : List AV, (∀ x ∈ l, ∃ d, dat 11 s x = some d ∧ PyData.canLay0 d = true ∧ d.depth ≤ 3) → ∃ ds, optL (dat 11 s) l = some ds ∧ PyData.canLayAll0 ds = true ∧ PyData.depthAll ds ≤ 3 := by
    intro l
    induction l with
    | nil => exact fun _ => ⟨[], rfl, by simp [PyData.canLayAll0], by simp [PyData.depthAll]⟩
    | cons x l ih =>
      intro h
      obtain ⟨d, h1, h2, h3⟩ := h x List.mem_cons_self
      obtain ⟨ds, k1, k2, k3⟩ := ih fun y hy => h y (List.mem_cons_of_mem _ hy)
      refine ⟨d :: ds, ?_, by simp [PyData.canLayAll0, h2, k2], by simp only [PyData.depthAll]; omega⟩
      show (match dat 11 s x, optL (dat 11 s) l with | some d, some ds => some (d :: ds) | _, _ => none) = _
      rw [h1, k1]
  obtain ⟨ds, k1, k2, k3⟩ := key xs hd
  have e : ∀ o, s.c o = .lst xs → dat 12 s (.obj o) = some (.list ds) := by
    intro o h
    show (match s.c o with | .lst xs => (optL (dat 11 s) xs).map PyData.list | _ => none) = _
    rw [h]
    show (optL (dat 11 s) xs).map PyData.list = _
    rw [k1]
    rfl
  have sh : SeqAt.shaped (.list ds) = true := by
    simp [SeqAt.shaped, PyData.canLay0, k2, PyData.depth]
    omega
  rw [eqB_dat rfl (e a ha) (e b hb) sh sh, PySem.SeqAt.eqv_refl _ (SeqAt.canLay_of_shaped sh)]
theorem flat_d {s : Sto} {x : AV} (h : (∃ i, x = .int i) ∨ x = .non) : ∃ d, dat 11 s x = some d ∧ PyData.canLay0 d = true ∧ d.depth ≤ 3 := by
  rcases h with ⟨i, rfl⟩ | rfl
  · exact ⟨.int i, rfl, by simp [PyData.canLay0], by simp [PyData.depth]⟩
  · exact ⟨.none, rfl, by simp [PyData.canLay0], by simp [PyData.depth]⟩
theorem aug_int {i : Nat} {v c : Int} {σ : ASt} {s : Sto} (h : σ[i]? = some (some (.int v))) : aAug i (gI0 fun i j => .int (i + j)) (aC (.int c)) σ s = .nx (σ.set i (some (.int (v + c)))) s := by
  rw [s_aug h]
  rfl
def De (s : Sto) (l c : Nat) (x : AV) : Prop := ∃ d : PyData, (∀ s', Gb s s' → ∀ n, l < n → datE n s' x = some d) ∧ Gx.SmE d ∧ d.depth ≤ l ∧ Gx.nodes d ≤ c
def DeL (s : Sto) (l c : Nat) (xs : List AV) : Prop := ∃ ds : List PyData, (∀ s', Gb s s' → ∀ n, l < n → optL (datE n s') xs = some ds) ∧ Gx.SmEAll ds ∧ PyData.depthAll ds ≤ l ∧ Gx.nodesAll ds ≤ c * xs.length
section
variable {s : Sto} {l c : Nat} {x : AV} {xs : List AV}
theorem De.mono {m e : Nat} (h : De s l c x) (h1 : l ≤ m) (h2 : c ≤ e) : De s m e x := by
  obtain ⟨d, k1, k2, k3, k4⟩ := h
  exact ⟨d, fun t g n hn => k1 t g n (by omega), k2, by omega, by omega⟩
theorem de_dat {d : PyData} (h : ∀ s' n, datE (n + 1) s' x = some d) (h2 : Gx.SmE d) (h3 : d.depth = 0) (h4 : Gx.nodes d = 1) : De s 0 1 x :=
  ⟨d, fun t g n hn => by obtain ⟨m, rfl⟩ : ∃ m, n = m + 1 := ⟨n - 1, by omega⟩; exact h t m, h2, by omega, by omega⟩
theorem de_int {i : Int} (h : i.natAbs < 2 ^ 600) : De s 0 1 (.int i) := de_dat (d := .int i) (fun _ _ => rfl) (by simp only [Gx.SmE]; exact h) (by simp [PyData.depth]) (by simp [Gx.nodes])
/-- the text of a value -/
theorem De.rep (h : De s l c x) (h1 : l ≤ 11) (h2 : c ≤ 20000) : ∃ z : Str, ∀ s', Gb s s' → gReprE [x] s' = .ok (.str z) s' := by
  obtain ⟨d, k1, k2, k3, k4⟩ := h
  have o : Gx.Okd d := Gx.okdE k2 (by omega) (by omega)
  exact ⟨d.shown, fun t g => gReprE_dat (k1 t g 12 (by omega)) ⟨o.sh, o.dp, o.ln⟩⟩
/-- the text of a list, by what it holds -/
theorem DeL.rep (h : DeL s l c xs) (h1 : l ≤ 10) (h2 : c * xs.length ≤ 19999) : ∃ z : Str, ∀ s' o, Gb s s' → s'.c o = .lst xs → gReprE [.obj o] s' = .ok (.str z) s' := by
  obtain ⟨ds, m1, m2, m3, m4⟩ := h
  have o : Gx.Okd (.list ds) := Gx.okdE (by simp only [Gx.SmE]; exact m2) (by simp only [PyData.depth]; omega) (by simp only [Gx.nodes]; omega)
  refine ⟨(PyData.list ds).shown, fun t p g e => gReprE_dat (d := .list ds) ?_ ⟨o.sh, o.dp, o.ln⟩⟩
  show (match t.c p with | .lst xs => (optL (datE 11 t) xs).map PyData.list | .dic [] => some (PyData.dict []) | _ => none) = _
  rw [e]
  show (optL (datE 11 t) xs).map PyData.list = _
  rw [m1 t g 11 (by omega)]
  rfl
end
theorem m48 (i : Int) : Builtin.bitAnd i (281474976710656 - 1) = i % 281474976710656 := PySem.W.kbt_mask i 48
abbrev lin (x : Int) : Cell := .ins "Linear" [("s2_x", .int x)]
abbrev mpA (k : Nat) : AV := .tup [.int (ML.m1 k), .int (ML.m2 k)]
theorem joined_ok (a b : Nat) (s : Sto) : F_s2_joined [mpA a, mpA b] s = .ok (mpA (a + b)) s := by
  refine gc0 ?_ (by simp)
  have a1 := ML.m1_rng a
  have a2 := ML.m2_rng a
  have b1 := ML.m1_rng b
  have b2 := ML.m2_rng b
  have g1 : gMul (.int (ML.m1 a)) (.int (ML.m1 b)) s = .ok (.int (ML.m1 a * ML.m1 b)) s := gMul_ok (m := 48) (n := 48) (by omega) (by omega) (by decide)
  have g2 : gMul (.int (ML.m2 a)) (.int (ML.m1 b)) s = .ok (.int (ML.m2 a * ML.m1 b)) s := gMul_ok (m := 48) (n := 48) (by omega) (by omega) (by decide)
  simp! only [B_s2_joined, ix0, ix1, g1, g2, m48, ML.join1, ML.join2]
theorem mapped_ok (n : Nat) {x : Int} (h0 : 0 ≤ x) (h1 : x < 281474976710656) (s : Sto) : F_s2_mapped [mpA n, .int x] s = .ok (.int (ML.mv n x)) s := by
  refine gc0 ?_ (by simp)
  have a1 := ML.m1_rng n
  have g1 : gMul (.int (ML.m1 n)) (.int x) s = .ok (.int (ML.m1 n * x)) s := gMul_ok (m := 48) (n := 48) (by omega) (by omega) (by decide)
  simp! only [B_s2_mapped, ix0, ix1, g1, m48, ML.mapped]
theorem step_map_okI (i : Int) (N : Nat) (en : i % 281474976710656 = (N : Nat)) (s : Sto) : F_s2_step_map [.int i] s = .ok (mpA N) s := by
  have hN : N < 281474976710656 := by omega
  refine gc0 ?_ (by simp)
  refine res_ok ?_
  have e0 : (AV.tup [.int 1, .int 0]) = mpA 0 := rfl
  have e1 : (AV.tup [.int 205891132094649, .int 11]) = mpA 1 := rfl
  simp! [B_s2_step_map, m48, en]
  rw [e0, e1]
  refine while_A (fun j σ s' => s' = s ∧ ∃ (f t left : Nat), σ = [some (.int (left : Nat)), some (mpA f), some (mpA t)] ∧ left < 2 ^ j ∧ f + t * left = N) 48 ⟨rfl, 0, 1, N, rfl, by omega, by omega⟩ ?_
  rintro j σ s' ⟨rfl, f, t, left, rfl, hl, e⟩
  by_cases h0 : left = 0
  · have d : decide ((0 : Int) < ((left : Nat) : Int)) = false := decide_eq_false (by omega)
    simp! [d]
    subst h0
    rw [Nat.mul_zero, Nat.add_zero] at e
    rw [e]
  · have d : decide ((0 : Int) < ((left : Nat) : Int)) = true := decide_eq_true (by omega)
    obtain ⟨j, rfl⟩ : ∃ i, j = i + 1 := ⟨j - 1, by
      cases j with
      | zero => simp at hl; omega
      | succ i => rfl⟩
    have hl2 : left / 2 < 2 ^ j := by rw [Nat.pow_succ] at hl; omega
    have j1 := joined_ok f t s'
    have j2 := joined_ok t t s'
    have h2 : ((left : Nat) : Int) / 2 = ((left / 2 : Nat) : Int) := by omega
    have a1 : Builtin.bitAnd ((left : Nat) : Int) 1 = ((left % 2 : Nat) : Int) := by rw [m1]; omega
    by_cases hb : left % 2 = 1
    · have d1 : decide (((left % 2 : Nat) : Int) = 1) = true := decide_eq_true (by omega)
      simp! [d, a1, d1, j1, j2, gF2, h2]
      refine ⟨j, Nat.lt_succ_self j, f + t, t + t, left / 2, rfl, hl2, ?_⟩
      rw [← e, show left = 2 * (left / 2) + 1 by omega, Nat.add_mul, Nat.mul_add, Nat.mul_one]
      have : (2 * (left / 2) + 1) / 2 = left / 2 := by omega
      rw [this, show t * (2 * (left / 2)) = t * (left / 2) + t * (left / 2) by rw [Nat.mul_left_comm, Nat.two_mul]]
      omega
    · have d1 : decide (((left % 2 : Nat) : Int) = 1) = false := decide_eq_false (by omega)
      simp! [d, a1, d1, j2, gF2, h2]
      refine ⟨j, Nat.lt_succ_self j, f, t + t, left / 2, rfl, hl2, ?_⟩
      rw [← e, Nat.add_mul]
      have : t * left = t * (left / 2) + t * (left / 2) := by
        rw [← Nat.mul_add]
        congr 1
        omega
      rw [this]
theorem step_map_ok (n : Nat) (s : Sto) : F_s2_step_map [.int (n : Nat)] s = .ok (mpA (n % 281474976710656)) s := step_map_okI _ _ (by omega) s
theorem lmoved_okI (i : Int) (N : Nat) (en : i % 281474976710656 = (N : Nat)) {x : Int} (h0 : 0 ≤ x) (h1 : x < 281474976710656) (s : Sto) : F_s2_moved [.int x, .int i] s = .ok (.int (ML.mv N x)) s := by
  refine gc0 ?_ (by simp)
  have a := step_map_okI i N en s
  have b := mapped_ok N h0 h1 s
  simp! only [B_s2_moved, a, b]
theorem lmoved_ok (n : Nat) {x : Int} (h0 : 0 ≤ x) (h1 : x < 281474976710656) (s : Sto) : F_s2_moved [.int x, .int (n : Nat)] s = .ok (.int (ML.mv n x)) s := by
  refine gc0 ?_ (by simp)
  have a := step_map_ok n s
  have b := mapped_ok (n % 281474976710656) h0 h1 s
  rw [ML.mv_mod] at b
  simp! only [B_s2_moved, a, b]
theorem lin_new (i : Int) (h0 : 0 ≤ i) (h1 : i < 281474976710656) (s : Sto) : F_Linear___init__ [.obj s.n, .int i] (s.new (.ins "Linear" [])) = .ok .non (s.new (lin i)) := by
  have e := lin_init i h0 h1 (s.new (.ins "Linear" [])) s.n Sto.new_at (Nat.lt_succ_self _)
  rw [new_set] at e
  exact e
section
variable {s : Sto} {o : Nat} {x : Int}
theorem fx (h : s.c o = lin x) : gFld ["Linear"] "s2_x" (.obj o) s = .ok (.int x) s := gFld_obj h (by simp) lookA_hd
theorem isi_lin (h : s.c o = lin x) : gIsi (kitB "Linear") [.obj o, .cls "Linear"] s = .ok (.bl true) s := isi_cls (a := "Linear") (by show (match s.c o with | .lst _ => some "list" | .dic _ => some "dict" | .ins c _ => some c) = _; rw [h]) (by decide) (by decide)
theorem lin_state (h : s.c o = lin x) : F_Linear_state [.obj o] s = .ok (.tup [.int x]) s := by
  refine gc0 ?_ (by simp)
  have a := fx h
  simp! only [B_Linear_state, a]
theorem lin_ahead {n : Nat} (h : s.c o = lin x) (h0 : 0 ≤ x) (h1 : x < 281474976710656) (n1 : n ≤ 18446744073709551616) : F_Linear_ahead [.obj o, .int (n : Nat)] s = .ok (.obj s.n) (s.new (lin (ML.mv n x))) := by
  have a := fx h
  have b := need_steps_t (i := n) s (by omega) (by omega)
  have c := lmoved_ok n h0 h1 s
  have r := ML.mv_rng n x
  have e := lin_new (ML.mv n x) r.1 r.2 s
  refine gcF_raw ?_ (by simp)
  simp! only [B_Linear_ahead, a, b, c, e, isNon]
theorem lin_next (h : s.c o = lin x) (lt : o < s.n) (h0 : 0 ≤ x) (h1 : x < 281474976710656) : F_Linear_next_word [.obj o] s = .ok (.int (ML.mv 1 x / 65536)) (s.set o (lin (ML.mv 1 x))) := by
  have a := fx h
  have m : gMul (.int 205891132094649) (.int x) s = .ok (.int (205891132094649 * x)) s := gMul_ok (m := 48) (n := 48) (by decide) (by omega) (by decide)
  have e : (205891132094649 * x + 11) % 281474976710656 = ML.mv 1 x := by
    have := ML.mapped 1 x
    rw [ML.m_one.1, ML.m_one.2] at this
    exact this
  have f1 : setF ["Linear"] "s2_x" (.obj o) (.int (ML.mv 1 x)) s = some (s.set o (lin (ML.mv 1 x))) := by
    rw [setF_obj h (by simp) (by simp)]
    rfl
  have a2 := fx (s := s.set o (lin (ML.mv 1 x))) (o := o) (x := ML.mv 1 x) Sto.set_at
  have d : ∀ y s, gFdiv (.int y) (.int 65536) s = .ok (.int (y / 65536)) s := fun y s => gFdiv_int ⟨by decide, by decide⟩
  have r : aDef 0 B_Linear_next_word [.obj o] s = .ok (.int (ML.mv 1 x / 65536)) (s.set o (lin (ML.mv 1 x))) := by
    simp! only [B_Linear_next_word, a, m, m48, e, f1, a2, d]
  have := gcF_eq r (by simp) ((Clean.refl s).set (.inr (by simp [ClC])))
  rw [cut_set_old lt, cut_self] at this
  exact this
end
theorem bitsN (n : Nat) : Builtin.Int.intBits (n : Int) = TW.len n := by
  unfold Builtin.Int.intBits TW.len
  by_cases h : n = 0
  · subst h; rfl
  · rw [if_neg (by simpa using h), if_neg h]; simp
theorem bits_le {n k : Nat} (h : n < 2 ^ k) : Builtin.Int.intBits (n : Int) ≤ k := by
  rw [bitsN]; exact TW.len_le h
theorem shl_ok {a : Nat} {j : Nat} {k : Nat} {s : Sto} (h : a < 2 ^ k) (hk : k + j ≤ 100000) : gShl (.int (a : Nat)) (.int (j : Nat)) s = .ok (.int ((a * 2 ^ j : Nat) : Int)) s := by
  rw [gShl_int ⟨by omega, by have := bits_le h; omega⟩]
  simp
theorem shl_one {k : Nat} (s : Sto) (hk : k ≤ 5000) : gShl (.int 1) (.int (k : Nat)) s = .ok (.int ((2 ^ k : Nat) : Int)) s := by
  have := shl_ok (a := 1) (j := k) (k := 1) (s := s) (by decide) (by omega)
  rw [Nat.one_mul] at this
  exact this
end Pf
set_option Elab.async false
set_option linter.all false
set_option maxRecDepth 100000
set_option maxHeartbeats 1000000
set_option exponentiation.threshold 3000
namespace Pf
open PySem Ab
local macro_rules | `(tactic| simp! [$xs,*]) => `(tactic| try simp (config := {maxSteps := 1000000}) only [k_bind, k_Kb, k_st, k_Kst, k_Rst, k_thn, k_loop, k_fn, k_forget, k_clr, k_noX, k_try, k_stuck, k_Astuck, d_thn_nx, d_thn_bk, d_thn_ct, d_thn_rt, d_thn_er, d_lp_nx, d_lp_bk, d_lp_ct, d_lp_rt, d_lp_er, d_fg_nx, d_fg_bk, d_fg_ct, d_fg_rt, d_fg_er, d_cl_nx, d_cl_bk, d_cl_ct, d_cl_rt, d_cl_er, d_tr_nx, d_tr_bk, d_tr_ct, d_tr_rt, d_tr_er, d_nX_nx, d_nX_bk, d_nX_ct, d_nX_rt, d_nX_er, d_fn_nx, d_fn_bk, d_fn_ct, d_fn_rt, d_fn_er, A_nx, A_bk, A_ct, A_rt, A_err, post_ok, post_err, post_noErr, e_op, e_opK, e_un, e_cb, e_nil, e_c, e_cons, e_consK, e_consK2, e_and, e_or, e_andK, e_orK, e_not, e_notK, e_test, e_testK, e_tand, e_tandK, e_tor, e_torK, e_tnot, e_tnotK, e_yes, e_if, e_ifK, e_ch, e_chK1, e_chK2, e_chK3, e_tup, e_tupK, e_lst, e_lstK, e_newL, e_call, e_callK, e_meth, e_methK, e_methK2, e_prop, e_propK, e_make, e_makeK, e_makeK2, e_makeV, e_sm, e_smK, e_smK2, e_cm, e_cmK, e_cmK2, e_sl, e_slK1, e_slK2, e_slK3, e_part, e_partK, e_nopart, e_rev, e_bm, e_bmK, e_pr, e_pr0, e_prK1, e_prK2, e_prK3, e_disp, e_dnew, e_own, e_ownK, e_lc, e_lcK, e_iter, e_rng1, e_rng1K, e_rng2, e_rng2K, e_enum, s_drop, s_dropK, s_ret, s_retK, s_retN, s_next, s_break, s_cont, s_seq, s_if, s_ifK, s_asg, s_asgK, s_name, s_par, s_parK, s_par3, s_parK3, s_gnil, s_gcons, s_gtup, s_for, s_forK, s_raise, s_raiseK, s_sf, s_sfK1, s_sfK2, s_dp, s_dpK1, s_dpK2, s_dpK3, s_forget, s_def, s_fld, e_enumU, e_enumUT, e_match, e_mcase, e_mcase2, e_many, e_mnil, e_lcX, e_lcXK, e_get2, e_methS, e_methS1, e_methS2, s_augS, s_augS1, gEqS_int, gEqS_str, gEqS_bl, gEqS_tup, eq_self, beq_self_eq_true, k_grd, k_grdS, k_ite, k_Aite, true_implies, false_implies, implies_true, List.map_cons, List.map_nil, List.nil_append, List.cons_append, List.append_nil, List.replicate_succ, List.replicate_zero, List.getElem?_cons_zero, List.getElem?_cons_succ, List.length_cons, List.length_nil, List.set_cons_zero, List.set_cons_succ, ↓reduceIte, ↓reduceDIte, Nat.reduceAdd, Nat.reduceLeDiff, Nat.reduceEqDiff, Nat.zero_add, if_true, if_false, aVar, gMinus_int, gLt_int, gLe_int, gGt_int, gGe_int, gEq_int, gNe_int, gEq_str, gNe_str, gEq_bl, gNe_bl, gXor_int, gAnd_int, gOr_int, gAdd_int, gIsN_non, gNotN_non, gIsB_bl, gNotB_bl, gNeg_int, gLen_tup, gLen_scr, gMax2_int, gMin2_int, gBits_int, gSl_tup, gSl_scr, Bool.not_true, Bool.not_false, Bool.true_eq_false, Bool.false_eq_true, Bool.true_and, Bool.false_and, Bool.and_true, Bool.and_false, Bool.true_or, Bool.false_or, decide_true, decide_false, and_self, and_true, true_and, and_false, false_and, not_true_eq_false, not_false_eq_true, reduceCtorEq, kz, z1, z2, z3, z4, z5, z6, z7, z8, z9, z10, z11, z12, z13, z14, z15, z16, isCls, isNon, aForget, aHand, toKey, keysA, iterOf_tup, iterOf_scr, oNx_some, noErr_ok, decide_eq_true_eq, decide_eq_false_iff_not, Sto.new_n, Sto.set_n, Sto.set_at, Sto.new_at, Nat.zero_le, aMakeV, Cl_non, Cl_bl, Cl_int, Cl_str, Cl_cls, Cl_obj, Cl_tup, ClL_nil, ClL_cons, $xs,*])
local macro_rules | `(tactic| simp! only [$xs,*]) => `(tactic| simp only [e_op, e_opK, e_un, e_cb, e_nil, e_c, e_cons, e_consK, e_consK2, e_and, e_or, e_andK, e_orK, e_not, e_notK, e_test, e_testK, e_tand, e_tandK, e_tor, e_torK, e_tnot, e_tnotK, e_yes, e_if, e_ifK, e_ch, e_chK1, e_chK2, e_chK3, e_tup, e_tupK, e_lst, e_lstK, e_newL, e_call, e_callK, e_meth, e_methK, e_methK2, e_prop, e_propK, e_make, e_makeK, e_makeK2, e_makeV, e_sm, e_smK, e_smK2, e_cm, e_cmK, e_cmK2, e_sl, e_slK1, e_slK2, e_slK3, e_part, e_partK, e_nopart, e_rev, e_bm, e_bmK, e_pr, e_pr0, e_prK1, e_prK2, e_prK3, e_disp, e_dnew, e_own, e_ownK, e_lc, e_lcK, e_iter, e_rng1, e_rng1K, e_rng2, e_rng2K, e_enum, s_drop, s_dropK, s_ret, s_retK, s_retN, s_next, s_break, s_cont, s_seq, s_if, s_ifK, s_asg, s_asgK, s_name, s_par, s_parK, s_par3, s_parK3, s_gnil, s_gcons, s_gtup, s_for, s_forK, s_raise, s_raiseK, s_sf, s_sfK1, s_sfK2, s_dp, s_dpK1, s_dpK2, s_dpK3, s_forget, s_def, s_fld, e_enumU, e_enumUT, e_match, e_mcase, e_mcase2, e_many, e_mnil, e_lcX, e_lcXK, e_get2, e_methS, e_methS1, e_methS2, s_augS, s_augS1, gEqS_int, gEqS_str, gEqS_bl, gEqS_tup, eq_self, beq_self_eq_true, true_implies, false_implies, implies_true, List.map_cons, List.map_nil, List.nil_append, List.cons_append, List.append_nil, List.replicate_succ, List.replicate_zero, List.getElem?_cons_zero, List.getElem?_cons_succ, List.length_cons, List.length_nil, List.set_cons_zero, List.set_cons_succ, ↓reduceIte, ↓reduceDIte, Nat.reduceAdd, Nat.reduceLeDiff, Nat.reduceEqDiff, Nat.zero_add, if_true, if_false, aVar, gMinus_int, gLt_int, gLe_int, gGt_int, gGe_int, gEq_int, gNe_int, gEq_str, gNe_str, gEq_bl, gNe_bl, gXor_int, gAnd_int, gOr_int, gAdd_int, gIsN_non, gNotN_non, gIsB_bl, gNotB_bl, gNeg_int, gLen_tup, gLen_scr, gMax2_int, gMin2_int, gBits_int, gSl_tup, gSl_scr, Bool.not_true, Bool.not_false, Bool.true_eq_false, Bool.false_eq_true, Bool.true_and, Bool.false_and, Bool.and_true, Bool.and_false, Bool.true_or, Bool.false_or, decide_true, decide_false, and_self, and_true, true_and, and_false, false_and, not_true_eq_false, not_false_eq_true, reduceCtorEq, kz, z1, z2, z3, z4, z5, z6, z7, z8, z9, z10, z11, z12, z13, z14, z15, z16, isCls, isNon, aForget, aHand, toKey, keysA, iterOf_tup, iterOf_scr, oNx_some, noErr_ok, decide_eq_true_eq, decide_eq_false_iff_not, Sto.new_n, Sto.set_n, Sto.set_at, Sto.new_at, Nat.zero_le, aMakeV, Cl_non, Cl_bl, Cl_int, Cl_str, Cl_cls, Cl_obj, Cl_tup, ClL_nil, ClL_cons, grd_pos, grdS_pos, Res.bind_ok, Res.bind_err, Res.st_ok, Res.st_err, SRes.thn_nx, SRes.thn_rt, SRes.thn_err, SRes.fn_rt, SRes.fn_nx, SRes.fn_err, SRes.loop_nx, SRes.loop_rt, SRes.loop_err, SRes.loop_ct, SRes.loop_bk, SRes.forget_nx, SRes.forget_rt, SRes.forget_err, SRes.clr_nx, SRes.clr_rt, SRes.noX_nx, SRes.noX_rt, aTry, sizeLine_ge, $xs,*])
section
variable {s : Sto} {o o' : Nat} {x y : Int}
theorem p_cast (k : Nat) : ((2 ^ k : Nat) : Int) = (2 : Int) ^ k := by
  rw [Int.natCast_pow]
  rfl
theorem power_ok {k : Nat} (s : Sto) (hk : k ≤ 1000) : F__law_power [.int (k : Nat)] s = .ok (.int ((2 ^ k : Nat) : Int)) s := by
  refine gc0 ?_ (by simp)
  have e := shl_one s (k := k) (by omega)
  simp! only [B__law_power, e]
theorem need_lin (h : s.c o = lin x) : F_s2_need_linear [.obj o] s = .ok .non s := by
  refine gc0 ?_ (by simp)
  have i := isi_lin h
  simp! only [B_s2_need_linear, i]
theorem bit_sh {i : Nat} (x0 : 0 ≤ x) (y0 : 0 ≤ y) (h : (2 ^ i : Int) ∣ x - y) : Builtin.bitXor x y / 2 ^ (((i : Nat) : Int)).toNat % 2 = 1 ↔ ¬ (2 ^ (i + 1) : Int) ∣ x - y := by
  have e1 : ((x.toNat : Nat) : Int) = x := by omega
  have e2 : ((y.toNat : Nat) : Int) = y := by omega
  have z := ML.bit_xor (i := i) (a := x.toNat) (b := y.toNat) (by rw [e1, e2]; exact h)
  rw [Bits.bitXor_pp x0 y0, Int.toNat_natCast]
  rw [e1, e2] at z
  rw [← z]
  constructor
  · intro q1; have : ((((x.toNat ^^^ y.toNat) / 2 ^ i % 2 : Nat)) : Int) = 1 := by push_cast; exact q1
    omega
  · intro q1; have : ((((x.toNat ^^^ y.toNat) / 2 ^ i % 2 : Nat)) : Int) = 1 := by rw [q1]; rfl
    push_cast at this; exact this
theorem shared_ok {d : Nat} (h : s.c o = lin x) (h' : s.c o' = lin y) (x0 : 0 ≤ x) (y0 : 0 ≤ y) (hd : ML.Sh x y d) : F_shared_digits [.obj o, .obj o'] s = .ok (.int (d : Nat)) s := by
  refine gc0 ?_ (by simp)
  refine res_ok ?_
  have n1 := need_lin h
  have n2 := need_lin h'
  have f1 := fx h
  have f2 := fx h'
  simp! [B_shared_digits, n1, n2, f1, f2]
  refine while_A (fun j σ s' => s' = s ∧ ∃ i : Nat, σ = [some (.obj o), some (.obj o'), some (.int (Builtin.bitXor x y)), some (.int (i : Nat))] ∧ i + j = 48 ∧ (2 ^ i : Int) ∣ x - y) 48 ⟨rfl, 0, rfl, rfl, Int.one_dvd _⟩ ?_
  rintro j σ s' ⟨rfl, i, rfl, hj, dv⟩
  have sr : ∀ z : Int, gShr (.int z) (.int (i : Nat)) s' = .ok (.int (z / 2 ^ (((i : Nat) : Int)).toNat)) s' := fun z => gShr_int (by omega)
  have b := bit_sh x0 y0 dv
  by_cases l : i < 48
  · have d1 : decide (((i : Nat) : Int) < 48) = true := decide_eq_true (by omega)
    by_cases g : (2 ^ (i + 1) : Int) ∣ x - y
    · have d2 : decide (Builtin.bitXor x y / 2 ^ (((i : Nat) : Int)).toNat % 2 = 0) = true := decide_eq_true (by
        have : ¬ Builtin.bitXor x y / 2 ^ (((i : Nat) : Int)).toNat % 2 = 1 := fun q => b.mp q g
        omega)
      have ag : ∀ s, aAug 3 (gI0 fun i j => .int (i + j)) (aC (.int 1)) [some (.obj o), some (.obj o'), some (.int (Builtin.bitXor x y)), some (.int (i : Nat))] s = .nx [some (.obj o), some (.obj o'), some (.int (Builtin.bitXor x y)), some (.int ((i + 1 : Nat) : Int))] s := fun s => (aug_int (i := 3) (v := ((i : Nat) : Int)) (c := 1) (σ := [some (.obj o), some (.obj o'), some (.int (Builtin.bitXor x y)), some (.int (i : Nat))]) rfl :)
      simp! [d1, sr, m1, d2, ag]
      exact ⟨j - 1, by omega, i + 1, rfl, by omega, g⟩
    · have d2 : decide (Builtin.bitXor x y / 2 ^ (((i : Nat) : Int)).toNat % 2 = 0) = false := decide_eq_false (by
        have := b.mpr g
        omega)
      have e : i = d := ML.Sh.uniq ⟨by omega, dv, fun _ => g⟩ hd
      simp! [d1, sr, m1, d2]
      rw [e]
  · have d1 : decide (((i : Nat) : Int) < 48) = false := decide_eq_false (by omega)
    have e : i = d := ML.Sh.uniq ⟨by omega, dv, fun q => absurd q l⟩ hd
    simp! [d1]
    rw [e]
theorem period_ok {d : Nat} (s : Sto) (hd : d < 32) : F_digit_period [.int (d : Nat)] s = .ok (.int ((2 ^ (17 + d) : Nat) : Int)) s := by
  refine gc0 ?_ (by simp)
  have ii := is_int (d : Nat) s
  have d1 : decide ((0 : Int) ≤ ((d : Nat) : Int)) = true := decide_eq_true (by omega)
  have d2 : decide (((d : Nat) : Int) < 32) = true := decide_eq_true (by omega)
  have g : (gcT (aOr (aNot (aTest (aCall 1 F_is_integer [] (aCons (aVar 0) aNil)))) (aNot (aTest (aChain gLe gLt (aC (.int 0)) (aVar 0) (aC (.int 32))))))) [some (.int (d : Nat))] s = .ok false s := gcT_f (by simp! only [ii, d1, d2])
  have e : gShl (.int 1) (.int (17 + ((d : Nat) : Int))) s = .ok (.int ((2 ^ (17 + d) : Nat) : Int)) s := shl_one s (k := 17 + d) (by omega)
  simp! only [B_digit_period, g, e]
theorem lin_behind {n : Nat} (h : s.c o = lin x) (h0 : 0 ≤ x) (h1 : x < 281474976710656) (n1 : n ≤ 18446744073709551616) : F_Linear_behind [.obj o, .int (n : Nat)] s = .ok (.obj s.n) (s.new (lin (ML.mv (281474976710656 - n % 281474976710656) x))) := by
  have a := fx h
  have b := need_steps_t (i := n) s (by omega) (by omega)
  have c := lmoved_okI (0 - (n : Nat)) ((281474976710656 - n % 281474976710656) % 281474976710656) (by omega) h0 h1 s
  rw [ML.mv_mod] at c
  have r := ML.mv_rng (281474976710656 - n % 281474976710656) x
  have e := lin_new (ML.mv (281474976710656 - n % 281474976710656) x) r.1 r.2 s
  refine gcF_raw ?_ (by simp)
  simp! only [B_Linear_behind, a, b, c, e, isNon]
theorem lin_shr {n : Nat} (h : s.c o = lin x) (h0 : 0 ≤ x) (h1 : x < 281474976710656) (n1 : n ≤ 18446744073709551616) : F_Linear___rshift__ [.obj o, .int (n : Nat)] s = .ok (.obj s.n) (s.new (lin (ML.mv n x))) := by
  have e := lin_ahead h h0 h1 n1
  have kc : Ab.clsIs s (.obj o) "Linear" "ahead" = true := clsIs_obj h (by rw [lookA_tl (by decide)]; rfl)
  refine gcF_raw ?_ (by simp)
  simp! only [B_Linear___rshift__, kc, e]
theorem lin_shl {n : Nat} (h : s.c o = lin x) (h0 : 0 ≤ x) (h1 : x < 281474976710656) (n1 : n ≤ 18446744073709551616) : F_Linear___lshift__ [.obj o, .int (n : Nat)] s = .ok (.obj s.n) (s.new (lin (ML.mv (281474976710656 - n % 281474976710656) x))) := by
  have e := lin_behind h h0 h1 n1
  have kc : Ab.clsIs s (.obj o) "Linear" "behind" = true := clsIs_obj h (by rw [lookA_tl (by decide)]; rfl)
  refine gcF_raw ?_ (by simp)
  simp! only [B_Linear___lshift__, kc, e]
end
end Pf
set_option Elab.async false
set_option linter.all false
set_option maxRecDepth 100000
set_option maxHeartbeats 1000000
set_option exponentiation.threshold 3000
namespace Pf
open PySem Ab
local macro_rules | `(tactic| simp! only [$xs,*]) => `(tactic| simp only [e_op, e_opK, e_un, e_cb, e_nil, e_c, e_cons, e_consK, e_consK2, e_and, e_or, e_andK, e_orK, e_not, e_notK, e_test, e_testK, e_tand, e_tandK, e_tor, e_torK, e_tnot, e_tnotK, e_yes, e_if, e_ifK, e_ch, e_chK1, e_chK2, e_chK3, e_tup, e_tupK, e_lst, e_lstK, e_newL, e_call, e_callK, e_meth, e_methK, e_methK2, e_prop, e_propK, e_make, e_makeK, e_makeK2, e_makeV, e_sm, e_smK, e_smK2, e_cm, e_cmK, e_cmK2, e_sl, e_slK1, e_slK2, e_slK3, e_part, e_partK, e_nopart, e_rev, e_bm, e_bmK, e_pr, e_pr0, e_prK1, e_prK2, e_prK3, e_disp, e_dnew, e_own, e_ownK, e_lc, e_lcK, e_iter, e_rng1, e_rng1K, e_rng2, e_rng2K, e_enum, s_drop, s_dropK, s_ret, s_retK, s_retN, s_next, s_break, s_cont, s_seq, s_if, s_ifK, s_asg, s_asgK, s_name, s_par, s_parK, s_par3, s_parK3, s_gnil, s_gcons, s_gtup, s_for, s_forK, s_raise, s_raiseK, s_sf, s_sfK1, s_sfK2, s_dp, s_dpK1, s_dpK2, s_dpK3, s_forget, s_def, s_fld, e_enumU, e_enumUT, e_match, e_mcase, e_mcase2, e_many, e_mnil, e_lcX, e_lcXK, e_get2, e_methS, e_methS1, e_methS2, s_augS, s_augS1, gEqS_int, gEqS_str, gEqS_bl, gEqS_tup, eq_self, beq_self_eq_true, true_implies, false_implies, implies_true, List.map_cons, List.map_nil, List.nil_append, List.cons_append, List.append_nil, List.replicate_succ, List.replicate_zero, List.getElem?_cons_zero, List.getElem?_cons_succ, List.length_cons, List.length_nil, List.set_cons_zero, List.set_cons_succ, ↓reduceIte, ↓reduceDIte, Nat.reduceAdd, Nat.reduceLeDiff, Nat.reduceEqDiff, Nat.zero_add, if_true, if_false, aVar, gMinus_int, gLt_int, gLe_int, gGt_int, gGe_int, gEq_int, gNe_int, gEq_str, gNe_str, gEq_bl, gNe_bl, gXor_int, gAnd_int, gOr_int, gAdd_int, gIsN_non, gNotN_non, gIsB_bl, gNotB_bl, gNeg_int, gLen_tup, gLen_scr, gMax2_int, gMin2_int, gBits_int, gSl_tup, gSl_scr, Bool.not_true, Bool.not_false, Bool.true_eq_false, Bool.false_eq_true, Bool.true_and, Bool.false_and, Bool.and_true, Bool.and_false, Bool.true_or, Bool.false_or, decide_true, decide_false, and_self, and_true, true_and, and_false, false_and, not_true_eq_false, not_false_eq_true, reduceCtorEq, kz, z1, z2, z3, z4, z5, z6, z7, z8, z9, z10, z11, z12, z13, z14, z15, z16, isCls, isNon, aForget, aHand, toKey, keysA, iterOf_tup, iterOf_scr, oNx_some, noErr_ok, decide_eq_true_eq, decide_eq_false_iff_not, Sto.new_n, Sto.set_n, Sto.set_at, Sto.new_at, Nat.zero_le, aMakeV, Cl_non, Cl_bl, Cl_int, Cl_str, Cl_cls, Cl_obj, Cl_tup, ClL_nil, ClL_cons, grd_pos, grdS_pos, Res.bind_ok, Res.bind_err, Res.st_ok, Res.st_err, SRes.thn_nx, SRes.thn_rt, SRes.thn_err, SRes.fn_rt, SRes.fn_nx, SRes.fn_err, SRes.loop_nx, SRes.loop_rt, SRes.loop_err, SRes.loop_ct, SRes.loop_bk, SRes.forget_nx, SRes.forget_rt, SRes.forget_err, SRes.clr_nx, SRes.clr_rt, SRes.noX_nx, SRes.noX_rt, aTry, sizeLine_ge, $xs,*])
section
variable {γ ρ : Type} {h : LHd γ ρ} {k : LKs γ ρ} {n : Nat} {σ σ' : ASt} {c : γ} {s s' : Sto}
open Classical in
theorem loopL_cons {G : Sto → Prop} {g : AV → AS} {b : AL} {x : AV} {r : List AV} (hG : G s) (hg : g x σ s = .nx σ' s') : loopL G g b (x :: r) γ ρ h k n σ c s = b γ ρ h { nx := loopL G g b r γ ρ h k, ct := loopL G g b r γ ρ h k, bk := k.nx, rt := k.rt } n σ' c s' := by
  show (if G s then (match g x σ s with | .nx σ' s' => b γ ρ h { nx := loopL G g b r γ ρ h k, ct := loopL G g b r γ ρ h k, bk := k.nx, rt := k.rt } n σ' c s' | _ => h.bad) else h.bad) = _
  rw [if_pos hG, hg]
theorem loopL_nil {G : Sto → Prop} {g : AV → AS} {b : AL} (hG : G s) : loopL G g b [] γ ρ h k n σ c s = k.nx n σ c s := if_pos hG
theorem yd_ok {fe : AE} {v : AV} (hn : n < sizeLine) (he : fe σ s = .ok v s') : aLYd fe γ ρ h k n σ c s = h.cb v c s' fun c' s' => k.nx (n + 1) σ c' s' := by
  unfold aLYd
  rw [if_pos hn, he]
theorem seq_ok {f g : AL} : aLSeq f g γ ρ h k n σ c s = f γ ρ h { k with nx := g γ ρ h k } n σ c s := rfl
theorem lp_ok {f : AS} (he : f σ s = .nx σ' s') : aLP f γ ρ h k n σ c s = k.nx n σ' c s' := by
  unfold aLP
  rw [he]
theorem lfor_ok {fi : AI} {g : AV → AS} {b : AL} {p : List AV × (Sto → Prop)} (he : fi σ s = .ok p s') : aLFor fi g b γ ρ h k n σ c s = loopL p.2 g b p.1 γ ρ h k n σ c s' := by
  unfold aLFor
  rw [he]
end
theorem mv_next (i : Nat) (x : Int) : ML.mv 1 (ML.mv i x) = ML.mv (i + 1) x := ML.mv_add i 1 x
theorem need_many_t {n : Nat} (s : Sto) (hn : n ≤ 1000000) : F_need_many [.int (n : Nat)] s = .ok .non s := by
  refine gc0 ?_ (by simp)
  have ii := is_int (n : Nat) s
  have d1 : decide ((0 : Int) ≤ ((n : Nat) : Int)) = true := decide_eq_true (by omega)
  have d2 : decide (((n : Nat) : Int) ≤ 1000000) = true := decide_eq_true (by omega)
  have g : (gcT (aOr (aNot (aTest (aCall 1 F_is_integer [] (aCons (aVar 0) aNil)))) (aNot (aTest (aChain gLe gLe (aC (.int 0)) (aVar 0) (aC (.int 1000000))))))) [some (.int (n : Nat))] s = .ok false s := gcT_f (by simp! only [ii, d1, d2])
  simp! only [B_need_many, g]
theorem rng1_ok {fr : AA} {σ : ASt} {s s1 : Sto} {j : Int} (h : fr σ s = .ok [.int j] s1) (h0 : -(2 ^ 62) ≤ j ∧ j < 2 ^ 62) : aRng1 fr σ s = .ok (rngA 0 j.toNat, fun _ => True) s1 := by
  unfold aRng1
  rw [h]
  exact if_pos h0
section
variable {s : Sto} {o n : Nat} {x m : Int}
theorem kc_next (h : s.c o = lin x) : Ab.clsIs s (.obj o) "Linear" "next_word" = true := clsIs_obj h (by rw [lookA_tl (by decide)]; rfl)
theorem kc_words (h : s.c o = lin x) : Ab.clsIs s (.obj o) "Linear" "words" = true := clsIs_obj h (by rw [lookA_tl (by decide)]; rfl)
/-- the generator's own loop -/
noncomputable def gb13 : AL := aLSeq (aLYd (aMeth "Linear" "next_word" 1 F_Linear_next_word [] (aVar 0) aNil)) aLNil
theorem words_unf : BL_Linear_words = aLSeq (aLP (aDrop (aCall 1 F_need_many [] (aCons (aVar 1) aNil)))) (aLSeq (aLFor (aRng1 (aCons (aVar 1) aNil)) (agName 2) gb13) aLNil) := rfl
/-- the words, each modulo m -/
def wm (m x : Int) (n : Nat) : List AV := (List.range n).map fun i => .int (ML.mv (i + 1) x / 65536 % m)
theorem wm_succ (m x : Int) (n : Nat) : wm m x (n + 1) = wm m x n ++ [.int (ML.mv (n + 1) x / 65536 % m)] := by
  unfold wm
  rw [List.range_succ, List.map_append]
  rfl
theorem wm_len (m x : Int) (n : Nat) : (wm m x n).length = n := by unfold wm; rw [List.length_map, List.length_range]
theorem lv_loop (lo : o < s.n) (h0 : 0 ≤ x) (h1 : x < 281474976710656) (hn : n ≤ 1000) (H : LHd (List AV) (Res AV)) (hcb : ∀ (v : Int) ys s kk, ys.length < sizeLine → H.cb (.int v) ys s kk = kk (ys ++ [.int (v % m)]) s)
    (kk : LKs (List AV) (Res AV)) (kn : ∀ c σ' s' j, kk.nx j σ' c s' = newL c s') : ∀ (r i j : Nat) (y3 : Option AV), i + r = n → j = i →
    loopL (fun _ => True) (agName 2) gb13 ((rngA 0 n).drop i) (List AV) (Res AV) H kk j [some (.obj o), some (.int (n : Nat)), y3] (wm m x i) (s.set o (lin (ML.mv i x))) = newL (wm m x n) (s.set o (lin (ML.mv n x)))
  | 0, i, j, y3, hr, hj => by
    rw [List.drop_eq_nil_of_le (by rw [rngA_len]; omega), loopL_nil trivial, kn, show i = n by omega]
  | r + 1, i, j, y3, hr, hj => by
    have big : (1000 : Nat) < sizeLine := by decide
    have hd : (rngA 0 n).drop i = .int (0 + (i : Nat)) :: (rngA 0 n).drop (i + 1) := by
      rw [List.drop_eq_getElem_cons (by rw [rngA_len]; omega)]
      congr 1
      unfold rngA
      simp
    obtain ⟨t, ht⟩ : ∃ t, t = s.set o (lin (ML.mv i x)) := ⟨_, rfl⟩
    have co : t.c o = lin (ML.mv i x) := by rw [ht]; exact Sto.set_at
    obtain ⟨r0, r1⟩ := ML.mv_rng i x
    have nx := lin_next co (by rw [ht]; exact lo) r0 r1
    rw [mv_next] at nx
    have kc := kc_next co
    have me : aMeth "Linear" "next_word" 1 F_Linear_next_word [] (aVar 0) aNil [some (.obj o), some (.int (n : Nat)), some (.int (0 + (i : Nat)))] t = .ok (.int (ML.mv (i + 1) x / 65536)) (t.set o (lin (ML.mv (i + 1) x))) := by simp! only [kc, nx]
    have eq2 : t.set o (lin (ML.mv (i + 1) x)) = s.set o (lin (ML.mv (i + 1) x)) := by rw [ht, set_set]
    have step : loopL (fun _ => True) (agName 2) gb13 ((rngA 0 n).drop i) (List AV) (Res AV) H kk j [some (.obj o), some (.int (n : Nat)), y3] (wm m x i) t =
        loopL (fun _ => True) (agName 2) gb13 ((rngA 0 n).drop (i + 1)) (List AV) (Res AV) H kk (j + 1) [some (.obj o), some (.int (n : Nat)), some (.int (0 + (i : Nat)))] (wm m x (i + 1)) (t.set o (lin (ML.mv (i + 1) x))) := by
      rw [hd, loopL_cons trivial (show agName 2 (.int (0 + (i : Nat))) [some (.obj o), some (.int (n : Nat)), y3] t = .nx [some (.obj o), some (.int (n : Nat)), some (.int (0 + (i : Nat)))] t from rfl)]
      show aLYd (aMeth "Linear" "next_word" 1 F_Linear_next_word [] (aVar 0) aNil) (List AV) (Res AV) H _ j [some (.obj o), some (.int (n : Nat)), some (.int (0 + (i : Nat)))] (wm m x i) t = _
      rw [yd_ok (by omega) me, hcb _ _ _ _ (by rw [wm_len]; omega), wm_succ]
      rfl
    rw [← ht, step, eq2]
    exact lv_loop lo h0 h1 hn H hcb kk kn r (i + 1) (j + 1) _ (by omega) (by omega)
open Classical in
/-- [word % m for word in source.words(n)] -/
theorem live_words {fa : AE} {fr : AA} {fe : AE} {vs : List Nat} {σ : ASt} (ho : s.c o = lin x) (lo : o < s.n) (h0 : 0 ≤ x) (h1 : x < 281474976710656) (hn : n ≤ 1000) (ea : fa σ s = .ok (.obj o) s) (er : fr σ s = .ok [.int (n : Nat)] s) {t : Nat}
    (hcb : ∀ (v : Int) ys s kk, ys.length < sizeLine → (hLc (agName t) aYes fe σ vs).cb (.int v) ys s kk = kk (ys ++ [.int (v % m)]) s) :
    aLcG FL_Linear_words (aMArgs "Linear" "words" 2 [] fa fr) (agName t) aYes fe vs σ s = .ok (.obj s.n) ((s.set o (lin (ML.mv n x))).new (.lst (wm m x n))) := by
  have nm := need_many_t (n := n) s (by omega)
  have rg : -(2 ^ 62) ≤ ((n : Nat) : Int) ∧ ((n : Nat) : Int) < 2 ^ 62 := by omega
  have tn : ((n : Nat) : Int).toNat = n := by omega
  have ar : aMArgs "Linear" "words" 2 [] fa fr σ s = .ok [.obj o, .int (n : Nat)] s := by
    unfold aMArgs
    rw [ea, Res.bind_ok, if_pos (kc_words ho), er]
    rfl
  have p2 : aDrop (aCall 1 F_need_many [] (aCons (aVar 1) aNil)) [some (.obj o), some (.int (n : Nat)), none] s = .nx [some (.obj o), some (.int (n : Nat)), none] s := by simp! only [nm]
  have ri : aRng1 (aCons (aVar 1) aNil) [some (.obj o), some (.int (n : Nat)), none] s = .ok (rngA 0 n, fun _ => True) s := by
    have := rng1_ok (fr := aCons (aVar 1) aNil) (σ := [some (.obj o), some (.int (n : Nat)), none]) (s := s) (s1 := s) (j := (n : Nat)) rfl rg
    rwa [tn] at this
  obtain ⟨H, hH⟩ : ∃ H, H = hLc (agName t) aYes fe σ vs := ⟨_, rfl⟩
  rw [← hH] at hcb
  obtain ⟨K0, hK0⟩ : ∃ K0 : LKs (List AV) (Res AV), K0 = { nx := fun _ _ c s => newL c s, bk := fun _ _ _ _ => H.bad, ct := fun _ _ _ _ => H.bad, rt := fun _ v c s => if v = .non then newL c s else H.bad } := ⟨_, rfl⟩
  have e := lv_loop (s := s) (o := o) (n := n) (x := x) (m := m) lo h0 h1 hn H hcb { K0 with nx := aLNil (List AV) (Res AV) H K0 } (fun _ _ _ _ => by rw [hK0]; rfl) n 0 0 none (by omega) rfl
  rw [ML.mv_zero h0 h1, ← ho, set_self, List.drop_zero] at e
  have f1 : ∀ (f : AL) (c : List AV), aLDef 1 f (List AV) (Res AV) H (fun ys s => newL ys s) [.obj o, .int (n : Nat)] c s = f (List AV) (Res AV) H K0 0 [some (.obj o), some (.int (n : Nat)), none] c s := fun f c => by
    rw [hK0]
    rfl
  have big : (1000 : Nat) < sizeLine := by decide
  have fin : newL (wm m x n) (s.set o (lin (ML.mv n x))) = .ok (.obj s.n) ((s.set o (lin (ML.mv n x))).new (.lst (wm m x n))) := by
    rfl
  rw [← fin, ← e]
  unfold aLcG
  rw [ar, Res.bind_ok, ← hH]
  unfold FL_Linear_words
  rw [f1, words_unf, seq_ok, lp_ok p2]
  dsimp only
  rw [seq_ok, lfor_ok ri]
  rfl
end
end Pf
set_option Elab.async false
set_option linter.all false
set_option maxRecDepth 100000
set_option maxHeartbeats 1000000
set_option exponentiation.threshold 3000
namespace Pf
open PySem Ab
local macro_rules | `(tactic| simp! [$xs,*]) => `(tactic| try simp (config := {maxSteps := 1000000}) only [k_bind, k_Kb, k_st, k_Kst, k_Rst, k_thn, k_loop, k_fn, k_forget, k_clr, k_noX, k_try, k_stuck, k_Astuck, d_thn_nx, d_thn_bk, d_thn_ct, d_thn_rt, d_thn_er, d_lp_nx, d_lp_bk, d_lp_ct, d_lp_rt, d_lp_er, d_fg_nx, d_fg_bk, d_fg_ct, d_fg_rt, d_fg_er, d_cl_nx, d_cl_bk, d_cl_ct, d_cl_rt, d_cl_er, d_tr_nx, d_tr_bk, d_tr_ct, d_tr_rt, d_tr_er, d_nX_nx, d_nX_bk, d_nX_ct, d_nX_rt, d_nX_er, d_fn_nx, d_fn_bk, d_fn_ct, d_fn_rt, d_fn_er, A_nx, A_bk, A_ct, A_rt, A_err, post_ok, post_err, post_noErr, e_op, e_opK, e_un, e_cb, e_nil, e_c, e_cons, e_consK, e_consK2, e_and, e_or, e_andK, e_orK, e_not, e_notK, e_test, e_testK, e_tand, e_tandK, e_tor, e_torK, e_tnot, e_tnotK, e_yes, e_if, e_ifK, e_ch, e_chK1, e_chK2, e_chK3, e_tup, e_tupK, e_lst, e_lstK, e_newL, e_call, e_callK, e_meth, e_methK, e_methK2, e_prop, e_propK, e_make, e_makeK, e_makeK2, e_makeV, e_sm, e_smK, e_smK2, e_cm, e_cmK, e_cmK2, e_sl, e_slK1, e_slK2, e_slK3, e_part, e_partK, e_nopart, e_rev, e_bm, e_bmK, e_pr, e_pr0, e_prK1, e_prK2, e_prK3, e_disp, e_dnew, e_own, e_ownK, e_lc, e_lcK, e_iter, e_rng1, e_rng1K, e_rng2, e_rng2K, e_enum, s_drop, s_dropK, s_ret, s_retK, s_retN, s_next, s_break, s_cont, s_seq, s_if, s_ifK, s_asg, s_asgK, s_name, s_par, s_parK, s_par3, s_parK3, s_gnil, s_gcons, s_gtup, s_for, s_forK, s_raise, s_raiseK, s_sf, s_sfK1, s_sfK2, s_dp, s_dpK1, s_dpK2, s_dpK3, s_forget, s_def, s_fld, e_enumU, e_enumUT, e_match, e_mcase, e_mcase2, e_many, e_mnil, e_lcX, e_lcXK, e_get2, e_methS, e_methS1, e_methS2, s_augS, s_augS1, gEqS_int, gEqS_str, gEqS_bl, gEqS_tup, eq_self, beq_self_eq_true, k_grd, k_grdS, k_ite, k_Aite, true_implies, false_implies, implies_true, List.map_cons, List.map_nil, List.nil_append, List.cons_append, List.append_nil, List.replicate_succ, List.replicate_zero, List.getElem?_cons_zero, List.getElem?_cons_succ, List.length_cons, List.length_nil, List.set_cons_zero, List.set_cons_succ, ↓reduceIte, ↓reduceDIte, Nat.reduceAdd, Nat.reduceLeDiff, Nat.reduceEqDiff, Nat.zero_add, if_true, if_false, aVar, gMinus_int, gLt_int, gLe_int, gGt_int, gGe_int, gEq_int, gNe_int, gEq_str, gNe_str, gEq_bl, gNe_bl, gXor_int, gAnd_int, gOr_int, gAdd_int, gIsN_non, gNotN_non, gIsB_bl, gNotB_bl, gNeg_int, gLen_tup, gLen_scr, gMax2_int, gMin2_int, gBits_int, gSl_tup, gSl_scr, Bool.not_true, Bool.not_false, Bool.true_eq_false, Bool.false_eq_true, Bool.true_and, Bool.false_and, Bool.and_true, Bool.and_false, Bool.true_or, Bool.false_or, decide_true, decide_false, and_self, and_true, true_and, and_false, false_and, not_true_eq_false, not_false_eq_true, reduceCtorEq, kz, z1, z2, z3, z4, z5, z6, z7, z8, z9, z10, z11, z12, z13, z14, z15, z16, isCls, isNon, aForget, aHand, toKey, keysA, iterOf_tup, iterOf_scr, oNx_some, noErr_ok, decide_eq_true_eq, decide_eq_false_iff_not, Sto.new_n, Sto.set_n, Sto.set_at, Sto.new_at, Nat.zero_le, aMakeV, Cl_non, Cl_bl, Cl_int, Cl_str, Cl_cls, Cl_obj, Cl_tup, ClL_nil, ClL_cons, $xs,*])
local macro_rules | `(tactic| simp! only [$xs,*]) => `(tactic| simp only [e_op, e_opK, e_un, e_cb, e_nil, e_c, e_cons, e_consK, e_consK2, e_and, e_or, e_andK, e_orK, e_not, e_notK, e_test, e_testK, e_tand, e_tandK, e_tor, e_torK, e_tnot, e_tnotK, e_yes, e_if, e_ifK, e_ch, e_chK1, e_chK2, e_chK3, e_tup, e_tupK, e_lst, e_lstK, e_newL, e_call, e_callK, e_meth, e_methK, e_methK2, e_prop, e_propK, e_make, e_makeK, e_makeK2, e_makeV, e_sm, e_smK, e_smK2, e_cm, e_cmK, e_cmK2, e_sl, e_slK1, e_slK2, e_slK3, e_part, e_partK, e_nopart, e_rev, e_bm, e_bmK, e_pr, e_pr0, e_prK1, e_prK2, e_prK3, e_disp, e_dnew, e_own, e_ownK, e_lc, e_lcK, e_iter, e_rng1, e_rng1K, e_rng2, e_rng2K, e_enum, s_drop, s_dropK, s_ret, s_retK, s_retN, s_next, s_break, s_cont, s_seq, s_if, s_ifK, s_asg, s_asgK, s_name, s_par, s_parK, s_par3, s_parK3, s_gnil, s_gcons, s_gtup, s_for, s_forK, s_raise, s_raiseK, s_sf, s_sfK1, s_sfK2, s_dp, s_dpK1, s_dpK2, s_dpK3, s_forget, s_def, s_fld, e_enumU, e_enumUT, e_match, e_mcase, e_mcase2, e_many, e_mnil, e_lcX, e_lcXK, e_get2, e_methS, e_methS1, e_methS2, s_augS, s_augS1, gEqS_int, gEqS_str, gEqS_bl, gEqS_tup, eq_self, beq_self_eq_true, true_implies, false_implies, implies_true, List.map_cons, List.map_nil, List.nil_append, List.cons_append, List.append_nil, List.replicate_succ, List.replicate_zero, List.getElem?_cons_zero, List.getElem?_cons_succ, List.length_cons, List.length_nil, List.set_cons_zero, List.set_cons_succ, ↓reduceIte, ↓reduceDIte, Nat.reduceAdd, Nat.reduceLeDiff, Nat.reduceEqDiff, Nat.zero_add, if_true, if_false, aVar, gMinus_int, gLt_int, gLe_int, gGt_int, gGe_int, gEq_int, gNe_int, gEq_str, gNe_str, gEq_bl, gNe_bl, gXor_int, gAnd_int, gOr_int, gAdd_int, gIsN_non, gNotN_non, gIsB_bl, gNotB_bl, gNeg_int, gLen_tup, gLen_scr, gMax2_int, gMin2_int, gBits_int, gSl_tup, gSl_scr, Bool.not_true, Bool.not_false, Bool.true_eq_false, Bool.false_eq_true, Bool.true_and, Bool.false_and, Bool.and_true, Bool.and_false, Bool.true_or, Bool.false_or, decide_true, decide_false, and_self, and_true, true_and, and_false, false_and, not_true_eq_false, not_false_eq_true, reduceCtorEq, kz, z1, z2, z3, z4, z5, z6, z7, z8, z9, z10, z11, z12, z13, z14, z15, z16, isCls, isNon, aForget, aHand, toKey, keysA, iterOf_tup, iterOf_scr, oNx_some, noErr_ok, decide_eq_true_eq, decide_eq_false_iff_not, Sto.new_n, Sto.set_n, Sto.set_at, Sto.new_at, Nat.zero_le, aMakeV, Cl_non, Cl_bl, Cl_int, Cl_str, Cl_cls, Cl_obj, Cl_tup, ClL_nil, ClL_cons, grd_pos, grdS_pos, Res.bind_ok, Res.bind_err, Res.st_ok, Res.st_err, SRes.thn_nx, SRes.thn_rt, SRes.thn_err, SRes.fn_rt, SRes.fn_nx, SRes.fn_err, SRes.loop_nx, SRes.loop_rt, SRes.loop_err, SRes.loop_ct, SRes.loop_bk, SRes.forget_nx, SRes.forget_rt, SRes.forget_err, SRes.clr_nx, SRes.clr_rt, SRes.noX_nx, SRes.noX_rt, aTry, sizeLine_ge, $xs,*])
section
variable {s : Sto} {x : Int}
theorem kc_ahead {o : Nat} (h : s.c o = lin x) : Ab.clsIs s (.obj o) "Linear" "ahead" = true := clsIs_obj h (by rw [lookA_tl (by decide)]; rfl)
theorem shrP {k : Nat} (z : Int) (s : Sto) : gShr (.int z) (.int (k : Nat)) s = .ok (.int (z / ((2 ^ k : Nat) : Int))) s := by
  rw [gShr_int (by omega), Int.toNat_natCast, p_cast]
theorem gIx1 (v : AV) (s : Sto) : gIx (.tup [v]) (.int 0) s = .ok v s := gIx_seq (xs := [v]) rfl (show L2.atI _ ((0 : Nat) : Int) = _ from L2.atI_nat rfl)
theorem low_ok {k t : Nat} (hk : k ≤ 48) (ht : t ≤ 9) (h0 : 0 ≤ x) (h1 : x < 281474976710656) (s : Sto) : F__law_low_right [.int x, .int (k : Nat), .int (t : Nat)] s = .ok (.bl true) s := by
  refine gc0' ?_
  have pw := fun s => power_ok (k := k) s (by omega)
  have p1 : 2 ^ k ≤ 281474976710656 := Nat.le_trans (Nat.pow_le_pow_right (by decide) hk) (by decide)
  have p0 : 0 < 2 ^ k := Nat.pow_pos (by decide)
  have low := ML.low_same (k := k) (t := t) hk x
  have turn := fun h : k < 48 => ML.low_turn (k := k) (t := t) h x
  have sr := fun z s => shrP (k := k) z s
  rw [← p_cast] at low
  simp only [← p_cast] at turn
  obtain ⟨P, hP⟩ : ∃ P, P = 2 ^ k := ⟨_, rfl⟩
  rw [← hP] at p0 p1 low
  simp only [← hP] at pw turn sr
  obtain ⟨n, hn⟩ : ∃ n, n = t * P := ⟨_, rfl⟩
  have n1 : n ≤ 18446744073709551616 := by
    have := Nat.mul_le_mul ht p1
    omega
  have ml : gMul (.int (t : Nat)) (.int (P : Nat)) s = .ok (.int (n : Nat)) s := by
    rw [hn, Int.natCast_mul]
    exact gMul_ok (m := 4) (n := 49) (by omega) (by omega) (by decide)
  rw [← hn] at low
  simp only [← hn] at turn
  obtain ⟨r0, r1⟩ := ML.mv_rng n x
  have mk := lin_new x h0 h1 s
  have ah := lin_ahead (n := n) (s := s.new (lin x)) (o := s.n) Sto.new_at h0 h1 n1
  have ka : Ab.clsIs (s.new (lin x)) (.obj s.n) "Linear" "ahead" = true := kc_ahead Sto.new_at
  have cF : ((s.new (lin x)).new (lin (ML.mv n x))).c (s.n + 1) = lin (ML.mv n x) := Sto.new_at
  have st := lin_state cF
  have ii := isI_obj cF
  have md : ∀ z s, gMod (.int z) (.int (P : Nat)) s = .ok (.int (z % (P : Nat))) s := fun z s => gMod_int (by omega)
  have m2 : ∀ z s, gMod (.int z) (.int 2) s = .ok (.int (z % 2)) s := fun z s => gMod_int (by decide)
  have d0 : decide (x % (P : Nat) = ML.mv n x % (P : Nat)) = true := decide_eq_true low
  simp! [B__law_low_right, pw, ml]
  refine gcE_g ?_
  simp! [mk, ah, ka, st, ii, gIx1]
  refine ⟨(Gb.refl s).new.new, ?_⟩
  refine gcT_g ?_
  simp! [pw, md, d0]
  refine ⟨Gb.refl s, ?_⟩
  by_cases e : k = 48
  · have d1 : decide (((k : Nat) : Int) = 48) = true := decide_eq_true (by omega)
    simp! [d1]
    exact ⟨fun _ => Gb.refl s, fun h => absurd (by omega) h⟩
  · have d1 : decide (((k : Nat) : Int) = 48) = false := decide_eq_false (by omega)
    have d2 : decide (x / (P : Nat) % 2 = ML.mv n x / (P : Nat) % 2) = decide (((t : Nat) : Int) % 2 = 0) := by
      refine decide_eq_decide.mpr ((turn (by omega)).trans ?_)
      omega
    simp! [d1, sr, m2, d2]
    exact ⟨fun _ => Gb.refl s, fun _ => Gb.refl s⟩
theorem other_ok {n : Nat} (hn : n ≤ 4294967296) (h0 : 0 ≤ x) (h1 : x < 281474976710656) (s : Sto) : F__law_other_right [.int x, .int (n : Nat)] s = .ok (.bl true) s := by
  refine gc0' ?_
  obtain ⟨r0, r1⟩ := ML.mv_rng n x
  have mk := lin_new x h0 h1
  have ah := lin_ahead (n := n) (s := s.new (lin x)) (o := s.n) Sto.new_at h0 h1 (by omega)
  have ka : Ab.clsIs (s.new (lin x)) (.obj s.n) "Linear" "ahead" = true := kc_ahead Sto.new_at
  have cF : ((s.new (lin x)).new (lin (ML.mv n x))).c (s.n + 1) = lin (ML.mv n x) := Sto.new_at
  have st := lin_state cF
  have ii := isI_obj cF
  obtain ⟨y, hy⟩ : ∃ y, y = ML.mv n x := ⟨_, rfl⟩
  have G2 : Gb s ((s.new (lin x)).new (lin (ML.mv n x))) := (Gb.refl s).new.new
  simp! [B__law_other_right, mk, ah, ka, st, ii, gIx1]
  generalize (s.new (lin x)).new (lin (ML.mv n x)) = s2 at *
  rw [← hy] at r0 r1
  simp only [← hy]
  have mky := lin_new y r0 r1
  have mk1 := mk s2
  have mk2 : F_Linear___init__ [.obj (s2.n + 1), .int y] ((s2.new (lin x)).new (.ins "Linear" [])) = .ok .non ((s2.new (lin x)).new (lin y)) := mky (s2.new (lin x))
  have mk3 := mky s2
  have mk4 : F_Linear___init__ [.obj (s2.n + 1), .int x] ((s2.new (lin y)).new (.ins "Linear" [])) = .ok .non ((s2.new (lin y)).new (lin x)) := mk (s2.new (lin y))
  have a2 : ∀ i : Nat, ML.Tw n i → F_shared_digits [.obj s2.n, .obj (s2.n + 1)] ((s2.new (lin y)).new (lin x)) = .ok (.int (i : Nat)) ((s2.new (lin y)).new (lin x)) := fun i hi => by
    have sh := hi.sh x
    rw [← hy] at sh
    exact shared_ok (s := (s2.new (lin y)).new (lin x)) (o := s2.n) (o' := s2.n + 1) (at_old (Nat.lt_succ_self _) Sto.new_at) Sto.new_at r0 h0 sh
  have rest : ∀ i : Nat, ML.Tw n i → (gcT (aTest (aOp gNe (aCall 2 F_shared_digits [] (aCons (aMake "Linear" 2 F_Linear___init__ [] (aCons (aVar 0) aNil)) (aCons (aMake "Linear" 2 F_Linear___init__ [] (aCons (aVar 2) aNil)) aNil))) (aVar 3))) [some (.int x), some (.int (n : Nat)), some (.int y), some (.int (i : Nat))] s2 = .ok false s2) := fun i hi => by
    have sh := hi.sh x
    rw [← hy] at sh
    have a1 := shared_ok (s := (s2.new (lin x)).new (lin y)) (o := s2.n) (o' := s2.n + 1) (at_old (Nat.lt_succ_self _) Sto.new_at) Sto.new_at h0 r0 sh.symm
    have d1 : decide (((i : Nat) : Int) = (i : Nat)) = true := decide_eq_true rfl
    have e : (aTest (aOp gNe (aCall 2 F_shared_digits [] (aCons (aMake "Linear" 2 F_Linear___init__ [] (aCons (aVar 0) aNil)) (aCons (aMake "Linear" 2 F_Linear___init__ [] (aCons (aVar 2) aNil)) aNil))) (aVar 3))) [some (.int x), some (.int (n : Nat)), some (.int y), some (.int (i : Nat))] s2 = .ok false ((s2.new (lin x)).new (lin y)) := by
      simp! only [mk1, mk2, a1, d1]
    rw [gcT_eq e (Gb.refl s2).new.new.clean, (Gb.refl s2).new.new.cut]
  obtain ⟨s3, hs3⟩ : ∃ t, t = (s2.new (lin y)).new (lin x) := ⟨_, rfl⟩
  have G3 : Gb s s3 := hs3 ▸ G2.new.new
  rw [← hs3] at mk4
  simp only [← hs3] at a2
  have mk5 := mk s3
  have mk6 : F_Linear___init__ [.obj (s3.n + 1), .int x] ((s3.new (lin x)).new (.ins "Linear" [])) = .ok .non ((s3.new (lin x)).new (lin x)) := mk (s3.new (lin x))
  have a3 : F_shared_digits [.obj s3.n, .obj (s3.n + 1)] ((s3.new (lin x)).new (lin x)) = .ok (.int (48 : Nat)) ((s3.new (lin x)).new (lin x)) := shared_ok (s := (s3.new (lin x)).new (lin x)) (o := s3.n) (o' := s3.n + 1) (at_old (Nat.lt_succ_self _) Sto.new_at) Sto.new_at h0 h0 (ML.Sh.self x)
  have d48 : decide (((48 : Nat) : Int) = 48) = true := decide_eq_true rfl
  have fin : Gb s ((s3.new (lin x)).new (lin x)) := G3.new.new
  refine while_A (fun j σ s' => s' = s2 ∧ ∃ i : Nat, σ = [some (.int x), some (.int (n : Nat)), some (.int y), some (.int (i : Nat))] ∧ i + j = 48 ∧ 2 ^ i ∣ n) 48 ⟨rfl, 0, rfl, rfl, Nat.one_dvd _⟩ ?_
  rintro j σ s' ⟨rfl, i, rfl, hj, dv⟩
  have di : decide (((i : Nat) : Int) = (i : Nat)) = true := decide_eq_true rfl
  by_cases l : i < 48
  · have d1 : decide (((i : Nat) : Int) < 48) = true := decide_eq_true (by omega)
    have pw : F__law_power [.int (((i : Nat) : Int) + 1)] s' = .ok (.int ((2 ^ (i + 1) : Nat) : Int)) s' := power_ok (k := i + 1) s' (by omega)
    have p0 : 0 < 2 ^ (i + 1) := Nat.pow_pos (by decide)
    have md : gMod (.int (n : Nat)) (.int ((2 ^ (i + 1) : Nat) : Int)) s' = .ok (.int ((n % 2 ^ (i + 1) : Nat) : Int)) s' := gMod_int (by omega)
    by_cases g : 2 ^ (i + 1) ∣ n
    · have d2 : decide (((n % 2 ^ (i + 1) : Nat) : Int) = 0) = true := decide_eq_true (by rw [Nat.mod_eq_zero_of_dvd g]; rfl)
      simp! [d1, pw, md, d2]
      exact ⟨j - 1, by omega, i + 1, rfl, by omega, g⟩
    · have d2 : decide (((n % 2 ^ (i + 1) : Nat) : Int) = 0) = false := decide_eq_false (fun q => g (Nat.dvd_of_mod_eq_zero (by omega)))
      have hT : ML.Tw n i := ⟨by omega, dv, fun _ => g⟩
      have q1 := rest i hT
      have q2 := a2 i hT
      simp! [d1, pw, md, d2, q1, mk3, mk4, q2, di, mk5, mk6, a3, d48]
      exact fin
  · have d1 : decide (((i : Nat) : Int) < 48) = false := decide_eq_false (by omega)
    have hT : ML.Tw n i := ⟨by omega, dv, fun q => absurd q l⟩
    have q1 := rest i hT
    have q2 := a2 i hT
    simp! [d1, q1, mk3, mk4, q2, di, mk5, mk6, a3, d48]
    exact fin
end
end Pf
set_option Elab.async false
set_option linter.all false
set_option maxRecDepth 100000
set_option maxHeartbeats 1000000
set_option exponentiation.threshold 3000
namespace Pf
open PySem Ab
local macro_rules | `(tactic| simp! [$xs,*]) => `(tactic| try simp (config := {maxSteps := 1000000}) only [k_bind, k_Kb, k_st, k_Kst, k_Rst, k_thn, k_loop, k_fn, k_forget, k_clr, k_noX, k_try, k_stuck, k_Astuck, d_thn_nx, d_thn_bk, d_thn_ct, d_thn_rt, d_thn_er, d_lp_nx, d_lp_bk, d_lp_ct, d_lp_rt, d_lp_er, d_fg_nx, d_fg_bk, d_fg_ct, d_fg_rt, d_fg_er, d_cl_nx, d_cl_bk, d_cl_ct, d_cl_rt, d_cl_er, d_tr_nx, d_tr_bk, d_tr_ct, d_tr_rt, d_tr_er, d_nX_nx, d_nX_bk, d_nX_ct, d_nX_rt, d_nX_er, d_fn_nx, d_fn_bk, d_fn_ct, d_fn_rt, d_fn_er, A_nx, A_bk, A_ct, A_rt, A_err, post_ok, post_err, post_noErr, e_op, e_opK, e_un, e_cb, e_nil, e_c, e_cons, e_consK, e_consK2, e_and, e_or, e_andK, e_orK, e_not, e_notK, e_test, e_testK, e_tand, e_tandK, e_tor, e_torK, e_tnot, e_tnotK, e_yes, e_if, e_ifK, e_ch, e_chK1, e_chK2, e_chK3, e_tup, e_tupK, e_lst, e_lstK, e_newL, e_call, e_callK, e_meth, e_methK, e_methK2, e_prop, e_propK, e_make, e_makeK, e_makeK2, e_makeV, e_sm, e_smK, e_smK2, e_cm, e_cmK, e_cmK2, e_sl, e_slK1, e_slK2, e_slK3, e_part, e_partK, e_nopart, e_rev, e_bm, e_bmK, e_pr, e_pr0, e_prK1, e_prK2, e_prK3, e_disp, e_dnew, e_own, e_ownK, e_lc, e_lcK, e_iter, e_rng1, e_rng1K, e_rng2, e_rng2K, e_enum, s_drop, s_dropK, s_ret, s_retK, s_retN, s_next, s_break, s_cont, s_seq, s_if, s_ifK, s_asg, s_asgK, s_name, s_par, s_parK, s_par3, s_parK3, s_gnil, s_gcons, s_gtup, s_for, s_forK, s_raise, s_raiseK, s_sf, s_sfK1, s_sfK2, s_dp, s_dpK1, s_dpK2, s_dpK3, s_forget, s_def, s_fld, e_enumU, e_enumUT, e_match, e_mcase, e_mcase2, e_many, e_mnil, e_lcX, e_lcXK, e_get2, e_methS, e_methS1, e_methS2, s_augS, s_augS1, gEqS_int, gEqS_str, gEqS_bl, gEqS_tup, eq_self, beq_self_eq_true, k_grd, k_grdS, k_ite, k_Aite, true_implies, false_implies, implies_true, List.map_cons, List.map_nil, List.nil_append, List.cons_append, List.append_nil, List.replicate_succ, List.replicate_zero, List.getElem?_cons_zero, List.getElem?_cons_succ, List.length_cons, List.length_nil, List.set_cons_zero, List.set_cons_succ, ↓reduceIte, ↓reduceDIte, Nat.reduceAdd, Nat.reduceLeDiff, Nat.reduceEqDiff, Nat.zero_add, if_true, if_false, aVar, gMinus_int, gLt_int, gLe_int, gGt_int, gGe_int, gEq_int, gNe_int, gEq_str, gNe_str, gEq_bl, gNe_bl, gXor_int, gAnd_int, gOr_int, gAdd_int, gIsN_non, gNotN_non, gIsB_bl, gNotB_bl, gNeg_int, gLen_tup, gLen_scr, gMax2_int, gMin2_int, gBits_int, gSl_tup, gSl_scr, Bool.not_true, Bool.not_false, Bool.true_eq_false, Bool.false_eq_true, Bool.true_and, Bool.false_and, Bool.and_true, Bool.and_false, Bool.true_or, Bool.false_or, decide_true, decide_false, and_self, and_true, true_and, and_false, false_and, not_true_eq_false, not_false_eq_true, reduceCtorEq, kz, z1, z2, z3, z4, z5, z6, z7, z8, z9, z10, z11, z12, z13, z14, z15, z16, isCls, isNon, aForget, aHand, toKey, keysA, iterOf_tup, iterOf_scr, oNx_some, noErr_ok, decide_eq_true_eq, decide_eq_false_iff_not, Sto.new_n, Sto.set_n, Sto.set_at, Sto.new_at, Nat.zero_le, aMakeV, Cl_non, Cl_bl, Cl_int, Cl_str, Cl_cls, Cl_obj, Cl_tup, ClL_nil, ClL_cons, $xs,*])
local macro_rules | `(tactic| simp! only [$xs,*]) => `(tactic| simp only [e_op, e_opK, e_un, e_cb, e_nil, e_c, e_cons, e_consK, e_consK2, e_and, e_or, e_andK, e_orK, e_not, e_notK, e_test, e_testK, e_tand, e_tandK, e_tor, e_torK, e_tnot, e_tnotK, e_yes, e_if, e_ifK, e_ch, e_chK1, e_chK2, e_chK3, e_tup, e_tupK, e_lst, e_lstK, e_newL, e_call, e_callK, e_meth, e_methK, e_methK2, e_prop, e_propK, e_make, e_makeK, e_makeK2, e_makeV, e_sm, e_smK, e_smK2, e_cm, e_cmK, e_cmK2, e_sl, e_slK1, e_slK2, e_slK3, e_part, e_partK, e_nopart, e_rev, e_bm, e_bmK, e_pr, e_pr0, e_prK1, e_prK2, e_prK3, e_disp, e_dnew, e_own, e_ownK, e_lc, e_lcK, e_iter, e_rng1, e_rng1K, e_rng2, e_rng2K, e_enum, s_drop, s_dropK, s_ret, s_retK, s_retN, s_next, s_break, s_cont, s_seq, s_if, s_ifK, s_asg, s_asgK, s_name, s_par, s_parK, s_par3, s_parK3, s_gnil, s_gcons, s_gtup, s_for, s_forK, s_raise, s_raiseK, s_sf, s_sfK1, s_sfK2, s_dp, s_dpK1, s_dpK2, s_dpK3, s_forget, s_def, s_fld, e_enumU, e_enumUT, e_match, e_mcase, e_mcase2, e_many, e_mnil, e_lcX, e_lcXK, e_get2, e_methS, e_methS1, e_methS2, s_augS, s_augS1, gEqS_int, gEqS_str, gEqS_bl, gEqS_tup, eq_self, beq_self_eq_true, true_implies, false_implies, implies_true, List.map_cons, List.map_nil, List.nil_append, List.cons_append, List.append_nil, List.replicate_succ, List.replicate_zero, List.getElem?_cons_zero, List.getElem?_cons_succ, List.length_cons, List.length_nil, List.set_cons_zero, List.set_cons_succ, ↓reduceIte, ↓reduceDIte, Nat.reduceAdd, Nat.reduceLeDiff, Nat.reduceEqDiff, Nat.zero_add, if_true, if_false, aVar, gMinus_int, gLt_int, gLe_int, gGt_int, gGe_int, gEq_int, gNe_int, gEq_str, gNe_str, gEq_bl, gNe_bl, gXor_int, gAnd_int, gOr_int, gAdd_int, gIsN_non, gNotN_non, gIsB_bl, gNotB_bl, gNeg_int, gLen_tup, gLen_scr, gMax2_int, gMin2_int, gBits_int, gSl_tup, gSl_scr, Bool.not_true, Bool.not_false, Bool.true_eq_false, Bool.false_eq_true, Bool.true_and, Bool.false_and, Bool.and_true, Bool.and_false, Bool.true_or, Bool.false_or, decide_true, decide_false, and_self, and_true, true_and, and_false, false_and, not_true_eq_false, not_false_eq_true, reduceCtorEq, kz, z1, z2, z3, z4, z5, z6, z7, z8, z9, z10, z11, z12, z13, z14, z15, z16, isCls, isNon, aForget, aHand, toKey, keysA, iterOf_tup, iterOf_scr, oNx_some, noErr_ok, decide_eq_true_eq, decide_eq_false_iff_not, Sto.new_n, Sto.set_n, Sto.set_at, Sto.new_at, Nat.zero_le, aMakeV, Cl_non, Cl_bl, Cl_int, Cl_str, Cl_cls, Cl_obj, Cl_tup, ClL_nil, ClL_cons, grd_pos, grdS_pos, Res.bind_ok, Res.bind_err, Res.st_ok, Res.st_err, SRes.thn_nx, SRes.thn_rt, SRes.thn_err, SRes.fn_rt, SRes.fn_nx, SRes.fn_err, SRes.loop_nx, SRes.loop_rt, SRes.loop_err, SRes.loop_ct, SRes.loop_bk, SRes.forget_nx, SRes.forget_rt, SRes.forget_err, SRes.clr_nx, SRes.clr_rt, SRes.noX_nx, SRes.noX_rt, aTry, sizeLine_ge, $xs,*])
section
variable {s : Sto} {x : Int}
theorem divP {j : Nat} (hj : j ≤ 1000) (z : Int) (s : Sto) : gFdiv (.int z) (.int ((2 ^ j : Nat) : Int)) s = .ok (.int (z / ((2 ^ j : Nat) : Int))) s := by
  have p0 : 0 < 2 ^ j := Nat.pow_pos (by decide)
  refine gFdiv_int ⟨by omega, ?_⟩
  rw [Int.natAbs_natCast, Nat.log2_two_pow]
  omega
theorem rep_int (i : Int) (h : i.natAbs < 2 ^ 600) (s : Sto) : ∃ z : Str, ∀ s', Gb s s' → gReprE [.int i] s' = .ok (.str z) s' := (de_int (s := s) h).rep (by decide) (by decide)
theorem mv_comm (p i : Nat) (x : Int) : ML.mv 1 (ML.mv i (ML.mv p x)) = ML.mv p (ML.mv (i + 1) x) := by
  rw [ML.mv_add, ML.mv_add, ML.mv_add]
  congr 1
  omega
theorem rg3 : -(2 ^ 62) ≤ (3 : Int) ∧ (3 : Int) < 2 ^ 62 := by decide
theorem digit_ok {d : Nat} (hd : d < 32) (h0 : 0 ≤ x) (h1 : x < 281474976710656) (s : Sto) : F__law_digit_right [.int x, .int (d : Nat)] s = .ok (.bl true) s := by
  refine gc0' ?_
  have pe := fun s => period_ok (d := d) s hd
  have pw := fun s => power_ok (k := d) s (by omega)
  have pw17 : ∀ s, F__law_power [.int (17 + ((d : Nat) : Int))] s = .ok (.int ((2 ^ (17 + d) : Nat) : Int)) s := fun s => power_ok (k := 17 + d) s (by omega)
  have dvp := fun z s => divP (j := d) (by omega) z s
  have e17 : 2 ^ (17 + d) = 2 * 2 ^ (16 + d) := by rw [show 17 + d = 16 + d + 1 by omega, Nat.pow_succ]; omega
  have b17 : 2 ^ (17 + d) ≤ 281474976710656 := Nat.le_trans (Nat.pow_le_pow_right (by decide) (by omega : 17 + d ≤ 48)) (by decide)
  have p0 : 0 < 2 ^ d := Nat.pow_pos (by decide)
  have b0 : 2 ^ d ≤ 4294967296 := Nat.le_trans (Nat.pow_le_pow_right (by decide) (by omega : d ≤ 32)) (by decide)
  have same := fun y => ML.word_same (j := d + 1) (n := 2 ^ (17 + d)) (by omega) (by rw [show 16 + (d + 1) = 17 + d by omega]; exact Nat.dvd_refl _) y
  have turn := fun y => ML.word_turn (j := d) (by omega) y
  have keep := fun y => ML.word_same (j := d) (n := 2 ^ (16 + d)) (by omega) (Nat.dvd_refl _) y
  have ep : (2 : Int) ^ (d + 1) = 2 * ((2 ^ d : Nat) : Int) := by rw [p_cast, Int.pow_succ]; omega
  simp only [ep] at same
  simp only [← p_cast] at turn keep
  obtain ⟨L, hL⟩ : ∃ L, L = 2 ^ d := ⟨_, rfl⟩
  obtain ⟨p, hp⟩ : ∃ p, p = 2 ^ (17 + d) := ⟨_, rfl⟩
  obtain ⟨q, hq⟩ : ∃ q, q = 2 ^ (16 + d) := ⟨_, rfl⟩
  simp only [← hL, ← hp, ← hq] at *
  have m2 : ∀ s, gMul (.int 2) (.int (L : Nat)) s = .ok (.int (2 * (L : Nat))) s := fun s => gMul_ok (m := 2) (n := 40) (by decide) (by omega) (by decide)
  have md : ∀ z s, gMod (.int z) (.int (L : Nat)) s = .ok (.int (z % (L : Nat))) s := fun z s => gMod_int (by omega)
  have md2 : ∀ z s, gMod (.int z) (.int (2 * ((L : Nat) : Int))) s = .ok (.int (z % (2 * (L : Nat)))) s := fun z s => gMod_int (by omega)
  have mt : ∀ z s, gMod (.int z) (.int 2) s = .ok (.int (z % 2)) s := fun z s => gMod_int (by decide)
  have half : ∀ s, gFdiv (.int (p : Nat)) (.int 2) s = .ok (.int (q : Nat)) s := fun s => by
    rw [gF2]
    congr 2
    omega
  obtain ⟨z, hz⟩ := rep_int (p : Nat) (Nat.lt_of_lt_of_le (show _ < 2 ^ 49 by omega) (Nat.pow_le_pow_right (by decide) (by decide))) s
  have q0 := hz s (Gb.refl _)
  have dz : decide (z = z) = true := decide_eq_true rfl
  have mk := lin_new x h0 h1
  have ah : ∀ (n : Nat) (s : Sto), n ≤ 18446744073709551616 → F_Linear_ahead [.obj s.n, .int (n : Nat)] (s.new (lin x)) = .ok (.obj (s.n + 1)) ((s.new (lin x)).new (lin (ML.mv n x))) := fun n s hn => lin_ahead (n := n) (s := s.new (lin x)) (o := s.n) Sto.new_at h0 h1 hn
  have ka : ∀ s : Sto, Ab.clsIs (s.new (lin x)) (.obj s.n) "Linear" "ahead" = true := fun s => kc_ahead Sto.new_at
  have g : (gcT (aTest (aOp gNe (aCB gReprE (aCons (aVar 2) aNil)) (aCB gReprE (aCons (aCall 1 F__law_power [] (aCons (aOp gAdd (aC (.int 17)) (aVar 1)) aNil)) aNil))))) [some (.int x), some (.int (d : Nat)), some (.int (p : Nat)), none, none, none, none, none, none, none, none] s = .ok false s := gcT_f (by simp! only [q0, pw17, dz])
  obtain ⟨s1, hs1⟩ : ∃ t, t = s.new (lin x) := ⟨_, rfl⟩
  have n1 : s1.n = s.n + 1 := hs1 ▸ rfl
  have c1 : s1.c s.n = lin x := by rw [hs1]; exact Sto.new_at
  have G1 : Gb s s1 := hs1 ▸ (Gb.refl s).new
  have mk1 := mk s
  have mk2 := mk s1
  have ah2 := ah p s1 (by omega)
  have ka2 := ka s1
  rw [← hs1] at mk1
  obtain ⟨s2, hs2⟩ : ∃ t, t = (s1.new (lin x)).new (lin (ML.mv p x)) := ⟨_, rfl⟩
  have n2 : s2.n = s1.n + 2 := hs2 ▸ rfl
  have c2 : s2.c s.n = lin x := by rw [hs2]; exact at_old (by show _ < s1.n + 1; omega) (at_old (by omega) c1)
  have d2 : s2.c (s1.n + 1) = lin (ML.mv p x) := by rw [hs2]; exact Sto.new_at
  have G2 : Gb s s2 := hs2 ▸ G1.new.new
  rw [← hs2] at ah2
  have mk3 := mk s2
  have ah3 := ah q s2 (by omega)
  have ka3 := ka s2
  obtain ⟨s3, hs3⟩ : ∃ t, t = (s2.new (lin x)).new (lin (ML.mv q x)) := ⟨_, rfl⟩
  have n3 : s3.n = s2.n + 2 := hs3 ▸ rfl
  have c3 : s3.c s.n = lin x := by rw [hs3]; exact at_old (by show _ < s2.n + 1; omega) (at_old (by omega) c2)
  have d3 : s3.c (s1.n + 1) = lin (ML.mv p x) := by rw [hs3]; exact at_old (by show _ < s2.n + 1; omega) (at_old (by omega) d2)
  have f3 : s3.c (s2.n + 1) = lin (ML.mv q x) := by rw [hs3]; exact Sto.new_at
  have G3 : Gb s s3 := hs3 ▸ G2.new.new
  rw [← hs3] at ah3
  simp! [B__law_digit_right, pe, g, mk1, mk2, ka2, ah2, half, mk3, ka3, ah3, rg3]
  refine for_rng (n := 3) (fun i σ s' => Gb s s' ∧ s3.n ≤ s'.n ∧ s'.c s.n = lin (ML.mv i x) ∧ s'.c (s1.n + 1) = lin (ML.mv i (ML.mv p x)) ∧ s'.c (s2.n + 1) = lin (ML.mv i (ML.mv q x)) ∧ ∃ a b c e f, σ = [some (.int x), some (.int (d : Nat)), some (.int (p : Nat)), some (.obj s.n), some (.obj (s1.n + 1)), some (.obj (s2.n + 1)), a, b, c, e, f]) ⟨G3, Nat.le_refl _, ?_, ?_, ?_, _, _, _, _, _, rfl⟩ ?_ ?_
  · rw [ML.mv_zero h0 h1]; exact c3
  · rw [ML.mv_zero (ML.mv_rng p x).1 (ML.mv_rng p x).2]; exact d3
  · rw [ML.mv_zero (ML.mv_rng q x).1 (ML.mv_rng q x).2]; exact f3
  · rintro i σ s' hi ⟨G, ln, cA, cB, cC, a, b, c, e, f, rfl⟩
    refine ⟨trivial, ?_⟩
    have ra := ML.mv_rng i x
    have rb := ML.mv_rng i (ML.mv p x)
    have rc := ML.mv_rng i (ML.mv q x)
    have nA := lin_next cA (by omega) ra.1 ra.2
    have kA := kc_next cA
    obtain ⟨t1, ht1⟩ : ∃ t, t = s'.set s.n (lin (ML.mv 1 (ML.mv i x))) := ⟨_, rfl⟩
    have m1 : t1.n = s'.n := ht1 ▸ rfl
    rw [← ht1, mv_next] at nA
    have cB1 : t1.c (s1.n + 1) = lin (ML.mv i (ML.mv p x)) := by rw [ht1]; exact (Sto.set_ne (by omega)).trans cB
    have cC1 : t1.c (s2.n + 1) = lin (ML.mv i (ML.mv q x)) := by rw [ht1]; exact (Sto.set_ne (by omega)).trans cC
    have cA1 : t1.c s.n = lin (ML.mv (i + 1) x) := by rw [ht1, mv_next]; exact Sto.set_at
    have nB := lin_next cB1 (by omega) rb.1 rb.2
    have kB := kc_next cB1
    obtain ⟨t2, ht2⟩ : ∃ t, t = t1.set (s1.n + 1) (lin (ML.mv 1 (ML.mv i (ML.mv p x)))) := ⟨_, rfl⟩
    have m2' : t2.n = t1.n := ht2 ▸ rfl
    rw [← ht2, mv_comm] at nB
    have cC2 : t2.c (s2.n + 1) = lin (ML.mv i (ML.mv q x)) := by rw [ht2]; exact (Sto.set_ne (by omega)).trans cC1
    have cA2 : t2.c s.n = lin (ML.mv (i + 1) x) := by rw [ht2]; exact (Sto.set_ne (by omega)).trans cA1
    have cB2 : t2.c (s1.n + 1) = lin (ML.mv (i + 1) (ML.mv p x)) := by rw [ht2, mv_next]; exact Sto.set_at
    have nC := lin_next cC2 (by omega) rc.1 rc.2
    have kC := kc_next cC2
    obtain ⟨t3, ht3⟩ : ∃ t, t = t2.set (s2.n + 1) (lin (ML.mv 1 (ML.mv i (ML.mv q x)))) := ⟨_, rfl⟩
    have m3' : t3.n = t2.n := ht3 ▸ rfl
    rw [← ht3, mv_comm] at nC
    have cA3 : t3.c s.n = lin (ML.mv (i + 1) x) := by rw [ht3]; exact (Sto.set_ne (by omega)).trans cA2
    have cB3 : t3.c (s1.n + 1) = lin (ML.mv (i + 1) (ML.mv p x)) := by rw [ht3]; exact (Sto.set_ne (by omega)).trans cB2
    have cC3 : t3.c (s2.n + 1) = lin (ML.mv (i + 1) (ML.mv q x)) := by rw [ht3, mv_next]; exact Sto.set_at
    have GG : Gb s t3 := by rw [ht3, ht2, ht1]; exact ((G.set (Nat.le_refl _)).set (by omega)).set (by omega)
    obtain ⟨y, hy⟩ : ∃ y, y = ML.mv (i + 1) x := ⟨_, rfl⟩
    have e1 : decide (y / 65536 % (2 * ((L : Nat) : Int)) = ML.mv p y / 65536 % (2 * ((L : Nat) : Int))) = true := decide_eq_true (same y)
    have e2 : decide (y / 65536 / ((L : Nat) : Int) % 2 = ML.mv q y / 65536 / ((L : Nat) : Int) % 2) = false := decide_eq_false (turn y)
    have e3 : decide (y / 65536 % ((L : Nat) : Int) = ML.mv q y / 65536 % ((L : Nat) : Int)) = true := decide_eq_true (keep y)
    rw [← hy] at nA nB nC
    simp! [kA, nA, kB, nB, kC, nC, pw, m2, md2, md, dvp, mt, e1, e2, e3]
    exact ⟨GG, by omega, cA3, cB3, cC3, _, _, _, _, _, rfl⟩
  · rintro σ s' ⟨G, ln, cA, cB, cC, a, b, c, e, f, rfl⟩
    refine ⟨trivial, ?_⟩
    simp! [eq_self]
    exact G
end
end Pf
set_option Elab.async false
set_option linter.all false
set_option maxRecDepth 100000
set_option maxHeartbeats 1000000
set_option exponentiation.threshold 3000
namespace Pf
open PySem Ab
local macro_rules | `(tactic| simp! only [$xs,*]) => `(tactic| simp only [e_op, e_opK, e_un, e_cb, e_nil, e_c, e_cons, e_consK, e_consK2, e_and, e_or, e_andK, e_orK, e_not, e_notK, e_test, e_testK, e_tand, e_tandK, e_tor, e_torK, e_tnot, e_tnotK, e_yes, e_if, e_ifK, e_ch, e_chK1, e_chK2, e_chK3, e_tup, e_tupK, e_lst, e_lstK, e_newL, e_call, e_callK, e_meth, e_methK, e_methK2, e_prop, e_propK, e_make, e_makeK, e_makeK2, e_makeV, e_sm, e_smK, e_smK2, e_cm, e_cmK, e_cmK2, e_sl, e_slK1, e_slK2, e_slK3, e_part, e_partK, e_nopart, e_rev, e_bm, e_bmK, e_pr, e_pr0, e_prK1, e_prK2, e_prK3, e_disp, e_dnew, e_own, e_ownK, e_lc, e_lcK, e_iter, e_rng1, e_rng1K, e_rng2, e_rng2K, e_enum, s_drop, s_dropK, s_ret, s_retK, s_retN, s_next, s_break, s_cont, s_seq, s_if, s_ifK, s_asg, s_asgK, s_name, s_par, s_parK, s_par3, s_parK3, s_gnil, s_gcons, s_gtup, s_for, s_forK, s_raise, s_raiseK, s_sf, s_sfK1, s_sfK2, s_dp, s_dpK1, s_dpK2, s_dpK3, s_forget, s_def, s_fld, e_enumU, e_enumUT, e_match, e_mcase, e_mcase2, e_many, e_mnil, e_lcX, e_lcXK, e_get2, e_methS, e_methS1, e_methS2, s_augS, s_augS1, gEqS_int, gEqS_str, gEqS_bl, gEqS_tup, eq_self, beq_self_eq_true, true_implies, false_implies, implies_true, List.map_cons, List.map_nil, List.nil_append, List.cons_append, List.append_nil, List.replicate_succ, List.replicate_zero, List.getElem?_cons_zero, List.getElem?_cons_succ, List.length_cons, List.length_nil, List.set_cons_zero, List.set_cons_succ, ↓reduceIte, ↓reduceDIte, Nat.reduceAdd, Nat.reduceLeDiff, Nat.reduceEqDiff, Nat.zero_add, if_true, if_false, aVar, gMinus_int, gLt_int, gLe_int, gGt_int, gGe_int, gEq_int, gNe_int, gEq_str, gNe_str, gEq_bl, gNe_bl, gXor_int, gAnd_int, gOr_int, gAdd_int, gIsN_non, gNotN_non, gIsB_bl, gNotB_bl, gNeg_int, gLen_tup, gLen_scr, gMax2_int, gMin2_int, gBits_int, gSl_tup, gSl_scr, Bool.not_true, Bool.not_false, Bool.true_eq_false, Bool.false_eq_true, Bool.true_and, Bool.false_and, Bool.and_true, Bool.and_false, Bool.true_or, Bool.false_or, decide_true, decide_false, and_self, and_true, true_and, and_false, false_and, not_true_eq_false, not_false_eq_true, reduceCtorEq, kz, z1, z2, z3, z4, z5, z6, z7, z8, z9, z10, z11, z12, z13, z14, z15, z16, isCls, isNon, aForget, aHand, toKey, keysA, iterOf_tup, iterOf_scr, oNx_some, noErr_ok, decide_eq_true_eq, decide_eq_false_iff_not, Sto.new_n, Sto.set_n, Sto.set_at, Sto.new_at, Nat.zero_le, aMakeV, Cl_non, Cl_bl, Cl_int, Cl_str, Cl_cls, Cl_obj, Cl_tup, ClL_nil, ClL_cons, grd_pos, grdS_pos, Res.bind_ok, Res.bind_err, Res.st_ok, Res.st_err, SRes.thn_nx, SRes.thn_rt, SRes.thn_err, SRes.fn_rt, SRes.fn_nx, SRes.fn_err, SRes.loop_nx, SRes.loop_rt, SRes.loop_err, SRes.loop_ct, SRes.loop_bk, SRes.forget_nx, SRes.forget_rt, SRes.forget_err, SRes.clr_nx, SRes.clr_rt, SRes.noX_nx, SRes.noX_rt, aTry, sizeLine_ge, $xs,*])
local macro_rules | `(tactic| dsimp! only [$xs,*]) => `(tactic| try simp (config := {maxSteps := 1000000}) only [k_bind, k_Kb, k_st, k_Kst, k_Rst, k_thn, k_loop, k_fn, k_forget, k_clr, k_noX, k_try, k_stuck, k_Astuck, d_thn_nx, d_thn_bk, d_thn_ct, d_thn_rt, d_thn_er, d_lp_nx, d_lp_bk, d_lp_ct, d_lp_rt, d_lp_er, d_fg_nx, d_fg_bk, d_fg_ct, d_fg_rt, d_fg_er, d_cl_nx, d_cl_bk, d_cl_ct, d_cl_rt, d_cl_er, d_tr_nx, d_tr_bk, d_tr_ct, d_tr_rt, d_tr_er, d_nX_nx, d_nX_bk, d_nX_ct, d_nX_rt, d_nX_er, d_fn_nx, d_fn_bk, d_fn_ct, d_fn_rt, d_fn_er, A_nx, A_bk, A_ct, A_rt, A_err, post_ok, post_err, post_noErr, e_op, e_opK, e_un, e_cb, e_nil, e_c, e_cons, e_consK, e_consK2, e_and, e_or, e_andK, e_orK, e_not, e_notK, e_test, e_testK, e_tand, e_tandK, e_tor, e_torK, e_tnot, e_tnotK, e_yes, e_ifK, e_ch, e_chK1, e_chK2, e_chK3, e_tup, e_tupK, e_lst, e_lstK, e_newL, e_call, e_callK, e_meth, e_methK, e_methK2, e_prop, e_propK, e_make, e_makeK, e_makeK2, e_makeV, e_sm, e_smK, e_smK2, e_cm, e_cmK, e_cmK2, e_sl, e_slK1, e_slK2, e_slK3, e_part, e_partK, e_nopart, e_rev, e_bm, e_bmK, e_pr, e_pr0, e_prK1, e_prK2, e_prK3, e_disp, e_dnew, e_own, e_ownK, e_lc, e_lcK, e_iter, e_rng1, e_rng1K, e_rng2, e_rng2K, e_enum, s_drop, s_dropK, s_ret, s_retK, s_retN, s_next, s_break, s_cont, s_seq, s_ifK, s_asg, s_asgK, s_name, s_par, s_parK, s_par3, s_parK3, s_gnil, s_gcons, s_gtup, s_for, s_forK, s_raise, s_raiseK, s_sf, s_sfK1, s_sfK2, s_dp, s_dpK1, s_dpK2, s_dpK3, s_forget, s_def, s_fld, e_enumU, e_enumUT, e_match, e_mcase, e_mcase2, e_many, e_mnil, e_lcX, e_lcXK, e_get2, e_methS, e_methS1, e_methS2, s_augS, s_augS1, gEqS_int, gEqS_str, gEqS_bl, gEqS_tup, eq_self, beq_self_eq_true, k_grd, k_grdS, k_ite, k_Aite, true_implies, false_implies, implies_true, List.map_cons, List.map_nil, List.nil_append, List.cons_append, List.append_nil, List.replicate_succ, List.replicate_zero, List.getElem?_cons_zero, List.getElem?_cons_succ, List.length_cons, List.length_nil, List.set_cons_zero, List.set_cons_succ, ↓reduceIte, ↓reduceDIte, Nat.reduceAdd, Nat.reduceLeDiff, Nat.reduceEqDiff, Nat.zero_add, if_true, if_false, aVar, gMinus_int, gLt_int, gLe_int, gGt_int, gGe_int, gEq_int, gNe_int, gEq_str, gNe_str, gEq_bl, gNe_bl, gXor_int, gAnd_int, gOr_int, gAdd_int, gIsN_non, gNotN_non, gIsB_bl, gNotB_bl, gNeg_int, gLen_tup, gLen_scr, gMax2_int, gMin2_int, gBits_int, gSl_tup, gSl_scr, Bool.not_true, Bool.not_false, Bool.true_eq_false, Bool.false_eq_true, Bool.true_and, Bool.false_and, Bool.and_true, Bool.and_false, Bool.true_or, Bool.false_or, decide_true, decide_false, and_self, and_true, true_and, and_false, false_and, not_true_eq_false, not_false_eq_true, reduceCtorEq, kz, z1, z2, z3, z4, z5, z6, z7, z8, z9, z10, z11, z12, z13, z14, z15, z16, isCls, isNon, aForget, aHand, toKey, keysA, iterOf_tup, iterOf_scr, oNx_some, noErr_ok, decide_eq_true_eq, decide_eq_false_iff_not, Sto.new_n, Sto.set_n, Sto.set_at, Sto.new_at, Nat.zero_le, aMakeV, Cl_non, Cl_bl, Cl_int, Cl_str, Cl_cls, Cl_obj, Cl_tup, ClL_nil, ClL_cons, $xs,*])
section
variable {s : Sto} {x : Int}
theorem ifF {c : AT} {a : AS} {σ : ASt} {s : Sto} (h : c σ s = .ok false s) : aIfS c a aNext σ s = .nx σ s := by
  simp! only [h]
theorem pr_if {k t d : Nat} {x n A B : AV} {s : Sto} (h1 : k ≤ d) (h2 : k < 48 → t % 2 = 1 → d = k) (hk : k ≤ 48) :
    (aOr (aTest (aOp gLt (aVar 6) (aCB gMin2 (aCons (aVar 1) (aCons (aC (.int 48)) aNil))))) (aAnd (aTest (aOp gLt (aVar 1) (aC (.int 48)))) (aAnd (aTest (aOp gEq (aOp gMod (aVar 2) (aC (.int 2))) (aC (.int 1)))) (aTest (aOp gNe (aVar 6) (aVar 1)))))) [some x, some (.int (k : Nat)), some (.int (t : Nat)), some n, some A, some B, some (.int (d : Nat)), none, none] s = .ok false s := by
  have mn : (if (48 : Int) < ((k : Nat) : Int) then (48 : Int) else ((k : Nat) : Int)) = (k : Nat) := if_neg (by omega)
  have d1 : decide (((d : Nat) : Int) < ((k : Nat) : Int)) = false := decide_eq_false (by omega)
  have md : gMod (.int (t : Nat)) (.int 2) s = .ok (.int ((t : Nat) % 2)) s := gMod_int (by decide)
  have m2 : gMin2 [.int (k : Nat), .int 48] s = .ok (.int (k : Nat)) s := by
    rw [gMin2_int, mn]
  by_cases c1 : k < 48
  · have e1 : decide (((k : Nat) : Int) < 48) = true := decide_eq_true (by omega)
    by_cases c2 : t % 2 = 1
    · have e2 : decide (((t : Nat) : Int) % 2 = 1) = true := decide_eq_true (by omega)
      have e3 : decide (((d : Nat) : Int) = (k : Nat)) = true := decide_eq_true (by rw [h2 c1 c2])
      simp! only [m2, d1, e1, md, e2, e3]
    · have e2 : decide (((t : Nat) : Int) % 2 = 1) = false := decide_eq_false (by omega)
      simp! only [m2, d1, e1, md, e2]
  · have e1 : decide (((k : Nat) : Int) < 48) = false := decide_eq_false (by omega)
    simp! only [m2, d1, e1]
theorem own_r {o n : Nat} (h : s.c o = lin x) (h0 : 0 ≤ x) (h1 : x < 281474976710656) (n1 : n ≤ 18446744073709551616) : gOwn "Linear" ["int"] F_Linear___rshift__ (.obj o) (.int (n : Nat)) s = .ok (.obj s.n) (s.new (lin (ML.mv n x))) := by
  rw [gOwn_obj h rfl (List.mem_singleton.mpr rfl), lin_shr h h0 h1 n1]
  rfl
theorem own_l {o n : Nat} (h : s.c o = lin x) (h0 : 0 ≤ x) (h1 : x < 281474976710656) (n1 : n ≤ 18446744073709551616) : gOwn "Linear" ["int"] F_Linear___lshift__ (.obj o) (.int (n : Nat)) s = .ok (.obj s.n) (s.new (lin (ML.mv (281474976710656 - n % 281474976710656) x))) := by
  rw [gOwn_obj h rfl (List.mem_singleton.mpr rfl), lin_shl h h0 h1 n1]
  rfl
theorem pr_gc {n d A B : Nat} {y : Int} {a0 a1 a2 : Option AV} {s : Sto} (cA : s.c A = lin x) (cB : s.c B = lin y) (lA : A < s.n) (lB : B < s.n) (x0 : 0 ≤ x) (x1 : x < 281474976710656) (y0 : 0 ≤ y) (y1 : y < 281474976710656) (n1 : n ≤ 18446744073709551616) (sh : ML.Sh x y d) :
    (gcT (aOr (aTest (aOp gNe (aCall 2 F_shared_digits [] (aCons (aOwn "Linear" ["int"] 2 F_Linear___rshift__ (aVar 4) (aVar 3)) (aCons (aOwn "Linear" ["int"] 2 F_Linear___rshift__ (aVar 5) (aVar 3)) aNil))) (aVar 6))) (aTest (aOp gNe (aCall 2 F_shared_digits [] (aCons (aOwn "Linear" ["int"] 2 F_Linear___lshift__ (aVar 5) (aVar 3)) (aCons (aOwn "Linear" ["int"] 2 F_Linear___lshift__ (aVar 4) (aVar 3)) aNil))) (aVar 6))))) [a0, a1, a2, some (.int (n : Nat)), some (.obj A), some (.obj B), some (.int (d : Nat)), none, none] s = .ok false s := by
  obtain ⟨N, hN⟩ : ∃ N, N = 281474976710656 - n % 281474976710656 := ⟨_, rfl⟩
  have ra := ML.mv_rng n x
  have rb := ML.mv_rng n y
  have rc := ML.mv_rng N x
  have rd := ML.mv_rng N y
  have o1 := own_r cA x0 x1 n1
  obtain ⟨s1, h1⟩ : ∃ t, t = s.new (lin (ML.mv n x)) := ⟨_, rfl⟩
  rw [← h1] at o1
  have n1' : s1.n = s.n + 1 := h1 ▸ rfl
  have cA1 : s1.c A = lin x := by rw [h1]; exact at_old lA cA
  have cB1 : s1.c B = lin y := by rw [h1]; exact at_old lB cB
  have o2 := own_r cB1 y0 y1 n1
  obtain ⟨s2, h2⟩ : ∃ t, t = s1.new (lin (ML.mv n y)) := ⟨_, rfl⟩
  rw [← h2] at o2
  have n2' : s2.n = s1.n + 1 := h2 ▸ rfl
  have cA2 : s2.c A = lin x := by rw [h2]; exact at_old (by omega) cA1
  have cB2 : s2.c B = lin y := by rw [h2]; exact at_old (by omega) cB1
  have f1 : s2.c s.n = lin (ML.mv n x) := by rw [h2]; exact at_old (by omega) (by rw [h1]; exact Sto.new_at)
  have f2 : s2.c s1.n = lin (ML.mv n y) := by rw [h2]; exact Sto.new_at
  have sh1 := shared_ok f1 f2 ra.1 rb.1 (sh.mv n)
  have o3 := own_l cB2 y0 y1 n1
  rw [← hN] at o3
  obtain ⟨s3, h3⟩ : ∃ t, t = s2.new (lin (ML.mv N y)) := ⟨_, rfl⟩
  rw [← h3] at o3
  have n3' : s3.n = s2.n + 1 := h3 ▸ rfl
  have cA3 : s3.c A = lin x := by rw [h3]; exact at_old (by omega) cA2
  have o4 := own_l cA3 x0 x1 n1
  rw [← hN] at o4
  obtain ⟨s4, h4⟩ : ∃ t, t = s3.new (lin (ML.mv N x)) := ⟨_, rfl⟩
  rw [← h4] at o4
  have n4' : s4.n = s3.n + 1 := h4 ▸ rfl
  have f3 : s4.c s2.n = lin (ML.mv N y) := by rw [h4]; exact at_old (by omega) (by rw [h3]; exact Sto.new_at)
  have f4 : s4.c s3.n = lin (ML.mv N x) := by rw [h4]; exact Sto.new_at
  have sh2 := shared_ok f3 f4 rd.1 rc.1 (sh.mv N).symm
  have dd : decide (((d : Nat) : Int) = (d : Nat)) = true := decide_eq_true rfl
  have e : (aOr (aTest (aOp gNe (aCall 2 F_shared_digits [] (aCons (aOwn "Linear" ["int"] 2 F_Linear___rshift__ (aVar 4) (aVar 3)) (aCons (aOwn "Linear" ["int"] 2 F_Linear___rshift__ (aVar 5) (aVar 3)) aNil))) (aVar 6))) (aTest (aOp gNe (aCall 2 F_shared_digits [] (aCons (aOwn "Linear" ["int"] 2 F_Linear___lshift__ (aVar 5) (aVar 3)) (aCons (aOwn "Linear" ["int"] 2 F_Linear___lshift__ (aVar 4) (aVar 3)) aNil))) (aVar 6)))) [a0, a1, a2, some (.int (n : Nat)), some (.obj A), some (.obj B), some (.int (d : Nat)), none, none] s = .ok false s4 := by
    simp! only [o1, o2, sh1, o3, o4, sh2, dd]
  have GG : Gb s s4 := by rw [h4, h3, h2, h1]; exact (Gb.refl s).new.new.new.new
  rw [gcT_eq e GG.clean, GG.cut]
theorem cb_mod {m : Int} (m0 : 0 < m) {a0 a1 a2 a3 a4 a5 a6 a8 : Option AV} : ∀ (v : Int) ys s kk, ys.length < sizeLine → (hLc (agName 8) aYes (aOp gMod (aVar 8) (aVar 7)) [a0, a1, a2, a3, a4, a5, a6, some (.int m), a8] [8]).cb (.int v) ys s kk = kk (ys ++ [.int (v % m)]) s := fun v ys s kk h => by
  have md : gMod (.int v) (.int m) s = .ok (.int (v % m)) s := gMod_int m0
  have e : aOp gMod (aVar 8) (aVar 7) [a0, a1, a2, a3, a4, a5, a6, some (.int m), some (.int v)] s = .ok (.int (v % m)) s := by simp! only [md]
  show (match aOp gMod (aVar 8) (aVar 7) [a0, a1, a2, a3, a4, a5, a6, some (.int m), some (.int v)] s with | .ok y s4 => if ys.length < sizeLine then kk (ys ++ [y]) s4 else .stuck | _ => .stuck) = _
  rw [e]
  exact if_pos h
theorem wm_flat (m x : Int) (n : Nat) (s : Sto) : ∀ y ∈ wm m x n, ∃ d, dat 11 s y = some d ∧ PyData.canLay0 d = true ∧ d.depth ≤ 3 := fun y hy => by
  obtain ⟨i, _, rfl⟩ := List.mem_map.mp hy
  exact flat_d (.inl ⟨_, rfl⟩)
theorem pair_ok {k t n : Nat} (hk : k ≤ 48) (ht : t ≤ 9) (hn : n ≤ 18446744073709551616) (h0 : 0 ≤ x) (h1 : x < 281474976710656) (s : Sto) : F__law_pair_right [.int x, .int (k : Nat), .int (t : Nat), .int (n : Nat)] s = .ok (.bl true) s := by
  refine gc0' ?_
  have pw := fun s => power_ok (k := k) s (by omega)
  have p1 : 2 ^ k ≤ 281474976710656 := Nat.le_trans (Nat.pow_le_pow_right (by decide) hk) (by decide)
  have q1 := ML.pair_dv (k := k) (t := t) hk x
  have q2 := fun h1 h2 => ML.pair_sh (k := k) (t := t) h1 h2 x
  rw [← p_cast] at q1
  simp only [← p_cast] at q2
  obtain ⟨y, hy⟩ : ∃ y, y = (x + ((t : Nat) : Int) * ((2 ^ k : Nat) : Int)) % 281474976710656 := ⟨_, rfl⟩
  rw [← hy] at q1
  simp only [← hy] at q2
  rw [p_cast] at q1
  obtain ⟨P, hP⟩ : ∃ P, P = 2 ^ k := ⟨_, rfl⟩
  have ml : ∀ s, gMul (.int (t : Nat)) (.int (P : Nat)) s = .ok (.int (((t : Nat) : Int) * (P : Nat))) s := fun s => gMul_ok (m := 4) (n := 49) (by omega) (by omega) (by decide)
  have md : ∀ s, gMod (.int (x + ((t : Nat) : Int) * (P : Nat))) (.int 281474976710656) s = .ok (.int y) s := fun s => by
    rw [gMod_int (by decide), hy, hP]
  rw [← hP] at pw
  have y0 : 0 ≤ y := by rw [hy]; omega
  have y1 : y < 281474976710656 := by rw [hy]; omega
  obtain ⟨d, sh⟩ := ML.Sh.ex x y
  have kd := sh.least hk q1
  have dk : k < 48 → t % 2 = 1 → d = k := fun h1 h2 => sh.uniq (q2 h1 h2)
  have mk1 := lin_new x h0 h1 s
  obtain ⟨s1, hs1⟩ : ∃ t, t = s.new (lin x) := ⟨_, rfl⟩
  rw [← hs1] at mk1
  have n1 : s1.n = s.n + 1 := hs1 ▸ rfl
  have mk2 := lin_new y y0 y1 s1
  obtain ⟨s2, hs2⟩ : ∃ t, t = s1.new (lin y) := ⟨_, rfl⟩
  rw [← hs2] at mk2
  have n2 : s2.n = s1.n + 1 := hs2 ▸ rfl
  have G2 : Gb s s2 := by rw [hs2, hs1]; exact (Gb.refl s).new.new
  have cA : s2.c s.n = lin x := by rw [hs2]; exact at_old (by omega) (by rw [hs1]; exact Sto.new_at)
  have cB : s2.c s1.n = lin y := by rw [hs2]; exact Sto.new_at
  have so := shared_ok cA cB h0 y0 sh
  have pi := ifF (a := aRet (aC (.bl false))) (pr_if (x := .int x) (n := .int (n : Nat)) (A := .obj s.n) (B := .obj s1.n) (s := s2) kd dk hk)
  have pg := ifF (a := aRet (aC (.bl false))) (pr_gc (a0 := some (.int x)) (a1 := some (.int (k : Nat))) (a2 := some (.int (t : Nat))) cA cB (by omega) (by omega) h0 h1 y0 y1 hn sh)
  have mx : (if ((d : Nat) : Int) - 16 > 0 then ((d : Nat) : Int) - 16 else 0) = ((d - 16 : Nat) : Int) := by split <;> omega
  have pm : ∀ s, F__law_power [.int ((d - 16 : Nat) : Int)] s = .ok (.int ((2 ^ (d - 16) : Nat) : Int)) s := fun s => power_ok (k := d - 16) s (by have := sh.le; omega)
  have wd := fun i => ML.pair_word (i := i) sh
  simp only [← p_cast] at wd
  have m0 : 0 < 2 ^ (d - 16) := Nat.pow_pos (by decide)
  obtain ⟨m, hm⟩ : ∃ m, m = 2 ^ (d - 16) := ⟨_, rfl⟩
  rw [← hm] at m0
  simp only [← hm] at pm wd
  have weq : wm (m : Nat) x 6 = wm (m : Nat) y 6 := by
    unfold wm
    exact List.map_congr_left fun i _ => by rw [wd]
  have L1 := live_words (s := s2) (o := s.n) (x := x) (n := 6) (m := (m : Nat)) (t := 8) (vs := [8]) (fa := aVar 4) (fr := aCons (aC (.int 6)) aNil) (fe := aOp gMod (aVar 8) (aVar 7)) (σ := [some (.int x), some (.int (k : Nat)), some (.int (t : Nat)), some (.int (n : Nat)), some (.obj s.n), some (.obj s1.n), some (.int (d : Nat)), some (.int (m : Nat)), none]) cA (by omega) h0 h1 (by decide) rfl rfl (cb_mod (by omega))
  obtain ⟨s3, hs3⟩ : ∃ t, t = (s2.set s.n (lin (ML.mv 6 x))).new (.lst (wm (m : Nat) x 6)) := ⟨_, rfl⟩
  rw [← hs3] at L1
  have n3 : s3.n = s2.n + 1 := hs3 ▸ rfl
  have cB3 : s3.c s1.n = lin y := by rw [hs3]; exact at_old (by show _ < s2.n; omega) ((Sto.set_ne (by omega)).trans cB)
  have cL3 : s3.c s2.n = .lst (wm (m : Nat) x 6) := by rw [hs3]; exact Sto.new_at
  have G3 : Gb s s3 := by rw [hs3]; exact (G2.set (Nat.le_refl _)).new
  have L2 := live_words (s := s3) (o := s1.n) (x := y) (n := 6) (m := (m : Nat)) (t := 8) (vs := [8]) (fa := aVar 5) (fr := aCons (aC (.int 6)) aNil) (fe := aOp gMod (aVar 8) (aVar 7)) (σ := [some (.int x), some (.int (k : Nat)), some (.int (t : Nat)), some (.int (n : Nat)), some (.obj s.n), some (.obj s1.n), some (.int (d : Nat)), some (.int (m : Nat)), none]) cB3 (by omega) y0 y1 (by decide) rfl rfl (cb_mod (by omega))
  obtain ⟨s4, hs4⟩ : ∃ t, t = (s3.set s1.n (lin (ML.mv 6 y))).new (.lst (wm (m : Nat) y 6)) := ⟨_, rfl⟩
  rw [← hs4] at L2
  have cL4 : s4.c s2.n = .lst (wm (m : Nat) x 6) := by rw [hs4]; exact at_old (by show _ < s3.n; omega) ((Sto.set_ne (by omega)).trans cL3)
  have cM4 : s4.c s3.n = .lst (wm (m : Nat) x 6) := by rw [hs4, weq]; exact Sto.new_at
  have G4 : Gb s s4 := by rw [hs4]; exact (G3.set (by omega)).new
  have eq := gEq_b (list_same cL4 cM4 (wm_flat _ _ _ s4))
  dsimp! only [B__law_pair_right, mk1, pw, ml, md, mk2, so, pi, pg, mx, pm, L1, L2, eq]
  exact G4
end
end Pf
set_option Elab.async false
set_option linter.all false
set_option maxRecDepth 100000
set_option maxHeartbeats 1000000
set_option exponentiation.threshold 3000
namespace Pf
open PySem Ab
local macro_rules | `(tactic| simp! [$xs,*]) => `(tactic| try simp (config := {maxSteps := 1000000}) only [k_bind, k_Kb, k_st, k_Kst, k_Rst, k_thn, k_loop, k_fn, k_forget, k_clr, k_noX, k_try, k_stuck, k_Astuck, d_thn_nx, d_thn_bk, d_thn_ct, d_thn_rt, d_thn_er, d_lp_nx, d_lp_bk, d_lp_ct, d_lp_rt, d_lp_er, d_fg_nx, d_fg_bk, d_fg_ct, d_fg_rt, d_fg_er, d_cl_nx, d_cl_bk, d_cl_ct, d_cl_rt, d_cl_er, d_tr_nx, d_tr_bk, d_tr_ct, d_tr_rt, d_tr_er, d_nX_nx, d_nX_bk, d_nX_ct, d_nX_rt, d_nX_er, d_fn_nx, d_fn_bk, d_fn_ct, d_fn_rt, d_fn_er, A_nx, A_bk, A_ct, A_rt, A_err, post_ok, post_err, post_noErr, e_op, e_opK, e_un, e_cb, e_nil, e_c, e_cons, e_consK, e_consK2, e_and, e_or, e_andK, e_orK, e_not, e_notK, e_test, e_testK, e_tand, e_tandK, e_tor, e_torK, e_tnot, e_tnotK, e_yes, e_if, e_ifK, e_ch, e_chK1, e_chK2, e_chK3, e_tup, e_tupK, e_lst, e_lstK, e_newL, e_call, e_callK, e_meth, e_methK, e_methK2, e_prop, e_propK, e_make, e_makeK, e_makeK2, e_makeV, e_sm, e_smK, e_smK2, e_cm, e_cmK, e_cmK2, e_sl, e_slK1, e_slK2, e_slK3, e_part, e_partK, e_nopart, e_rev, e_bm, e_bmK, e_pr, e_pr0, e_prK1, e_prK2, e_prK3, e_disp, e_dnew, e_own, e_ownK, e_lc, e_lcK, e_iter, e_rng1, e_rng1K, e_rng2, e_rng2K, e_enum, s_drop, s_dropK, s_ret, s_retK, s_retN, s_next, s_break, s_cont, s_seq, s_if, s_ifK, s_asg, s_asgK, s_name, s_par, s_parK, s_par3, s_parK3, s_gnil, s_gcons, s_gtup, s_for, s_forK, s_raise, s_raiseK, s_sf, s_sfK1, s_sfK2, s_dp, s_dpK1, s_dpK2, s_dpK3, s_forget, s_def, s_fld, e_enumU, e_enumUT, e_match, e_mcase, e_mcase2, e_many, e_mnil, e_lcX, e_lcXK, e_get2, e_methS, e_methS1, e_methS2, s_augS, s_augS1, gEqS_int, gEqS_str, gEqS_bl, gEqS_tup, eq_self, beq_self_eq_true, k_grd, k_grdS, k_ite, k_Aite, true_implies, false_implies, implies_true, List.map_cons, List.map_nil, List.nil_append, List.cons_append, List.append_nil, List.replicate_succ, List.replicate_zero, List.getElem?_cons_zero, List.getElem?_cons_succ, List.length_cons, List.length_nil, List.set_cons_zero, List.set_cons_succ, ↓reduceIte, ↓reduceDIte, Nat.reduceAdd, Nat.reduceLeDiff, Nat.reduceEqDiff, Nat.zero_add, if_true, if_false, aVar, gMinus_int, gLt_int, gLe_int, gGt_int, gGe_int, gEq_int, gNe_int, gEq_str, gNe_str, gEq_bl, gNe_bl, gXor_int, gAnd_int, gOr_int, gAdd_int, gIsN_non, gNotN_non, gIsB_bl, gNotB_bl, gNeg_int, gLen_tup, gLen_scr, gMax2_int, gMin2_int, gBits_int, gSl_tup, gSl_scr, Bool.not_true, Bool.not_false, Bool.true_eq_false, Bool.false_eq_true, Bool.true_and, Bool.false_and, Bool.and_true, Bool.and_false, Bool.true_or, Bool.false_or, decide_true, decide_false, and_self, and_true, true_and, and_false, false_and, not_true_eq_false, not_false_eq_true, reduceCtorEq, kz, z1, z2, z3, z4, z5, z6, z7, z8, z9, z10, z11, z12, z13, z14, z15, z16, isCls, isNon, aForget, aHand, toKey, keysA, iterOf_tup, iterOf_scr, oNx_some, noErr_ok, decide_eq_true_eq, decide_eq_false_iff_not, Sto.new_n, Sto.set_n, Sto.set_at, Sto.new_at, Nat.zero_le, aMakeV, Cl_non, Cl_bl, Cl_int, Cl_str, Cl_cls, Cl_obj, Cl_tup, ClL_nil, ClL_cons, $xs,*])
section
variable {P : AV → Sto → Prop} {R : String → List Str → List AV → Sto → Prop} {d g B : Nat} {s t : Sto}
theorem wi_x (S : Inv2 d g B t s) (hB : B ≤ 10000000) (q : ∀ (v : Int) s', 0 ≤ v → v < 281474976710656 → Inv2 d g (B + 3) t s' → Gd2 d g s s' → P (.int v) s') : (F__law_x [.obj d] s).Post P R := by
  unfold F__law_x
  refine gcF_d2 S.lsd S.lsg ?_
  have lg := S.lsg
  have z12 : ((12 : Nat) ≤ sizeLine) = True := eq_true (by decide)
  have md : ∀ (i : Int) s, gMod (.int i) (.int 65536) s = .ok (.int (i % 65536)) s := fun i s => gMod_int (by decide)
  simp! [B__law_x]
  refine wi_next S (by omega) (by decide) (by decide) fun v1 s1 a1 b1 S1 g1 => ?_
  have lg1 := S1.lsg
  have ld1 := S1.lsd
  simp! [md, z8, z12]
  refine wi_next S1.new.new (by omega) (by decide) (by decide) fun v2 s2 a2 b2 S2 g2 => ?_
  have n2 := g2.n
  have n2' : s1.n + 2 ≤ s2.n := n2
  obtain ⟨k, rfl⟩ := Int.eq_ofNat_of_zero_le a2
  have c1 : s2.c (s1.n + 1) = .lst [.int 0, .int 1, .int 2, .int 3, .int 4, .int 5, .int 6, .int 7, .int 7, .int 7, .int 7, .int 7] := (g2.c (s1.n + 1) (by show s1.n + 1 < s1.n + 2; omega) (by omega) (by omega)).trans Sto.new_at
  have c0 : s2.c s1.n = .lst [.int 0, .int 1, .int 65535, .int 65536, .int 281474976710655, .int 140737488355328, .int (v1 - v1 % 65536), .int v1] := (g2.c s1.n (by show s1.n < s1.n + 2; omega) (by omega) (by omega)).trans (at_old (Nat.lt_succ_self _) Sto.new_at)
  refine post_ix (seqOf_obj c1) (by omega) (by simpa using b2) fun y hy => ?_
  have hy : ∃ j : Nat, y = .int (j : Nat) ∧ j < 8 := by
    simp only [List.mem_cons, List.not_mem_nil, or_false] at hy
    rcases hy with h | h | h | h | h | h | h | h | h | h | h | h
    · exact ⟨0, h, by decide⟩
    · exact ⟨1, h, by decide⟩
    · exact ⟨2, h, by decide⟩
    · exact ⟨3, h, by decide⟩
    · exact ⟨4, h, by decide⟩
    · exact ⟨5, h, by decide⟩
    · exact ⟨6, h, by decide⟩
    · exact ⟨7, h, by decide⟩
    · exact ⟨7, h, by decide⟩
    · exact ⟨7, h, by decide⟩
    · exact ⟨7, h, by decide⟩
    · exact ⟨7, h, by decide⟩
  obtain ⟨j, rfl, hj⟩ := hy
  refine post_ix (seqOf_obj c0) (by omega) (by simp; omega) fun w hw => ?_
  have hw : ∃ v : Int, w = .int v ∧ 0 ≤ v ∧ v < 281474976710656 := by
    simp only [List.mem_cons, List.not_mem_nil, or_false] at hw
    rcases hw with h | h | h | h | h | h | h | h
    · exact ⟨_, h, by decide, by decide⟩
    · exact ⟨_, h, by decide, by decide⟩
    · exact ⟨_, h, by decide, by decide⟩
    · exact ⟨_, h, by decide, by decide⟩
    · exact ⟨_, h, by decide, by decide⟩
    · exact ⟨_, h, by decide, by decide⟩
    · exact ⟨_, h, by omega, by omega⟩
    · exact ⟨_, h, a1, b1⟩
  obtain ⟨v, rfl, w0, w1⟩ := hw
  exact ⟨by simp, g1.trans ((Gd2.refl d g s1).new.new.trans g2), S2.ok.cl S.lsg, q v _ w0 w1 ((S.back S2.ok).mono (by omega)) (Gd2.back d g s)⟩
theorem wi_steps (S : Inv2 d g B t s) (hB : B ≤ 10000000) (q : ∀ (v : Nat) s', v ≤ 18446744073709551616 → Inv2 d g (B + 3) t s' → Gd2 d g s s' → P (.int (v : Nat)) s') : (F__law_steps [.obj d] s).Post P R := by
  unfold F__law_steps
  refine gcF_d2 S.lsd S.lsg ?_
  have lg := S.lsg
  have z12 : ((12 : Nat) ≤ sizeLine) = True := eq_true (by decide)
  simp! [B__law_steps]
  refine wi_next S (by omega) (by decide) (by decide) fun v1 s1 a1 b1 S1 g1 => ?_
  have lg1 := S1.lsg
  have ld1 := S1.lsd
  simp! [z7, z8, z12]
  refine wi_next S1.new.new (by omega) (by decide) (by decide) fun v2 s2 a2 b2 S2 g2 => ?_
  have n2 := g2.n
  have n2' : s1.n + 2 ≤ s2.n := n2
  obtain ⟨k, rfl⟩ := Int.eq_ofNat_of_zero_le a2
  have c1 : s2.c (s1.n + 1) = .lst [.int 0, .int 1, .int 2, .int 3, .int 4, .int 5, .int 6, .int 7, .int 7, .int 7, .int 7, .int 7] := (g2.c (s1.n + 1) (by show s1.n + 1 < s1.n + 2; omega) (by omega) (by omega)).trans Sto.new_at
  have c0 : s2.c s1.n = .lst [.int 0, .int 1, .int 2, .int 281474976710655, .int 281474976710656, .int 281474976710657, .int 18446744073709551616, .int v1] := (g2.c s1.n (by show s1.n < s1.n + 2; omega) (by omega) (by omega)).trans (at_old (Nat.lt_succ_self _) Sto.new_at)
  refine post_ix (seqOf_obj c1) (by omega) (by simpa using b2) fun y hy => ?_
  have hy : ∃ j : Nat, y = .int (j : Nat) ∧ j < 8 := by
    simp only [List.mem_cons, List.not_mem_nil, or_false] at hy
    rcases hy with h | h | h | h | h | h | h | h | h | h | h | h
    · exact ⟨0, h, by decide⟩
    · exact ⟨1, h, by decide⟩
    · exact ⟨2, h, by decide⟩
    · exact ⟨3, h, by decide⟩
    · exact ⟨4, h, by decide⟩
    · exact ⟨5, h, by decide⟩
    · exact ⟨6, h, by decide⟩
    · exact ⟨7, h, by decide⟩
    · exact ⟨7, h, by decide⟩
    · exact ⟨7, h, by decide⟩
    · exact ⟨7, h, by decide⟩
    · exact ⟨7, h, by decide⟩
  obtain ⟨j, rfl, hj⟩ := hy
  refine post_ix (seqOf_obj c0) (by omega) (by simp; omega) fun w hw => ?_
  have hw : ∃ v : Nat, w = .int (v : Nat) ∧ v ≤ 18446744073709551616 := by
    simp only [List.mem_cons, List.not_mem_nil, or_false] at hw
    rcases hw with h | h | h | h | h | h | h | h
    · exact ⟨0, h, by decide⟩
    · exact ⟨1, h, by decide⟩
    · exact ⟨2, h, by decide⟩
    · exact ⟨281474976710655, h, by decide⟩
    · exact ⟨281474976710656, h, by decide⟩
    · exact ⟨281474976710657, h, by decide⟩
    · exact ⟨18446744073709551616, h, by decide⟩
    · exact ⟨v1.toNat, by rw [Int.toNat_of_nonneg a1]; exact h, by omega⟩
  obtain ⟨v, rfl, w1⟩ := hw
  exact ⟨by simp, g1.trans ((Gd2.refl d g s1).new.new.trans g2), S2.ok.cl S.lsg, q v _ w1 ((S.back S2.ok).mono (by omega)) (Gd2.back d g s)⟩
theorem wi2_gcT {f : AT} {Q : Bool → Sto → Prop} {σ : ASt} (S : Inv2 d g B t s) (h : (f σ s).Post (fun v s' => Gd2 d g s s' ∧ ∃ C, Dg d g C s' ∧ ∀ s2, Inv2 d g C t s2 → Gd2 d g s s2 → Q v s2) R) : (gcT f σ s).Post Q R :=
  gcT_d2 S.lsd S.lsg (h.mono (fun v s' z => by
    obtain ⟨z2, C, z3, z4⟩ := z
    exact ⟨z2, z3.cl S.lsg, z4 _ (S.back z3) (Gd2.back d g s)⟩) fun _ _ _ _ z => z)
theorem lt1 {FL FO : List AV → Sto → Res AV} {x k m : AV} {a0 a2 : Option AV} {Q : Bool → Sto → Prop} (S : Inv2 d g B t s) (hB : B ≤ 10000000) (w : ∀ s, FL [x, k, m] s = .ok (.bl true) s) (o : ∀ (v : Nat) s, v ≤ 4294967296 → FO [x, .int (v : Nat)] s = .ok (.bl true) s) (q : ∀ s', Inv2 d g (B + 1) t s' → Q false s') :
    ((gcT (aOr (aNot (aTest (aCall 3 FL [] (aCons (aVar 3) (aCons (aVar 4) (aCons (aVar 5) aNil)))))) (aNot (aTest (aCall 2 FO [] (aCons (aVar 3) (aCons (aOp gAdd (aC (.int 1)) (aCall 2 F__law_next [] (aCons (aVar 1) (aCons (aC (.int 4294967296)) aNil)))) aNil))))))) [a0, some (.obj d), a2, some x, some k, some m] s).Post Q R := by
  refine wi2_gcT S ?_
  simp! [w]
  refine wi_next S (by omega) (by decide) (by decide) fun v s2 a b S2 g2 => ?_
  obtain ⟨j, rfl⟩ := Int.eq_ofNat_of_zero_le a
  have e : FO [x, .int (1 + ((j : Nat) : Int))] s2 = .ok (.bl true) s2 := o (1 + j) s2 (by omega)
  simp! [e]
  exact ⟨g2, _, S2.ok, fun s3 S3 _ => q s3 S3⟩
theorem lt2 {FD FP : List AV → Sto → Res AV} {x k m : AV} {a0 a2 : Option AV} {Q : Bool → Sto → Prop} (S : Inv2 d g B t s) (hB : B ≤ 1000000) (w : ∀ (v : Nat) s, v < 32 → FD [x, .int (v : Nat)] s = .ok (.bl true) s) (o : ∀ (n : Nat) s, n ≤ 18446744073709551616 → FP [x, k, m, .int (n : Nat)] s = .ok (.bl true) s) (q : ∀ s', Inv2 d g (B + 4) t s' → Q false s') :
    ((gcT (aOr (aNot (aTest (aCall 2 FD [] (aCons (aVar 3) (aCons (aCall 2 F__law_next [] (aCons (aVar 1) (aCons (aC (.int 32)) aNil))) aNil))))) (aNot (aTest (aCall 4 FP [] (aCons (aVar 3) (aCons (aVar 4) (aCons (aVar 5) (aCons (aCall 1 F__law_steps [] (aCons (aVar 1) aNil)) aNil))))))))) [a0, some (.obj d), a2, some x, some k, some m] s).Post Q R := by
  refine wi2_gcT S ?_
  simp! [eq_self]
  refine wi_next S (by omega) (by decide) (by decide) fun v s2 a b S2 g2 => ?_
  obtain ⟨j, rfl⟩ := Int.eq_ofNat_of_zero_le a
  have e := w j s2 (by omega)
  simp! [e]
  refine wi_steps S2 (by omega) fun n s3 hn S3 g3 => ?_
  have e2 := o n s3 hn
  simp! [e2]
  exact ⟨g2.trans g3, _, S3.ok, fun s4 S4 _ => q s4 S4⟩
end
theorem law_true (ns : List Int) (hl : ns.length ≤ 63) (hbit : ∀ z ∈ ns, Builtin.Int.intBits z ≤ 1048576) : ∃ s', F_law [.scr (ns.map .int)] s0 = .ok (.bl true) s' := by
  refine ok_of_post ?_
  unfold F_law
  have ln : ∀ s, gLen [.scr (ns.map .int)] s = .ok (.int (ns.length : Nat)) s := fun s => by rw [gLen_scr, List.length_map]
  have f4 : ∀ s, gFdiv (.int (ns.length : Nat)) (.int 3) s = .ok (.int (((ns.length : Nat) : Int) / 3)) s := fun s => gFdiv_int ⟨by decide, by decide⟩
  obtain ⟨K, hK⟩ : ∃ K : Nat, ((6 : Int) + (if ((ns.length : Nat) : Int) / 3 < 8 then ((ns.length : Nat) : Int) / 3 else 8)) = (K : Nat) := ⟨(6 + (if ((ns.length : Nat) : Int) / 3 < 8 then ((ns.length : Nat) : Int) / 3 else 8)).toNat, by split <;> omega⟩
  have K5 : K ≤ 14 := by split at hK <;> omega
  have rg : -(2 ^ 62) ≤ ((K : Nat) : Int) ∧ ((K : Nat) : Int) < 2 ^ 62 := by omega
  have tn : ((K : Nat) : Int).toNat = K := by omega
  simp! [B_law]
  refine begun_post (by omega) fun d g s1 g1 d0 d1 g0 gg D => ?_
  have Sa : Inv2 d g 0 s1 s1 := Inv2.start d1 gg D
  simp! [ln, f4, hK, rg, tn]
  refine for_rng (n := K) (fun i σ s' => Inv2 d g (100 * i) s1 s' ∧ ∃ x2 x3 x4 x5, σ = [some (.scr (ns.map .int)), some (.obj d), x2, x3, x4, x5]) ⟨Sa, _, _, _, _, rfl⟩ ?_ ?_
  · rintro i σ s hi ⟨S1, x2, x3, x4, x5, rfl⟩
    refine ⟨trivial, ?_⟩
    simp! [eq_self]
    refine wi_x S1 (by omega) fun x s2 x0 x1 S2 g2 => ?_
    simp! [eq_self]
    refine wi_next S2 (by omega) (by decide) (by decide) fun v3 s3 a3 b3 S3 g3 => ?_
    obtain ⟨k, rfl⟩ := Int.eq_ofNat_of_zero_le a3
    simp! [eq_self]
    refine wi_next S3 (by omega) (by decide) (by decide) fun v4 s4 a4 b4 S4 g4 => ?_
    obtain ⟨t, rfl⟩ := Int.eq_ofNat_of_zero_le a4
    have tc : (1 + ((t : Nat) : Int)) = ((1 + t : Nat) : Int) := rfl
    simp! [tc]
    refine lt1 S4 (by omega) (fun s => low_ok (by omega) (by omega) x0 x1 s) (fun v s hv => other_ok hv x0 x1 s) fun s5 S5 => ?_
    simp! [eq_self]
    refine lt2 S5 (by omega) (fun v s hv => digit_ok hv x0 x1 s) (fun n s hn => pair_ok (by omega) (by omega) hn x0 x1 s) fun s6 S6 => ?_
    simp! [eq_self]
    exact ⟨S6.mono (by omega), _, _, _, _, rfl⟩
  · rintro σ s' ⟨S1, x2, x3, x4, x5, rfl⟩
    refine ⟨trivial, ?_⟩
    simp! [eq_self]
end Pf
set_option Elab.async false
set_option linter.all false
set_option maxRecDepth 100000
set_option maxHeartbeats 4000000
set_option exponentiation.threshold 3000
namespace Pf
open PySem PySem.Spec PyProof.Rows L2 Ab
def kap (C_Linear C_DrawError C_BadState C_BadSteps C_BadNumber C_BadSource : Addr) : String → Addr := fun n => if n = "Linear" then C_Linear else if n = "DrawError" then C_DrawError else if n = "BadState" then C_BadState else if n = "BadSteps" then C_BadSteps else if n = "BadNumber" then C_BadNumber else if n = "BadSource" then C_BadSource else 0
theorem txt_kap {K : PySem.W.Frag} {mg : Str → Option Value} {C_Linear C_DrawError C_BadState C_BadSteps C_BadNumber C_BadSource : Addr} (T : Txt K mg C_Linear C_DrawError C_BadState C_BadSteps C_BadNumber C_BadSource) : Txt K mg ((kap C_Linear C_DrawError C_BadState C_BadSteps C_BadNumber C_BadSource) "Linear") ((kap C_Linear C_DrawError C_BadState C_BadSteps C_BadNumber C_BadSource) "DrawError") ((kap C_Linear C_DrawError C_BadState C_BadSteps C_BadNumber C_BadSource) "BadState") ((kap C_Linear C_DrawError C_BadState C_BadSteps C_BadNumber C_BadSource) "BadSteps") ((kap C_Linear C_DrawError C_BadState C_BadSteps C_BadNumber C_BadSource) "BadNumber") ((kap C_Linear C_DrawError C_BadState C_BadSteps C_BadNumber C_BadSource) "BadSource")  := by
  have e0 : (kap C_Linear C_DrawError C_BadState C_BadSteps C_BadNumber C_BadSource) "Linear" = C_Linear := by unfold kap; simp
  have e1 : (kap C_Linear C_DrawError C_BadState C_BadSteps C_BadNumber C_BadSource) "DrawError" = C_DrawError := by unfold kap; simp
  have e2 : (kap C_Linear C_DrawError C_BadState C_BadSteps C_BadNumber C_BadSource) "BadState" = C_BadState := by unfold kap; simp
  have e3 : (kap C_Linear C_DrawError C_BadState C_BadSteps C_BadNumber C_BadSource) "BadSteps" = C_BadSteps := by unfold kap; simp
  have e4 : (kap C_Linear C_DrawError C_BadState C_BadSteps C_BadNumber C_BadSource) "BadNumber" = C_BadNumber := by unfold kap; simp
  have e5 : (kap C_Linear C_DrawError C_BadState C_BadSteps C_BadNumber C_BadSource) "BadSource" = C_BadSource := by unfold kap; simp
  rw [e0, e1, e2, e3, e4, e5]
  exact T
theorem law_mk {l : PySem.W.OpenLaw} {w : World} {K : PySem.W.Frag} {mg : Str → Option Value} {fa C_Linear C_DrawError C_BadState C_BadSteps C_BadNumber C_BadSource  : Addr} {h : Heap} (hmg : mg "law" = some (.ref fa)) (T : Txt K mg C_Linear C_DrawError C_BadState C_BadSteps C_BadNumber C_BadSource) : Gx.LawF l w K 9 "_law_script" mg fa h := by
  have T := txt_kap T
  obtain ⟨f, fd, F, b, hb⟩ := T.d_law
  have e := hmg.symm.trans F.mgf
  cases e
  exact ⟨fd, [], spLaw K, fun p hp => (nomatch hp), fun p hp => (nomatch hp), fun p hp => (nomatch hp), hb, fun H a ns hl hbit _ hS => ⟨a, ns, rfl, hS, fun p hp => (nomatch hp), law_true ns hl hbit, fun _ => rfl⟩, fun base _ _ _ => fn_law T F⟩
set_option maxHeartbeats 4000000 in
theorem txt_mk {K : PySem.W.Frag} {h : Heap} {mg : Str → Option Value} {f_BadState___init__ f_BadSteps___init__ f_BadNumber___init__ f_BadSource___init__ f_is_integer f_need_steps f_need_many f_s2_is_number f_s2_need_start f_s2_joined f_s2_step_map f_s2_mapped f_s2_moved f_Linear___init__ f_Linear_next_word f_Linear_words f_Linear_state f_Linear_ahead f_Linear_behind f_Linear___rshift__ f_Linear___lshift__ f_s2_need_linear f_shared_digits f_digit_period f__law_begun f__law_next f__law_x f__law_steps f__law_power f__law_low_right f__law_other_right f__law_digit_right f__law_pair_right f_law p_Linear_state C_Linear C_DrawError C_BadState C_BadSteps C_BadNumber C_BadSource : Addr} {od_BadState___init__ an_BadState___init__ od_BadSteps___init__ an_BadSteps___init__ od_BadNumber___init__ an_BadNumber___init__ od_BadSource___init__ an_BadSource___init__ od_is_integer an_is_integer od_need_steps an_need_steps od_need_many an_need_many od_s2_is_number an_s2_is_number od_s2_need_start an_s2_need_start od_s2_joined an_s2_joined od_s2_step_map an_s2_step_map od_s2_mapped an_s2_mapped od_s2_moved an_s2_moved od_Linear___init__ an_Linear___init__ od_Linear_next_word an_Linear_next_word od_Linear_words an_Linear_words od_Linear_state an_Linear_state od_Linear_ahead an_Linear_ahead od_Linear_behind an_Linear_behind od_Linear___rshift__ an_Linear___rshift__ od_Linear___lshift__ an_Linear___lshift__ od_s2_need_linear an_s2_need_linear od_shared_digits an_shared_digits od_digit_period an_digit_period od__law_begun an__law_begun od__law_next an__law_next od__law_x an__law_x od__law_steps an__law_steps od__law_power an__law_power od__law_low_right an__law_low_right od__law_other_right an__law_other_right od__law_digit_right an__law_digit_right od__law_pair_right an__law_pair_right od_law an_law : Option Addr} {sl_BadState___init__ sl_BadSteps___init__ sl_BadNumber___init__ sl_BadSource___init__ sl_is_integer sl_need_steps sl_need_many sl_s2_is_number sl_s2_need_start sl_s2_joined sl_s2_step_map sl_s2_mapped sl_s2_moved sl_Linear___init__ sl_Linear_next_word sl_Linear_words sl_Linear_state sl_Linear_ahead sl_Linear_behind sl_Linear___rshift__ sl_Linear___lshift__ sl_s2_need_linear sl_shared_digits sl_digit_period sl__law_begun sl__law_next sl__law_x sl__law_steps sl__law_power sl__law_low_right sl__law_other_right sl__law_digit_right sl__law_pair_right sl_law : Array (Option Value)} {oc_BadState___init__ kV_BadState___init__ dc_BadState___init__ pm_BadState___init__ cd_BadState___init__ ct_BadState___init__ oc_BadSteps___init__ kV_BadSteps___init__ dc_BadSteps___init__ pm_BadSteps___init__ cd_BadSteps___init__ ct_BadSteps___init__ oc_BadNumber___init__ kV_BadNumber___init__ dc_BadNumber___init__ pm_BadNumber___init__ cd_BadNumber___init__ ct_BadNumber___init__ oc_BadSource___init__ kV_BadSource___init__ dc_BadSource___init__ pm_BadSource___init__ cd_BadSource___init__ ct_BadSource___init__ oc_is_integer kV_is_integer dc_is_integer pm_is_integer cd_is_integer ct_is_integer oc_need_steps kV_need_steps dc_need_steps pm_need_steps cd_need_steps ct_need_steps oc_need_many kV_need_many dc_need_many pm_need_many cd_need_many ct_need_many oc_s2_is_number kV_s2_is_number dc_s2_is_number pm_s2_is_number cd_s2_is_number ct_s2_is_number oc_s2_need_start kV_s2_need_start dc_s2_need_start pm_s2_need_start cd_s2_need_start ct_s2_need_start oc_s2_joined kV_s2_joined dc_s2_joined pm_s2_joined cd_s2_joined ct_s2_joined oc_s2_step_map kV_s2_step_map dc_s2_step_map pm_s2_step_map cd_s2_step_map ct_s2_step_map oc_s2_mapped kV_s2_mapped dc_s2_mapped pm_s2_mapped cd_s2_mapped ct_s2_mapped oc_s2_moved kV_s2_moved dc_s2_moved pm_s2_moved cd_s2_moved ct_s2_moved oc_Linear___init__ kV_Linear___init__ dc_Linear___init__ pm_Linear___init__ cd_Linear___init__ ct_Linear___init__ oc_Linear_next_word kV_Linear_next_word dc_Linear_next_word pm_Linear_next_word cd_Linear_next_word ct_Linear_next_word oc_Linear_words kV_Linear_words dc_Linear_words pm_Linear_words cd_Linear_words ct_Linear_words oc_Linear_state kV_Linear_state dc_Linear_state pm_Linear_state cd_Linear_state ct_Linear_state oc_Linear_ahead kV_Linear_ahead dc_Linear_ahead pm_Linear_ahead cd_Linear_ahead ct_Linear_ahead oc_Linear_behind kV_Linear_behind dc_Linear_behind pm_Linear_behind cd_Linear_behind ct_Linear_behind oc_Linear___rshift__ kV_Linear___rshift__ dc_Linear___rshift__ pm_Linear___rshift__ cd_Linear___rshift__ ct_Linear___rshift__ oc_Linear___lshift__ kV_Linear___lshift__ dc_Linear___lshift__ pm_Linear___lshift__ cd_Linear___lshift__ ct_Linear___lshift__ oc_s2_need_linear kV_s2_need_linear dc_s2_need_linear pm_s2_need_linear cd_s2_need_linear ct_s2_need_linear oc_shared_digits kV_shared_digits dc_shared_digits pm_shared_digits cd_shared_digits ct_shared_digits oc_digit_period kV_digit_period dc_digit_period pm_digit_period cd_digit_period ct_digit_period oc__law_begun kV__law_begun dc__law_begun pm__law_begun cd__law_begun ct__law_begun oc__law_next kV__law_next dc__law_next pm__law_next cd__law_next ct__law_next oc__law_x kV__law_x dc__law_x pm__law_x cd__law_x ct__law_x oc__law_steps kV__law_steps dc__law_steps pm__law_steps cd__law_steps ct__law_steps oc__law_power kV__law_power dc__law_power pm__law_power cd__law_power ct__law_power oc__law_low_right kV__law_low_right dc__law_low_right pm__law_low_right cd__law_low_right ct__law_low_right oc__law_other_right kV__law_other_right dc__law_other_right pm__law_other_right cd__law_other_right ct__law_other_right oc__law_digit_right kV__law_digit_right dc__law_digit_right pm__law_digit_right cd__law_digit_right ct__law_digit_right oc__law_pair_right kV__law_pair_right dc__law_pair_right pm__law_pair_right cd__law_pair_right ct__law_pair_right oc_law kV_law dc_law pm_law cd_law ct_law : Value} {rs_Linear_state : List Value} {tk_MOST_STEPS tk_MOST_WORDS tk_DIGITS tk_MODULUS tk_MULTIPLIER tk_ADDEND tk_LOW_WORD : Tok} {fo_Linear_rshift_int ro_Linear_rshift_int fo_Linear_lshift_int ro_Linear_lshift_int : Option Value} (X : K.In h) (G : h.Ns mainGlobals mg)
    (a_BadState___init__ : PySem.W.findIn K (.ref C_BadState) "__init__" = some (some (.ref f_BadState___init__)))
    (ti_BadState___init__ : PySem.W.typeIn K (.ref f_BadState___init__) = some (.type "function"))
    (l_BadState___init__ : K.lookup f_BadState___init__ = some ⟨oc_BadState___init__, od_BadState___init__, .func (PySem.W.fnOf "__init__" "BadState.__init__" (C8.fnArgs s_BadState___init__) (C8.fnBody s_BadState___init__) (C8.fnScope s_BadState___init__) .none kV_BadState___init__ dc_BadState___init__ pm_BadState___init__ an_BadState___init__ cd_BadState___init__ ct_BadState___init__), sl_BadState___init__⟩)
    (c_BadState___init__ : PySem.W.codeIn K cd_BadState___init__ "BadState.__init__" = true)
    (a_BadSteps___init__ : PySem.W.findIn K (.ref C_BadSteps) "__init__" = some (some (.ref f_BadSteps___init__)))
    (ti_BadSteps___init__ : PySem.W.typeIn K (.ref f_BadSteps___init__) = some (.type "function"))
    (l_BadSteps___init__ : K.lookup f_BadSteps___init__ = some ⟨oc_BadSteps___init__, od_BadSteps___init__, .func (PySem.W.fnOf "__init__" "BadSteps.__init__" (C8.fnArgs s_BadSteps___init__) (C8.fnBody s_BadSteps___init__) (C8.fnScope s_BadSteps___init__) .none kV_BadSteps___init__ dc_BadSteps___init__ pm_BadSteps___init__ an_BadSteps___init__ cd_BadSteps___init__ ct_BadSteps___init__), sl_BadSteps___init__⟩)
    (c_BadSteps___init__ : PySem.W.codeIn K cd_BadSteps___init__ "BadSteps.__init__" = true)
    (a_BadNumber___init__ : PySem.W.findIn K (.ref C_BadNumber) "__init__" = some (some (.ref f_BadNumber___init__)))
    (ti_BadNumber___init__ : PySem.W.typeIn K (.ref f_BadNumber___init__) = some (.type "function"))
    (l_BadNumber___init__ : K.lookup f_BadNumber___init__ = some ⟨oc_BadNumber___init__, od_BadNumber___init__, .func (PySem.W.fnOf "__init__" "BadNumber.__init__" (C8.fnArgs s_BadNumber___init__) (C8.fnBody s_BadNumber___init__) (C8.fnScope s_BadNumber___init__) .none kV_BadNumber___init__ dc_BadNumber___init__ pm_BadNumber___init__ an_BadNumber___init__ cd_BadNumber___init__ ct_BadNumber___init__), sl_BadNumber___init__⟩)
    (c_BadNumber___init__ : PySem.W.codeIn K cd_BadNumber___init__ "BadNumber.__init__" = true)
    (a_BadSource___init__ : PySem.W.findIn K (.ref C_BadSource) "__init__" = some (some (.ref f_BadSource___init__)))
    (ti_BadSource___init__ : PySem.W.typeIn K (.ref f_BadSource___init__) = some (.type "function"))
    (l_BadSource___init__ : K.lookup f_BadSource___init__ = some ⟨oc_BadSource___init__, od_BadSource___init__, .func (PySem.W.fnOf "__init__" "BadSource.__init__" (C8.fnArgs s_BadSource___init__) (C8.fnBody s_BadSource___init__) (C8.fnScope s_BadSource___init__) .none kV_BadSource___init__ dc_BadSource___init__ pm_BadSource___init__ an_BadSource___init__ cd_BadSource___init__ ct_BadSource___init__), sl_BadSource___init__⟩)
    (c_BadSource___init__ : PySem.W.codeIn K cd_BadSource___init__ "BadSource.__init__" = true)
    (a_is_integer : PySem.W.nsIn K mainGlobals "is_integer" = some (some (.ref f_is_integer)))
    (l_is_integer : K.lookup f_is_integer = some ⟨oc_is_integer, od_is_integer, .func (PySem.W.fnOf "is_integer" "is_integer" (C8.fnArgs s_is_integer) (C8.fnBody s_is_integer) (C8.fnScope s_is_integer) .none kV_is_integer dc_is_integer pm_is_integer an_is_integer cd_is_integer ct_is_integer), sl_is_integer⟩)
    (c_is_integer : PySem.W.codeIn K cd_is_integer "is_integer" = true)
    (k_is_integer : PySem.W.keepIn K (.ref f_is_integer) = true)
    (a_need_steps : PySem.W.nsIn K mainGlobals "need_steps" = some (some (.ref f_need_steps)))
    (l_need_steps : K.lookup f_need_steps = some ⟨oc_need_steps, od_need_steps, .func (PySem.W.fnOf "need_steps" "need_steps" (C8.fnArgs s_need_steps) (C8.fnBody s_need_steps) (C8.fnScope s_need_steps) .none kV_need_steps dc_need_steps pm_need_steps an_need_steps cd_need_steps ct_need_steps), sl_need_steps⟩)
    (c_need_steps : PySem.W.codeIn K cd_need_steps "need_steps" = true)
    (k_need_steps : PySem.W.keepIn K (.ref f_need_steps) = true)
    (a_need_many : PySem.W.nsIn K mainGlobals "need_many" = some (some (.ref f_need_many)))
    (l_need_many : K.lookup f_need_many = some ⟨oc_need_many, od_need_many, .func (PySem.W.fnOf "need_many" "need_many" (C8.fnArgs s_need_many) (C8.fnBody s_need_many) (C8.fnScope s_need_many) .none kV_need_many dc_need_many pm_need_many an_need_many cd_need_many ct_need_many), sl_need_many⟩)
    (c_need_many : PySem.W.codeIn K cd_need_many "need_many" = true)
    (k_need_many : PySem.W.keepIn K (.ref f_need_many) = true)
    (a_s2_is_number : PySem.W.nsIn K mainGlobals "s2_is_number" = some (some (.ref f_s2_is_number)))
    (l_s2_is_number : K.lookup f_s2_is_number = some ⟨oc_s2_is_number, od_s2_is_number, .func (PySem.W.fnOf "s2_is_number" "s2_is_number" (C8.fnArgs s_s2_is_number) (C8.fnBody s_s2_is_number) (C8.fnScope s_s2_is_number) .none kV_s2_is_number dc_s2_is_number pm_s2_is_number an_s2_is_number cd_s2_is_number ct_s2_is_number), sl_s2_is_number⟩)
    (c_s2_is_number : PySem.W.codeIn K cd_s2_is_number "s2_is_number" = true)
    (k_s2_is_number : PySem.W.keepIn K (.ref f_s2_is_number) = true)
    (a_s2_need_start : PySem.W.nsIn K mainGlobals "s2_need_start" = some (some (.ref f_s2_need_start)))
    (l_s2_need_start : K.lookup f_s2_need_start = some ⟨oc_s2_need_start, od_s2_need_start, .func (PySem.W.fnOf "s2_need_start" "s2_need_start" (C8.fnArgs s_s2_need_start) (C8.fnBody s_s2_need_start) (C8.fnScope s_s2_need_start) .none kV_s2_need_start dc_s2_need_start pm_s2_need_start an_s2_need_start cd_s2_need_start ct_s2_need_start), sl_s2_need_start⟩)
    (c_s2_need_start : PySem.W.codeIn K cd_s2_need_start "s2_need_start" = true)
    (k_s2_need_start : PySem.W.keepIn K (.ref f_s2_need_start) = true)
    (a_s2_joined : PySem.W.nsIn K mainGlobals "s2_joined" = some (some (.ref f_s2_joined)))
    (l_s2_joined : K.lookup f_s2_joined = some ⟨oc_s2_joined, od_s2_joined, .func (PySem.W.fnOf "s2_joined" "s2_joined" (C8.fnArgs s_s2_joined) (C8.fnBody s_s2_joined) (C8.fnScope s_s2_joined) .none kV_s2_joined dc_s2_joined pm_s2_joined an_s2_joined cd_s2_joined ct_s2_joined), sl_s2_joined⟩)
    (c_s2_joined : PySem.W.codeIn K cd_s2_joined "s2_joined" = true)
    (k_s2_joined : PySem.W.keepIn K (.ref f_s2_joined) = true)
    (a_s2_step_map : PySem.W.nsIn K mainGlobals "s2_step_map" = some (some (.ref f_s2_step_map)))
    (l_s2_step_map : K.lookup f_s2_step_map = some ⟨oc_s2_step_map, od_s2_step_map, .func (PySem.W.fnOf "s2_step_map" "s2_step_map" (C8.fnArgs s_s2_step_map) (C8.fnBody s_s2_step_map) (C8.fnScope s_s2_step_map) .none kV_s2_step_map dc_s2_step_map pm_s2_step_map an_s2_step_map cd_s2_step_map ct_s2_step_map), sl_s2_step_map⟩)
    (c_s2_step_map : PySem.W.codeIn K cd_s2_step_map "s2_step_map" = true)
    (k_s2_step_map : PySem.W.keepIn K (.ref f_s2_step_map) = true)
    (a_s2_mapped : PySem.W.nsIn K mainGlobals "s2_mapped" = some (some (.ref f_s2_mapped)))
    (l_s2_mapped : K.lookup f_s2_mapped = some ⟨oc_s2_mapped, od_s2_mapped, .func (PySem.W.fnOf "s2_mapped" "s2_mapped" (C8.fnArgs s_s2_mapped) (C8.fnBody s_s2_mapped) (C8.fnScope s_s2_mapped) .none kV_s2_mapped dc_s2_mapped pm_s2_mapped an_s2_mapped cd_s2_mapped ct_s2_mapped), sl_s2_mapped⟩)
    (c_s2_mapped : PySem.W.codeIn K cd_s2_mapped "s2_mapped" = true)
    (k_s2_mapped : PySem.W.keepIn K (.ref f_s2_mapped) = true)
    (a_s2_moved : PySem.W.nsIn K mainGlobals "s2_moved" = some (some (.ref f_s2_moved)))
    (l_s2_moved : K.lookup f_s2_moved = some ⟨oc_s2_moved, od_s2_moved, .func (PySem.W.fnOf "s2_moved" "s2_moved" (C8.fnArgs s_s2_moved) (C8.fnBody s_s2_moved) (C8.fnScope s_s2_moved) .none kV_s2_moved dc_s2_moved pm_s2_moved an_s2_moved cd_s2_moved ct_s2_moved), sl_s2_moved⟩)
    (c_s2_moved : PySem.W.codeIn K cd_s2_moved "s2_moved" = true)
    (k_s2_moved : PySem.W.keepIn K (.ref f_s2_moved) = true)
    (a_Linear___init__ : PySem.W.findIn K (.ref C_Linear) "__init__" = some (some (.ref f_Linear___init__)))
    (i_Linear___init__ : PySem.W.isFn K (.ref f_Linear___init__) = true)
    (l_Linear___init__ : K.lookup f_Linear___init__ = some ⟨oc_Linear___init__, od_Linear___init__, .func (PySem.W.fnOf "__init__" "Linear.__init__" (C8.fnArgs s_Linear___init__) (C8.fnBody s_Linear___init__) (C8.fnScope s_Linear___init__) .none kV_Linear___init__ dc_Linear___init__ pm_Linear___init__ an_Linear___init__ cd_Linear___init__ ct_Linear___init__), sl_Linear___init__⟩)
    (c_Linear___init__ : PySem.W.codeIn K cd_Linear___init__ "Linear.__init__" = true)
    (k_Linear___init__ : PySem.W.keepIn K (.ref f_Linear___init__) = true)
    (mk_Linear___init__ : PySem.W.makesIn K C_Linear = true)
    (kc_Linear___init__ : PySem.W.keepIn K (.ref C_Linear) = true)
    (a_Linear_next_word : PySem.W.findIn K (.ref C_Linear) "next_word" = some (some (.ref f_Linear_next_word)))
    (i_Linear_next_word : PySem.W.isFn K (.ref f_Linear_next_word) = true)
    (l_Linear_next_word : K.lookup f_Linear_next_word = some ⟨oc_Linear_next_word, od_Linear_next_word, .func (PySem.W.fnOf "next_word" "Linear.next_word" (C8.fnArgs s_Linear_next_word) (C8.fnBody s_Linear_next_word) (C8.fnScope s_Linear_next_word) .none kV_Linear_next_word dc_Linear_next_word pm_Linear_next_word an_Linear_next_word cd_Linear_next_word ct_Linear_next_word), sl_Linear_next_word⟩)
    (c_Linear_next_word : PySem.W.codeIn K cd_Linear_next_word "Linear.next_word" = true)
    (k_Linear_next_word : PySem.W.keepIn K (.ref f_Linear_next_word) = true)
    (a_Linear_words : PySem.W.findIn K (.ref C_Linear) "words" = some (some (.ref f_Linear_words)))
    (i_Linear_words : PySem.W.isFn K (.ref f_Linear_words) = true)
    (l_Linear_words : K.lookup f_Linear_words = some ⟨oc_Linear_words, od_Linear_words, .func (PySem.W.fnOf "words" "Linear.words" (C8.fnArgs s_Linear_words) (C8.fnBody s_Linear_words) (C8.fnScope s_Linear_words) .none kV_Linear_words dc_Linear_words pm_Linear_words an_Linear_words cd_Linear_words ct_Linear_words), sl_Linear_words⟩)
    (c_Linear_words : PySem.W.codeIn K cd_Linear_words "Linear.words" = true)
    (k_Linear_words : PySem.W.keepIn K (.ref f_Linear_words) = true)
    (a_Linear_state : PySem.W.findIn K (.ref C_Linear) "state" = some (some (.ref p_Linear_state)))
    (g_Linear_state : PySem.W.specialIn K (.ref p_Linear_state) "__get__" = some (some (.builtin "property.__get__")))
    (t_Linear_state : PySem.W.takesIn K (.ref p_Linear_state) = some true)
    (r_Linear_state : PySem.W.recIn K p_Linear_state "property" = some (.ref f_Linear_state :: rs_Linear_state))
    (l_Linear_state : K.lookup f_Linear_state = some ⟨oc_Linear_state, od_Linear_state, .func (PySem.W.fnOf "state" "Linear.state" (C8.fnArgs s_Linear_state) (C8.fnBody s_Linear_state) (C8.fnScope s_Linear_state) .none kV_Linear_state dc_Linear_state pm_Linear_state an_Linear_state cd_Linear_state ct_Linear_state), sl_Linear_state⟩)
    (c_Linear_state : PySem.W.codeIn K cd_Linear_state "Linear.state" = true)
    (k_Linear_state : PySem.W.keepIn K (.ref f_Linear_state) = true)
    (a_Linear_ahead : PySem.W.findIn K (.ref C_Linear) "ahead" = some (some (.ref f_Linear_ahead)))
    (i_Linear_ahead : PySem.W.isFn K (.ref f_Linear_ahead) = true)
    (l_Linear_ahead : K.lookup f_Linear_ahead = some ⟨oc_Linear_ahead, od_Linear_ahead, .func (PySem.W.fnOf "ahead" "Linear.ahead" (C8.fnArgs s_Linear_ahead) (C8.fnBody s_Linear_ahead) (C8.fnScope s_Linear_ahead) .none kV_Linear_ahead dc_Linear_ahead pm_Linear_ahead an_Linear_ahead cd_Linear_ahead ct_Linear_ahead), sl_Linear_ahead⟩)
    (c_Linear_ahead : PySem.W.codeIn K cd_Linear_ahead "Linear.ahead" = true)
    (k_Linear_ahead : PySem.W.keepIn K (.ref f_Linear_ahead) = true)
    (a_Linear_behind : PySem.W.findIn K (.ref C_Linear) "behind" = some (some (.ref f_Linear_behind)))
    (i_Linear_behind : PySem.W.isFn K (.ref f_Linear_behind) = true)
    (l_Linear_behind : K.lookup f_Linear_behind = some ⟨oc_Linear_behind, od_Linear_behind, .func (PySem.W.fnOf "behind" "Linear.behind" (C8.fnArgs s_Linear_behind) (C8.fnBody s_Linear_behind) (C8.fnScope s_Linear_behind) .none kV_Linear_behind dc_Linear_behind pm_Linear_behind an_Linear_behind cd_Linear_behind ct_Linear_behind), sl_Linear_behind⟩)
    (c_Linear_behind : PySem.W.codeIn K cd_Linear_behind "Linear.behind" = true)
    (k_Linear_behind : PySem.W.keepIn K (.ref f_Linear_behind) = true)
    (a_Linear___rshift__ : PySem.W.findIn K (.ref C_Linear) "__rshift__" = some (some (.ref f_Linear___rshift__)))
    (i_Linear___rshift__ : PySem.W.isFn K (.ref f_Linear___rshift__) = true)
    (l_Linear___rshift__ : K.lookup f_Linear___rshift__ = some ⟨oc_Linear___rshift__, od_Linear___rshift__, .func (PySem.W.fnOf "__rshift__" "Linear.__rshift__" (C8.fnArgs s_Linear___rshift__) (C8.fnBody s_Linear___rshift__) (C8.fnScope s_Linear___rshift__) .none kV_Linear___rshift__ dc_Linear___rshift__ pm_Linear___rshift__ an_Linear___rshift__ cd_Linear___rshift__ ct_Linear___rshift__), sl_Linear___rshift__⟩)
    (c_Linear___rshift__ : PySem.W.codeIn K cd_Linear___rshift__ "Linear.__rshift__" = true)
    (k_Linear___rshift__ : PySem.W.keepIn K (.ref f_Linear___rshift__) = true)
    (a_Linear___lshift__ : PySem.W.findIn K (.ref C_Linear) "__lshift__" = some (some (.ref f_Linear___lshift__)))
    (i_Linear___lshift__ : PySem.W.isFn K (.ref f_Linear___lshift__) = true)
    (l_Linear___lshift__ : K.lookup f_Linear___lshift__ = some ⟨oc_Linear___lshift__, od_Linear___lshift__, .func (PySem.W.fnOf "__lshift__" "Linear.__lshift__" (C8.fnArgs s_Linear___lshift__) (C8.fnBody s_Linear___lshift__) (C8.fnScope s_Linear___lshift__) .none kV_Linear___lshift__ dc_Linear___lshift__ pm_Linear___lshift__ an_Linear___lshift__ cd_Linear___lshift__ ct_Linear___lshift__), sl_Linear___lshift__⟩)
    (c_Linear___lshift__ : PySem.W.codeIn K cd_Linear___lshift__ "Linear.__lshift__" = true)
    (k_Linear___lshift__ : PySem.W.keepIn K (.ref f_Linear___lshift__) = true)
    (a_s2_need_linear : PySem.W.nsIn K mainGlobals "s2_need_linear" = some (some (.ref f_s2_need_linear)))
    (l_s2_need_linear : K.lookup f_s2_need_linear = some ⟨oc_s2_need_linear, od_s2_need_linear, .func (PySem.W.fnOf "s2_need_linear" "s2_need_linear" (C8.fnArgs s_s2_need_linear) (C8.fnBody s_s2_need_linear) (C8.fnScope s_s2_need_linear) .none kV_s2_need_linear dc_s2_need_linear pm_s2_need_linear an_s2_need_linear cd_s2_need_linear ct_s2_need_linear), sl_s2_need_linear⟩)
    (c_s2_need_linear : PySem.W.codeIn K cd_s2_need_linear "s2_need_linear" = true)
    (k_s2_need_linear : PySem.W.keepIn K (.ref f_s2_need_linear) = true)
    (a_shared_digits : PySem.W.nsIn K mainGlobals "shared_digits" = some (some (.ref f_shared_digits)))
    (l_shared_digits : K.lookup f_shared_digits = some ⟨oc_shared_digits, od_shared_digits, .func (PySem.W.fnOf "shared_digits" "shared_digits" (C8.fnArgs s_shared_digits) (C8.fnBody s_shared_digits) (C8.fnScope s_shared_digits) .none kV_shared_digits dc_shared_digits pm_shared_digits an_shared_digits cd_shared_digits ct_shared_digits), sl_shared_digits⟩)
    (c_shared_digits : PySem.W.codeIn K cd_shared_digits "shared_digits" = true)
    (k_shared_digits : PySem.W.keepIn K (.ref f_shared_digits) = true)
    (a_digit_period : PySem.W.nsIn K mainGlobals "digit_period" = some (some (.ref f_digit_period)))
    (l_digit_period : K.lookup f_digit_period = some ⟨oc_digit_period, od_digit_period, .func (PySem.W.fnOf "digit_period" "digit_period" (C8.fnArgs s_digit_period) (C8.fnBody s_digit_period) (C8.fnScope s_digit_period) .none kV_digit_period dc_digit_period pm_digit_period an_digit_period cd_digit_period ct_digit_period), sl_digit_period⟩)
    (c_digit_period : PySem.W.codeIn K cd_digit_period "digit_period" = true)
    (k_digit_period : PySem.W.keepIn K (.ref f_digit_period) = true)
    (a__law_begun : PySem.W.nsIn K mainGlobals "_law_begun" = some (some (.ref f__law_begun)))
    (l__law_begun : K.lookup f__law_begun = some ⟨oc__law_begun, od__law_begun, .func (PySem.W.fnOf "_law_begun" "_law_begun" (C8.fnArgs s__law_begun) (C8.fnBody s__law_begun) (C8.fnScope s__law_begun) .none kV__law_begun dc__law_begun pm__law_begun an__law_begun cd__law_begun ct__law_begun), sl__law_begun⟩)
    (c__law_begun : PySem.W.codeIn K cd__law_begun "_law_begun" = true)
    (k__law_begun : PySem.W.keepIn K (.ref f__law_begun) = true)
    (a__law_next : PySem.W.nsIn K mainGlobals "_law_next" = some (some (.ref f__law_next)))
    (l__law_next : K.lookup f__law_next = some ⟨oc__law_next, od__law_next, .func (PySem.W.fnOf "_law_next" "_law_next" (C8.fnArgs s__law_next) (C8.fnBody s__law_next) (C8.fnScope s__law_next) .none kV__law_next dc__law_next pm__law_next an__law_next cd__law_next ct__law_next), sl__law_next⟩)
    (c__law_next : PySem.W.codeIn K cd__law_next "_law_next" = true)
    (k__law_next : PySem.W.keepIn K (.ref f__law_next) = true)
    (a__law_x : PySem.W.nsIn K mainGlobals "_law_x" = some (some (.ref f__law_x)))
    (l__law_x : K.lookup f__law_x = some ⟨oc__law_x, od__law_x, .func (PySem.W.fnOf "_law_x" "_law_x" (C8.fnArgs s__law_x) (C8.fnBody s__law_x) (C8.fnScope s__law_x) .none kV__law_x dc__law_x pm__law_x an__law_x cd__law_x ct__law_x), sl__law_x⟩)
    (c__law_x : PySem.W.codeIn K cd__law_x "_law_x" = true)
    (k__law_x : PySem.W.keepIn K (.ref f__law_x) = true)
    (a__law_steps : PySem.W.nsIn K mainGlobals "_law_steps" = some (some (.ref f__law_steps)))
    (l__law_steps : K.lookup f__law_steps = some ⟨oc__law_steps, od__law_steps, .func (PySem.W.fnOf "_law_steps" "_law_steps" (C8.fnArgs s__law_steps) (C8.fnBody s__law_steps) (C8.fnScope s__law_steps) .none kV__law_steps dc__law_steps pm__law_steps an__law_steps cd__law_steps ct__law_steps), sl__law_steps⟩)
    (c__law_steps : PySem.W.codeIn K cd__law_steps "_law_steps" = true)
    (k__law_steps : PySem.W.keepIn K (.ref f__law_steps) = true)
    (a__law_power : PySem.W.nsIn K mainGlobals "_law_power" = some (some (.ref f__law_power)))
    (l__law_power : K.lookup f__law_power = some ⟨oc__law_power, od__law_power, .func (PySem.W.fnOf "_law_power" "_law_power" (C8.fnArgs s__law_power) (C8.fnBody s__law_power) (C8.fnScope s__law_power) .none kV__law_power dc__law_power pm__law_power an__law_power cd__law_power ct__law_power), sl__law_power⟩)
    (c__law_power : PySem.W.codeIn K cd__law_power "_law_power" = true)
    (k__law_power : PySem.W.keepIn K (.ref f__law_power) = true)
    (a__law_low_right : PySem.W.nsIn K mainGlobals "_law_low_right" = some (some (.ref f__law_low_right)))
    (l__law_low_right : K.lookup f__law_low_right = some ⟨oc__law_low_right, od__law_low_right, .func (PySem.W.fnOf "_law_low_right" "_law_low_right" (C8.fnArgs s__law_low_right) (C8.fnBody s__law_low_right) (C8.fnScope s__law_low_right) .none kV__law_low_right dc__law_low_right pm__law_low_right an__law_low_right cd__law_low_right ct__law_low_right), sl__law_low_right⟩)
    (c__law_low_right : PySem.W.codeIn K cd__law_low_right "_law_low_right" = true)
    (k__law_low_right : PySem.W.keepIn K (.ref f__law_low_right) = true)
    (a__law_other_right : PySem.W.nsIn K mainGlobals "_law_other_right" = some (some (.ref f__law_other_right)))
    (l__law_other_right : K.lookup f__law_other_right = some ⟨oc__law_other_right, od__law_other_right, .func (PySem.W.fnOf "_law_other_right" "_law_other_right" (C8.fnArgs s__law_other_right) (C8.fnBody s__law_other_right) (C8.fnScope s__law_other_right) .none kV__law_other_right dc__law_other_right pm__law_other_right an__law_other_right cd__law_other_right ct__law_other_right), sl__law_other_right⟩)
    (c__law_other_right : PySem.W.codeIn K cd__law_other_right "_law_other_right" = true)
    (k__law_other_right : PySem.W.keepIn K (.ref f__law_other_right) = true)
    (a__law_digit_right : PySem.W.nsIn K mainGlobals "_law_digit_right" = some (some (.ref f__law_digit_right)))
    (l__law_digit_right : K.lookup f__law_digit_right = some ⟨oc__law_digit_right, od__law_digit_right, .func (PySem.W.fnOf "_law_digit_right" "_law_digit_right" (C8.fnArgs s__law_digit_right) (C8.fnBody s__law_digit_right) (C8.fnScope s__law_digit_right) .none kV__law_digit_right dc__law_digit_right pm__law_digit_right an__law_digit_right cd__law_digit_right ct__law_digit_right), sl__law_digit_right⟩)
    (c__law_digit_right : PySem.W.codeIn K cd__law_digit_right "_law_digit_right" = true)
    (k__law_digit_right : PySem.W.keepIn K (.ref f__law_digit_right) = true)
    (a__law_pair_right : PySem.W.nsIn K mainGlobals "_law_pair_right" = some (some (.ref f__law_pair_right)))
    (l__law_pair_right : K.lookup f__law_pair_right = some ⟨oc__law_pair_right, od__law_pair_right, .func (PySem.W.fnOf "_law_pair_right" "_law_pair_right" (C8.fnArgs s__law_pair_right) (C8.fnBody s__law_pair_right) (C8.fnScope s__law_pair_right) .none kV__law_pair_right dc__law_pair_right pm__law_pair_right an__law_pair_right cd__law_pair_right ct__law_pair_right), sl__law_pair_right⟩)
    (c__law_pair_right : PySem.W.codeIn K cd__law_pair_right "_law_pair_right" = true)
    (k__law_pair_right : PySem.W.keepIn K (.ref f__law_pair_right) = true)
    (a_law : PySem.W.nsIn K mainGlobals "law" = some (some (.ref f_law)))
    (l_law : K.lookup f_law = some ⟨oc_law, od_law, .func (PySem.W.fnOf "law" "law" (C8.fnArgs s_law) (C8.fnBody s_law) (C8.fnScope s_law) .none kV_law dc_law pm_law an_law cd_law ct_law), sl_law⟩)
    (c_law : PySem.W.codeIn K cd_law "law" = true)
    (k_law : PySem.W.keepIn K (.ref f_law) = true)
    (e_MOST_STEPS : PySem.W.nsIn K mainGlobals "MOST_STEPS" = some (some (.int 18446744073709551616 tk_MOST_STEPS)))
    (e_MOST_WORDS : PySem.W.nsIn K mainGlobals "MOST_WORDS" = some (some (.int 1000000 tk_MOST_WORDS)))
    (e_DIGITS : PySem.W.nsIn K mainGlobals "DIGITS" = some (some (.int 48 tk_DIGITS)))
    (e_MODULUS : PySem.W.nsIn K mainGlobals "MODULUS" = some (some (.int 281474976710656 tk_MODULUS)))
    (e_MULTIPLIER : PySem.W.nsIn K mainGlobals "MULTIPLIER" = some (some (.int 205891132094649 tk_MULTIPLIER)))
    (e_ADDEND : PySem.W.nsIn K mainGlobals "ADDEND" = some (some (.int 11 tk_ADDEND)))
    (e_LOW_WORD : PySem.W.nsIn K mainGlobals "LOW_WORD" = some (some (.int 65536 tk_LOW_WORD)))
    (q_Linear : PySem.W.nsIn K mainGlobals "Linear" = some (some (.ref C_Linear)))
    (pg_Linear : PySem.W.plainGet K C_Linear Str.empty = true)
    (hd_Linear : PySem.W.hasDictIn K C_Linear = true)
    (po_Linear : PySem.W.plainOver K C_Linear = true)
    (sa_Linear : PySem.W.findIn K (.ref C_Linear) "__setattr__" = some (some (.builtin "object.__setattr__")))
    (ha_Linear : PySem.W.findIn K (.ref C_Linear) "__class__" = some (some (.builtin "object.__class__")))
    (hn_Linear : PySem.W.specialIn K (.builtin "object.__class__") "__get__" = some (some (.builtin "getset_descriptor.__get__")))
    (ht_Linear : PySem.W.takesIn K (.builtin "object.__class__") = some true)
    (hm_Linear : PySem.W.mroIn K C_Linear (.type "object") = some true)
    (na_Linear_s2_x : PySem.W.findIn K (.ref C_Linear) "s2_x" = some none)
    (q_DrawError : PySem.W.nsIn K mainGlobals "DrawError" = some (some (.ref C_DrawError)))
    (rd_DrawError : PySem.W.readsIn K C_DrawError (.type "type") = true)
    (rg_DrawError : PySem.W.specialIn K (.ref C_DrawError) "__getattribute__" = some (some (.builtin "type.__getattribute__")))
    (fi_DrawError : PySem.W.findCls K (.ref C_DrawError) (.type "type") "__init__" = some (.val (.builtin "ValueError.__init__")))
    (osf_Linear_rshift : PySem.W.selfFirst K C_Linear = true)
    (orr_Linear_rshift : PySem.W.findIn K (.ref C_Linear) (PySem.dunderR "rshift") = some none)
    (oa_Linear_rshift_int : PySem.W.findIn K (.type "int") (PySem.dunder "rshift") = some fo_Linear_rshift_int)
    (oR_Linear_rshift_int : PySem.W.findIn K (.type "int") (PySem.dunderR "rshift") = some ro_Linear_rshift_int)
    (os_Linear_rshift_int : PySem.W.subIn K (.type "int") (.ref C_Linear) = some false)
    (osf_Linear_lshift : PySem.W.selfFirst K C_Linear = true)
    (orr_Linear_lshift : PySem.W.findIn K (.ref C_Linear) (PySem.dunderR "lshift") = some none)
    (oa_Linear_lshift_int : PySem.W.findIn K (.type "int") (PySem.dunder "lshift") = some fo_Linear_lshift_int)
    (oR_Linear_lshift_int : PySem.W.findIn K (.type "int") (PySem.dunderR "lshift") = some ro_Linear_lshift_int)
    (os_Linear_lshift_int : PySem.W.subIn K (.type "int") (.ref C_Linear) = some false)
    (ha_BadState : PySem.W.findIn K (.ref C_BadState) "__class__" = some (some (.builtin "object.__class__")))
    (hn_BadState : PySem.W.specialIn K (.builtin "object.__class__") "__get__" = some (some (.builtin "getset_descriptor.__get__")))
    (ht_BadState : PySem.W.takesIn K (.builtin "object.__class__") = some true)
    (hm_BadState : PySem.W.mroIn K C_BadState (.type "object") = some true)
    (ha_BadSteps : PySem.W.findIn K (.ref C_BadSteps) "__class__" = some (some (.builtin "object.__class__")))
    (hn_BadSteps : PySem.W.specialIn K (.builtin "object.__class__") "__get__" = some (some (.builtin "getset_descriptor.__get__")))
    (ht_BadSteps : PySem.W.takesIn K (.builtin "object.__class__") = some true)
    (hm_BadSteps : PySem.W.mroIn K C_BadSteps (.type "object") = some true)
    (ha_BadNumber : PySem.W.findIn K (.ref C_BadNumber) "__class__" = some (some (.builtin "object.__class__")))
    (hn_BadNumber : PySem.W.specialIn K (.builtin "object.__class__") "__get__" = some (some (.builtin "getset_descriptor.__get__")))
    (ht_BadNumber : PySem.W.takesIn K (.builtin "object.__class__") = some true)
    (hm_BadNumber : PySem.W.mroIn K C_BadNumber (.type "object") = some true)
    (ha_BadSource : PySem.W.findIn K (.ref C_BadSource) "__class__" = some (some (.builtin "object.__class__")))
    (hn_BadSource : PySem.W.specialIn K (.builtin "object.__class__") "__get__" = some (some (.builtin "getset_descriptor.__get__")))
    (ht_BadSource : PySem.W.takesIn K (.builtin "object.__class__") = some true)
    (hm_BadSource : PySem.W.mroIn K C_BadSource (.type "object") = some true)
    (q_BadState : PySem.W.nsIn K mainGlobals "BadState" = some (some (.ref C_BadState)))
    (in_BadState : PySem.W.excInitIn K C_BadState [.type "ValueError", .type "Exception", .type "BaseException", .type "object"] "ValueError.__new__" = true)
    (ov_BadState : PySem.W.excOver K C_BadState [.type "ValueError", .type "Exception", .type "BaseException", .type "object"] = true)
    (hd_BadState : PySem.W.hasDictIn K C_BadState = true)
    (sa_BadState : PySem.W.findIn K (.ref C_BadState) "__setattr__" = some (some (.builtin "object.__setattr__")))
    (ex_BadState : PySem.W.subIn K (.ref C_BadState) (.type "BaseException") = some true)
    (ty_BadState : PySem.W.typeIn K (.ref C_BadState) = some (.type "type"))
    (kc_BadState : PySem.W.keepIn K (.ref C_BadState) = true)
    (ga_BadState : PySem.W.findIn K (.ref C_BadState) "__getattribute__" = some (some (.builtin "BaseException.__getattribute__")))
    (gg_BadState : PySem.W.findIn K (.ref C_BadState) "__getattr__" = some none)
    (na_BadState : PySem.W.findIn K (.ref C_BadState) "given" = some none)
    (tk_BadState : PySem.W.takerIn K C_BadState "given" = some none)
    (sb_BadState : PySem.W.subIn K (.ref C_BadState) (.ref C_BadState) = some true)
    (q_BadSteps : PySem.W.nsIn K mainGlobals "BadSteps" = some (some (.ref C_BadSteps)))
    (in_BadSteps : PySem.W.excInitIn K C_BadSteps [.type "ValueError", .type "Exception", .type "BaseException", .type "object"] "ValueError.__new__" = true)
    (ov_BadSteps : PySem.W.excOver K C_BadSteps [.type "ValueError", .type "Exception", .type "BaseException", .type "object"] = true)
    (hd_BadSteps : PySem.W.hasDictIn K C_BadSteps = true)
    (sa_BadSteps : PySem.W.findIn K (.ref C_BadSteps) "__setattr__" = some (some (.builtin "object.__setattr__")))
    (ex_BadSteps : PySem.W.subIn K (.ref C_BadSteps) (.type "BaseException") = some true)
    (ty_BadSteps : PySem.W.typeIn K (.ref C_BadSteps) = some (.type "type"))
    (kc_BadSteps : PySem.W.keepIn K (.ref C_BadSteps) = true)
    (ga_BadSteps : PySem.W.findIn K (.ref C_BadSteps) "__getattribute__" = some (some (.builtin "BaseException.__getattribute__")))
    (gg_BadSteps : PySem.W.findIn K (.ref C_BadSteps) "__getattr__" = some none)
    (na_BadSteps : PySem.W.findIn K (.ref C_BadSteps) "given" = some none)
    (tk_BadSteps : PySem.W.takerIn K C_BadSteps "given" = some none)
    (sb_BadSteps : PySem.W.subIn K (.ref C_BadSteps) (.ref C_BadSteps) = some true)
    (q_BadNumber : PySem.W.nsIn K mainGlobals "BadNumber" = some (some (.ref C_BadNumber)))
    (in_BadNumber : PySem.W.excInitIn K C_BadNumber [.type "ValueError", .type "Exception", .type "BaseException", .type "object"] "ValueError.__new__" = true)
    (ov_BadNumber : PySem.W.excOver K C_BadNumber [.type "ValueError", .type "Exception", .type "BaseException", .type "object"] = true)
    (hd_BadNumber : PySem.W.hasDictIn K C_BadNumber = true)
    (sa_BadNumber : PySem.W.findIn K (.ref C_BadNumber) "__setattr__" = some (some (.builtin "object.__setattr__")))
    (ex_BadNumber : PySem.W.subIn K (.ref C_BadNumber) (.type "BaseException") = some true)
    (ty_BadNumber : PySem.W.typeIn K (.ref C_BadNumber) = some (.type "type"))
    (kc_BadNumber : PySem.W.keepIn K (.ref C_BadNumber) = true)
    (ga_BadNumber : PySem.W.findIn K (.ref C_BadNumber) "__getattribute__" = some (some (.builtin "BaseException.__getattribute__")))
    (gg_BadNumber : PySem.W.findIn K (.ref C_BadNumber) "__getattr__" = some none)
    (na_BadNumber : PySem.W.findIn K (.ref C_BadNumber) "given" = some none)
    (tk_BadNumber : PySem.W.takerIn K C_BadNumber "given" = some none)
    (sb_BadNumber : PySem.W.subIn K (.ref C_BadNumber) (.ref C_BadNumber) = some true)
    (q_BadSource : PySem.W.nsIn K mainGlobals "BadSource" = some (some (.ref C_BadSource)))
    (in_BadSource : PySem.W.excInitIn K C_BadSource [.type "ValueError", .type "Exception", .type "BaseException", .type "object"] "ValueError.__new__" = true)
    (ov_BadSource : PySem.W.excOver K C_BadSource [.type "ValueError", .type "Exception", .type "BaseException", .type "object"] = true)
    (hd_BadSource : PySem.W.hasDictIn K C_BadSource = true)
    (sa_BadSource : PySem.W.findIn K (.ref C_BadSource) "__setattr__" = some (some (.builtin "object.__setattr__")))
    (ex_BadSource : PySem.W.subIn K (.ref C_BadSource) (.type "BaseException") = some true)
    (ty_BadSource : PySem.W.typeIn K (.ref C_BadSource) = some (.type "type"))
    (kc_BadSource : PySem.W.keepIn K (.ref C_BadSource) = true)
    (ga_BadSource : PySem.W.findIn K (.ref C_BadSource) "__getattribute__" = some (some (.builtin "BaseException.__getattribute__")))
    (gg_BadSource : PySem.W.findIn K (.ref C_BadSource) "__getattr__" = some none)
    (na_BadSource : PySem.W.findIn K (.ref C_BadSource) "given" = some none)
    (tk_BadSource : PySem.W.takerIn K C_BadSource "given" = some none)
    (sb_BadSource : PySem.W.subIn K (.ref C_BadSource) (.ref C_BadSource) = some true)
    (z_bool : PySem.W.nsIn K mainGlobals "bool" = some none)
    (z_enumerate : PySem.W.nsIn K mainGlobals "enumerate" = some none)
    (z_int : PySem.W.nsIn K mainGlobals "int" = some none)
    (z_isinstance : PySem.W.nsIn K mainGlobals "isinstance" = some none)
    (z_len : PySem.W.nsIn K mainGlobals "len" = some none)
    (z_max : PySem.W.nsIn K mainGlobals "max" = some none)
    (z_min : PySem.W.nsIn K mainGlobals "min" = some none)
    (z_range : PySem.W.nsIn K mainGlobals "range" = some none)
    (z_repr : PySem.W.nsIn K mainGlobals "repr" = some none)
    (ob_kt_Linear_int : PySem.W.kitOne K (.ref C_Linear) (.type "int") = some false)
    (ob_kt_BadState_int : PySem.W.kitOne K (.ref C_BadState) (.type "int") = some false)
    (ob_kt_BadSteps_int : PySem.W.kitOne K (.ref C_BadSteps) (.type "int") = some false)
    (ob_kt_BadNumber_int : PySem.W.kitOne K (.ref C_BadNumber) (.type "int") = some false)
    (ob_kt_BadSource_int : PySem.W.kitOne K (.ref C_BadSource) (.type "int") = some false)
    (ob_kt_Linear_bool : PySem.W.kitOne K (.ref C_Linear) (.type "bool") = some false)
    (ob_kt_BadState_bool : PySem.W.kitOne K (.ref C_BadState) (.type "bool") = some false)
    (ob_kt_BadSteps_bool : PySem.W.kitOne K (.ref C_BadSteps) (.type "bool") = some false)
    (ob_kt_BadNumber_bool : PySem.W.kitOne K (.ref C_BadNumber) (.type "bool") = some false)
    (ob_kt_BadSource_bool : PySem.W.kitOne K (.ref C_BadSource) (.type "bool") = some false)
    (ob_kt_NoneType_Linear : PySem.W.kitOne K (.type "NoneType") (.ref C_Linear) = some false)
    (ob_kt_bool_Linear : PySem.W.kitOne K (.type "bool") (.ref C_Linear) = some false)
    (ob_kt_int_Linear : PySem.W.kitOne K (.type "int") (.ref C_Linear) = some false)
    (ob_kt_str_Linear : PySem.W.kitOne K (.type "str") (.ref C_Linear) = some false)
    (ob_kt_tuple_Linear : PySem.W.kitOne K (.type "tuple") (.ref C_Linear) = some false)
    (ob_kt_list_Linear : PySem.W.kitOne K (.type "list") (.ref C_Linear) = some false)
    (ob_kt_dict_Linear : PySem.W.kitOne K (.type "dict") (.ref C_Linear) = some false)
    (ob_kt_BadState_Linear : PySem.W.kitOne K (.ref C_BadState) (.ref C_Linear) = some false)
    (ob_kt_BadSteps_Linear : PySem.W.kitOne K (.ref C_BadSteps) (.ref C_Linear) = some false)
    (ob_kt_BadNumber_Linear : PySem.W.kitOne K (.ref C_BadNumber) (.ref C_Linear) = some false)
    (ob_kt_BadSource_Linear : PySem.W.kitOne K (.ref C_BadSource) (.ref C_Linear) = some false)
    (ob_ns_BadState : PySem.W.subIn K (.ref C_BadState) (.type "StopIteration") = some false)
    (ob_ns_BadSteps : PySem.W.subIn K (.ref C_BadSteps) (.type "StopIteration") = some false)
    (ob_ns_BadNumber : PySem.W.subIn K (.ref C_BadNumber) (.type "StopIteration") = some false)
    (ob_ns_BadSource : PySem.W.subIn K (.ref C_BadSource) (.type "StopIteration") = some false)
    : Txt K mg C_Linear C_DrawError C_BadState C_BadSteps C_BadNumber C_BadSource :=
  { d_BadState___init__ := ⟨f_BadState___init__, _, a_BadState___init__, ti_BadState___init__, ⟨⟨oc_BadState___init__, od_BadState___init__, .none, kV_BadState___init__, dc_BadState___init__, pm_BadState___init__, an_BadState___init__, cd_BadState___init__, ct_BadState___init__, sl_BadState___init__, rfl, l_BadState___init__, c_BadState___init__⟩⟩, C8.Fun.binds (x := "__init__") (qual := "BadState.__init__") (st := s_BadState___init__) (f := f_BadState___init__) ⟨⟨oc_BadState___init__, od_BadState___init__, .none, kV_BadState___init__, dc_BadState___init__, pm_BadState___init__, an_BadState___init__, cd_BadState___init__, ct_BadState___init__, sl_BadState___init__, rfl, l_BadState___init__, c_BadState___init__⟩⟩ rfl (fun _ _ _ _ _ _ us hl => match us, hl with | [_, _], _ => rfl)⟩,
    d_BadSteps___init__ := ⟨f_BadSteps___init__, _, a_BadSteps___init__, ti_BadSteps___init__, ⟨⟨oc_BadSteps___init__, od_BadSteps___init__, .none, kV_BadSteps___init__, dc_BadSteps___init__, pm_BadSteps___init__, an_BadSteps___init__, cd_BadSteps___init__, ct_BadSteps___init__, sl_BadSteps___init__, rfl, l_BadSteps___init__, c_BadSteps___init__⟩⟩, C8.Fun.binds (x := "__init__") (qual := "BadSteps.__init__") (st := s_BadSteps___init__) (f := f_BadSteps___init__) ⟨⟨oc_BadSteps___init__, od_BadSteps___init__, .none, kV_BadSteps___init__, dc_BadSteps___init__, pm_BadSteps___init__, an_BadSteps___init__, cd_BadSteps___init__, ct_BadSteps___init__, sl_BadSteps___init__, rfl, l_BadSteps___init__, c_BadSteps___init__⟩⟩ rfl (fun _ _ _ _ _ _ us hl => match us, hl with | [_, _], _ => rfl)⟩,
    d_BadNumber___init__ := ⟨f_BadNumber___init__, _, a_BadNumber___init__, ti_BadNumber___init__, ⟨⟨oc_BadNumber___init__, od_BadNumber___init__, .none, kV_BadNumber___init__, dc_BadNumber___init__, pm_BadNumber___init__, an_BadNumber___init__, cd_BadNumber___init__, ct_BadNumber___init__, sl_BadNumber___init__, rfl, l_BadNumber___init__, c_BadNumber___init__⟩⟩, C8.Fun.binds (x := "__init__") (qual := "BadNumber.__init__") (st := s_BadNumber___init__) (f := f_BadNumber___init__) ⟨⟨oc_BadNumber___init__, od_BadNumber___init__, .none, kV_BadNumber___init__, dc_BadNumber___init__, pm_BadNumber___init__, an_BadNumber___init__, cd_BadNumber___init__, ct_BadNumber___init__, sl_BadNumber___init__, rfl, l_BadNumber___init__, c_BadNumber___init__⟩⟩ rfl (fun _ _ _ _ _ _ us hl => match us, hl with | [_, _], _ => rfl)⟩,
    d_BadSource___init__ := ⟨f_BadSource___init__, _, a_BadSource___init__, ti_BadSource___init__, ⟨⟨oc_BadSource___init__, od_BadSource___init__, .none, kV_BadSource___init__, dc_BadSource___init__, pm_BadSource___init__, an_BadSource___init__, cd_BadSource___init__, ct_BadSource___init__, sl_BadSource___init__, rfl, l_BadSource___init__, c_BadSource___init__⟩⟩, C8.Fun.binds (x := "__init__") (qual := "BadSource.__init__") (st := s_BadSource___init__) (f := f_BadSource___init__) ⟨⟨oc_BadSource___init__, od_BadSource___init__, .none, kV_BadSource___init__, dc_BadSource___init__, pm_BadSource___init__, an_BadSource___init__, cd_BadSource___init__, ct_BadSource___init__, sl_BadSource___init__, rfl, l_BadSource___init__, c_BadSource___init__⟩⟩ rfl (fun _ _ _ _ _ _ us hl => match us, hl with | [_, _], _ => rfl)⟩,
    d_is_integer := ⟨f_is_integer, _, ⟨⟨⟨oc_is_integer, od_is_integer, .none, kV_is_integer, dc_is_integer, pm_is_integer, an_is_integer, cd_is_integer, ct_is_integer, sl_is_integer, rfl, l_is_integer, c_is_integer⟩⟩, PySem.W.mg_of X G a_is_integer, k_is_integer⟩, C8.Fun.binds (x := "is_integer") (qual := "is_integer") (st := s_is_integer) (f := f_is_integer) ⟨⟨oc_is_integer, od_is_integer, .none, kV_is_integer, dc_is_integer, pm_is_integer, an_is_integer, cd_is_integer, ct_is_integer, sl_is_integer, rfl, l_is_integer, c_is_integer⟩⟩ rfl (fun _ _ _ _ _ _ us hl => match us, hl with | [_], _ => rfl)⟩,
    d_need_steps := ⟨f_need_steps, _, ⟨⟨⟨oc_need_steps, od_need_steps, .none, kV_need_steps, dc_need_steps, pm_need_steps, an_need_steps, cd_need_steps, ct_need_steps, sl_need_steps, rfl, l_need_steps, c_need_steps⟩⟩, PySem.W.mg_of X G a_need_steps, k_need_steps⟩, C8.Fun.binds (x := "need_steps") (qual := "need_steps") (st := s_need_steps) (f := f_need_steps) ⟨⟨oc_need_steps, od_need_steps, .none, kV_need_steps, dc_need_steps, pm_need_steps, an_need_steps, cd_need_steps, ct_need_steps, sl_need_steps, rfl, l_need_steps, c_need_steps⟩⟩ rfl (fun _ _ _ _ _ _ us hl => match us, hl with | [_], _ => rfl)⟩,
    d_need_many := ⟨f_need_many, _, ⟨⟨⟨oc_need_many, od_need_many, .none, kV_need_many, dc_need_many, pm_need_many, an_need_many, cd_need_many, ct_need_many, sl_need_many, rfl, l_need_many, c_need_many⟩⟩, PySem.W.mg_of X G a_need_many, k_need_many⟩, C8.Fun.binds (x := "need_many") (qual := "need_many") (st := s_need_many) (f := f_need_many) ⟨⟨oc_need_many, od_need_many, .none, kV_need_many, dc_need_many, pm_need_many, an_need_many, cd_need_many, ct_need_many, sl_need_many, rfl, l_need_many, c_need_many⟩⟩ rfl (fun _ _ _ _ _ _ us hl => match us, hl with | [_], _ => rfl)⟩,
    d_s2_is_number := ⟨f_s2_is_number, _, ⟨⟨⟨oc_s2_is_number, od_s2_is_number, .none, kV_s2_is_number, dc_s2_is_number, pm_s2_is_number, an_s2_is_number, cd_s2_is_number, ct_s2_is_number, sl_s2_is_number, rfl, l_s2_is_number, c_s2_is_number⟩⟩, PySem.W.mg_of X G a_s2_is_number, k_s2_is_number⟩, C8.Fun.binds (x := "s2_is_number") (qual := "s2_is_number") (st := s_s2_is_number) (f := f_s2_is_number) ⟨⟨oc_s2_is_number, od_s2_is_number, .none, kV_s2_is_number, dc_s2_is_number, pm_s2_is_number, an_s2_is_number, cd_s2_is_number, ct_s2_is_number, sl_s2_is_number, rfl, l_s2_is_number, c_s2_is_number⟩⟩ rfl (fun _ _ _ _ _ _ us hl => match us, hl with | [_], _ => rfl)⟩,
    d_s2_need_start := ⟨f_s2_need_start, _, ⟨⟨⟨oc_s2_need_start, od_s2_need_start, .none, kV_s2_need_start, dc_s2_need_start, pm_s2_need_start, an_s2_need_start, cd_s2_need_start, ct_s2_need_start, sl_s2_need_start, rfl, l_s2_need_start, c_s2_need_start⟩⟩, PySem.W.mg_of X G a_s2_need_start, k_s2_need_start⟩, C8.Fun.binds (x := "s2_need_start") (qual := "s2_need_start") (st := s_s2_need_start) (f := f_s2_need_start) ⟨⟨oc_s2_need_start, od_s2_need_start, .none, kV_s2_need_start, dc_s2_need_start, pm_s2_need_start, an_s2_need_start, cd_s2_need_start, ct_s2_need_start, sl_s2_need_start, rfl, l_s2_need_start, c_s2_need_start⟩⟩ rfl (fun _ _ _ _ _ _ us hl => match us, hl with | [_], _ => rfl)⟩,
    d_s2_joined := ⟨f_s2_joined, _, ⟨⟨⟨oc_s2_joined, od_s2_joined, .none, kV_s2_joined, dc_s2_joined, pm_s2_joined, an_s2_joined, cd_s2_joined, ct_s2_joined, sl_s2_joined, rfl, l_s2_joined, c_s2_joined⟩⟩, PySem.W.mg_of X G a_s2_joined, k_s2_joined⟩, C8.Fun.binds (x := "s2_joined") (qual := "s2_joined") (st := s_s2_joined) (f := f_s2_joined) ⟨⟨oc_s2_joined, od_s2_joined, .none, kV_s2_joined, dc_s2_joined, pm_s2_joined, an_s2_joined, cd_s2_joined, ct_s2_joined, sl_s2_joined, rfl, l_s2_joined, c_s2_joined⟩⟩ rfl (fun _ _ _ _ _ _ us hl => match us, hl with | [_, _], _ => rfl)⟩,
    d_s2_step_map := ⟨f_s2_step_map, _, ⟨⟨⟨oc_s2_step_map, od_s2_step_map, .none, kV_s2_step_map, dc_s2_step_map, pm_s2_step_map, an_s2_step_map, cd_s2_step_map, ct_s2_step_map, sl_s2_step_map, rfl, l_s2_step_map, c_s2_step_map⟩⟩, PySem.W.mg_of X G a_s2_step_map, k_s2_step_map⟩, C8.Fun.binds (x := "s2_step_map") (qual := "s2_step_map") (st := s_s2_step_map) (f := f_s2_step_map) ⟨⟨oc_s2_step_map, od_s2_step_map, .none, kV_s2_step_map, dc_s2_step_map, pm_s2_step_map, an_s2_step_map, cd_s2_step_map, ct_s2_step_map, sl_s2_step_map, rfl, l_s2_step_map, c_s2_step_map⟩⟩ rfl (fun _ _ _ _ _ _ us hl => match us, hl with | [_], _ => rfl)⟩,
    d_s2_mapped := ⟨f_s2_mapped, _, ⟨⟨⟨oc_s2_mapped, od_s2_mapped, .none, kV_s2_mapped, dc_s2_mapped, pm_s2_mapped, an_s2_mapped, cd_s2_mapped, ct_s2_mapped, sl_s2_mapped, rfl, l_s2_mapped, c_s2_mapped⟩⟩, PySem.W.mg_of X G a_s2_mapped, k_s2_mapped⟩, C8.Fun.binds (x := "s2_mapped") (qual := "s2_mapped") (st := s_s2_mapped) (f := f_s2_mapped) ⟨⟨oc_s2_mapped, od_s2_mapped, .none, kV_s2_mapped, dc_s2_mapped, pm_s2_mapped, an_s2_mapped, cd_s2_mapped, ct_s2_mapped, sl_s2_mapped, rfl, l_s2_mapped, c_s2_mapped⟩⟩ rfl (fun _ _ _ _ _ _ us hl => match us, hl with | [_, _], _ => rfl)⟩,
    d_s2_moved := ⟨f_s2_moved, _, ⟨⟨⟨oc_s2_moved, od_s2_moved, .none, kV_s2_moved, dc_s2_moved, pm_s2_moved, an_s2_moved, cd_s2_moved, ct_s2_moved, sl_s2_moved, rfl, l_s2_moved, c_s2_moved⟩⟩, PySem.W.mg_of X G a_s2_moved, k_s2_moved⟩, C8.Fun.binds (x := "s2_moved") (qual := "s2_moved") (st := s_s2_moved) (f := f_s2_moved) ⟨⟨oc_s2_moved, od_s2_moved, .none, kV_s2_moved, dc_s2_moved, pm_s2_moved, an_s2_moved, cd_s2_moved, ct_s2_moved, sl_s2_moved, rfl, l_s2_moved, c_s2_moved⟩⟩ rfl (fun _ _ _ _ _ _ us hl => match us, hl with | [_, _], _ => rfl)⟩,
    d_Linear___init__ := ⟨f_Linear___init__, _, ⟨mk_Linear___init__, a_Linear___init__, i_Linear___init__, kc_Linear___init__⟩, ⟨⟨oc_Linear___init__, od_Linear___init__, .none, kV_Linear___init__, dc_Linear___init__, pm_Linear___init__, an_Linear___init__, cd_Linear___init__, ct_Linear___init__, sl_Linear___init__, rfl, l_Linear___init__, c_Linear___init__⟩⟩, C8.Fun.binds (x := "__init__") (qual := "Linear.__init__") (st := s_Linear___init__) (f := f_Linear___init__) ⟨⟨oc_Linear___init__, od_Linear___init__, .none, kV_Linear___init__, dc_Linear___init__, pm_Linear___init__, an_Linear___init__, cd_Linear___init__, ct_Linear___init__, sl_Linear___init__, rfl, l_Linear___init__, c_Linear___init__⟩⟩ rfl (fun _ _ _ _ _ _ us hl => match us, hl with | [_, _], _ => rfl)⟩,
    d_Linear_next_word := ⟨f_Linear_next_word, _, ⟨a_Linear_next_word, i_Linear_next_word, k_Linear_next_word⟩, ⟨⟨oc_Linear_next_word, od_Linear_next_word, .none, kV_Linear_next_word, dc_Linear_next_word, pm_Linear_next_word, an_Linear_next_word, cd_Linear_next_word, ct_Linear_next_word, sl_Linear_next_word, rfl, l_Linear_next_word, c_Linear_next_word⟩⟩, C8.Fun.binds (x := "next_word") (qual := "Linear.next_word") (st := s_Linear_next_word) (f := f_Linear_next_word) ⟨⟨oc_Linear_next_word, od_Linear_next_word, .none, kV_Linear_next_word, dc_Linear_next_word, pm_Linear_next_word, an_Linear_next_word, cd_Linear_next_word, ct_Linear_next_word, sl_Linear_next_word, rfl, l_Linear_next_word, c_Linear_next_word⟩⟩ rfl (fun _ _ _ _ _ _ us hl => match us, hl with | [_], _ => rfl)⟩,
    d_Linear_words := ⟨f_Linear_words, _, ⟨a_Linear_words, i_Linear_words, k_Linear_words⟩, ⟨⟨oc_Linear_words, od_Linear_words, .none, kV_Linear_words, dc_Linear_words, pm_Linear_words, an_Linear_words, cd_Linear_words, ct_Linear_words, sl_Linear_words, rfl, l_Linear_words, c_Linear_words⟩⟩, C8.Fun.binds (x := "words") (qual := "Linear.words") (st := s_Linear_words) (f := f_Linear_words) ⟨⟨oc_Linear_words, od_Linear_words, .none, kV_Linear_words, dc_Linear_words, pm_Linear_words, an_Linear_words, cd_Linear_words, ct_Linear_words, sl_Linear_words, rfl, l_Linear_words, c_Linear_words⟩⟩ rfl (fun _ _ _ _ _ _ us hl => match us, hl with | [_, _], _ => rfl)⟩,
    d_Linear_state := ⟨p_Linear_state, f_Linear_state, _, ⟨a_Linear_state, g_Linear_state, t_Linear_state, _, r_Linear_state⟩, ⟨⟨oc_Linear_state, od_Linear_state, .none, kV_Linear_state, dc_Linear_state, pm_Linear_state, an_Linear_state, cd_Linear_state, ct_Linear_state, sl_Linear_state, rfl, l_Linear_state, c_Linear_state⟩⟩, C8.Fun.binds (x := "state") (qual := "Linear.state") (st := s_Linear_state) (f := f_Linear_state) ⟨⟨oc_Linear_state, od_Linear_state, .none, kV_Linear_state, dc_Linear_state, pm_Linear_state, an_Linear_state, cd_Linear_state, ct_Linear_state, sl_Linear_state, rfl, l_Linear_state, c_Linear_state⟩⟩ rfl (fun _ _ _ _ _ _ us hl => match us, hl with | [_], _ => rfl)⟩,
    d_Linear_ahead := ⟨f_Linear_ahead, _, ⟨a_Linear_ahead, i_Linear_ahead, k_Linear_ahead⟩, ⟨⟨oc_Linear_ahead, od_Linear_ahead, .none, kV_Linear_ahead, dc_Linear_ahead, pm_Linear_ahead, an_Linear_ahead, cd_Linear_ahead, ct_Linear_ahead, sl_Linear_ahead, rfl, l_Linear_ahead, c_Linear_ahead⟩⟩, C8.Fun.binds (x := "ahead") (qual := "Linear.ahead") (st := s_Linear_ahead) (f := f_Linear_ahead) ⟨⟨oc_Linear_ahead, od_Linear_ahead, .none, kV_Linear_ahead, dc_Linear_ahead, pm_Linear_ahead, an_Linear_ahead, cd_Linear_ahead, ct_Linear_ahead, sl_Linear_ahead, rfl, l_Linear_ahead, c_Linear_ahead⟩⟩ rfl (fun _ _ _ _ _ _ us hl => match us, hl with | [_, _], _ => rfl)⟩,
    d_Linear_behind := ⟨f_Linear_behind, _, ⟨a_Linear_behind, i_Linear_behind, k_Linear_behind⟩, ⟨⟨oc_Linear_behind, od_Linear_behind, .none, kV_Linear_behind, dc_Linear_behind, pm_Linear_behind, an_Linear_behind, cd_Linear_behind, ct_Linear_behind, sl_Linear_behind, rfl, l_Linear_behind, c_Linear_behind⟩⟩, C8.Fun.binds (x := "behind") (qual := "Linear.behind") (st := s_Linear_behind) (f := f_Linear_behind) ⟨⟨oc_Linear_behind, od_Linear_behind, .none, kV_Linear_behind, dc_Linear_behind, pm_Linear_behind, an_Linear_behind, cd_Linear_behind, ct_Linear_behind, sl_Linear_behind, rfl, l_Linear_behind, c_Linear_behind⟩⟩ rfl (fun _ _ _ _ _ _ us hl => match us, hl with | [_, _], _ => rfl)⟩,
    d_Linear___rshift__ := ⟨f_Linear___rshift__, _, ⟨a_Linear___rshift__, i_Linear___rshift__, k_Linear___rshift__⟩, ⟨⟨oc_Linear___rshift__, od_Linear___rshift__, .none, kV_Linear___rshift__, dc_Linear___rshift__, pm_Linear___rshift__, an_Linear___rshift__, cd_Linear___rshift__, ct_Linear___rshift__, sl_Linear___rshift__, rfl, l_Linear___rshift__, c_Linear___rshift__⟩⟩, C8.Fun.binds (x := "__rshift__") (qual := "Linear.__rshift__") (st := s_Linear___rshift__) (f := f_Linear___rshift__) ⟨⟨oc_Linear___rshift__, od_Linear___rshift__, .none, kV_Linear___rshift__, dc_Linear___rshift__, pm_Linear___rshift__, an_Linear___rshift__, cd_Linear___rshift__, ct_Linear___rshift__, sl_Linear___rshift__, rfl, l_Linear___rshift__, c_Linear___rshift__⟩⟩ rfl (fun _ _ _ _ _ _ us hl => match us, hl with | [_, _], _ => rfl)⟩,
    d_Linear___lshift__ := ⟨f_Linear___lshift__, _, ⟨a_Linear___lshift__, i_Linear___lshift__, k_Linear___lshift__⟩, ⟨⟨oc_Linear___lshift__, od_Linear___lshift__, .none, kV_Linear___lshift__, dc_Linear___lshift__, pm_Linear___lshift__, an_Linear___lshift__, cd_Linear___lshift__, ct_Linear___lshift__, sl_Linear___lshift__, rfl, l_Linear___lshift__, c_Linear___lshift__⟩⟩, C8.Fun.binds (x := "__lshift__") (qual := "Linear.__lshift__") (st := s_Linear___lshift__) (f := f_Linear___lshift__) ⟨⟨oc_Linear___lshift__, od_Linear___lshift__, .none, kV_Linear___lshift__, dc_Linear___lshift__, pm_Linear___lshift__, an_Linear___lshift__, cd_Linear___lshift__, ct_Linear___lshift__, sl_Linear___lshift__, rfl, l_Linear___lshift__, c_Linear___lshift__⟩⟩ rfl (fun _ _ _ _ _ _ us hl => match us, hl with | [_, _], _ => rfl)⟩,
    d_s2_need_linear := ⟨f_s2_need_linear, _, ⟨⟨⟨oc_s2_need_linear, od_s2_need_linear, .none, kV_s2_need_linear, dc_s2_need_linear, pm_s2_need_linear, an_s2_need_linear, cd_s2_need_linear, ct_s2_need_linear, sl_s2_need_linear, rfl, l_s2_need_linear, c_s2_need_linear⟩⟩, PySem.W.mg_of X G a_s2_need_linear, k_s2_need_linear⟩, C8.Fun.binds (x := "s2_need_linear") (qual := "s2_need_linear") (st := s_s2_need_linear) (f := f_s2_need_linear) ⟨⟨oc_s2_need_linear, od_s2_need_linear, .none, kV_s2_need_linear, dc_s2_need_linear, pm_s2_need_linear, an_s2_need_linear, cd_s2_need_linear, ct_s2_need_linear, sl_s2_need_linear, rfl, l_s2_need_linear, c_s2_need_linear⟩⟩ rfl (fun _ _ _ _ _ _ us hl => match us, hl with | [_], _ => rfl)⟩,
    d_shared_digits := ⟨f_shared_digits, _, ⟨⟨⟨oc_shared_digits, od_shared_digits, .none, kV_shared_digits, dc_shared_digits, pm_shared_digits, an_shared_digits, cd_shared_digits, ct_shared_digits, sl_shared_digits, rfl, l_shared_digits, c_shared_digits⟩⟩, PySem.W.mg_of X G a_shared_digits, k_shared_digits⟩, C8.Fun.binds (x := "shared_digits") (qual := "shared_digits") (st := s_shared_digits) (f := f_shared_digits) ⟨⟨oc_shared_digits, od_shared_digits, .none, kV_shared_digits, dc_shared_digits, pm_shared_digits, an_shared_digits, cd_shared_digits, ct_shared_digits, sl_shared_digits, rfl, l_shared_digits, c_shared_digits⟩⟩ rfl (fun _ _ _ _ _ _ us hl => match us, hl with | [_, _], _ => rfl)⟩,
    d_digit_period := ⟨f_digit_period, _, ⟨⟨⟨oc_digit_period, od_digit_period, .none, kV_digit_period, dc_digit_period, pm_digit_period, an_digit_period, cd_digit_period, ct_digit_period, sl_digit_period, rfl, l_digit_period, c_digit_period⟩⟩, PySem.W.mg_of X G a_digit_period, k_digit_period⟩, C8.Fun.binds (x := "digit_period") (qual := "digit_period") (st := s_digit_period) (f := f_digit_period) ⟨⟨oc_digit_period, od_digit_period, .none, kV_digit_period, dc_digit_period, pm_digit_period, an_digit_period, cd_digit_period, ct_digit_period, sl_digit_period, rfl, l_digit_period, c_digit_period⟩⟩ rfl (fun _ _ _ _ _ _ us hl => match us, hl with | [_], _ => rfl)⟩,
    d__law_begun := ⟨f__law_begun, _, ⟨⟨⟨oc__law_begun, od__law_begun, .none, kV__law_begun, dc__law_begun, pm__law_begun, an__law_begun, cd__law_begun, ct__law_begun, sl__law_begun, rfl, l__law_begun, c__law_begun⟩⟩, PySem.W.mg_of X G a__law_begun, k__law_begun⟩, C8.Fun.binds (x := "_law_begun") (qual := "_law_begun") (st := s__law_begun) (f := f__law_begun) ⟨⟨oc__law_begun, od__law_begun, .none, kV__law_begun, dc__law_begun, pm__law_begun, an__law_begun, cd__law_begun, ct__law_begun, sl__law_begun, rfl, l__law_begun, c__law_begun⟩⟩ rfl (fun _ _ _ _ _ _ us hl => match us, hl with | [_], _ => rfl)⟩,
    d__law_next := ⟨f__law_next, _, ⟨⟨⟨oc__law_next, od__law_next, .none, kV__law_next, dc__law_next, pm__law_next, an__law_next, cd__law_next, ct__law_next, sl__law_next, rfl, l__law_next, c__law_next⟩⟩, PySem.W.mg_of X G a__law_next, k__law_next⟩, C8.Fun.binds (x := "_law_next") (qual := "_law_next") (st := s__law_next) (f := f__law_next) ⟨⟨oc__law_next, od__law_next, .none, kV__law_next, dc__law_next, pm__law_next, an__law_next, cd__law_next, ct__law_next, sl__law_next, rfl, l__law_next, c__law_next⟩⟩ rfl (fun _ _ _ _ _ _ us hl => match us, hl with | [_, _], _ => rfl)⟩,
    d__law_x := ⟨f__law_x, _, ⟨⟨⟨oc__law_x, od__law_x, .none, kV__law_x, dc__law_x, pm__law_x, an__law_x, cd__law_x, ct__law_x, sl__law_x, rfl, l__law_x, c__law_x⟩⟩, PySem.W.mg_of X G a__law_x, k__law_x⟩, C8.Fun.binds (x := "_law_x") (qual := "_law_x") (st := s__law_x) (f := f__law_x) ⟨⟨oc__law_x, od__law_x, .none, kV__law_x, dc__law_x, pm__law_x, an__law_x, cd__law_x, ct__law_x, sl__law_x, rfl, l__law_x, c__law_x⟩⟩ rfl (fun _ _ _ _ _ _ us hl => match us, hl with | [_], _ => rfl)⟩,
    d__law_steps := ⟨f__law_steps, _, ⟨⟨⟨oc__law_steps, od__law_steps, .none, kV__law_steps, dc__law_steps, pm__law_steps, an__law_steps, cd__law_steps, ct__law_steps, sl__law_steps, rfl, l__law_steps, c__law_steps⟩⟩, PySem.W.mg_of X G a__law_steps, k__law_steps⟩, C8.Fun.binds (x := "_law_steps") (qual := "_law_steps") (st := s__law_steps) (f := f__law_steps) ⟨⟨oc__law_steps, od__law_steps, .none, kV__law_steps, dc__law_steps, pm__law_steps, an__law_steps, cd__law_steps, ct__law_steps, sl__law_steps, rfl, l__law_steps, c__law_steps⟩⟩ rfl (fun _ _ _ _ _ _ us hl => match us, hl with | [_], _ => rfl)⟩,
    d__law_power := ⟨f__law_power, _, ⟨⟨⟨oc__law_power, od__law_power, .none, kV__law_power, dc__law_power, pm__law_power, an__law_power, cd__law_power, ct__law_power, sl__law_power, rfl, l__law_power, c__law_power⟩⟩, PySem.W.mg_of X G a__law_power, k__law_power⟩, C8.Fun.binds (x := "_law_power") (qual := "_law_power") (st := s__law_power) (f := f__law_power) ⟨⟨oc__law_power, od__law_power, .none, kV__law_power, dc__law_power, pm__law_power, an__law_power, cd__law_power, ct__law_power, sl__law_power, rfl, l__law_power, c__law_power⟩⟩ rfl (fun _ _ _ _ _ _ us hl => match us, hl with | [_], _ => rfl)⟩,
    d__law_low_right := ⟨f__law_low_right, _, ⟨⟨⟨oc__law_low_right, od__law_low_right, .none, kV__law_low_right, dc__law_low_right, pm__law_low_right, an__law_low_right, cd__law_low_right, ct__law_low_right, sl__law_low_right, rfl, l__law_low_right, c__law_low_right⟩⟩, PySem.W.mg_of X G a__law_low_right, k__law_low_right⟩, C8.Fun.binds (x := "_law_low_right") (qual := "_law_low_right") (st := s__law_low_right) (f := f__law_low_right) ⟨⟨oc__law_low_right, od__law_low_right, .none, kV__law_low_right, dc__law_low_right, pm__law_low_right, an__law_low_right, cd__law_low_right, ct__law_low_right, sl__law_low_right, rfl, l__law_low_right, c__law_low_right⟩⟩ rfl (fun _ _ _ _ _ _ us hl => match us, hl with | [_, _, _], _ => rfl)⟩,
    d__law_other_right := ⟨f__law_other_right, _, ⟨⟨⟨oc__law_other_right, od__law_other_right, .none, kV__law_other_right, dc__law_other_right, pm__law_other_right, an__law_other_right, cd__law_other_right, ct__law_other_right, sl__law_other_right, rfl, l__law_other_right, c__law_other_right⟩⟩, PySem.W.mg_of X G a__law_other_right, k__law_other_right⟩, C8.Fun.binds (x := "_law_other_right") (qual := "_law_other_right") (st := s__law_other_right) (f := f__law_other_right) ⟨⟨oc__law_other_right, od__law_other_right, .none, kV__law_other_right, dc__law_other_right, pm__law_other_right, an__law_other_right, cd__law_other_right, ct__law_other_right, sl__law_other_right, rfl, l__law_other_right, c__law_other_right⟩⟩ rfl (fun _ _ _ _ _ _ us hl => match us, hl with | [_, _], _ => rfl)⟩,
    d__law_digit_right := ⟨f__law_digit_right, _, ⟨⟨⟨oc__law_digit_right, od__law_digit_right, .none, kV__law_digit_right, dc__law_digit_right, pm__law_digit_right, an__law_digit_right, cd__law_digit_right, ct__law_digit_right, sl__law_digit_right, rfl, l__law_digit_right, c__law_digit_right⟩⟩, PySem.W.mg_of X G a__law_digit_right, k__law_digit_right⟩, C8.Fun.binds (x := "_law_digit_right") (qual := "_law_digit_right") (st := s__law_digit_right) (f := f__law_digit_right) ⟨⟨oc__law_digit_right, od__law_digit_right, .none, kV__law_digit_right, dc__law_digit_right, pm__law_digit_right, an__law_digit_right, cd__law_digit_right, ct__law_digit_right, sl__law_digit_right, rfl, l__law_digit_right, c__law_digit_right⟩⟩ rfl (fun _ _ _ _ _ _ us hl => match us, hl with | [_, _], _ => rfl)⟩,
    d__law_pair_right := ⟨f__law_pair_right, _, ⟨⟨⟨oc__law_pair_right, od__law_pair_right, .none, kV__law_pair_right, dc__law_pair_right, pm__law_pair_right, an__law_pair_right, cd__law_pair_right, ct__law_pair_right, sl__law_pair_right, rfl, l__law_pair_right, c__law_pair_right⟩⟩, PySem.W.mg_of X G a__law_pair_right, k__law_pair_right⟩, C8.Fun.binds (x := "_law_pair_right") (qual := "_law_pair_right") (st := s__law_pair_right) (f := f__law_pair_right) ⟨⟨oc__law_pair_right, od__law_pair_right, .none, kV__law_pair_right, dc__law_pair_right, pm__law_pair_right, an__law_pair_right, cd__law_pair_right, ct__law_pair_right, sl__law_pair_right, rfl, l__law_pair_right, c__law_pair_right⟩⟩ rfl (fun _ _ _ _ _ _ us hl => match us, hl with | [_, _, _, _], _ => rfl)⟩,
    d_law := ⟨f_law, _, ⟨⟨⟨oc_law, od_law, .none, kV_law, dc_law, pm_law, an_law, cd_law, ct_law, sl_law, rfl, l_law, c_law⟩⟩, PySem.W.mg_of X G a_law, k_law⟩, C8.Fun.binds (x := "law") (qual := "law") (st := s_law) (f := f_law) ⟨⟨oc_law, od_law, .none, kV_law, dc_law, pm_law, an_law, cd_law, ct_law, sl_law, rfl, l_law, c_law⟩⟩ rfl (fun _ _ _ _ _ _ us hl => match us, hl with | [_], _ => rfl), fun s v => .of_eq rfl⟩,
    c_MOST_STEPS := ⟨_, PySem.W.mg_of X G e_MOST_STEPS, _, rfl⟩,
    c_MOST_WORDS := ⟨_, PySem.W.mg_of X G e_MOST_WORDS, _, rfl⟩,
    c_DIGITS := ⟨_, PySem.W.mg_of X G e_DIGITS, _, rfl⟩,
    c_MODULUS := ⟨_, PySem.W.mg_of X G e_MODULUS, _, rfl⟩,
    c_MULTIPLIER := ⟨_, PySem.W.mg_of X G e_MULTIPLIER, _, rfl⟩,
    c_ADDEND := ⟨_, PySem.W.mg_of X G e_ADDEND, _, rfl⟩,
    c_LOW_WORD := ⟨_, PySem.W.mg_of X G e_LOW_WORD, _, rfl⟩,
    k_Linear := ⟨_, PySem.W.mg_of X G q_Linear, rfl⟩,
    cl_Linear := ⟨pg_Linear, hd_Linear, po_Linear, sa_Linear⟩,
    is_Linear := ⟨⟨pg_Linear, hd_Linear, po_Linear, sa_Linear⟩, ha_Linear, hn_Linear, ht_Linear, hm_Linear, Rd.kit_self K C_Linear⟩,
    n_Linear_s2_x := na_Linear_s2_x,
    k_DrawError := ⟨_, PySem.W.mg_of X G q_DrawError, rfl⟩,
    g_DrawError := PySem.W.mg_of X G q_DrawError,
    r_DrawError := ⟨rd_DrawError, rg_DrawError⟩,
    i_DrawError := fi_DrawError,
    ol_Linear_rshift := ⟨osf_Linear_rshift, orr_Linear_rshift⟩,
    ot_Linear_rshift_int := ⟨⟨_, oa_Linear_rshift_int⟩, ⟨_, oR_Linear_rshift_int⟩, os_Linear_rshift_int⟩,
    ol_Linear_lshift := ⟨osf_Linear_lshift, orr_Linear_lshift⟩,
    ot_Linear_lshift_int := ⟨⟨_, oa_Linear_lshift_int⟩, ⟨_, oR_Linear_lshift_int⟩, os_Linear_lshift_int⟩,
    e_BadState := ⟨ga_BadState, gg_BadState, ex_BadState, hd_BadState, ha_BadState, hn_BadState, ht_BadState, hm_BadState⟩,
    e_BadSteps := ⟨ga_BadSteps, gg_BadSteps, ex_BadSteps, hd_BadSteps, ha_BadSteps, hn_BadSteps, ht_BadSteps, hm_BadSteps⟩,
    e_BadNumber := ⟨ga_BadNumber, gg_BadNumber, ex_BadNumber, hd_BadNumber, ha_BadNumber, hn_BadNumber, ht_BadNumber, hm_BadNumber⟩,
    e_BadSource := ⟨ga_BadSource, gg_BadSource, ex_BadSource, hd_BadSource, ha_BadSource, hn_BadSource, ht_BadSource, hm_BadSource⟩,
    k_BadState := ⟨_, PySem.W.mg_of X G q_BadState, rfl⟩,
    g_BadState := PySem.W.mg_of X G q_BadState,
    y_BadState := ⟨⟨"ValueError", "ValueError.__new__", _, PySem.F.excBase_ValueError, PySem.F.store_ValueError, in_BadState, ov_BadState⟩, hd_BadState, sa_BadState, ex_BadState, ty_BadState, kc_BadState⟩,
    f_BadState := ⟨ga_BadState, gg_BadState, ex_BadState, hd_BadState⟩,
    n_BadState_given := na_BadState,
    t_BadState_given := tk_BadState,
    m_BadState := PySem.W.exm_ref ex_BadState hd_BadState ty_BadState sb_BadState,
    k_BadSteps := ⟨_, PySem.W.mg_of X G q_BadSteps, rfl⟩,
    g_BadSteps := PySem.W.mg_of X G q_BadSteps,
    y_BadSteps := ⟨⟨"ValueError", "ValueError.__new__", _, PySem.F.excBase_ValueError, PySem.F.store_ValueError, in_BadSteps, ov_BadSteps⟩, hd_BadSteps, sa_BadSteps, ex_BadSteps, ty_BadSteps, kc_BadSteps⟩,
    f_BadSteps := ⟨ga_BadSteps, gg_BadSteps, ex_BadSteps, hd_BadSteps⟩,
    n_BadSteps_given := na_BadSteps,
    t_BadSteps_given := tk_BadSteps,
    m_BadSteps := PySem.W.exm_ref ex_BadSteps hd_BadSteps ty_BadSteps sb_BadSteps,
    k_BadNumber := ⟨_, PySem.W.mg_of X G q_BadNumber, rfl⟩,
    g_BadNumber := PySem.W.mg_of X G q_BadNumber,
    y_BadNumber := ⟨⟨"ValueError", "ValueError.__new__", _, PySem.F.excBase_ValueError, PySem.F.store_ValueError, in_BadNumber, ov_BadNumber⟩, hd_BadNumber, sa_BadNumber, ex_BadNumber, ty_BadNumber, kc_BadNumber⟩,
    f_BadNumber := ⟨ga_BadNumber, gg_BadNumber, ex_BadNumber, hd_BadNumber⟩,
    n_BadNumber_given := na_BadNumber,
    t_BadNumber_given := tk_BadNumber,
    m_BadNumber := PySem.W.exm_ref ex_BadNumber hd_BadNumber ty_BadNumber sb_BadNumber,
    k_BadSource := ⟨_, PySem.W.mg_of X G q_BadSource, rfl⟩,
    g_BadSource := PySem.W.mg_of X G q_BadSource,
    y_BadSource := ⟨⟨"ValueError", "ValueError.__new__", _, PySem.F.excBase_ValueError, PySem.F.store_ValueError, in_BadSource, ov_BadSource⟩, hd_BadSource, sa_BadSource, ex_BadSource, ty_BadSource, kc_BadSource⟩,
    f_BadSource := ⟨ga_BadSource, gg_BadSource, ex_BadSource, hd_BadSource⟩,
    n_BadSource_given := na_BadSource,
    t_BadSource_given := tk_BadSource,
    m_BadSource := PySem.W.exm_ref ex_BadSource hd_BadSource ty_BadSource sb_BadSource,
    b_bool := PySem.W.mg_none_of X G z_bool,
    b_enumerate := PySem.W.mg_none_of X G z_enumerate,
    b_int := PySem.W.mg_none_of X G z_int,
    b_isinstance := PySem.W.mg_none_of X G z_isinstance,
    b_len := PySem.W.mg_none_of X G z_len,
    b_max := PySem.W.mg_none_of X G z_max,
    b_min := PySem.W.mg_none_of X G z_min,
    b_range := PySem.W.mg_none_of X G z_range,
    b_repr := PySem.W.mg_none_of X G z_repr,
    kt_Linear_int := ob_kt_Linear_int,
    kt_BadState_int := ob_kt_BadState_int,
    kt_BadSteps_int := ob_kt_BadSteps_int,
    kt_BadNumber_int := ob_kt_BadNumber_int,
    kt_BadSource_int := ob_kt_BadSource_int,
    kt_Linear_bool := ob_kt_Linear_bool,
    kt_BadState_bool := ob_kt_BadState_bool,
    kt_BadSteps_bool := ob_kt_BadSteps_bool,
    kt_BadNumber_bool := ob_kt_BadNumber_bool,
    kt_BadSource_bool := ob_kt_BadSource_bool,
    kt_NoneType_Linear := ob_kt_NoneType_Linear,
    kt_bool_Linear := ob_kt_bool_Linear,
    kt_int_Linear := ob_kt_int_Linear,
    kt_str_Linear := ob_kt_str_Linear,
    kt_tuple_Linear := ob_kt_tuple_Linear,
    kt_list_Linear := ob_kt_list_Linear,
    kt_dict_Linear := ob_kt_dict_Linear,
    kt_BadState_Linear := ob_kt_BadState_Linear,
    kt_BadSteps_Linear := ob_kt_BadSteps_Linear,
    kt_BadNumber_Linear := ob_kt_BadNumber_Linear,
    kt_BadSource_Linear := ob_kt_BadSource_Linear,
    ns_BadState := ob_ns_BadState,
    ns_BadSteps := ob_ns_BadSteps,
    ns_BadNumber := ob_ns_BadNumber,
    ns_BadSource := ob_ns_BadSource }
end Pf
open PySem PySem.W PyProof.Rows
set_option maxRecDepth 100000 in
set_option maxHeartbeats 0 in
theorem PySem.Challenge.cw_drawstate_k13_whole_digits_and_periods_holds : PySem.Challenge.rw_drawstate_k13_whole_digits_and_periods.Holds := by
  refine Pf.hd ?_
  k_fill
  refine Gx.walkF (l := PySem.Challenge.rw_drawstate_k13_whole_digits_and_periods) (k := 9) (x := "_law_script") rfl rfl ⟨rfl, by decide, by decide⟩ (fun w h Y => PySem.W.kIn_of Y) ?F
  case F =>
    intro w mg fa h Y KX G hmg
    refine' Pf.law_mk hmg (Pf.txt_mk KX G ?a_BadState___init__ ?ti_BadState___init__ ?l_BadState___init__ ?c_BadState___init__ ?a_BadSteps___init__ ?ti_BadSteps___init__ ?l_BadSteps___init__ ?c_BadSteps___init__ ?a_BadNumber___init__ ?ti_BadNumber___init__ ?l_BadNumber___init__ ?c_BadNumber___init__ ?a_BadSource___init__ ?ti_BadSource___init__ ?l_BadSource___init__ ?c_BadSource___init__ ?a_is_integer ?l_is_integer ?c_is_integer ?k_is_integer ?a_need_steps ?l_need_steps ?c_need_steps ?k_need_steps ?a_need_many ?l_need_many ?c_need_many ?k_need_many ?a_s2_is_number ?l_s2_is_number ?c_s2_is_number ?k_s2_is_number ?a_s2_need_start ?l_s2_need_start ?c_s2_need_start ?k_s2_need_start ?a_s2_joined ?l_s2_joined ?c_s2_joined ?k_s2_joined ?a_s2_step_map ?l_s2_step_map ?c_s2_step_map ?k_s2_step_map ?a_s2_mapped ?l_s2_mapped ?c_s2_mapped ?k_s2_mapped ?a_s2_moved ?l_s2_moved ?c_s2_moved ?k_s2_moved ?a_Linear___init__ ?i_Linear___init__ ?l_Linear___init__ ?c_Linear___init__ ?k_Linear___init__ ?mk_Linear___init__ ?kc_Linear___init__ ?a_Linear_next_word ?i_Linear_next_word ?l_Linear_next_word ?c_Linear_next_word ?k_Linear_next_word ?a_Linear_words ?i_Linear_words ?l_Linear_words ?c_Linear_words ?k_Linear_words ?a_Linear_state ?g_Linear_state ?t_Linear_state ?r_Linear_state ?l_Linear_state ?c_Linear_state ?k_Linear_state ?a_Linear_ahead ?i_Linear_ahead ?l_Linear_ahead ?c_Linear_ahead ?k_Linear_ahead ?a_Linear_behind ?i_Linear_behind ?l_Linear_behind ?c_Linear_behind ?k_Linear_behind ?a_Linear___rshift__ ?i_Linear___rshift__ ?l_Linear___rshift__ ?c_Linear___rshift__ ?k_Linear___rshift__ ?a_Linear___lshift__ ?i_Linear___lshift__ ?l_Linear___lshift__ ?c_Linear___lshift__ ?k_Linear___lshift__ ?a_s2_need_linear ?l_s2_need_linear ?c_s2_need_linear ?k_s2_need_linear ?a_shared_digits ?l_shared_digits ?c_shared_digits ?k_shared_digits ?a_digit_period ?l_digit_period ?c_digit_period ?k_digit_period ?a__law_begun ?l__law_begun ?c__law_begun ?k__law_begun ?a__law_next ?l__law_next ?c__law_next ?k__law_next ?a__law_x ?l__law_x ?c__law_x ?k__law_x ?a__law_steps ?l__law_steps ?c__law_steps ?k__law_steps ?a__law_power ?l__law_power ?c__law_power ?k__law_power ?a__law_low_right ?l__law_low_right ?c__law_low_right ?k__law_low_right ?a__law_other_right ?l__law_other_right ?c__law_other_right ?k__law_other_right ?a__law_digit_right ?l__law_digit_right ?c__law_digit_right ?k__law_digit_right ?a__law_pair_right ?l__law_pair_right ?c__law_pair_right ?k__law_pair_right ?a_law ?l_law ?c_law ?k_law ?e_MOST_STEPS ?e_MOST_WORDS ?e_DIGITS ?e_MODULUS ?e_MULTIPLIER ?e_ADDEND ?e_LOW_WORD ?q_Linear ?pg_Linear ?hd_Linear ?po_Linear ?sa_Linear ?ha_Linear ?hn_Linear ?ht_Linear ?hm_Linear ?na_Linear_s2_x ?q_DrawError ?rd_DrawError ?rg_DrawError ?fi_DrawError ?osf_Linear_rshift ?orr_Linear_rshift ?oa_Linear_rshift_int ?oR_Linear_rshift_int ?os_Linear_rshift_int ?osf_Linear_lshift ?orr_Linear_lshift ?oa_Linear_lshift_int ?oR_Linear_lshift_int ?os_Linear_lshift_int ?ha_BadState ?hn_BadState ?ht_BadState ?hm_BadState ?ha_BadSteps ?hn_BadSteps ?ht_BadSteps ?hm_BadSteps ?ha_BadNumber ?hn_BadNumber ?ht_BadNumber ?hm_BadNumber ?ha_BadSource ?hn_BadSource ?ht_BadSource ?hm_BadSource ?q_BadState ?in_BadState ?ov_BadState ?hd_BadState ?sa_BadState ?ex_BadState ?ty_BadState ?kc_BadState ?ga_BadState ?gg_BadState ?na_BadState ?tk_BadState ?sb_BadState ?q_BadSteps ?in_BadSteps ?ov_BadSteps ?hd_BadSteps ?sa_BadSteps ?ex_BadSteps ?ty_BadSteps ?kc_BadSteps ?ga_BadSteps ?gg_BadSteps ?na_BadSteps ?tk_BadSteps ?sb_BadSteps ?q_BadNumber ?in_BadNumber ?ov_BadNumber ?hd_BadNumber ?sa_BadNumber ?ex_BadNumber ?ty_BadNumber ?kc_BadNumber ?ga_BadNumber ?gg_BadNumber ?na_BadNumber ?tk_BadNumber ?sb_BadNumber ?q_BadSource ?in_BadSource ?ov_BadSource ?hd_BadSource ?sa_BadSource ?ex_BadSource ?ty_BadSource ?kc_BadSource ?ga_BadSource ?gg_BadSource ?na_BadSource ?tk_BadSource ?sb_BadSource ?z_bool ?z_enumerate ?z_int ?z_isinstance ?z_len ?z_max ?z_min ?z_range ?z_repr ?ob_kt_Linear_int ?ob_kt_BadState_int ?ob_kt_BadSteps_int ?ob_kt_BadNumber_int ?ob_kt_BadSource_int ?ob_kt_Linear_bool ?ob_kt_BadState_bool ?ob_kt_BadSteps_bool ?ob_kt_BadNumber_bool ?ob_kt_BadSource_bool ?ob_kt_NoneType_Linear ?ob_kt_bool_Linear ?ob_kt_int_Linear ?ob_kt_str_Linear ?ob_kt_tuple_Linear ?ob_kt_list_Linear ?ob_kt_dict_Linear ?ob_kt_BadState_Linear ?ob_kt_BadSteps_Linear ?ob_kt_BadNumber_Linear ?ob_kt_BadSource_Linear ?ob_ns_BadState ?ob_ns_BadSteps ?ob_ns_BadNumber ?ob_ns_BadSource)
    (case q_Linear => k_is)
    (case q_DrawError => k_is)
    (case q_BadState => k_is)
    (case q_BadSteps => k_is)
    (case q_BadNumber => k_is)
    (case q_BadSource => k_is)
    (case a_BadState___init__ => k_is)
    (case ti_BadState___init__ => k_is)
    (case l_BadState___init__ => k_is)
    (case c_BadState___init__ => k_is)
    (case a_BadSteps___init__ => k_is)
    (case ti_BadSteps___init__ => k_is)
    (case l_BadSteps___init__ => k_is)
    (case c_BadSteps___init__ => k_is)
    (case a_BadNumber___init__ => k_is)
    (case ti_BadNumber___init__ => k_is)
    (case l_BadNumber___init__ => k_is)
    (case c_BadNumber___init__ => k_is)
    (case a_BadSource___init__ => k_is)
    (case ti_BadSource___init__ => k_is)
    (case l_BadSource___init__ => k_is)
    (case c_BadSource___init__ => k_is)
    (case a_is_integer => k_is)
    (case l_is_integer => k_is)
    (case c_is_integer => k_is)
    (case k_is_integer => k_is)
    (case a_need_steps => k_is)
    (case l_need_steps => k_is)
    (case c_need_steps => k_is)
    (case k_need_steps => k_is)
    (case a_need_many => k_is)
    (case l_need_many => k_is)
    (case c_need_many => k_is)
    (case k_need_many => k_is)
    (case a_s2_is_number => k_is)
    (case l_s2_is_number => k_is)
    (case c_s2_is_number => k_is)
    (case k_s2_is_number => k_is)
    (case a_s2_need_start => k_is)
    (case l_s2_need_start => k_is)
    (case c_s2_need_start => k_is)
    (case k_s2_need_start => k_is)
    (case a_s2_joined => k_is)
    (case l_s2_joined => k_is)
    (case c_s2_joined => k_is)
    (case k_s2_joined => k_is)
    (case a_s2_step_map => k_is)
    (case l_s2_step_map => k_is)
    (case c_s2_step_map => k_is)
    (case k_s2_step_map => k_is)
    (case a_s2_mapped => k_is)
    (case l_s2_mapped => k_is)
    (case c_s2_mapped => k_is)
    (case k_s2_mapped => k_is)
    (case a_s2_moved => k_is)
    (case l_s2_moved => k_is)
    (case c_s2_moved => k_is)
    (case k_s2_moved => k_is)
    (case a_Linear___init__ => k_is)
    (case i_Linear___init__ => k_is)
    (case l_Linear___init__ => k_is)
    (case c_Linear___init__ => k_is)
    (case k_Linear___init__ => k_is)
    (case mk_Linear___init__ => k_is)
    (case kc_Linear___init__ => k_is)
    (case a_Linear_next_word => k_is)
    (case i_Linear_next_word => k_is)
    (case l_Linear_next_word => k_is)
    (case c_Linear_next_word => k_is)
    (case k_Linear_next_word => k_is)
    (case a_Linear_words => k_is)
    (case i_Linear_words => k_is)
    (case l_Linear_words => k_is)
    (case c_Linear_words => k_is)
    (case k_Linear_words => k_is)
    (case a_Linear_state => k_is)
    (case g_Linear_state => k_is)
    (case t_Linear_state => k_is)
    (case r_Linear_state => k_is)
    (case l_Linear_state => k_is)
    (case c_Linear_state => k_is)
    (case k_Linear_state => k_is)
    (case a_Linear_ahead => k_is)
    (case i_Linear_ahead => k_is)
    (case l_Linear_ahead => k_is)
    (case c_Linear_ahead => k_is)
    (case k_Linear_ahead => k_is)
    (case a_Linear_behind => k_is)
    (case i_Linear_behind => k_is)
    (case l_Linear_behind => k_is)
    (case c_Linear_behind => k_is)
    (case k_Linear_behind => k_is)
    (case a_Linear___rshift__ => k_is)
    (case i_Linear___rshift__ => k_is)
    (case l_Linear___rshift__ => k_is)
    (case c_Linear___rshift__ => k_is)
    (case k_Linear___rshift__ => k_is)
    (case a_Linear___lshift__ => k_is)
    (case i_Linear___lshift__ => k_is)
    (case l_Linear___lshift__ => k_is)
    (case c_Linear___lshift__ => k_is)
    (case k_Linear___lshift__ => k_is)
    (case a_s2_need_linear => k_is)
    (case l_s2_need_linear => k_is)
    (case c_s2_need_linear => k_is)
    (case k_s2_need_linear => k_is)
    (case a_shared_digits => k_is)
    (case l_shared_digits => k_is)
    (case c_shared_digits => k_is)
    (case k_shared_digits => k_is)
    (case a_digit_period => k_is)
    (case l_digit_period => k_is)
    (case c_digit_period => k_is)
    (case k_digit_period => k_is)
    (case a__law_begun => k_is)
    (case l__law_begun => k_is)
    (case c__law_begun => k_is)
    (case k__law_begun => k_is)
    (case a__law_next => k_is)
    (case l__law_next => k_is)
    (case c__law_next => k_is)
    (case k__law_next => k_is)
    (case a__law_x => k_is)
    (case l__law_x => k_is)
    (case c__law_x => k_is)
    (case k__law_x => k_is)
    (case a__law_steps => k_is)
    (case l__law_steps => k_is)
    (case c__law_steps => k_is)
    (case k__law_steps => k_is)
    (case a__law_power => k_is)
    (case l__law_power => k_is)
    (case c__law_power => k_is)
    (case k__law_power => k_is)
    (case a__law_low_right => k_is)
    (case l__law_low_right => k_is)
    (case c__law_low_right => k_is)
    (case k__law_low_right => k_is)
    (case a__law_other_right => k_is)
    (case l__law_other_right => k_is)
    (case c__law_other_right => k_is)
    (case k__law_other_right => k_is)
    (case a__law_digit_right => k_is)
    (case l__law_digit_right => k_is)
    (case c__law_digit_right => k_is)
    (case k__law_digit_right => k_is)
    (case a__law_pair_right => k_is)
    (case l__law_pair_right => k_is)
    (case c__law_pair_right => k_is)
    (case k__law_pair_right => k_is)
    (case a_law => k_is)
    (case l_law => k_is)
    (case c_law => k_is)
    (case k_law => k_is)
    (case e_MOST_STEPS => k_is)
    (case e_MOST_WORDS => k_is)
    (case e_DIGITS => k_is)
    (case e_MODULUS => k_is)
    (case e_MULTIPLIER => k_is)
    (case e_ADDEND => k_is)
    (case e_LOW_WORD => k_is)
    (case pg_Linear => k_is)
    (case hd_Linear => k_is)
    (case po_Linear => k_is)
    (case sa_Linear => k_is)
    (case ha_Linear => k_is)
    (case hn_Linear => k_is)
    (case ht_Linear => k_is)
    (case hm_Linear => k_is)
    (case na_Linear_s2_x => k_is)
    (case rd_DrawError => k_is)
    (case rg_DrawError => k_is)
    (case fi_DrawError => k_is)
    (case osf_Linear_rshift => k_is)
    (case orr_Linear_rshift => k_is)
    (case oa_Linear_rshift_int => k_is)
    (case oR_Linear_rshift_int => k_is)
    (case os_Linear_rshift_int => k_is)
    (case osf_Linear_lshift => k_is)
    (case orr_Linear_lshift => k_is)
    (case oa_Linear_lshift_int => k_is)
    (case oR_Linear_lshift_int => k_is)
    (case os_Linear_lshift_int => k_is)
    (case ha_BadState => k_is)
    (case hn_BadState => k_is)
    (case ht_BadState => k_is)
    (case hm_BadState => k_is)
    (case ha_BadSteps => k_is)
    (case hn_BadSteps => k_is)
    (case ht_BadSteps => k_is)
    (case hm_BadSteps => k_is)
    (case ha_BadNumber => k_is)
    (case hn_BadNumber => k_is)
    (case ht_BadNumber => k_is)
    (case hm_BadNumber => k_is)
    (case ha_BadSource => k_is)
    (case hn_BadSource => k_is)
    (case ht_BadSource => k_is)
    (case hm_BadSource => k_is)
    (case in_BadState => kernel_rfl)
    (case ov_BadState => kernel_rfl)
    (case hd_BadState => k_is)
    (case sa_BadState => k_is)
    (case ex_BadState => k_is)
    (case ty_BadState => k_is)
    (case kc_BadState => k_is)
    (case ga_BadState => k_is)
    (case gg_BadState => k_is)
    (case na_BadState => k_is)
    (case tk_BadState => k_is)
    (case sb_BadState => k_is)
    (case in_BadSteps => kernel_rfl)
    (case ov_BadSteps => kernel_rfl)
    (case hd_BadSteps => k_is)
    (case sa_BadSteps => k_is)
    (case ex_BadSteps => k_is)
    (case ty_BadSteps => k_is)
    (case kc_BadSteps => k_is)
    (case ga_BadSteps => k_is)
    (case gg_BadSteps => k_is)
    (case na_BadSteps => k_is)
    (case tk_BadSteps => k_is)
    (case sb_BadSteps => k_is)
    (case in_BadNumber => kernel_rfl)
    (case ov_BadNumber => kernel_rfl)
    (case hd_BadNumber => k_is)
    (case sa_BadNumber => k_is)
    (case ex_BadNumber => k_is)
    (case ty_BadNumber => k_is)
    (case kc_BadNumber => k_is)
    (case ga_BadNumber => k_is)
    (case gg_BadNumber => k_is)
    (case na_BadNumber => k_is)
    (case tk_BadNumber => k_is)
    (case sb_BadNumber => k_is)
    (case in_BadSource => kernel_rfl)
    (case ov_BadSource => kernel_rfl)
    (case hd_BadSource => k_is)
    (case sa_BadSource => k_is)
    (case ex_BadSource => k_is)
    (case ty_BadSource => k_is)
    (case kc_BadSource => k_is)
    (case ga_BadSource => k_is)
    (case gg_BadSource => k_is)
    (case na_BadSource => k_is)
    (case tk_BadSource => k_is)
    (case sb_BadSource => k_is)
    (case z_bool => k_is)
    (case z_enumerate => k_is)
    (case z_int => k_is)
    (case z_isinstance => k_is)
    (case z_len => k_is)
    (case z_max => k_is)
    (case z_min => k_is)
    (case z_range => k_is)
    (case z_repr => k_is)
    (case ob_kt_Linear_int => kernel_rfl)
    (case ob_kt_BadState_int => kernel_rfl)
    (case ob_kt_BadSteps_int => kernel_rfl)
    (case ob_kt_BadNumber_int => kernel_rfl)
    (case ob_kt_BadSource_int => kernel_rfl)
    (case ob_kt_Linear_bool => kernel_rfl)
    (case ob_kt_BadState_bool => kernel_rfl)
    (case ob_kt_BadSteps_bool => kernel_rfl)
    (case ob_kt_BadNumber_bool => kernel_rfl)
    (case ob_kt_BadSource_bool => kernel_rfl)
    (case ob_kt_NoneType_Linear => kernel_rfl)
    (case ob_kt_bool_Linear => kernel_rfl)
    (case ob_kt_int_Linear => kernel_rfl)
    (case ob_kt_str_Linear => kernel_rfl)
    (case ob_kt_tuple_Linear => kernel_rfl)
    (case ob_kt_list_Linear => kernel_rfl)
    (case ob_kt_dict_Linear => kernel_rfl)
    (case ob_kt_BadState_Linear => kernel_rfl)
    (case ob_kt_BadSteps_Linear => kernel_rfl)
    (case ob_kt_BadNumber_Linear => kernel_rfl)
    (case ob_kt_BadSource_Linear => kernel_rfl)
    (case ob_ns_BadState => kernel_rfl)
    (case ob_ns_BadSteps => kernel_rfl)
    (case ob_ns_BadNumber => kernel_rfl)
    (case ob_ns_BadSource => kernel_rfl)
#print axioms PySem.Challenge.cw_drawstate_k13_whole_digits_and_periods_holds
