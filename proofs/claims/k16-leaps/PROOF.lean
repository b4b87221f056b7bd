import PyProof.Rows.All
import Wide.All
import OpenK.AllK
import Wide.FinOn
import HandS.ForMost
import HandS.Exc
import HandS.Codes
import HandS.Wide
import HandS.WideBits
import HandS.IsInst
import HandS.Property
import HandS.Style
import HandS.Flow
import HandS.Small
import HandS.Lambda
import HandS.EndTab
import HandS.GenCall
import HandS.GenList
import KE.KOpsOwn
import HandS.ClsMeth
import HandS.TupAny
import HandS.ExcInit
import HandS.ExcField
import HandS.ExcIs
import HandS.Walk
import KE.KExcInit
import HandS.CallSlots
import PySem.Challenge.RW_drawstate_k16_whole_leaps_between
set_option Elab.async false
set_option linter.all false
set_option maxRecDepth 100000
set_option maxHeartbeats 4000000
namespace Gx
open PySem PySem.Spec PyProof.Rows L2
/-! ### repr of data: where no repr is under way -/
mutual
theorem dpNoDict {K : PySem.W.Frag} {H : Hp} : ∀ (d : PyData) (x : V), Dp K H x d → d.hasDict = false
  | .none, _, _ => by simp only [PyData.hasDict]
  | .bool _, _, _ => by simp only [PyData.hasDict]
  | .int _, _, _ => by simp only [PyData.hasDict]
  | .str _, _, _ => by simp only [PyData.hasDict]
  | .list ds, _, h => by
    cases h with
    | lst _ ha =>
      simp only [PyData.hasDict]
      exact dpNoDictAll ds _ ha
  | .tuple ds, _, h => by
    cases h with
    | tup _ ha =>
      simp only [PyData.hasDict]
      exact dpNoDictAll ds _ ha
  | .dict _, _, h => nomatch h
theorem dpNoDictAll {K : PySem.W.Frag} {H : Hp} : ∀ (ds : List PyData) (xs : List V), DpAll K H xs ds → PyData.hasDictAll ds = false
  | [], _, _ => by simp only [PyData.hasDictAll]
  | d :: ds, _, h => by
    cases h with
    | cons h1 h2 =>
      simp only [PyData.hasDictAll, Bool.or_eq_false_iff]
      exact ⟨dpNoDict d _ h1, dpNoDictAll ds _ h2⟩
end
def rRepr (K : PySem.W.Frag) : List V → Hp → VK → Prop := fun xs H Q => ∃ (x : V) (d : PyData), xs = [x] ∧ Dp K H x d ∧ d.showable = true ∧ d.depth ≤ 60 ∧ d.shown.length ≤ sizeLine ∧ Q (.str d.shown) H
theorem call_repr {X : Cx} (hg : X.A.guards = some []) (hu : X.A.units + 64 < cLine) : CallR X (.builtin "repr") (rRepr X.K) := by
  intro pins s σ H xs us Q I r h
  obtain ⟨x, d, rfl, hd, hs, hdep, hsz, q⟩ := h
  obtain ⟨u, rfl, ru⟩ := vals1 r
  obtain ⟨as, rd⟩ := Dp.reads I d x u hd ru
  have nd := dpNoDict d x hd
  cases hd with
  | non =>
    cases ru
    exact PySem.P.repr_of_none ⟨.str _, H, I.tok _, ⟨_, rfl⟩, q⟩
  | bl b =>
    cases ru
    exact PySem.P.repr_of_bool ⟨.str _, H, I.tok _, ⟨_, rfl⟩, q⟩
  | int i =>
    obtain ⟨t, rfl⟩ := ru
    exact PySem.P.repr_of_int (of_decide_eq_true (by simpa [PyData.showable] using hs)) ⟨.str _, H, I.tok _, ⟨_, rfl⟩, q⟩
  | str z =>
    obtain ⟨t, rfl⟩ := ru
    exact PySem.P.repr_of_str (hsz := hsz) ⟨.str _, H, I.tok _, ⟨_, rfl⟩, q⟩
  | lst h1 h2 =>
    cases ru
    exact repr_of_reads' rd hs (PyData.noDict_hsm nd) hg (by omega) (fun _ _ e => e) (fun h' t tk hk => ⟨.str _, H, I.kept hk, ⟨_, rfl⟩, q⟩) hsz
  | tup h1 h2 =>
    cases ru
    exact repr_of_reads' rd hs (PyData.noDict_hsm nd) hg (by omega) (fun _ _ e => e) (fun h' t tk hk => ⟨.str _, H, I.kept hk, ⟨_, rfl⟩, q⟩) hsz
/-! ### a def whose promise is kept where no repr is under way -/
structure FnG (P : Program) (w : World) (K : PySem.W.Frag) (mg : Str → Option Value) (base : Heap) (k : Nat) (f : Addr) (fd : FuncData) (ps : List Str) (sp : Sp) : Prop where
  len : ∀ vs H Q E, sp vs H Q E → vs.length = ps.length
  run : ∀ (A : Around) (outer : List Env) (s : Shared) (H : Hp) (args : Args) (us : List Value) (vs : List V) (Q : VK), A.guards = some [] → Room k A → Env0 P w K mg base A outer s H →
    BindsTo s fd args (ps.zip us) → Vals vs us → sp vs H Q C8.E0 → codeAny (model P w) A (.call (.ref f) args) (CR C8.CX0 outer P w H s Q C8.E0) s
structure CalG (P : Program) (w : World) (K : PySem.W.Frag) (mg : Str → Option Value) (base : Heap) (k : Nat) (x : Str) (sp : Sp) : Prop where
  ex : ∃ (f : Addr) (fd : FuncData) (ps : List Str), FnG P w K mg base k f fd ps sp ∧ mg x = some (.ref f) ∧ PySem.W.keepIn K (.ref f) = true ∧ Binds K fd ps []
section
variable {P : Program} {w : World} {K : PySem.W.Frag} {mg : Str → Option Value} {base : Heap}
theorem fnG_of {x qual : Str} {st : Stmt} {f : Addr} {fd : FuncData} {N ps : List Str} {k : Nat} {sp : Sp} (F : C8.Fun K x qual st f fd) (S : FnScope N ps (C8.fnScope st)) (len : ∀ vs H Q E, sp vs H Q E → vs.length = ps.length)
    (hbody : ∀ (cdv : Value) (A : Around) (outer : List Env) (s : Shared) (H : Hp) (vs : List V) (Q : VK), A.guards = some [] → Room k (A.deeper (envOfC qual (C8.fnScope st) s.heap.objs.size f cdv)) → sp vs H Q C8.E0 →
      ∃ t, PSs (cxOf C8.CX0 P w K mg base N qual (C8.fnScope st) f cdv A outer s H C8.E0).nox (C8.fnBody st) t ∧ t { nx := fun _ H' => Q .non H', rt := Q } (start N vs) H) : FnG P w K mg base (k + 1) f fd ps sp := by
  obtain ⟨oc, od, dV, kV, doc, pm, an, cdv, ct, osl, rfl, lk, hcd⟩ := F.ex
  refine ⟨len, fun A outer s H args us vs Q hg hr e0 hb r hsp => ?_⟩
  refine LamX.run_ofS (CX := C8.CX0) (E := C8.E0) lk hcd S hr e0 hb r (len _ _ _ _ hsp) fun hr' => ?_
  obtain ⟨t, h, q⟩ := hbody cdv A outer s H vs Q hg hr' hsp
  exact ⟨t, h.nox, q⟩
theorem calG {x : Str} {st : Stmt} {f : Addr} {fd : FuncData} {N ps : List Str} {k : Nat} {sp : Sp} (F : C8.Def K mg x st f fd) (b : Binds K fd ps []) (S : FnScope N ps (C8.fnScope st)) (len : ∀ vs H Q E, sp vs H Q E → vs.length = ps.length)
    (hbody : ∀ (cdv : Value) (A : Around) (outer : List Env) (s : Shared) (H : Hp) (vs : List V) (Q : VK), A.guards = some [] → Room k (A.deeper (envOfC x (C8.fnScope st) s.heap.objs.size f cdv)) → sp vs H Q C8.E0 →
      ∃ t, PSs (cxOf C8.CX0 P w K mg base N x (C8.fnScope st) f cdv A outer s H C8.E0).nox (C8.fnBody st) t ∧ t { nx := fun _ H' => Q .non H', rt := Q } (start N vs) H) : CalG P w K mg base (k + 1) x sp :=
  ⟨f, fd, ps, fnG_of F.fn S len hbody, F.mgf, F.kp, b⟩
end
section
variable {X : Cx} {k j : Nat} {x : Str} {sp : Sp} {p pos : Pos} {e : Expr} {es : List Expr} {t : TA}
theorem runG {f : Addr} {fd : FuncData} {ps : List Str} {pins : List (Addr × Obj)} {σ : L2.St} {H : Hp} {s : Shared} {Q : VK} {us : List Value} {vs : List V} (F : FnG X.prog X.w X.K X.mg X.base k f fd ps sp) (gd : X.A.guards = some []) (hr : Room k X.A) (hb : Binds X.K fd ps [])
    (I : Inv X pins σ H s) (r : Vals vs us) (h : sp vs H Q C8.E0) : wpAny (model X.prog X.w) X.A (call (.ref f) us) (EP X pins σ Q) X.xe s := by
  have hl : us.length = ps.length := r.length.symm.trans (F.len _ _ _ _ h)
  have hbt : BindsTo s fd ⟨us, []⟩ (ps.zip us) := by
    have z := hb s us I.kIn (by rw [List.append_nil]; exact hl)
    rw [List.append_nil] at z
    exact z
  have go := F.run X.A X.stack s H ⟨us, []⟩ us vs Q gd hr I.env0 hbt r h
  refine wpAny_call (codeAny_mono go fun res s2 hres => ?_)
  match res, hres with
  | .ok (.ret u), hq => exact I.after hq
  | .ok .next, hq => exact hq.elim
  | .ok .brk, hq => exact hq.elim
  | .ok .cont, hq => exact hq.elim
  | .error er, hq => exact (show False from hq).elim
theorem pe_g (c : CalG X.prog X.w X.K X.mg X.base k x sp) (gd : X.A.guards = some []) (hr : Room j X.A) (hk : k ≤ j) (hgl : Gl X x) (ha : PA X (e :: es) t)
    (hdb : (x == ("__debug__" : Str)) = false := by decide) (hst : starEach (e :: es) X.env = (false, eval e X.env) :: starEach es X.env := by rfl)
    (hpl : (backTo pos (starEach es X.env)).any (·.1) = false := by rfl) : PE X (.Call (.Name x p) (e :: es) [] pos) (tCall sp [] C8.E0 t) := by
  obtain ⟨f, fd, ps, F, hm, kp, b⟩ := c.ex
  constructor
  intro pins s σ H Q I h
  refine wpAny_Call_Name_kw (ld_glob I hgl hm ?_ hdb)
  refine PySem.W.callWith_K (h₀ := X.base) I.ok.mod.kin kp ?_ hst hpl
  refine thn (ha.run pos pins s σ H _ I h) fun us s1 got => ?_
  obtain ⟨vs, H1, I1, r, q⟩ := got
  refine ⟨I1.kIn, runG F gd (hr.mono hk) b I1 r ?_⟩
  have z : sp (vs ++ []) H1 Q C8.E0 := q
  rw [List.append_nil] at z
  exact z
end
end Gx

set_option Elab.async false
set_option linter.all false
set_option maxRecDepth 100000
set_option maxHeartbeats 4000000
namespace Gx
open PySem PySem.Spec PyProof.Rows L2
/-! ### a property by its getter's promise -/
structure PrpC (P : Program) (w : World) (K : PySem.W.Frag) (mg : Str → Option Value) (base : Heap) (k : Nat) (C : Addr) (nm : Str) (sp : Sp) : Prop where
  ex : ∃ (p f : Addr) (fd : FuncData) (ps : List Str), Cls K C ∧ PropOf K C nm p f ∧ FnOk P w K mg base C8.CX0 k f fd ps sp ∧ Binds K fd ps []
theorem prp0 {P : Program} {w : World} {K : PySem.W.Frag} {mg : Str → Option Value} {base : Heap} {nm qual : Str} {C p : Addr} {st : Stmt} {f : Addr} {fd : FuncData} {N ps : List Str} {k : Nat} {sp : Sp} (c : Cls K C) (pr : PropOf K C nm p f) (F : C8.Fun K nm qual st f fd) (b : Binds K fd ps [])
    (S : FnScope N ps (C8.fnScope st)) (len : ∀ vs H Q E, sp vs H Q E → vs.length = ps.length)
    (hbody : ∀ (cdv : Value) (A : Around) (outer : List Env) (s : Shared) (H : Hp) (vs : List V) (Q : VK) (E : XK), Room k (A.deeper (envOfC qual (C8.fnScope st) s.heap.objs.size f cdv)) → sp vs H Q E →
      ∃ t, PSs (cxOf C8.CX0 P w K mg base N qual (C8.fnScope st) f cdv A outer s H E).nox (C8.fnBody st) t ∧ t { nx := fun _ H' => Q .non H', rt := Q } (start N vs) H) : PrpC P w K mg base (k + 1) C nm sp :=
  ⟨p, f, fd, ps, c, pr, C8.fn0 F S len hbody, b⟩
theorem pe_propC {X : Cx} {k j : Nat} {C : Addr} {nm : Str} {sp : Sp} {e : Expr} {ta : TE} {pos : Pos} (he : PE X e ta) (c : PrpC X.prog X.w X.K X.mg X.base k C nm sp) (hr : Room j X.A) (hk : k + 1 ≤ j) (hab : attributeBase e nm X.env (eval e X.env) = eval e X.env) :
    PE X (.Attribute e nm pos) (tProp C sp [] C8.E0 ta) := by
  obtain ⟨p, f, fd, ps, cl, pr, F, b⟩ := c.ex
  exact pe_prop he cl pr F (hr.mono hk) b .nil C8.pass0 hab
/-! ### the end of a law: its def is called where no repr is under way; cs: the code objects that make lambdas, with their tables -/
section
variable {P : Program} {w : World} {K : PySem.W.Frag} {mg mb : Str → Option Value} {k : Nat} {fa a : Addr} {cs : List (Addr × Addr)} {fd : FuncData} {x : Str} {sp : Sp} {t : Shared} {vs : List Value} {ns : List Int}
/-- the abstract heap at the law's call: the script and the tables -/
structure Hp0 (P : Program) (w : World) (K : PySem.W.Frag) (cs : List (Addr × Addr)) (a : Addr) (ns : List Int) (h : Heap) (H : Hp) : Prop where
  tab : ∀ p ∈ cs, H p.2 = some (.tbl #[])
  only : ∀ b, H b = none ∨ b ∈ cs.map (·.2) ∨ ∃ o xs, H b = some (.frz o (.lst xs))
  seq : SqL K H a (ns.map V.int)
  ok : HOk P w H h
  dom : ∀ b, H b ≠ none → b = a ∨ b ∈ cs.map (·.2)
  scr : H a ≠ none → K.lookup a = none
theorem hp0 (KX : K.In t.heap) (hT : ∀ p ∈ cs, t.heap.get? p.2 = some { cls := .none, data := .fields #[] }) (ha : t.heap.get? a = some { cls := .type "list", data := .seq vs.toArray }) (hi : IntsAre vs ns) (hl : ns.length ≤ sizeLine) :
    ∃ H, Hp0 P w K cs a ns t.heap H := by
  have rv := vals_ints hi
  have isT : ∀ b ∈ cs.map (·.2), t.heap.get? b = some { cls := .none, data := .fields #[] } := fun b hb => by
    obtain ⟨p, hp, rfl⟩ := List.mem_map.mp hb
    exact hT p hp
  have aT : a ∉ cs.map (·.2) := fun z => by
    have q := isT a z
    rw [ha] at q
    cases congrArg Obj.data (Option.some.inj q)
  have mem : ∀ p ∈ cs, p.2 ∈ cs.map (·.2) := fun p hp => List.mem_map.mpr ⟨p, hp, rfl⟩
  cases hk : K.lookup a with
  | some o =>
    have e := KX a o hk
    rw [ha] at e
    cases e
    refine ⟨fun b => if b ∈ cs.map (·.2) then some (.tbl #[]) else none, fun p hp => if_pos (mem p hp), fun b => ?_,
      .inr ⟨_, vs.toArray, _, hk, rfl, rfl, rfl, by rw [List.size_toArray, hi.length]; exact hl, by simpa using rv⟩, fun b u z => ?_, fun b z => ?_, fun z => absurd (if_neg aT) z⟩
    · by_cases hb : b ∈ cs.map (·.2)
      · exact .inr (.inl hb)
      · exact .inl (if_neg hb)
    · by_cases hb : b ∈ cs.map (·.2)
      · cases (if_pos hb).symm.trans z
        exact isT b hb
      · cases (if_neg hb).symm.trans z
    · by_cases hb : b ∈ cs.map (·.2)
      · exact .inr hb
      · exact absurd (if_neg hb) z
  | none =>
    refine ⟨fun b => if b = a then some (.frz { cls := .type "list", data := .seq vs.toArray } (.lst (ns.map V.int))) else if b ∈ cs.map (·.2) then some (.tbl #[]) else none,
      fun p hp => ?_, fun b => ?_, .inl (.inr ⟨{ cls := .type "list", data := .seq vs.toArray }, if_pos rfl⟩), fun b u z => ?_, fun b z => ?_, fun _ => hk⟩
    · have np : ¬ p.2 = a := fun z => aT (z ▸ mem p hp)
      exact (if_neg np).trans (if_pos (mem p hp))
    · by_cases hb : b = a
      · exact .inr (.inr ⟨_, _, if_pos hb⟩)
      · by_cases hc : b ∈ cs.map (·.2)
        · exact .inr (.inl hc)
        · exact .inl ((if_neg hb).trans (if_neg hc))
    · by_cases hb : b = a
      · cases (if_pos hb).symm.trans z
        subst hb
        exact ⟨ha, by rw [List.length_map]; exact hl, vs, _, rv, ha⟩
      · have z1 := (if_neg hb).symm.trans z
        by_cases hc : b ∈ cs.map (·.2)
        · cases (if_pos hc).symm.trans z1
          exact isT b hc
        · cases (if_neg hc).symm.trans z1
    · by_cases hb : b = a
      · exact .inl hb
      · by_cases hc : b ∈ cs.map (·.2)
        · exact .inr hc
        · exact absurd ((if_neg hb).trans (if_neg hc)) z
theorem callG (KX : K.In t.heap) (hns : t.heap.Ns mainGlobals mg) (hb : t.heap.Ns builtinsNs mb) (hbb : ∀ x : Str, x ≠ "__name__" → mb x = bootBuiltins x) (hlim : t.heap.NoLimit) (hg : t.gens = #[])
    (hT : ∀ p ∈ cs, t.heap.get? p.2 = some { cls := .none, data := .fields #[] }) (nT : ∀ p ∈ cs, K.lookup p.2 = none) (C : ∀ p ∈ cs, PySem.W.CodeHd t.heap p.1 p.2)
    (hbm : ∃ (bm : Addr) (ob : Obj), mg "__builtins__" = some (.ref bm) ∧ bm ≠ builtinsNs ∧ t.heap.get? bm = some ob ∧ ob.cls = .type "module" ∧ ob.dict = some builtinsNs ∧ ob.data = .plain)
    (ha : t.heap.get? a = some { cls := .type "list", data := .seq vs.toArray }) (hi : IntsAre vs ns) (hl : ns.length ≤ sizeLine) (hr : Room k callerA)
    (F : ∀ base : Heap, K.In base → base.Ns mainGlobals mg → (∀ p ∈ cs, LamX.TabB base mg p.1 p.2) → FnG P w K mg base k fa fd [x] sp) (hbind : ∀ (s : Shared) (u : Value), BindsTo s fd ⟨[u], []⟩ [(x, u)])
    (hsp : ∀ H : Hp, (∀ p ∈ cs, H p.2 = some (.tbl #[])) → SqL K H a (ns.map V.int) → sp [.ref a] H (fun v _ => v = .bl true) C8.E0) :
    codeAny (model P w) callerA (.call (.ref fa) ⟨[.ref a], []⟩) (fun r s' => r = .ok (.ret (.bool true)) ∧ OldK t.heap s'.heap ∧ s'.os = t.os ∧ AllBare s'.gens) t := by
  obtain ⟨H, Z⟩ := hp0 (P := P) (w := w) KX hT ha hi hl
  have see : ∀ {b : Addr} {o : Obj}, t.heap.get? b = some o → H b = none → (hidT t.heap H).get? b = some o := fun e n => hidT_get e n
  -- what is neither a list nor a table is not tracked
  have off : ∀ {b : Addr} {o : Obj}, t.heap.get? b = some o → (∀ ws n, o.data ≠ .seq ws n) → o.data ≠ .fields #[] → H b = none := fun {b o} e h1 h2 => by
    cases q : H b with
    | none => rfl
    | some u =>
      rcases Z.dom b (by rw [q]; simp) with e1 | e1
      · rw [e1, ha] at e
        cases e
        exact (h1 _ _ rfl).elim
      · obtain ⟨p, hp, rfl⟩ := List.mem_map.mp e1
        rw [hT p hp] at e
        cases e
        exact (h2 rfl).elim
  have offD : ∀ {b : Addr} {o : Obj} {es : Array DictEntry} {ep : Nat}, t.heap.get? b = some o → o.data = .dict es ep → H b = none := fun {b o es ep} e d =>
    off e (fun ws n z => by rw [d] at z; cases z) (fun z => by rw [d] at z; cases z)
  have nsOk : ∀ {b : Addr} {m : Str → Option Value}, t.heap.Ns b m → (hidT t.heap H).Ns b m := fun {b m} hh => by
    obtain ⟨o, es, ep, e, d, r⟩ := hh
    exact ⟨o, es, ep, see e (offD e d), d, r⟩
  have kOk : K.In (hidT t.heap H) := fun b o e => by
    refine see (KX b o e) ?_
    cases q : H b with
    | none => rfl
    | some u =>
      rcases Z.dom b (by rw [q]; simp) with e1 | e1
      · subst e1
        rw [Z.scr (by rw [q]; simp)] at e
        cases e
      · obtain ⟨p, hp, rfl⟩ := List.mem_map.mp e1
        rw [nT p hp] at e
        cases e
  have lim : (hidT t.heap H).NoLimit := by
    obtain ⟨mc, h1, h2⟩ := hlim
    exact ⟨mc, nsOk h1, h2⟩
  have hM : L2.Mod K mg (hidT t.heap H) := ⟨kOk, nsOk hns, ⟨mb, nsOk hb, hbb⟩, lim⟩
  have TB : ∀ p ∈ cs, LamX.TabB (hidT t.heap H) mg p.1 p.2 := fun p hp => by
    have hp2 := hT p hp
    refine ⟨?_, ?_, fun z => ?_⟩
    · obtain ⟨o, us, file, tf, flags, tg, inF, text, tt, e1, r1, r2, r3, r4, r5, r6, r7, r8, hne⟩ := C p hp
      refine ⟨o, us, file, tf, flags, tg, inF, text, tt, see e1 (off e1 (fun ws n z => ?_) fun z => ?_), r1, r2, r3, r4, r5, r6, r7, r8, hne⟩
      · rw [r2] at z; cases z
      · rw [r2] at z; cases z; simp at r3
    · obtain ⟨bm, ob, b1, b2, b3, b4, b5, b6⟩ := hbm
      refine ⟨bm, ob, b1, b2, fun q => ?_, fun q => ?_, see b3 (off b3 (fun ws n z => ?_) fun z => ?_), b4, b5, b6⟩
      · obtain ⟨o, es, ep, e, hd, _⟩ := hns
        rw [q, e] at b3; cases b3; rw [hd] at b6; cases b6
      · rw [q, hp2] at b3; cases b3; cases b6
      · rw [b6] at z; cases z
      · rw [b6] at z; cases z
    · obtain ⟨o, es, ep, e, hd, _⟩ := hns
      rw [z, hp2] at e; cases e; cases hd
  have nil : ∀ b : Addr, b ∉ ([] : List Addr) := fun b z => by simp at z
  have e0 : Env0 P w K mg (hidT t.heap H) callerA [] t H := ⟨rfl, hM, fun b o e => of_hidT e, Nat.le_of_eq (hidT_size _ _), trivial, fun b z => absurd z (nil b), Z.ok, .of_eq hg⟩
  have go := (F _ kOk (nsOk hns) TB).run callerA [] t H ⟨[.ref a], []⟩ [.ref a] [.ref a] _ rfl hr e0 (hbind t (.ref a)) (.cons rfl .nil) (hsp H Z.tab Z.seq)
  refine codeAny_mono go fun res s2 hres => ?_
  match res, hres with
  | .ok .next, h => exact h.elim
  | .ok .brk, h => exact h.elim
  | .ok .cont, h => exact h.elim
  | .error e, h => exact (show False from h).elim
  | .ok (.ret u), h =>
    obtain ⟨v, H', os, bare, un, ok2, r', q⟩ := h
    obtain rfl : v = .bl true := q
    obtain rfl : u = Value.bool true := r'
    have same : ∀ b o, b ∉ cs.map (·.2) → t.heap.get? b = some o → s2.heap.get? b = some o := fun b o nb e => by
      rcases Z.only b with z | z | ⟨ob, xs, z⟩
      · exact un.keep b o e z (nil b) (nil b)
      · exact absurd z nb
      · obtain ⟨e1, _⟩ := Z.ok b _ z
        obtain ⟨e2, _⟩ := ok2 b _ (un.frzs b ob _ z)
        rw [e] at e1
        cases e1
        exact e2
    have grown : ∀ p ∈ cs, ∃ more : Array Value, s2.heap.get? p.2 = some { cls := .none, data := .fields more } := fun p hp => by
      obtain ⟨more, z⟩ := un.tbls p.2 #[] (Z.tab p hp)
      exact ⟨_, ok2 p.2 _ z⟩
    refine ⟨rfl, ⟨fun b o e => ?_, fun b o e => ?_⟩, os, bare⟩
    · by_cases hb : b ∈ cs.map (·.2)
      · obtain ⟨p, hp, rfl⟩ := List.mem_map.mp hb
        obtain ⟨more, hm⟩ := grown p hp
        rw [hT p hp] at e
        cases e
        exact .inr (.inl ⟨((C p hp).tab (hT p hp)).isCodeTable, rfl, #[], more, rfl, by rw [Array.empty_append]; exact hm⟩)
      · exact .inl (same b o hb e)
    · by_cases hb : b ∈ cs.map (·.2)
      · obtain ⟨p, hp, rfl⟩ := List.mem_map.mp hb
        obtain ⟨more, hm⟩ := grown p hp
        exact ⟨_, hm⟩
      · exact ⟨o, same b o hb e⟩
end
/-- what is known of the law's promise -/
def LawG (l : PySem.W.OpenLaw) (w : World) (K : PySem.W.Frag) (k : Nat) (x : Str) (mg : Str → Option Value) (fa : Addr) (h : Heap) : Prop :=
  ∃ (fd : FuncData) (cs : List (Addr × Addr)) (sp : Sp), (∀ p ∈ cs, h.get? p.2 = some { cls := .none, data := .fields #[] }) ∧ (∀ p ∈ cs, K.lookup p.2 = none) ∧ (∀ p ∈ cs, PySem.W.CodeHd h p.1 p.2) ∧
    (∀ (s : Shared) (u : Value), BindsTo s fd ⟨[u], []⟩ [(x, u)]) ∧
    (∀ (H : Hp) (a : Addr) (ns : List Int), ns.length ≤ 63 → (∀ z ∈ ns, Builtin.Int.intBits z ≤ 1048576) → (∀ p ∈ cs, H p.2 = some (.tbl #[])) → SqL K H a (ns.map V.int) → sp [.ref a] H (fun v _ => v = .bl true) C8.E0) ∧
    ∀ base : Heap, K.In base → base.Ns mainGlobals mg → (∀ p ∈ cs, LamX.TabB base mg p.1 p.2) → FnG l.prog w K mg base k fa fd [x] sp
theorem walkG {l : PySem.W.OpenLaw} {k : Nat} {q : Program} {loose : List Str} {XP : (Str → Option Value) → Heap → Prop} {YP : World → Heap → Prop} {d : DefRec} {K : Params → PySem.W.Frag} {x : Str}
    (hn : l.most = some 63) (hdf : d.params.defaults = []) (hr : Room k callerA) (hY : ∀ (w : World) (h : Heap), YP w h → (K w.params).In h)
    (F : ∀ (w : World) (mg : Str → Option Value) (fa : Addr) (h : Heap), YP w h → (K w.params).In h → h.Ns mainGlobals mg → mg d.name = some (.ref fa) → LawG l w (K w.params) k x mg fa h) :
    PySem.W.WalkO q loose XP YP l.row.toRowW d [] (fun f vs => PySem.call f vs) := by
  refine Att.attach_callB hn hdf ?_
  intro w s0 t mg mb fa o pm cd doc a vs ns G Y ho hd hcd hmg hobj hints hlen hbits hg
  have KX := hY w _ Y
  obtain ⟨fd, cs, sp, hT, nT, C, hb, hsp, hF⟩ := F w mg fa _ Y KX G.T.g hmg
  exact callG KX G.T.g G.T.b G.T.builtins G.T.nolimit hg hT nT C G.T.bmain hobj hints (Nat.le_trans hlen (by decide)) hr hF hb fun H hH hS => hsp H a ns hlen hbits hH hS
end Gx

set_option Elab.async false
set_option linter.all false
set_option maxRecDepth 100000
set_option maxHeartbeats 4000000
namespace Rd
open PySem PySem.Spec PyProof.Rows L2
/-! ### readings, step by step: each row takes one reading apart -/
section
variable {D : Ends} {σ : L2.St} {H H1 : Hp} {Q : VK} {QB : Bool → Hp → Prop} {QA : List V → Hp → Prop} {t1 t2 : TS} {te ta tb tc : TE} {t u : TT} {i j : Nat} {v x y : V} {m n : Int} {r r2 : R2} {K : PySem.W.Frag} {A B : Prop} {b : Bool} {p : Prop}
theorem seq (h : t1 { D with nx := t2 D } σ H) : tSeq t1 t2 D σ H := h
theorem next (h : D.nx σ H) : tNext D σ H := h
theorem asg {g : TG} (h : te σ H fun x H1 => g x σ H1 D.nx) : tAsg te g D σ H := h
theorem nm {Qs : L2.St → Hp → Prop} (h : Qs (σ.set i (some v)) H) : gName i v σ H Qs := h
theorem ret (h : te σ H D.rt) : tRet te D σ H := h
theorem drop (h : te σ H fun _ H1 => D.nx σ H1) : tDrop te D σ H := h
theorem ifs (h : t σ H fun b H1 => if b = true then t1 D σ H1 else t2 D σ H1) : tIfS t t1 t2 D σ H := h
theorem par {ta : TA} (h : ta σ H fun vs H1 => ∃ v w, vs = [v, w] ∧ D.nx ((σ.set i (some v)).set j (some w)) H1) : tPar i j ta D σ H := h
theorem par3 {l : Nat} {ta : TA} (h : ta σ H fun vs H1 => ∃ u v w, vs = [u, v, w] ∧ D.nx (((σ.set i (some u)).set j (some v)).set l (some w)) H1) : tPar3 i j l ta D σ H := h
theorem var (h : σ[i]? = some (some v)) (k : Q v H) : tVar i σ H Q := ⟨v, h, k⟩
theorem cst (k : Q v H) : tC v σ H Q := k
theorem op (h : ta σ H fun x H1 => tb σ H1 fun y H2 => r x y H2 Q) : tOp r ta tb σ H Q := h
theorem un {g : V → Hp → VK → Prop} (h : ta σ H fun x H1 => g x H1 Q) : tUn g ta σ H Q := h
theorem ung {g : Int → V} (h : Q (g m) H) : rU g (.int m) H Q := ⟨m, rfl, h⟩
theorem i0 {g : Int → Int → V} (h : Q (g m n) H) : rI0 g (.int m) (.int n) H Q := ⟨m, n, rfl, rfl, h⟩
theorem iC {C : Int → Int → Prop} {g : Int → Int → V} (hc : C m n) (h : Q (g m n) H) : rI C g (.int m) (.int n) H Q := ⟨m, n, rfl, rfl, hc, h⟩
theorem eqI (h : Q (.bl (decide (m = n))) H) : rEq (.int m) (.int n) H Q := ⟨rfl, by
  have e : decide (V.int m = V.int n) = decide (m = n) := by
    by_cases z : m = n
    · subst z; simp
    · rw [decide_eq_false z, decide_eq_false (fun q => z (V.int.inj q))]
  rw [e]; exact h⟩
theorem neI (h : Q (.bl (!decide (m = n))) H) : rNe (.int m) (.int n) H Q := ⟨rfl, by
  have e : decide (V.int m = V.int n) = decide (m = n) := by
    by_cases z : m = n
    · subst z; simp
    · rw [decide_eq_false z, decide_eq_false (fun q => z (V.int.inj q))]
  rw [e]; exact h⟩
theorem eqS {a c : Str} (h : Q (.bl (decide (a = c))) H) : rEq (.str a) (.str c) H Q := ⟨rfl, by
  have e : decide (V.str a = V.str c) = decide (a = c) := by
    by_cases z : a = c
    · subst z; simp
    · rw [decide_eq_false z, decide_eq_false (fun q => z (V.str.inj q))]
  rw [e]; exact h⟩
theorem neS {a c : Str} (h : Q (.bl (!decide (a = c))) H) : rNe (.str a) (.str c) H Q := ⟨rfl, by
  have e : decide (V.str a = V.str c) = decide (a = c) := by
    by_cases z : a = c
    · subst z; simp
    · rw [decide_eq_false z, decide_eq_false (fun q => z (V.str.inj q))]
  rw [e]; exact h⟩
theorem test (h : te σ H fun x H' => ∃ k, x = .bl k ∧ QB k H') : tTest te σ H QB := h
theorem tstB (h : te σ H fun x H' => ∃ k, x = .bl k ∧ QB k H') : tB te σ H QB := h
theorem isB {QC : Bool → Prop} (h : QC b) : ∃ k, V.bl b = .bl k ∧ QC k := ⟨b, rfl, h⟩
theorem nxp {f g c d} (h : f σ H) : (Ends.mk f g c d).nx σ H := h
theorem rtp {f g c d} (h : g v H) : (Ends.mk f g c d).rt v H := h
theorem bkp {f g c d} (h : c σ H) : (Ends.mk f g c d).bk σ H := h
theorem ctp {f g c d} (h : d σ H) : (Ends.mk f g c d).ct σ H := h
theorem not (h : t σ H fun c H1 => QB (!c) H1) : tNot t σ H QB := h
theorem andT (h : t σ H fun c H1 => if c = true then u σ H1 QB else QB false H1) : tAnd t u σ H QB := h
theorem orT (h : t σ H fun c H1 => if c = true then QB true H1 else u σ H1 QB) : tOr t u σ H QB := h
theorem andV (h : ta σ H fun x H1 => ∃ c, x = .bl c ∧ if c = true then tb σ H1 Q else Q (.bl false) H1) : tAndV ta tb σ H Q := h
theorem orV (h : ta σ H fun x H1 => ∃ c, x = .bl c ∧ if c = true then Q (.bl true) H1 else tb σ H1 Q) : tOrV ta tb σ H Q := h
theorem notV (h : ta σ H fun x H1 => ∃ c, x = .bl c ∧ Q (.bl (!c)) H1) : tNotV ta σ H Q := h
theorem ifE (h : t σ H fun c H1 => if c = true then ta σ H1 Q else tb σ H1 Q) : tIf t ta tb σ H Q := h
theorem chain (h : ta σ H fun x H1 => tb σ H1 fun y H2 => r x y H2 fun z H3 => ∃ k, z = .bl k ∧ (if k = true then tc σ H3 fun w' H4 => r2 y w' H4 Q else Q (.bl false) H3)) : tChain r r2 ta tb tc σ H Q := h
theorem nil (h : QA [] H) : tNil σ H QA := h
theorem cons {tr : TA} (h : ta σ H fun x H1 => tr σ H1 fun xs H2 => QA (x :: xs) H2) : tCons ta tr σ H QA := h
theorem call {sp : Sp} {E : XK} {tr : TA} (h : tr σ H fun vs H1 => sp (vs ++ []) H1 Q E) : tCall sp [] E tr σ H Q := h
theorem cb {g : List V → Hp → VK → Prop} {tr : TA} (h : tr σ H fun vs H1 => g vs H1 Q) : tCB g tr σ H Q := h
theorem tup {tr : TA} (h : tr σ H fun xs H1 => xs.length ≤ sizeLine ∧ ∀ p, H1 p = none → Q (.ref p) (upd H1 p (.tup xs))) : tTup tr σ H Q := h
theorem lst {tr : TA} (h : tr σ H fun xs H1 => xs.length ≤ sizeLine ∧ ∀ p, H1 p = none → Q (.ref p) (upd H1 p (.lst xs))) : tLst tr σ H Q := h
theorem yes (c : p) [Decidable p] (h : A) : if decide p = true then A else B := by
  rw [decide_eq_true c, if_pos rfl]
  exact h
theorem no (c : ¬ p) [Decidable p] (h : B) : if decide p = true then A else B := by
  rw [decide_eq_false c, if_neg Bool.false_ne_true]
  exact h
theorem yesN (c : ¬ p) [Decidable p] (h : A) : if (!decide p) = true then A else B := by
  rw [decide_eq_false c]
  exact iteT h
theorem noN (c : p) [Decidable p] (h : B) : if (!decide p) = true then A else B := by
  rw [decide_eq_true c]
  exact iteF h
theorem both [Decidable p] (h1 : p → A) (h2 : ¬ p → B) : if decide p = true then A else B := by
  by_cases c : p
  · exact yes c (h1 c)
  · exact no c (h2 c)
theorem bothN [Decidable p] (h1 : ¬ p → A) (h2 : p → B) : if (!decide p) = true then A else B := by
  by_cases c : p
  · exact noN c (h2 c)
  · exact yesN c (h1 c)
end
theorem iteNT {A B : Prop} (h : B) : if (!true) = true then A else B := iteF h
theorem iteNF {A B : Prop} (h : A) : if (!false) = true then A else B := iteT h
theorem yesNN {A B p : Prop} [Decidable p] (c : p) (h : A) : if (!(!decide p)) = true then A else B := by
  rw [decide_eq_true c]
  exact iteT h
theorem noNN {A B p : Prop} [Decidable p] (c : ¬ p) (h : B) : if (!(!decide p)) = true then A else B := by
  rw [decide_eq_false c]
  exact iteF h
/-! ### readings with a name -/
def rAndM : R2 := fun x y H Q => ∃ (i : Int) (k : Nat), x = .int i ∧ y = .int (2 ^ k - 1) ∧ Q (.int (i % 2 ^ k)) H
theorem op_andM {X : Cx} : OpR X (binaryOp .BitAnd) rAndM := L2.op_andM
theorem andM {i m : Int} {H : Hp} {Q : VK} (k : Nat) (e : m = 2 ^ k - 1) (h : Q (.int (i % 2 ^ k)) H) : rAndM (.int i) (.int m) H Q := ⟨i, k, rfl, congrArg V.int e, h⟩
theorem and48 {i : Int} {H : Hp} {Q : VK} (h : Q (.int (i % 281474976710656)) H) : rAndM (.int i) (.int (281474976710656 - 1)) H Q := andM 48 (by decide) h
theorem and32 {i : Int} {H : Hp} {Q : VK} (h : Q (.int (i % 4294967296)) H) : rAndM (.int i) (.int (4294967296 - 1)) H Q := andM 32 (by decide) h
theorem and64 {i : Int} {H : Hp} {Q : VK} (h : Q (.int (i % 18446744073709551616)) H) : rAndM (.int i) (.int (18446744073709551616 - 1)) H Q := andM 64 (by decide) h
theorem and65 {i : Int} {H : Hp} {Q : VK} (h : Q (.int (i % 36893488147419103232)) H) : rAndM (.int i) (.int (36893488147419103232 - 1)) H Q := andM 65 (by decide) h
theorem and1 {i : Int} {H : Hp} {Q : VK} (h : Q (.int (i % 2)) H) : rAndM (.int i) (.int 1) H Q := andM 1 (by decide) h
def rShl1 : R2 := fun x y H Q => ∃ k : Nat, x = .int 1 ∧ y = .int (k : Int) ∧ k ≤ 134217727 ∧ Q (.int (2 ^ k)) H
theorem op_oneShl {X : Cx} : OpR X (binaryOp .LShift) rShl1 := L2.op_oneShl
theorem shl1 {k : Nat} {H : Hp} {Q : VK} (hk : k ≤ 134217727) (h : Q (.int (2 ^ k)) H) : rShl1 (.int 1) (.int (k : Int)) H Q := ⟨k, rfl, rfl, hk, h⟩
def rLenQ (K : PySem.W.Frag) : List V → Hp → VK → Prop := fun xs H Q => ∃ p ys, xs = [.ref p] ∧ (SqL K H p ys ∨ SqT K H p ys) ∧ Q (.int ys.length) H
theorem call_lenQ {X : Cx} : CallR X (.builtin "len") (rLenQ X.K) := call_len_seq
theorem lenL {K : PySem.W.Frag} {p : Addr} {ys : List V} {H : Hp} {Q : VK} (h : SqL K H p ys) (q : Q (.int ys.length) H) : rLenQ K [.ref p] H Q := ⟨p, ys, rfl, .inl h, q⟩
theorem lenT {K : PySem.W.Frag} {p : Addr} {ys : List V} {H : Hp} {Q : VK} (h : SqT K H p ys) (q : Q (.int ys.length) H) : rLenQ K [.ref p] H Q := ⟨p, ys, rfl, .inr h, q⟩
def rMax2 : List V → Hp → VK → Prop := fun xs H Q => ∃ i j, xs = [.int i, .int j] ∧ Q (.int (if j > i then j else i)) H
theorem call_mx2 {X : Cx} (hc : X.calm = true) : CallR X (.builtin "max") rMax2 := call_max2 hc
theorem mx2 {i j : Int} {H : Hp} {Q : VK} (q : Q (.int (if j > i then j else i)) H) : rMax2 [.int i, .int j] H Q := ⟨i, j, rfl, q⟩
def rMin2 : List V → Hp → VK → Prop := fun xs H Q => ∃ i j, xs = [.int i, .int j] ∧ Q (.int (if j < i then j else i)) H
theorem call_mn2 {X : Cx} (hc : X.calm = true) : CallR X (.builtin "min") rMin2 := call_min2 hc
theorem mn2 {i j : Int} {H : Hp} {Q : VK} (q : Q (.int (if j < i then j else i)) H) : rMin2 [.int i, .int j] H Q := ⟨i, j, rfl, q⟩
/-! ### isinstance of an int -/
theorem kit_int_int (K : PySem.W.Frag) : PySem.W.kitOne K (.type "int") (.type "int") = some true := by first | rfl | decide +kernel | kernel_rfl
theorem kit_int_bool (K : PySem.W.Frag) : PySem.W.kitOne K (.type "int") (.type "bool") = some false := by first | rfl | decide +kernel | kernel_rfl
theorem kit_self (K : PySem.W.Frag) (C : Addr) : PySem.W.kitOne K (.ref C) (.ref C) = some true := by
  unfold PySem.W.kitOne
  simp
theorem isInt {K : PySem.W.Frag} {n : Int} {H : Hp} {Q : VK} (q : Q (.bl true) H) : rIsi K [.int n, .ty "int"] H Q := ⟨_, _, .type "int", _, true, rfl, .ty _, .base (.int n), kit_int_int K, q⟩
theorem isBool {K : PySem.W.Frag} {n : Int} {H : Hp} {Q : VK} (q : Q (.bl false) H) : rIsi K [.int n, .ty "bool"] H Q := ⟨_, _, .type "int", _, false, rfl, .ty _, .base (.int n), kit_int_bool K, q⟩
theorem isOwn {K : PySem.W.Frag} {C a dx : Addr} {fs : List (Str × V)} {H : Hp} {Q : VK} (c : C8.InsC K C) (h : H a = some (.ins C dx fs)) (q : Q (.bl true) H) : rIsi K [.ref a, .ref C] H Q :=
  ⟨_, _, .ref C, .ref C, true, rfl, .own C, .base (.ins h c.cl c.ha c.hn c.htk c.hm), c.me, q⟩
/-! ### tuples, lists, fields -/
theorem sqt {K : PySem.W.Frag} {H : Hp} {a : Addr} {xs : List V} (h : H a = some (.tup xs)) : SqT K H a xs := .inl (.inl h)
theorem ixT {K : PySem.W.Frag} {p : Addr} {xs : List V} {i : Int} {v : V} {H : Hp} {Q : VK} (h : SqT K H p xs) (a : atI xs i = some v) (q : Q v H) : rIxT K (.ref p) (.int i) H Q := ⟨p, xs, i, v, rfl, rfl, h, a, q⟩
theorem ixL {K : PySem.W.Frag} {p : Addr} {xs : List V} {i : Int} {v : V} {H : Hp} {Q : VK} (h : SqL K H p xs) (a : atI xs i = some v) (q : Q v H) : rIxL K (.ref p) (.int i) H Q := ⟨p, xs, i, v, rfl, rfl, h, a, q⟩
theorem fld {K : PySem.W.Frag} {ta : TE} {f : Str} {σ : L2.St} {H : Hp} {Q : VK} (h : ta σ H fun x H1 => ∃ a C dx fs v, x = .ref a ∧ H1 a = some (.ins C dx fs) ∧ Cls K C ∧ NoAttr K C f ∧ fs.lookup f = some v ∧ Q v H1) : tFld K ta f σ H Q := h
theorem sql {K : PySem.W.Frag} {H : Hp} {a : Addr} {xs : List V} (h : H a = some (.lst xs)) : SqL K H a xs := .inl (.inl h)
theorem lk1 {f : Str} {v : V} : [(f, v)].lookup f = some v := by simp [List.lookup]
theorem lk_ne {f g : Str} {v : V} (h : ¬ g = f) : [(f, v)].lookup g = none := by
  have e : (g == f) = false := by simpa using h
  simp [List.lookup, e]
theorem fld1 {K : PySem.W.Frag} {f : Str} {H : Hp} {Q : V → Prop} {a C dx : Addr} {fs : List (Str × V)} {v : V} (h : H a = some (.ins C dx fs)) (c : Cls K C) (n : NoAttr K C f) (l : fs.lookup f = some v) (q : Q v) :
    ∃ a' C' dx' fs' v', V.ref a = .ref a' ∧ H a' = some (.ins C' dx' fs') ∧ Cls K C' ∧ NoAttr K C' f ∧ fs'.lookup f = some v' ∧ Q v' := ⟨a, C, dx, fs, v, rfl, h, c, n, l, q⟩
theorem meth {C : Addr} {m : Str} {sp : Sp} {E : XK} {ta : TE} {t : TA} {σ : L2.St} {H : Hp} {Q : VK} (h : ta σ H fun x H1 => ∃ a dx fs, x = .ref a ∧ H1 a = some (.ins C dx fs) ∧ fs.lookup m = none ∧ t σ H1 fun vs H2 => sp (x :: (vs ++ [])) H2 Q E) : tMeth C m sp [] E ta t σ H Q := h
theorem make {C : Addr} {sp : Sp} {E : XK} {t : TA} {σ : L2.St} {H : Hp} {Q : VK} (h : t σ H fun vs H1 => ∀ x dx, H1 x = none → H1 dx = none → dx ≠ x →
  sp (.ref x :: (vs ++ [])) (upd (upd H1 dx (.own x)) x (.ins C dx [])) (fun v H2 => v = .non ∧ Q (.ref x) H2) E) : tMake C sp [] E t σ H Q := h
theorem prop {C : Addr} {sp : Sp} {E : XK} {ta : TE} {σ : L2.St} {H : Hp} {Q : VK} (h : ta σ H fun x H1 => ∃ a dx fs, x = .ref a ∧ H1 a = some (.ins C dx fs) ∧ sp (.ref a :: []) H1 Q E) : tProp C sp [] E ta σ H Q := h
theorem gtup {K : PySem.W.Frag} {n : Nat} {t : TGs} {a : Addr} {xs : List V} {σ : L2.St} {H : Hp} {Q : L2.St → Hp → Prop} (h : SqT K H a xs) (hl : xs.length = n) (q : t xs σ H Q) : gTup K n t (.ref a) σ H Q := ⟨a, xs, rfl, h, hl, q⟩
theorem gcons {t : TG} {u : TGs} {v : V} {r : List V} {σ : L2.St} {H : Hp} {Q : L2.St → Hp → Prop} (h : t v σ H fun σ' H' => u r σ' H' Q) : gCons t u (v :: r) σ H Q := ⟨v, r, rfl, h⟩
theorem gnil {σ : L2.St} {H : Hp} {Q : L2.St → Hp → Prop} (h : Q σ H) : gNil [] σ H Q := ⟨rfl, h⟩
theorem gsub {to ti : TE} {t : TSet} {v : V} {σ : L2.St} {H : Hp} {Q : L2.St → Hp → Prop} (h : to σ H fun o H1 => ti σ H1 fun i H2 => t o i v H2 fun H3 => Q σ H3) : gSub to ti t v σ H Q := h
theorem setD {o i v : V} {H : Hp} {Q : Hp → Prop} (h : ∃ a H', o = .ref a ∧ DPut H a i v H' ∧ Q H') : rSetD o i v H Q := h
theorem setL {p : Addr} {xs : List V} {k : Int} {j : Nat} {v : V} {H : Hp} {Q : Hp → Prop} (h : H p = some (.lst xs)) (hj : ixN xs.length k = some j) (q : Q (upd H p (.lst (xs.set j v)))) : rSetL (.ref p) (.int k) v H Q := ⟨p, xs, k, j, rfl, rfl, h, hj, q⟩
theorem tupNew {K : PySem.W.Frag} {n : Nat} {t : TGs} {p : Addr} {xs : List V} {σ : L2.St} {H : Hp} {Q : L2.St → Hp → Prop} (hl : xs.length = n) (q : t xs σ (upd H p (.tup xs)) Q) : gTup K n t (.ref p) σ (upd H p (.tup xs)) Q := gtup (sqt upd_same) hl q
theorem cut {t u : TS} {D : Ends} {σ : L2.St} {H : Hp} (Mid : L2.St → Hp → Prop) (h1 : t { D with nx := Mid } σ H) (h2 : ∀ σ' H', Mid σ' H' → u D σ' H') : C8.tCut t u D σ H := ⟨Mid, h1, h2⟩
theorem bm {K : PySem.W.Frag} {T : String} {r : V → List V → Hp → VK → Prop} {to : TE} {t : TA} {σ : L2.St} {H : Hp} {Q : VK} (h : to σ H fun x H1 => tyV K T x H1 ∧ t σ H1 fun xs H2 => r x xs H2 Q) : tBM K T r to t σ H Q := h
theorem tyL {K : PySem.W.Frag} {H : Hp} {p : Addr} {xs : List V} (h : H p = some (.lst xs)) : tyV K "list" (.ref p) H := Or.inl ⟨rfl, _, Or.inl (Or.inl h)⟩
theorem app {H : Hp} {Q : VK} {l : Addr} {xs : List V} {y : V} (h : H l = some (.lst xs)) (hl : xs.length < 100000) (q : Q .non (upd H l (.lst (xs ++ [y])))) : rAppend (.ref l) [y] H Q := ⟨l, xs, y, rfl, rfl, h, Nat.lt_of_lt_of_le hl (by decide), q⟩
theorem revL {K : PySem.W.Frag} {te : TE} {σ : L2.St} {H : Hp} {Q : VK} (h : te σ H fun x H1 => ∃ a xs, x = .ref a ∧ SqL K H1 a xs ∧ ∀ p, H1 p = none → Q (.ref p) (upd H1 p (.lst xs.reverse))) : tRevL K te σ H Q := h
theorem frl {K : PySem.W.Frag} {tl : TE} {g : TG} {tb : TS} {D : Ends} {σ : L2.St} {H : Hp} (h : tl σ H fun x H1 => ∃ a, x = .ref a ∧ (∃ xs, SqL K H1 a xs) ∧ ∃ W : Nat → Nat → L2.St → Hp → Prop, (∃ m, W 0 m σ H1) ∧ ∀ i m σ H, W i m σ H →
    ((Itl K a).stop i H ∧ D.nx σ H) ∨ ((Itl K a).go i H ∧ ∃ N : L2.St → Hp → Prop, (∀ σ' H', N σ' H' → ∃ m', m' < m ∧ W (i + 1) m' σ' H') ∧ ∀ x H', (Itl K a).yld i H x H' → g x σ H' fun σ2 H2 => tb { D with nx := N, ct := N, bk := D.nx } σ2 H2)) :
    tFor (iList K tl) g tb D σ H := h
theorem frt {K : PySem.W.Frag} {tl : TE} {g : TG} {tb : TS} {D : Ends} {σ : L2.St} {H : Hp} (h : tl σ H fun x H1 => ∃ a, x = .ref a ∧ (∃ xs, SqT K H1 a xs) ∧ ∃ W : Nat → Nat → L2.St → Hp → Prop, (∃ m, W 0 m σ H1) ∧ ∀ i m σ H, W i m σ H →
    ((Itt K a).stop i H ∧ D.nx σ H) ∨ ((Itt K a).go i H ∧ ∃ N : L2.St → Hp → Prop, (∀ σ' H', N σ' H' → ∃ m', m' < m ∧ W (i + 1) m' σ' H') ∧ ∀ x H', (Itt K a).yld i H x H' → g x σ H' fun σ2 H2 => tb { D with nx := N, ct := N, bk := D.nx } σ2 H2)) :
    tFor (iTup K tl) g tb D σ H := h
theorem fre {K : PySem.W.Frag} {ta : TA} {g : TG} {tb : TS} {D : Ends} {σ : L2.St} {H : Hp} (h : ta σ H fun vs H1 => ∃ a xs, vs = [.ref a] ∧ SqL K H1 a xs ∧ ∃ W : Nat → Nat → L2.St → Hp → Prop, (∃ m, W 0 m σ H1) ∧ ∀ i m σ H, W i m σ H →
    ((Ite K a).stop i H ∧ D.nx σ H) ∨ ((Ite K a).go i H ∧ ∃ N : L2.St → Hp → Prop, (∀ σ' H', N σ' H' → ∃ m', m' < m ∧ W (i + 1) m' σ' H') ∧ ∀ x H', (Ite K a).yld i H x H' → g x σ H' fun σ2 H2 => tb { D with nx := N, ct := N, bk := D.nx } σ2 H2)) :
    tFor (iEnum K ta) g tb D σ H := h
theorem disp {trs : List (TE × TE)} {σ : L2.St} {H : Hp} {Q : VK} (h : ∀ p, H p = none → tPairs trs σ (upd H p (.dK [])) fun ps H2 => H2 p = some (.dK []) ∧ ∃ kvs : List (Key × V), ps = kvs.map (fun kv => (kV kv.1, kv.2)) ∧ kvs.length ≤ 15 ∧ Q (.ref p) (upd H2 p (.dK (mergeK [] kvs)))) : tDisp trs σ H Q := h
theorem pnil {σ : L2.St} {H : Hp} {Q : List (V × V) → Hp → Prop} (h : Q [] H) : tPairs [] σ H Q := h
theorem pcons {tk tv : TE} {r : List (TE × TE)} {σ : L2.St} {H : Hp} {Q : List (V × V) → Hp → Prop} (h : tk σ H fun x H1 => tv σ H1 fun y H2 => tPairs r σ H2 fun ps H3 => Q ((x, y) :: ps) H3) : tPairs ((tk, tv) :: r) σ H Q := h
/-! ### loops -/
theorem whl {c : TT} {tb : TS} {D : Ends} {σ : L2.St} {H : Hp} (W : Nat → L2.St → Hp → Prop) (m : Nat) (w0 : W m σ H) (hs : ∀ m σ H, W m σ H → c σ H fun b H1 => if b = true then ∃ N : L2.St → Hp → Prop, (∀ σ' H', N σ' H' → ∃ m', m' < m ∧ W m' σ' H') ∧
    tb { D with nx := N, ct := N, bk := D.nx } σ H1 else D.nx σ H1) : tWhile c tb D σ H := ⟨W, ⟨m, w0⟩, hs⟩
theorem fr1 {ta : TA} {g : TG} {tb : TS} {D : Ends} {σ : L2.St} {H : Hp} (h : ta σ H fun vs H1 => ∃ j : Int, vs = [.int j] ∧ -(2 ^ 62) ≤ j ∧ j < 2 ^ 62 ∧ ∃ W : Nat → Nat → L2.St → Hp → Prop, (∃ m, W 0 m σ H1) ∧ ∀ i m σ H, W i m σ H →
    ((Itr 0 j.toNat).stop i H ∧ D.nx σ H) ∨ ((Itr 0 j.toNat).go i H ∧ ∃ N : L2.St → Hp → Prop, (∀ σ' H', N σ' H' → ∃ m', m' < m ∧ W (i + 1) m' σ' H') ∧ ∀ x H', (Itr 0 j.toNat).yld i H x H' → g x σ H' fun σ2 H2 => tb { D with nx := N, ct := N, bk := D.nx } σ2 H2)) :
    tFor (iRng1 ta) g tb D σ H := h
/-- range(n), the turn told as a number -/
theorem frN {n : Nat} {k : Int} {g : TG} {tb : TS} {D : Ends} {σ : L2.St} {H : Hp} (hk : k = (n : Int)) (hn : n ≤ 1000000) (Pv : Nat → L2.St → Hp → Prop) (h0 : Pv 0 σ H)
    (hs : ∀ i σ H, i < n → Pv i σ H → g (.int (i : Int)) σ H fun σ2 H2 => tb { D with nx := Pv (i + 1), ct := Pv (i + 1), bk := D.nx } σ2 H2) (hd : ∀ σ H, Pv n σ H → D.nx σ H) :
    ∃ j : Int, [V.int k] = [.int j] ∧ -(2 ^ 62) ≤ j ∧ j < 2 ^ 62 ∧ ∃ W : Nat → Nat → L2.St → Hp → Prop, (∃ m, W 0 m σ H) ∧ ∀ i m σ H, W i m σ H →
    ((Itr 0 j.toNat).stop i H ∧ D.nx σ H) ∨ ((Itr 0 j.toNat).go i H ∧ ∃ N : L2.St → Hp → Prop, (∀ σ' H', N σ' H' → ∃ m', m' < m ∧ W (i + 1) m' σ' H') ∧ ∀ x H', (Itr 0 j.toNat).yld i H x H' → g x σ H' fun σ2 H2 => tb { D with nx := N, ct := N, bk := D.nx } σ2 H2) := by
  subst hk
  refine ⟨(n : Int), rfl, by omega, by omega, ?_⟩
  rw [Int.toNat_natCast]
  refine for_range (n := n) Pv h0 (fun i σ H hi hp => ?_) hd
  have e := hs i σ H hi hp
  rw [Int.zero_add]
  exact e
/-- all that was tracked stands -/
abbrev Ex := L2.Same
theorem ex_new {H : Hp} {p : Addr} {o : HO} (h : H p = none) : Ex H (upd H p o) := fun b z e => by
  rw [upd_ne (ne_of_none e h)]
  exact e
theorem ex_mut {H H' : Hp} {p : Addr} {o : HO} (e : Ex H H') (h : H p = none) : Ex H (upd H' p o) := fun b z q => by
  rw [upd_ne (ne_of_none q h)]
  exact e b z q
theorem ex_t {K : PySem.W.Frag} {H H' : Hp} {a : Addr} {xs : List V} (e : Ex H H') (h : SqT K H a xs) : SqT K H' a xs := by
  rcases h with (h | ⟨o, h⟩) | h
  · exact .inl (.inl (e _ _ h))
  · exact .inl (.inr ⟨o, e _ _ h⟩)
  · exact .inr h
theorem ex_l {K : PySem.W.Frag} {H H' : Hp} {a : Addr} {xs : List V} (e : Ex H H') (h : SqL K H a xs) : SqL K H' a xs := e.seq h
end Rd

set_option Elab.async false
set_option linter.all false
set_option maxRecDepth 100000
set_option maxHeartbeats 1000000
/-! a for loop in a generator's body -/
namespace Gx
open PySem PySem.Spec PyProof.Rows L2 GenW
def hX (env : Env) (x : Value) : Sem PySem.Fin := (do noteFrame x env; theTreesLotGoes x : Sem Unit).wrap (fun _ => .raise x) .raise id id
theorem seg_forLoop {prog : Program} {w : World} {A : Around} {R : GenEnd} {Y : Protocol} {n : Nat} {s₀ s : Shared} {fs : List Frame} {env : Env} {tg : Expr} {it : Value} {body : List Stmt}
    (h : wpAny (model prog w) (A.over (.forLoop tg it body [] env) fs) (pyNext it) (fun r s1 => match r with
      | none => Seg (model prog w) A R Y n s₀ (.forLoop tg it body [] env) (.pure (.again (.block [] env))) fs s1
      | some v => wpAny (model prog w) (A.over (.forLoop tg it body [] env) fs) (letOwnedTupleGo tg it v) (fun _ s2 =>
          wpAny (model prog w) (A.over (.forLoop tg it body [] env) fs) (assign tg env v) (fun _ s3 =>
            Seg (model prog w) A R Y n s₀ (.forLoop tg it body [] env) ((execs body env).wrap (fun f => match f with
              | .next | .cont => .pure (.again (.forLoop tg it body [] env))
              | .brk => .pure (.done .next)
              | .ret v => .pure (.done (.ret v))) (hX env) id id) fs s3)
            (fun x s' => Seg (model prog w) A R Y n s₀ (.forLoop tg it body [] env) (hX env x) fs s') s2)
          (fun x s' => Seg (model prog w) A R Y n s₀ (.forLoop tg it body [] env) (hX env x) fs s') s1)
      (fun x s' => Seg (model prog w) A R Y n s₀ (.forLoop tg it body [] env) (hX env x) fs s') s) :
    Seg (model prog w) A R Y n s₀ (.forLoop tg it body [] env) ((model prog w).den (.forLoop tg it body [] env)) fs s := by
  have hh : ∀ e, (do noteFrame e env; theTreesLotGoes e : Sem Unit).bind (fun _ => (.raise e : Sem PySem.Fin)) = hX env e := fun e => Sem.bind_eq_wrap _ _
  show Seg _ A R Y n s₀ _ ((forTurn tg it body [] env).onRaise (fun x => do noteFrame x env; theTreesLotGoes x)) fs s
  unfold forTurn
  rw [Sem.onRaise_eq_wrap]
  refine seg_bind_wrap (wpAny_standAt ?_)
  refine seg_bind_wrap (wpAny_onRaise (wpAny_mono h (fun r s1 h1 => ?_) fun x s' hx => wpAny_standAt ?_))
  · cases r with
    | none => exact h1
    | some v =>
      refine seg_bind_wrap (wpAny_mono h1 (fun _ s2 h2 => ?_) fun x s' hx => ?_)
      · refine seg_bind_wrap (wpAny_mono h2 (fun _ s3 h3 => ?_) fun x s' hx => ?_)
        · rw [Sem.bind_eq_wrap', Sem.wrap_wrap]
          rw [Sem.wrap_congr (execs body env) _ _ (K' := fun f => match f with
              | .next | .cont => .pure (.again (.forLoop tg it body [] env))
              | .brk => .pure (.done .next)
              | .ret v => .pure (.done (.ret v))) (H' := hX env) (fun f => by cases f <;> rfl) (fun e => by exact hh e)]
          exact h3
        · rw [← hh] at hx; exact hx
      · rw [← hh] at hx; exact hx
  · rw [← hh] at hx; exact hx
def tGFor (wi : TI) (g : TG) (tb : TGn) : TGn := fun D ys σ H => wi σ H fun J H1 => ∃ W : Nat → Nat → List V → L2.St → Hp → Prop, (∃ m, W 0 m ys σ H1) ∧ ∀ i m ys σ H, W i m ys σ H →
  (J.stop i H ∧ D.nx ys σ H) ∨ (J.go i H ∧ ∃ N : List V → L2.St → Hp → Prop, (∀ ys' σ' H', N ys' σ' H' → ∃ m', m' < m ∧ W (i + 1) m' ys' σ' H') ∧
    ∀ x H', J.yld i H x H' → g x σ H' fun σ2 H2 => tb { D with nx := N, ct := N, bk := D.nx } ys σ2 H2)
section
variable {X : Cx}
theorem gs_for {tg iter : Expr} {body : List Stmt} {pos : Pos} {wi : TI} {g : TG} {tb : TGn} (hp : PassesOwn (model X.prog X.w) X.A X.env X.xe) (hc : X.calm = true) (hi : PI X tg iter wi) (hg : PG X tg g) (hb : GSs X body tb)
    (hs : ∀ x, foldedSetIterable iter X.env x = pure x := by intro _; rfl) : GS X (.For tg iter body [] pos) (tGFor wi g tb) := by
  refine ⟨fun A S ip R n ys s₀ c fs K J gd lv s σ H D gc hn k hI ht => ?_⟩
  obtain ⟨acc0, cc0, r0, I0⟩ := hI
  rw [exec_For]
  refine seg_bind_wrap (wpAny_standAt ?_)
  refine seg_bind_wrap ?_
  rw [gc.over]
  refine wpAny_mono (hi.run _ s σ H _ I0 ht) (fun v s1 h1 => ?_) fun x s' hx => k.exc n s₀ x s' hx
  refine seg_bind_wrap (wpAny_of_eq (hs v) ?_)
  refine seg_bind_wrap (wpAny_standAt ?_)
  refine seg_bind_wrap (wpAny_holding ?_)
  rw [gc.over]
  refine wpAny_mono h1 (fun itv s2 h2 => ?_) fun x s' hx => k.exc n s₀ x s' hx
  obtain ⟨it, fp, tn, JJ, H2, e, I2, T, st2, f2, W, ⟨m0, w0⟩, turn⟩ := h2
  subst e
  refine seg_call fun p => ?_
  have gl := fun (kk : Result → Sem PySem.Fin) => gc_loop (k := kk) (c' := .forLoop tg (.ref it) body [] X.env) (l := lv []) (kp := []) (p := p) gc rfl rfl
  have glb := fun (kk : Result → Sem PySem.Fin) => gc_loop (k := kk) (c' := .block [] X.env) (l := lv []) (kp := []) (p := p) gc rfl rfl
  -- the objects of the iterator
  have stat : ∀ {acc : Array Value} {cc : Nat} {H' : Hp}, (∀ b ∈ fp, H' b = none) → ∀ b ∈ fp, FpOk X ((S, lstObj acc cc) :: ip) H' b := fun {acc cc H'} hn b hb => by
    obtain ⟨_, q1, q2, q3, q4, q5⟩ := f2 b hb
    refine ⟨hn b hb, q1, q2, q3, q4, fun p hp => ?_⟩
    rcases List.mem_append.mp hp with z | z
    · exact q5 p (List.mem_append_left _ z)
    · rcases List.mem_cons.mp z with z | z
      · rw [z]; exact q5 (S, lstObj acc0 cc0) (List.mem_append_right _ List.mem_cons_self)
      · exact q5 p (List.mem_append_right _ (List.mem_cons_of_mem _ z))
  have fpS : ∀ b ∈ fp, b ≠ S := fun b hb z => (f2 b hb).2.2.2.2.2 (S, lstObj acc0 cc0) (List.mem_append_right _ List.mem_cons_self) z.symm
  have loop : ∀ (m n : Nat) (i : Nat) (ys : List V) (s₀ s : Shared) (σ : L2.St) (H : Hp), n + ys.length = sizeLine → W i m ys σ H → GI X S ip ys σ H s → tn i s.heap → (∀ b ∈ fp, H b = none) →
      Seg (model X.prog X.w) A R (GY X S) n s₀ (.forLoop tg (.ref it) body [] X.env) ((model X.prog X.w).den (.forLoop tg (.ref it) body [] X.env))
        (.ret (fun r => ((match r with | .ok f => (.pure f : Sem Flow) | .error e => .raise e).onRaise (cameBack X.env)).wrap K J gd lv) none (gd false) (lv []) c p [] :: fs) s := by
    intro m
    induction m using Nat.strongRecOn with
    | ind m ih =>
      intro n i ys s₀ s σ H hn w hI hst hfr
      have ee : ∀ (n : Nat) (s₀ : Shared) (x : Value) (s' : Shared), X.xe x s' → Seg (model X.prog X.w) A R (GY X S) n s₀ (.forLoop tg (.ref it) body [] X.env) (hX X.env x)
          (.ret (fun r => ((match r with | .ok f => (.pure f : Sem Flow) | .error e => .raise e).onRaise (cameBack X.env)).wrap K J gd lv) none (gd false) (lv []) c p [] :: fs) s' := fun n s₀ x s' hx => by
        refine seg_wrap ?_
        rw [(gl _).over]
        refine wpAny_bind (wpAny_mono (hp x s' hx) (fun _ s'' hcb => wpAny_theTreesLotGoes ?_) fun y s'' hcb => ?_)
        · exact seg_leaf (.error x) (seg_cameBack gc k hcb)
        · exact seg_leaf (.error y) (seg_cameBack gc k hcb)
      refine seg_forLoop ?_
      rw [(gl _).over]
      obtain ⟨acc, cc, r, I⟩ := hI
      rcases turn i m ys σ H w with ⟨stop, qn⟩ | ⟨go, N, hN, step⟩
      · refine wpAny_mono (T.done X rfl rfl rfl hc i _ s σ H X.xe I (stat hfr) hst stop) (fun q s4 ⟨hr, I4⟩ => ?_) fun x s' hx => ee n s₀ x s' hx
        subst hr
        refine seg_again rfl ?_
        show Seg _ _ _ _ n s₀ (.block [] X.env) (((execs [] X.env).onRaise _) >>= fun f => pure (.done f)) _ s4
        exact seg_leaf (.ok .next) (k.ok n ys s₀ s4 .next hn ⟨σ, H, ⟨acc, cc, r, I4⟩, qn⟩)
      · refine wpAny_mono (T.item X rfl rfl rfl hc i _ s σ H X.xe I (stat hfr) hst go) (fun q s4 ⟨u, hr, h4⟩ => ?_) fun x s' hx => ee n s₀ x s' hx
        subst hr
        refine wpAny_mono h4 (fun _ s5 ⟨x, H5, I5, r5, y5, st5, fr5⟩ => ?_) fun x s' hx => ee n s₀ x s' hx
        have I5' := I5.pinned (stat fr5) (T.obj _ _ st5)
        refine wpAny_mono (hg.run _ s5 σ H5 x u _ I5' r5 (step x H5 y5)) (fun _ s6 ⟨σ6, H6, I6, q6⟩ => ?_) fun x s' hx => ee n s₀ x s' hx
        have gip : ∀ p ∈ ip ++ pinsAt fp s5.heap, p.1 ≠ S := fun p hp => by
          rcases List.mem_append.mp hp with z | z
          · exact gc.ip p z
          · exact fpS _ (of_pinsAt z).1
        have un : ∀ {ys' : List V} {σ' : L2.St} {H' : Hp} {s' : Shared}, GI X S (ip ++ pinsAt fp s5.heap) ys' σ' H' s' → GI X S ip ys' σ' H' s' ∧ tn (i + 1) s'.heap ∧ ∀ b ∈ fp, H' b = none := fun {ys' σ' H' s'} hI => by
          obtain ⟨acc, cc, r, I⟩ := hI
          have pn := fun b hb o e => I.pin (b, o) (List.mem_append_right _ (List.mem_cons_of_mem _ (List.mem_append_right _ (mem_pinsAt (fp := fp) (h := s5.heap) (b := b) (o := o) hb e))))
          refine ⟨⟨acc, cc, r, I.pins_of fun p hp => I.pin p (List.mem_append_right _ ?_)⟩, T.keep _ _ _ st5 fun b hb o e => (pn b hb o e).1, fun b hb => ?_⟩
          · rcases List.mem_cons.mp hp with z | z
            · exact z ▸ List.mem_cons_self
            · exact List.mem_cons_of_mem _ (List.mem_append_left _ z)
          · obtain ⟨o, e, d⟩ := T.obj _ _ st5 b hb
            exact (pn b hb o e).2.1
        refine hb.run A S (ip ++ pinsAt fp s5.heap) R n ys s₀ _ _ _ _ id id s6 σ6 H6 { D with nx := N, ct := N, bk := D.nx } ⟨gc.pn, gip, gc.apart, (gl _).over, (gl _).split, (gl _).guard, rfl⟩ hn ⟨fun n' ys' s₀' s7 f hn' hs => ?_, fun n' s₀' x s3 hx => ee n' s₀' x s3 hx⟩ ⟨acc, cc, r, I6⟩ q6
        cases f with
        | next =>
          obtain ⟨σ7, H7, I7, n7⟩ := hs
          obtain ⟨I8, st8, fr8⟩ := un I7
          obtain ⟨m', hm, w7⟩ := hN ys' σ7 H7 n7
          exact seg_again rfl (ih m' hm n' (i + 1) ys' s₀' s7 σ7 H7 hn' w7 I8 st8 fr8)
        | cont =>
          obtain ⟨σ7, H7, I7, n7⟩ := hs
          obtain ⟨I8, st8, fr8⟩ := un I7
          obtain ⟨m', hm, w7⟩ := hN ys' σ7 H7 n7
          exact seg_again rfl (ih m' hm n' (i + 1) ys' s₀' s7 σ7 H7 hn' w7 I8 st8 fr8)
        | brk =>
          obtain ⟨σ7, H7, I7, n7⟩ := hs
          exact seg_leaf (.ok .next) (k.ok n' ys' s₀' s7 .next hn' ⟨σ7, H7, (un I7).1, n7⟩)
        | ret v =>
          obtain ⟨x7, σ7, H7, I7, r7, n7⟩ := hs
          exact seg_leaf (.ok (.ret v)) (k.ok n' ys' s₀' s7 (.ret v) hn' ⟨x7, σ7, H7, (un I7).1, r7, n7⟩)
  exact loop m0 n 0 ys s₀ s2 σ H2 hn w0 ⟨acc0, cc0, r0, I2⟩ st2 fun b hb => (f2 b hb).1
/-- over a range -/
theorem gfor_range {lo : Int} {n : Nat} {g : TG} {tb : TGn} {D : GEnds} {ys : List V} {σ : L2.St} {H : Hp} (Pv : Nat → List V → L2.St → Hp → Prop) (h0 : Pv 0 ys σ H)
    (hs : ∀ i ys σ H, i < n → Pv i ys σ H → g (.int (lo + i)) σ H fun σ2 H2 => tb { D with nx := Pv (i + 1), ct := Pv (i + 1), bk := D.nx } ys σ2 H2) (hd : ∀ ys σ H, Pv n ys σ H → D.nx ys σ H) :
    ∃ W : Nat → Nat → List V → L2.St → Hp → Prop, (∃ m, W 0 m ys σ H) ∧ ∀ i m ys σ H, W i m ys σ H →
      ((Itr lo n).stop i H ∧ D.nx ys σ H) ∨ ((Itr lo n).go i H ∧ ∃ N : List V → L2.St → Hp → Prop, (∀ ys' σ' H', N ys' σ' H' → ∃ m', m' < m ∧ W (i + 1) m' ys' σ' H') ∧ ∀ x H', (Itr lo n).yld i H x H' → g x σ H' fun σ2 H2 => tb { D with nx := N, ct := N, bk := D.nx } ys σ2 H2) := by
  refine ⟨fun i m ys σ H => m = n - i ∧ i ≤ n ∧ Pv i ys σ H, ⟨n, by simp, Nat.zero_le _, h0⟩, ?_⟩
  rintro i m ys σ H ⟨rfl, hi, p⟩
  by_cases hlt : i < n
  · refine .inr ⟨hlt, Pv (i + 1), fun ys' σ' H' p' => ⟨n - (i + 1), by omega, rfl, hlt, p'⟩, fun x H' y => ?_⟩
    obtain ⟨rfl, rfl⟩ := y
    exact hs i ys σ _ hlt p
  · have e : i = n := by omega
    subst e
    exact .inl ⟨Nat.le_refl _, hd ys σ H p⟩
end
end Gx

set_option Elab.async false
set_option linter.all false
set_option maxRecDepth 100000
set_option maxHeartbeats 1000000
/-! an operator of one's own class, a static method, list() of a generator method -/
namespace Gx
open PySem PySem.Spec PyProof.Rows L2 GenW
/-! ### an own operator, the right side an int -/
structure OwnOp (K : PySem.W.Frag) (C : Addr) (nm : String) : Prop where
  sf : PySem.W.selfFirst K C = true
  r : PySem.W.findIn K (.ref C) (dunderR nm) = some none
  l1 : ∃ fo, PySem.W.findIn K (.type "int") (PySem.dunder nm) = some fo
  l2 : ∃ ro, PySem.W.findIn K (.type "int") (dunderR nm) = some ro
  sub : PySem.W.subIn K (.type "int") (.ref C) = some false
def rOwn (C : Addr) (sp : Sp) : V → V → Hp → VK → Prop := fun x y H Q => ∃ (a dx : Addr) (fs : List (Str × V)) (n : Int), x = .ref a ∧ y = .int n ∧ H a = some (.ins C dx fs) ∧ sp ([x, y] ++ []) H (fun v H' => (∃ b, v = .ref b) ∧ Q v H') C8.E0
section
variable {X : Cx} {k j : Nat} {C : Addr} {m : Str} {sp : Sp}
theorem op_own {op : Operator} (c : C8.Met X.prog X.w X.K X.mg X.base k C m sp []) (hr : Room j X.A) (hk : k ≤ j) (o : OwnOp X.K C op.info.2) (hm : PySem.dunder op.info.2 = m) : OpR X (binaryOp op) (rOwn C sp) := by
  intro pins s σ H x y v u Q I rx ry h
  obtain ⟨a, dx, fs, n, rfl, rfl, ha, q⟩ := h
  obtain rfl : v = Value.ref a := rx
  obtain ⟨f, fd, ps, ds, hc, me, F, b, d⟩ := c.ex
  obtain ⟨mA, O, rr, _, _, _⟩ := ins_get I.hok ha
  obtain ⟨od, J, hl⟩ := O.look
  obtain ⟨m0, fr⟩ := I.fr
  obtain ⟨fo, h1⟩ := o.l1
  obtain ⟨ro, h2⟩ := o.l2
  obtain ⟨t, rfl⟩ := id ry
  subst hm
  refine PySem.W.ksp_binT fr I.mod.kin J (T := "int") rfl o.sf me.at_ me.fn o.r (.inl rfl) h1 h2 o.sub ?_
  refine thn (run_fn (us := [.ref a, .int n t]) (vs := [.ref a, .int n]) F (hr.mono hk) b d C8.pass0 I (.cons rfl (.cons ry .nil)) q) fun v s1 hv => ?_
  obtain ⟨x, H1, I1, r1, ⟨b1, rfl⟩, q1⟩ := hv
  obtain rfl : v = Value.ref b1 := r1
  exact (⟨.ref b1, H1, I1, rfl, q1⟩ : EP X pins σ Q (.ref b1) s1)
end
/-! ### a static method of a class, by the class -/
structure SMet (P : Program) (w : World) (K : PySem.W.Frag) (mg : Str → Option Value) (base : Heap) (k : Nat) (C : Addr) (m : Str) (sp : Sp) : Prop where
  ex : ∃ (mc : Value) (p f : Addr) (fd : FuncData) (ps : List Str) (rest : List Value), ClX.CRead K C mc ∧ PySem.W.findCls K (.ref C) mc m = some (.get (.builtin "staticmethod.__get__") (.ref p) .none (.ref C)) ∧
    PySem.W.recIn K p "staticmethod" = some (.ref f :: rest) ∧ PySem.W.keepIn K (.ref f) = true ∧ FnOk P w K mg base C8.CX0 k f fd ps sp ∧ Binds K fd ps []
structure SAt (K : PySem.W.Frag) (C : Addr) (m : Str) (f : Addr) : Prop where
  ex : ∃ (mc : Value) (p : Addr) (rest : List Value), ClX.CRead K C mc ∧ PySem.W.findCls K (.ref C) mc m = some (.get (.builtin "staticmethod.__get__") (.ref p) .none (.ref C)) ∧ PySem.W.recIn K p "staticmethod" = some (.ref f :: rest) ∧ PySem.W.keepIn K (.ref f) = true
theorem smet0 {P : Program} {w : World} {K : PySem.W.Frag} {mg : Str → Option Value} {base : Heap} {m qual : Str} {C : Addr} {st : Stmt} {f : Addr} {fd : FuncData} {N ps : List Str} {k : Nat} {sp : Sp} (me : SAt K C m f) (F : C8.Fun K m qual st f fd) (b : Binds K fd ps []) (S : FnScope N ps (C8.fnScope st))
    (len : ∀ vs H Q E, sp vs H Q E → vs.length = ps.length)
    (hbody : ∀ (cdv : Value) (A : Around) (outer : List Env) (s : Shared) (H : Hp) (vs : List V) (Q : VK) (E : XK), Room k (A.deeper (envOfC qual (C8.fnScope st) s.heap.objs.size f cdv)) → sp vs H Q E →
      ∃ t, PSs (cxOf C8.CX0 P w K mg base N qual (C8.fnScope st) f cdv A outer s H E).nox (C8.fnBody st) t ∧ t { nx := fun _ H' => Q .non H', rt := Q } (start N vs) H) : SMet P w K mg base (k + 1) C m sp := by
  obtain ⟨mc, p, rest, r, a, b1, kp⟩ := me.ex
  exact ⟨mc, p, f, fd, ps, rest, r, a, b1, kp, C8.fn0 F S len hbody, b⟩
def tSMeth (C : Addr) (sp : Sp) (ta : TE) (t : TA) : TE := fun σ H Q => ta σ H fun x H1 => x = .ref C ∧ t σ H1 fun vs H2 => sp (vs ++ []) H2 Q C8.E0
section
variable {X : Cx} {k j : Nat} {C : Addr} {m : Str} {sp : Sp} {pos apos : Pos} {e o : Expr} {es : List Expr} {ta : TE} {t : TA} {pl : Sem Bool}
theorem pe_sm (c : SMet X.prog X.w X.K X.mg X.base k C m sp) (hr : Room j X.A) (hk : k ≤ j) (he : PE X o ta) (ha : PA X (e :: es) t)
    (hst : starEach (e :: es) X.env = (false, eval e X.env) :: starEach es X.env := by rfl) (hpl : (backTo pos (starEach es X.env)).any (·.1) = false := by rfl)
    (ht : eval (.Call (.Attribute o m apos) (e :: es) [] pos) X.env = (do
      let ov ← eval o X.env
      standAt apos.atName
      let (f, first) ← holding [ov] (getMethod ov m pl)
      callWith pos f first (backTo pos (starEach (e :: es) X.env)) (backToKw pos (keywordEach [] X.env))) := by rfl) :
    PE X (.Call (.Attribute o m apos) (e :: es) [] pos) (tSMeth C sp ta t) := by
  obtain ⟨mc, p, f, fd, ps, rest, r, a, b1, kp, F, b⟩ := c.ex
  refine ⟨fun pins s σ H Q I h => ?_⟩
  refine PySem.W.methodCall_KW (pl := pl) (thn (he.run pins s σ H _ I h) fun u s1 ⟨x, H1, I1, rx, ex, q⟩ => ?_) ht
  subst ex
  obtain rfl : u = Value.ref C := rx
  refine PySem.W.method_cls I1.kIn r.ga (PySem.W.cls_bind I1.kIn r.rd a (wpAny_call (PySem.W.sm_get (s := { s1 with toks := s1.toks + 1 }) I1.kIn b1 (PySem.W.handed_on rfl ?_))))
  have I2 : Inv X pins σ H1 { s1 with toks := s1.toks + 1 } := I1.tok _
  refine PySem.W.callWith_K (first := []) (h₀ := X.base) I.ok.mod.kin kp (thn (ha.run pos pins _ σ H1 _ I2 q) fun us s2 ⟨vs, H2, I3, rv, q2⟩ => ⟨I3.kIn, ?_⟩) hst hpl
  exact run_fn F (hr.mono hk) b .nil C8.pass0 I3 rv q2
end
/-! ### a generator method -/
structure GMet (P : Program) (w : World) (K : PySem.W.Frag) (mg : Str → Option Value) (base : Heap) (k : Nat) (C : Addr) (m : Str) (sp : SpG) : Prop where
  ex : ∃ (f : Addr) (fd : FuncData) (ps : List Str), Cls K C ∧ Meth K C m f ∧ GFn P w K mg base k f fd ps sp ∧ Binds K fd ps []
def gscC (N P : List Str) (sc : Scope) : Bool :=
  decide (sc.kind = .function) && !sc.isCoroutine && sc.isGenerator && decide N.Nodup && decide (N.take P.length = P) && P.all (fun x => decide (sc.names.lookup x = some .local) || decide (sc.names.lookup x = some .cell)) && sc.names.all (fun y => !decide (y.2 = .free))
theorem gscope_by {N P : List Str} {sc : Scope} (h : gscC N P sc = true) : GScope N P sc := by
  simp only [gscC, Bool.and_eq_true, decide_eq_true_eq, Bool.not_eq_true', List.all_eq_true, Bool.or_eq_true, decide_eq_false_iff_not] at h
  obtain ⟨⟨⟨⟨⟨⟨h1, h2⟩, h3⟩, h4⟩, h5⟩, h6⟩, h7⟩ := h
  exact ⟨h1, h2, h3, h4, h5, h6, h7⟩
theorem gmet0 {P : Program} {w : World} {K : PySem.W.Frag} {mg : Str → Option Value} {base : Heap} {m qual : Str} {C : Addr} {st : Stmt} {f : Addr} {fd : FuncData} {N ps : List Str} {k : Nat} {sp : SpG} (c : Cls K C) (me : Meth K C m f) (F : C8.Fun K m qual st f fd) (b : Binds K fd ps [])
    (S : GScope N ps (C8.fnScope st)) (len : ∀ vs H Q E, sp vs H Q E → vs.length = ps.length)
    (hbody : ∀ (cdv : Value) (A : Around) (outer : List Env) (s : Shared) (H : Hp) (vs : List V) (Q : List V → Hp → Prop) (E : XK) (pn : List (Addr × Obj)), Room k (A.deeper (envOfC qual (C8.fnScope st) s.heap.objs.size f cdv)) → sp vs H Q E →
      ∃ t, GSs (gcxOf P w K mg base N qual (C8.fnScope st) f cdv A outer s H E pn) (C8.fnBody st) t ∧ t { nx := fun ys _ H' => Q ys H', rt := fun ys v H' => v = .non ∧ Q ys H' } [] (start N vs) H) : GMet P w K mg base (k + 1) C m sp := by
  obtain ⟨oc, od, dV, kV, doc, pm, an, cdv, ct, osl, rfl, lk, hcd⟩ := F.ex
  exact ⟨f, _, ps, c, me, gfn_of lk hcd S len (hbody cdv), b⟩
theorem pass0G {X : Cx} : Passes (CX X.prog X.w) X C8.E0 := fun _ _ _ _ _ _ _ h => by
  obtain ⟨a, B, H', cls, d, _, _, _, _, _, _, _, z⟩ := h
  exact z.elim
section
variable {X : Cx} {k j : Nat} {C : Addr} {m : Str} {sp : SpG} {p pos pos' apos : Pos} {e o : Expr} {es : List Expr} {ta : TE} {t : TA} {pl : Sem Bool}
/-- list(o.m(..)) -/
theorem pe_listM (c : GMet X.prog X.w X.K X.mg X.base k C m sp) (hr : Room j X.A) (hk : k + 3 ≤ j) (he : PE X o ta) (ha : PA X (e :: es) t) (hg : Gl X "list") (hmg : X.mg "list" = none)
    (hst : starEach (e :: es) X.env = (false, eval e X.env) :: starEach es X.env := by rfl) (hpl : (backTo pos' (starEach es X.env)).any (·.1) = false := by rfl)
    (ht : eval (.Call (.Attribute o m apos) (e :: es) [] pos') X.env = (do
      let ov ← eval o X.env
      standAt apos.atName
      let (f, first) ← holding [ov] (getMethod ov m pl)
      callWith pos' f first (backTo pos' (starEach (e :: es) X.env)) (backToKw pos' (keywordEach [] X.env))) := by rfl)
    (hst2 : starEach [.Call (.Attribute o m apos) (e :: es) [] pos'] X.env = (false, eval (.Call (.Attribute o m apos) (e :: es) [] pos') X.env) :: starEach [] X.env := by rfl) :
    PE X (.Call (.Name "list" p) [.Call (.Attribute o m apos) (e :: es) [] pos'] [] pos) (tListG (tMethG C m sp [] C8.E0 ta t)) := by
  obtain ⟨f, fd, ps, hc, hm, F, b⟩ := c.ex
  exact pe_listG (pgen_meth (pl := pl) he hc hm F (hr.mono (by omega)) b .nil ha hst hpl ht) pass0G (fun _ _ _ z => z.elim) (hr.mono hk) hg hmg (by rfl) (by decide) (by decide) hst2
end
end Gx
namespace Gx
open PySem PySem.Spec PyProof.Rows L2 GenW
theorem isTup {K : PySem.W.Frag} {a : Addr} {xs : List V} {H : Hp} {Q : VK} (h : H a = some (.tup xs)) (q : Q (.bl true) H) : rIsi K [.ref a, .ty "tuple"] H Q :=
  ⟨_, _, .type "tuple", _, true, rfl, .ty _, .base (.tup h), by first | rfl | decide +kernel | kernel_rfl, q⟩
section
variable {t u : TGn} {tp : TS} {te : TE} {D : GEnds} {ys : List V} {σ : L2.St} {H : Hp}
theorem gthen (h : t { D with nx := fun ys' σ' H' => u D ys' σ' H' } ys σ H) : tGThen t u D ys σ H := h
theorem gplain (h : tp (D.at ys) σ H) : tPlain tp D ys σ H := h
theorem gat (h : D.nx ys σ H) : (D.at ys).nx σ H := h
theorem gnx {f g c d} (h : f ys σ H) : (GEnds.mk f g c d).nx ys σ H := h
theorem sfld {K : PySem.W.Frag} {to te : TE} {f : Str} {D : Ends} (h : te σ H fun y H1 => to σ H1 fun x H2 => ∃ a C dx fs, x = .ref a ∧ H2 a = some (.ins C dx fs) ∧ Cls K C ∧ NoAttr K C f ∧ fs.length < 1000 ∧ D.nx σ (upd H2 a (.ins C dx (putF f y fs)))) : sFld K to te f D σ H := h
theorem lg {tg : TGen} {Q : VK} (h : tg σ H fun out H2 => ∀ p, H2 p = none → Q (.ref p) (upd H2 p (.lst out))) : tListG tg σ H Q := h
theorem mg {C : Addr} {m : Str} {sp : SpG} {E : XK} {ta : TE} {t : TA} {cont : List V → Hp → Prop} (h : ta σ H fun x H1 => ∃ a dx fs, x = .ref a ∧ H1 a = some (.ins C dx fs) ∧ fs.lookup m = none ∧ t σ H1 fun vs H2 => sp (x :: (vs ++ [])) H2 cont E) : tMethG C m sp [] E ta t σ H cont := h
theorem sme {C : Addr} {sp : Sp} {ta : TE} {t : TA} {Q : VK} (h : ta σ H fun x H1 => x = .ref C ∧ t σ H1 fun vs H2 => sp (vs ++ []) H2 Q C8.E0) : tSMeth C sp ta t σ H Q := h
theorem gnil (h : D.nx ys σ H) : tG0 D ys σ H := h
theorem gy (hl : ys.length < sizeLine) (h : te σ H fun x H1 => D.nx (ys ++ [x]) σ H1) : tGYield te D ys σ H := ⟨hl, h⟩
theorem gfr {ta : TA} {g : TG} {tb : TGn} (h : ta σ H fun vs H1 => ∃ j : Int, vs = [.int j] ∧ -(2 ^ 62) ≤ j ∧ j < 2 ^ 62 ∧ ∃ W : Nat → Nat → List V → L2.St → Hp → Prop, (∃ m, W 0 m ys σ H1) ∧ ∀ i m ys σ H, W i m ys σ H →
  ((Itr 0 j.toNat).stop i H ∧ D.nx ys σ H) ∨ ((Itr 0 j.toNat).go i H ∧ ∃ N : List V → L2.St → Hp → Prop, (∀ ys' σ' H', N ys' σ' H' → ∃ m', m' < m ∧ W (i + 1) m' ys' σ' H') ∧
    ∀ x H', (Itr 0 j.toNat).yld i H x H' → g x σ H' fun σ2 H2 => tb { D with nx := N, ct := N, bk := D.nx } ys σ2 H2)) : tGFor (iRng1 ta) g tb D ys σ H := h
end
end Gx
namespace Gx
open PySem PySem.Spec PyProof.Rows L2 GenW
/-- a new object's heap by a name -/
theorem newo {H : Hp} {p : Addr} {o : HO} (hp : H p = none) : ∃ H1, H1 = upd H p o ∧ Rd.Ex H H1 ∧ H1 p = some o := ⟨_, rfl, Rd.ex_new hp, upd_same⟩
/-- f() -/
theorem pe_c0 {X : Cx} {k j : Nat} {x : Str} {sp : Sp} {p pos : Pos} (c : C8.Cal X.prog X.w X.K X.mg X.base k x sp []) (hr : Room j X.A) (hk : k ≤ j) (hg : Gl X x) (hdb : (x == ("__debug__" : Str)) = false := by decide) :
    PE X (.Call (.Name x p) [] [] pos) (tCall sp [] C8.E0 tNil) := by
  obtain ⟨f, fd, ps, ds, F, hm, kp, b, d⟩ := c.ex
  exact pe_call0 F (hr.mono hk) hg hm kp b d C8.pass0 hdb
end Gx

set_option Elab.async false
set_option linter.all false
set_option maxRecDepth 100000
set_option maxHeartbeats 1000000
/-! t[::-1] of a tuple of four -/
namespace Gx
open PySem PySem.Spec PyProof.Rows L2 GenW HT
section
variable {prog : Program} {w : World} {A : Around} {E : Value → Shared → Prop} {s : Shared}
theorem cutBack {sl : Addr} {x y z : Value} {Q : Int × Int × Nat → Shared → Prop} (hs : s.heap.IsSliceOf sl x y z) (px : IsPart x none) (py : IsPart y none) (pz : IsPart z (some (-1))) (h : Q (3, -1, 4) s) :
    wpAny (model prog w) A (Builtin.Slice.sliceApplied (.ref sl) (pure ((4 : Nat) : Int))) Q E s := by
  obtain ⟨ob, e1, _, e2⟩ := id hs
  unfold Builtin.Slice.sliceApplied Builtin.Slice.sliceFields
  refine wpAny_bind (wpAny_bind (wpAny_field e1 e2 (x := x) rfl (wpAny_bind (wpAny_field e1 e2 (x := y) rfl (wpAny_bind (wpAny_field e1 e2 (x := z) rfl (wpAny_pure ?_)))))))
  refine wpAny_bind (slicePart_ pz ?_)
  show wpAny _ _ (if ((-1 : Int) == 0) = true then _ else _) _ _ s
  rw [if_neg (show ¬ (((-1 : Int) == 0) = true) by decide)]
  exact wpAny_bind (slicePart_ px (wpAny_bind (slicePart_ py (wpAny_bind (wpAny_pure (wpAny_pure h))))))
theorem itemBack {t sl : Addr} {a b c d x y z : Value} {Q : Value → Shared → Prop} (ht : IsTup s.heap t #[a, b, c, d]) (hs : s.heap.IsSliceOf sl x y z) (px : IsPart x none) (py : IsPart y none) (pz : IsPart z (some (-1)))
    (h : Q (.ref s.heap.objs.size) { s with heap := s.heap.push { cls := .type "tuple", data := .seq #[d, c, b, a] } }) : wpAny (model prog w) A (getItem (.ref t) (.ref sl)) Q E s := by
  obtain ⟨ob, e1, e0, _⟩ := id hs
  have ty : s.TypeIs (.ref sl) "slice" := ⟨ob, e1, e0⟩
  unfold getItem
  try with_reducible refine wpAny_holding ?_
  first | refine wpAny_bind (wpAny_pure ?_) | skip
  refine wpAny_bind (wpAny_sequenceKey ht.typeIs (by decide) (wpAny_bind (wpAny_callSpecial?_slot (name := Str.ofString "__getitem__") ht.typeIs PyProof.Rows.slot_tuple_getitem
    (wpAny_call_entry PyProof.Rows.slot_tuple_getitem ht.typeIs entry_tuple_getitem ?_ (args_tuple_getitem _ _)))))
  show wpAny _ _ (Builtin.Tuple.tupleItemsOf (.ref t) >>= _) _ _ s
  refine wpAny_bind (tupleItemsOf_ ht (wpAny_bind (wpAny_typeOf ty ?_)))
  rw [if_pos (show (Value.type "slice" == Value.type "slice") = true by decide)]
  refine wpAny_bind (cutBack hs px py pz ?_)
  show wpAny _ _ (if ((3 : Int) == 0 && (-1 : Int) == 1 && (4 : Nat) == 4) = true then _ else _) _ _ s
  rw [if_neg (show ¬ (((3 : Int) == 0 && (-1 : Int) == 1 && (4 : Nat) == 4) = true) by decide)]
  have sz : sizeOk (.seq #[d, c, b, a]) := Nat.le_of_ble_eq_true rfl
  show wpAny _ _ (Builtin.Tuple.tupleExact #[d, c, b, a] >>= _) _ _ s
  first
    | exact wpAny_bind (m := Builtin.Tuple.tupleExact _) (wpAny_newObj_type (wpAny_pure ⟨_, rfl, wpAny_pure h⟩) sz)
    | exact wpAny_bind (m := Builtin.Tuple.tupleExact _) (wpAny_newObj_type (wpAny_bind (wpAny_pure (wpAny_pure ⟨_, rfl, wpAny_pure h⟩))) sz)
end
def tRevT (K : PySem.W.Frag) (te : TE) : TE := fun σ H Q => te σ H fun x H1 => ∃ a v1 v2 v3 v4, x = .ref a ∧ SqT K H1 a [v1, v2, v3, v4] ∧ ∀ p, H1 p = none → Q (.ref p) (upd H1 p (.tup [v4, v3, v2, v1]))
theorem pe_revT {X : Cx} {e : Expr} {te : TE} {k : Nat} {p1 p2 p3 pos : Pos} (he : PE X e te) : PE X (.Subscript e (.Slice none none (some (.UnaryOp .USub (.Constant (.int 1) k p1) p2)) p3) pos) (tRevT X.K te) := by
  refine ⟨fun pins s σ H Q I h => Subscript_ (thn (he.run pins s σ H _ I h) fun v s1 ⟨x, H1, I1, r1, a, v1, v2, v3, v4, ex, hx, q⟩ => ?_)⟩
  subst ex
  cases r1
  have neg1 : PO X (some (.UnaryOp .USub (.Constant (.int 1) k p1) p2)) (tPart (tUn (rU fun i => .int (-i)) (tC (.int 1)))) := po_some (pe_un un_neg pe_int)
  refine wpAny_Slice (thn (po_none.run pins s1 σ H1 (fun o H2 => o = none ∧ H2 = H1) I1 ⟨rfl, rfl⟩) fun y1 s2 ⟨o1, H2, I2, t1, c1, c2⟩ => ?_)
  subst c1 c2
  refine thn (po_none.run pins s2 σ H2 (fun o H3 => o = none ∧ H3 = H2) I2 ⟨rfl, rfl⟩) fun y2 s3 ⟨o2, H3, I3, t2, c1, c2⟩ => ?_
  subst c1 c2
  refine thn (neg1.run pins s3 σ H3 (fun o H4 => o = some (-1) ∧ H4 = H3) I3 ⟨1, rfl, -1, rfl, rfl, rfl⟩) fun y3 s4 ⟨o3, H4, I4, t3, c1, c2⟩ => ?_
  subst c1 c2
  have I5 : Inv X pins σ H4 { s4 with heap := s4.heap.push { cls := .type "slice", data := .fields #[y1, y2, y3] } } := I4.kept (t' := s4.toks) fun b ob z => Heap.get?_push_of_some _ z
  obtain ⟨its, r, ht, hz⟩ := I5.tuple hx
  cases r with
  | cons ra r => cases r with
    | cons rb r => cases r with
      | cons rc r => cases r with
        | cons rd r =>
          cases r
          show wpAny (model X.prog X.w) X.A (subscriptTail e _ (.ref a) (.ref s4.heap.objs.size)) (EP X pins σ Q) X.xe _
          refine tail_any (ops := [.ref a, .ref s4.heap.objs.size]) ht.typeIs PyProof.Rows.slot_tuple_getitem.lookup ?_ (by with_unfolding_all rfl)
          refine itemBack ht (Heap.IsSliceOf.new _ y1 y2 y3) t1 t2 t3 ?_
          refine ⟨.ref _, _, I5.laid (t' := s4.toks) (o := .tup [v4, v3, v2, v1]) (fun b ob z => Heap.get?_push_of_some _ z) (Nat.le_refl _) ?_, rfl, q _ (I5.hok.fresh (Nat.le_refl _))⟩
          exact ⟨Nat.le_of_ble_eq_true rfl, _, .cons rd (.cons rc (.cons rb (.cons ra .nil))), IsTup.new _ _⟩
theorem revT {K : PySem.W.Frag} {te : TE} {σ : L2.St} {H : Hp} {Q : VK} (h : te σ H fun x H1 => ∃ a v1 v2 v3 v4, x = .ref a ∧ SqT K H1 a [v1, v2, v3, v4] ∧ ∀ p, H1 p = none → Q (.ref p) (upd H1 p (.tup [v4, v3, v2, v1]))) : tRevT K te σ H Q := h
end Gx

set_option Elab.async false
set_option linter.all false
set_option maxRecDepth 100000
set_option maxHeartbeats 1000000
/-! own exceptions that call their base's __init__ by the base's name, and defs that may raise them -/
namespace Gx
open PySem PySem.Spec PyProof.Rows L2 GenW
section
variable {X : Cx} {x : Str} {e : Expr} {es : List Expr} {ta : TA} {p p1 p2 pos : Pos}
/-- B.__init__(self, ..), B an own class over ValueError without an __init__ of its own -/
theorem pe_binit {pl : Sem Bool} {B : Addr} {mc : Value} (hg : Gl X x) (hm : X.mg x = some (.ref B)) (r : ClX.CRead X.K B mc) (hv : PySem.W.findCls X.K (.ref B) mc "__init__" = some (.val (.builtin "ValueError.__init__"))) (ha : PA X (e :: es) ta)
    (hdb : (x == ("__debug__" : Str)) = false := by decide)
    (hc : eval (.Call (.Attribute (.Name x p1) "__init__" p2) (e :: es) [] pos) X.env = (do
      let ov ← eval (.Name x p1) X.env
      standAt p2.atName
      let (f, first) ← holding [ov] (getMethod ov "__init__" pl)
      callWith pos f first (backTo pos (starEach (e :: es) X.env)) (backToKw pos (keywordEach [] X.env))) := by rfl)
    (he : starEach (e :: es) X.env = (false, eval e X.env) :: starEach es X.env := by rfl) (hpl : (backTo pos (starEach es X.env)).any (·.1) = false := by rfl) :
    PE X (.Call (.Attribute (.Name x p1) "__init__" p2) (e :: es) [] pos) (tVeI X.K ta) := by
  refine ⟨fun pins s σ H Q I h => PySem.W.methodCall_KW (ld_glob I hg hm ?_ hdb) hc⟩
  refine PySem.W.method_cls I.kIn r.ga (PySem.W.cls_value I.kIn r.rd hv (by decide +kernel) ?_)
  refine PyProof.Rows.callWith_method1 (thn (ha.run pos pins _ σ H _ (I.tok _) h) fun us s1 ⟨vs, H1, I1, r1, a, C, ws, ev, hl, T, ea, q⟩ => ?_) he hpl
  subst ev
  cases r1 with
  | @cons _ u _ ur ra rr =>
    obtain rfl : u = Value.ref a := ra
    exact oinit_ok T I1 ea (by rw [← Paired.length rr, sizeLine_eq]; omega) fun s' J => ⟨.non, H1, J, rfl, q⟩
end
/-- the promise of such a class's __init__ -/
def spExc (C : Addr) (fl : Str) : Sp := fun vs H Q _ => ∃ (p : Addr) (v : V), vs = [.ref p, v] ∧ H p = some (exo p C none) ∧ ∀ dx, H dx = none → dx ≠ p → Q .non (upd (upd H dx (exd dx [(fl, v)])) p (exo p C (some dx)))
structure ExcMk (P : Program) (w : World) (K : PySem.W.Frag) (mg : Str → Option Value) (base : Heap) (k : Nat) (x : Str) (C : Addr) (fl : Str) : Prop where
  ex : ∃ (f : Addr) (fd : FuncData) (ps : List Str), OexC K C ∧ PySem.W.findIn K (.ref C) "__init__" = some (some (.ref f)) ∧ PySem.W.typeIn K (.ref f) = some (.type "function") ∧ FnOk P w K mg base C8.CX0 k f fd ps (spExc C fl) ∧ Binds K fd ps [] ∧ mg x = some (.ref C)
section
variable {X : Cx} {x : Str} {e : Expr} {ta : TA} {p pos : Pos} {k j : Nat} {C : Addr} {fl : Str}
theorem pmk_ex (c : ExcMk X.prog X.w X.K X.mg X.base k x C fl) (hr : Room j X.A) (hk : k + 1 ≤ j) (hg : Gl X x) (ha : PA X [e] ta) (hdb : (x == ("__debug__" : Str)) = false := by decide)
    (he : starEach [e] X.env = (false, eval e X.env) :: starEach [] X.env := by rfl) (hpl : (backTo pos (starEach [] X.env)).any (·.1) = false := by rfl) : PMk X (.Call (.Name x p) [e] [] pos) (tMkO C (spExc C fl) [] ta) := by
  obtain ⟨f, fd, ps, T, i, t, F, b, hm⟩ := c.ex
  exact pmk_oex T i t F (hr.mono hk) b .nil C8.pass0 hg hm ha hdb he hpl
end
/-- the exception is made: its dict holds the value -/
theorem mkO {C : Addr} {fl : Str} {v : V} {H : Hp} {Q : XK} (q : ∀ d H', H d = none → Rd.Ex H H' → H' d = some (.xd [(fl, v)]) → Q (.ref C) (some d) H') :
    [v].length ≤ 1000 ∧ ∀ a, H a = none → spExc C fl (.ref a :: ([v] ++ [])) (upd H a (exo a C none))
      (fun r H2 => r = .non ∧ ∃ (d : Addr) (fs : List (Str × V)), H2 a = some (exo a C (some d)) ∧ H2 d = some (exd d fs) ∧ H d = none ∧ Q (.ref C) (some d) (upd (del H2 a) d (.xd fs))) (fun _ _ _ => False) := by
  refine ⟨Nat.le_of_ble_eq_true rfl, fun a ha => ⟨a, v, rfl, upd_same, fun dx hd ne => ⟨rfl, dx, [(fl, v)], upd_same, ?_, ?_, ?_⟩⟩⟩
  · rw [upd_ne ne, upd_same]
  · rw [upd_ne ne] at hd; exact hd
  · have hd' : H dx = none := by rw [upd_ne ne] at hd; exact hd
    refine q dx _ hd' (fun c o h => ?_) upd_same
    have n1 : c ≠ a := ne_of_none h ha
    have n2 : c ≠ dx := ne_of_none h hd'
    rw [upd_ne n2, del_ne n1, upd_ne n1, upd_ne n2, upd_ne n1]
    exact h
/-! ### a def that may raise -/
structure CalX (P : Program) (w : World) (K : PySem.W.Frag) (mg : Str → Option Value) (base : Heap) (k : Nat) (x : Str) (sp : Sp) : Prop where
  ex : ∃ (f : Addr) (fd : FuncData) (ps : List Str), FnOk P w K mg base (CX P w) k f fd ps sp ∧ mg x = some (.ref f) ∧ PySem.W.keepIn K (.ref f) = true ∧ Binds K fd ps []
theorem takes_cx {P : Program} {w : World} {K : PySem.W.Frag} {mg : Str → Option Value} {base : Heap} {N : List Str} {qual : Str} {scope : Scope} {f : Addr} {cd : Value} {A : Around} {outer : List Env} {s : Shared} {H : Hp} {E : XK} :
    Takes (cxOf (CX P w) P w K mg base N qual scope f cd A outer s H E) (fun cls d _ H' => E cls d H') := takes_of rfl rfl rfl rfl
theorem calX {P : Program} {w : World} {K : PySem.W.Frag} {mg : Str → Option Value} {base : Heap} {x : Str} {st : Stmt} {f : Addr} {fd : FuncData} {N ps : List Str} {k : Nat} {sp : Sp} (F : C8.Def K mg x st f fd) (b : Binds K fd ps []) (S : FnScope N ps (C8.fnScope st)) (len : ∀ vs H Q E, sp vs H Q E → vs.length = ps.length)
    (hbody : ∀ (cdv : Value) (A : Around) (outer : List Env) (s : Shared) (H : Hp) (vs : List V) (Q : VK) (E : XK), Room k (A.deeper (envOfC x (C8.fnScope st) s.heap.objs.size f cdv)) → sp vs H Q E →
      ∃ t, PSs (cxOf (CX P w) P w K mg base N x (C8.fnScope st) f cdv A outer s H E) (C8.fnBody st) t ∧ t { nx := fun _ H' => Q .non H', rt := Q } (start N vs) H) : CalX P w K mg base (k + 1) x sp := by
  obtain ⟨oc, od, dV, kV, doc, pm, an, cdv, ct, osl, rfl, lk, hcd⟩ := F.fn.ex
  exact ⟨f, _, ps, fn_of lk hcd S len (hbody cdv), F.mgf, F.kp, b⟩
section
variable {X : Cx} {k j : Nat} {x : Str} {sp : Sp} {p pos : Pos} {e : Expr} {es : List Expr} {t : TA} {W : WX} {E : XK}
theorem pe_cx (c : CalX X.prog X.w X.K X.mg X.base k x sp) (tk : Takes X W) (hW : ∀ cls d σ H, E cls d H → W cls d σ H) (hr : Room j X.A) (hk : k ≤ j) (hg : Gl X x) (ha : PA X (e :: es) t)
    (hdb : (x == ("__debug__" : Str)) = false := by decide) (he : starEach (e :: es) X.env = (false, eval e X.env) :: starEach es X.env := by rfl) (hpl : (backTo pos (starEach es X.env)).any (·.1) = false := by rfl) :
    PE X (.Call (.Name x p) (e :: es) [] pos) (tCall sp [] E t) := by
  obtain ⟨f, fd, ps, F, hm, kp, b⟩ := c.ex
  exact pe_call F (hr.mono hk) hg hm kp b .nil (passes_call tk hW) ha hdb he hpl
end
end Gx

set_option Elab.async false
set_option linter.all false
set_option maxRecDepth 100000
set_option maxHeartbeats 1000000
/-! isinstance of a caught exception that has a dict -/
namespace Gx
open PySem PySem.Spec PySem.Calls PyProof.Rows PySem.W
section
variable {prog : Program} {w : World} {A : Around} {E : Value → Shared → Prop} {s : Shared} {K : Frag} {a D : Addr} {oa odict : Obj}
/-- e.__class__ -/
theorem cls_of_exc {Q : Option Value → Shared → Prop} (G : L2.ExcC K D) (KI : K.In s.heap) (J : InstAt s.heap a oa D (some odict)) (q : Q (some (.ref D)) { s with toks := s.toks + 1 }) : wpAny (model prog w) A (getAttr? (.ref a) "__class__") Q E s := by
  have some1 : (clsIn K D).isSome = true := by
    obtain ⟨_, e, _⟩ := any_some G.hd
    rw [e]; rfl
  have found := findObj_data (od := odict) some1 G.ha G.hn G.ht
  obtain ⟨hp, gs, dr, tk, oss⟩ := s
  have M1 : Looks (model prog w) hp (typeOf (.ref a)) (.ref D) := J.type
  have M2 := looks_findIn (M := model prog w) KI G.hg
  have M3 := looks_findIn (M := model prog w) KI G.hk
  have M4 := looks_find (M := model prog w) KI J found
  have M5 : Looks (model prog w) hp (isInstance (.ref a) (.type "BaseException")) true := M1.andThen (looks_subIn KI G.hs)
  have other : (Value.builtin "BaseException.__getattribute__" == Value.builtin "object.__getattribute__") = false := by decide +kernel
  have b1 : (onTheHeap (Value.ref D) && Value.builtin "BaseException.__getattribute__" == Value.builtin "object.__getattribute__") = false := by rw [other]; rfl
  unfold getAttr? getAttrBy? getAttrBy
  refine wpAny_bind (wpAny_mkText (wpAny_bind (wpAny_attempt (wpAny_holding (wpAny_bind (M1.at (wpAny_bind (M2.at ?a1))))))))
  case a1 =>
    show wpAny _ _ (if (onTheHeap (Value.ref D) && Value.builtin "BaseException.__getattribute__" == Value.builtin "object.__getattribute__") = true then _ else _) _ _ _
    rw [b1, if_neg Bool.false_ne_true]
    unfold getAttrByItsOwn hookBefore
    refine wpAny_bind ?a2
    case a2 =>
      rw [if_pos (show onTheHeap (Value.ref D) = true from rfl)]
      refine M3.at (wpAny_bind (wpAny_attempt (wpAny_holding ?a3)))
      case a3 =>
        unfold callGetattribute
        rw [show (false && onTheHeap (Value.builtin "BaseException.__getattribute__")) = false from rfl, if_neg Bool.false_ne_true]
        unfold boundAndCalled
        rw [PySem.F.excAttr_ValueError.ga.bind (.ref a)]
        refine wpAny_bind (wpAny_pure ?a4)
        case a4 =>
          show wpAny _ _ (call (.builtin "BaseException.__getattribute__") [.ref a, .str "__class__" tk]) _ _ _
          refine wpAny_call (codeAny_call_builtin PySem.F.excAttr_ValueError.ga.plain PySem.F.entry_bexc_ga (@check_slot (model prog w) _ _ ⟨hp, gs, dr, tk + 1, oss⟩ "BaseException.__getattribute__" "BaseException" "__getattribute__" (.ref a) [.str "__class__" tk] [] _
            (by decide +kernel) (by decide +kernel) M5 (PySem.F.args_bexc_ga (.ref a) (.str "__class__" tk)) ?a5))
          case a5 =>
            unfold Builtin.«object.__getattribute__»
            refine wpAny_bind (wpAny_of_eq (a := ((Value.ref a : Value), [Value.str "__class__" tk])) (by first | rfl | (simp only [slotArgs]; rfl)) (wpAny_bind (wpAny_pure (wpAny_bind (M1.at (wpAny_bind (M4.at ?a6)))))))
            case a6 =>
              show wpAny _ _ (holding [Value.builtin "object.__class__"] (call (.builtin "getset_descriptor.__get__") [.builtin "object.__class__", .ref a, .ref D]) >>= ret) _ _ _
              refine wpAny_bind (wpAny_holding (wpAny_call (class_get (s := ⟨hp, gs, dr, tk + 1, oss⟩) KI J G.hm (wpAny_pure ?a7))))
              case a7 =>
                show wpAny _ _ (handedOut (.ref D)) _ _ _
                rw [handedOut_of (v := .ref D) rfl]
                first
                  | exact wpAny_pure (wpAny_pure q)
                  | exact wpAny_pure q
                  | exact wpAny_pure (wpAny_bind (wpAny_pure (wpAny_pure q)))
theorem kit_exc (G : L2.ExcC K D) : KitX K (.ref a) (.ref D) (fun h => InstAt h a oa D (some odict)) := by
  have atK : ∃ c d cd sl, K.lookup D = some ⟨c, d, .cls cd, sl⟩ := by
    obtain ⟨_, e, _⟩ := any_some G.hd
    unfold clsIn at e
    split at e
    · exact ⟨_, _, _, _, by assumption⟩
    · cases e
  obtain ⟨c, d, cd, sl, eD⟩ := atK
  refine ⟨fun _ _ _ J => J.type, fun _ _ KI _ => ?_, fun h tp dd its n sl' KI e => ?_, fun KI J q => cls_of_exc G KI J q⟩
  · intro A' Q' E' s' k q
    unfold isType loadHead
    exact wpAny_bind (wpAny_loadPart (k _ _ (KI _ _ eD)) (wpAny_pure q))
  · refine Bool.eq_false_iff.mpr fun z => ?_
    obtain rfl : D = tp := Value.ref.inj (beq_iff_eq.mp z)
    cases (KI _ _ eD).symm.trans e
end
open L2
/-- isinstance(e, c), e the exception that the suite holds -/
theorem call_isX {X : Cx} {a D dd : Addr} {oe : Obj} {pn : List (Addr × Obj)} (G : ExcC X.K D) (hz : Zc (.ref D) (some dd) oe) (hf : ∃ vs, oe.data = .fields vs) :
    CallR (X.suite a ((a, oe) :: pn)) (.builtin "isinstance") (fun xs H Q => (∃ fs, H dd = some (.xd fs)) ∧ rIsE X.K D a xs H Q) := by
  intro pins s σ H xs us Q I r h
  obtain ⟨⟨fs, hd⟩, c, cv, b, rfl, hcv, e, q⟩ := h
  cases r with
  | cons rx rr =>
    cases rr with
    | cons rt rr =>
      cases rr
      cases rx
      obtain rfl := hcv _ rt
      obtain ⟨at_, _⟩ := I.pin (a, oe) (List.mem_append_left _ List.mem_cons_self)
      obtain ⟨vs, hv⟩ := hf
      obtain ⟨mA, ns, _⟩ := (show ObjOk X.prog X.w H s.heap dd (.xd fs) from I.hok dd _ hd)
      obtain ⟨od, ho, _⟩ := lookIn_ns ns
      have J : PySem.W.InstAt s.heap a oe D (some od) := ⟨at_, hz.1, by unfold PySem.W.notCls; rw [hv] <;> rfl, by rw [hz.2]; exact ho⟩
      exact PySem.W.kia_one (kit_exc G) I.kIn J e (fun z => nomatch z) fun tk => ⟨.bl b, H, I.kept (t' := tk) fun _ _ z => z, rfl, q⟩
end Gx

set_option Elab.async false
set_option linter.all false
set_option maxRecDepth 100000
set_option maxHeartbeats 1000000
/-! a def that makes lambdas: its code object is known -/
namespace Gx
open PySem PySem.Spec PyProof.Rows L2
structure LamDef (K : PySem.W.Frag) (mg : Str → Option Value) (x : Str) (st : Stmt) (f c : Addr) (fd : FuncData) : Prop where
  ex : ∃ (oc : Value) (od : Option Addr) (dV kV doc pm : Value) (an : Option Addr) (ct : Value) (osl : Array (Option Value)),
    fd = PySem.W.fnOf x x (C8.fnArgs st) (C8.fnBody st) (C8.fnScope st) dV kV doc pm an (.ref c) ct ∧ K.lookup f = some ⟨oc, od, .func fd, osl⟩ ∧ PySem.W.codeIn K (.ref c) x = true
  mgf : mg x = some (.ref f)
  kp : PySem.W.keepIn K (.ref f) = true
theorem calGc {P : Program} {w : World} {K : PySem.W.Frag} {mg : Str → Option Value} {base : Heap} {x : Str} {st : Stmt} {f c : Addr} {fd : FuncData} {N ps : List Str} {k : Nat} {sp : Sp} (F : LamDef K mg x st f c fd) (b : Binds K fd ps []) (S : FnScope N ps (C8.fnScope st))
    (len : ∀ vs H Q E, sp vs H Q E → vs.length = ps.length)
    (hbody : ∀ (A : Around) (outer : List Env) (s : Shared) (H : Hp) (vs : List V) (Q : VK), A.guards = some [] → Room k (A.deeper (envOfC x (C8.fnScope st) s.heap.objs.size f (.ref c))) → sp vs H Q C8.E0 →
      ∃ t, PSs (cxOf C8.CX0 P w K mg base N x (C8.fnScope st) f (.ref c) A outer s H C8.E0).nox (C8.fnBody st) t ∧ t { nx := fun _ H' => Q .non H', rt := Q } (start N vs) H) : CalG P w K mg base (k + 1) x sp := by
  obtain ⟨oc, od, dV, kV, doc, pm, an, ct, osl, rfl, lk, hcd⟩ := F.ex
  refine ⟨f, _, ps, ⟨len, fun A outer s H args us vs Q hg hr e0 hb r hsp => LamX.run_ofS (CX := C8.CX0) (E := C8.E0) lk hcd S hr e0 hb r (len _ _ _ _ hsp) fun hr' => ?_⟩, F.mgf, F.kp, b⟩
  obtain ⟨t, h, q⟩ := hbody A outer s H vs Q hg hr' hsp
  exact ⟨t, h.nox, q⟩
theorem takes_lam {X : Cx} {A : Around} {outer : List Env} {s : Shared} {H : Hp} {E : XK} {scope : Scope} {f c : Addr} : Takes (LamX.lamCx X A outer s H E scope f c) (fun cls d _ H' => E cls d H') := takes_of rfl rfl rfl rfl
/-- x(lambda: body), x a def that calls what it gets -/
theorem pe_lam {X : Cx} {T : List (Addr × Str)} {TT : (XK → Hp → VK → Prop) → Hp → VK → Prop} {x a : Str} {st : Stmt} {g c tb : Addr} {k j : Nat} {fd : FuncData} {Ng : List Str} {params : Arguments} {body : Expr} {scope : Scope} {t : XK → TE} {p lpos pos : Pos}
    (D : C8.Def X.K X.mg x st g fd) (b : Binds X.K fd [a] []) (Sg : FnScope Ng [a] (C8.fnScope st)) (hNg : Ng[0]? = some a) (hva : Vis (C8.fnScope st) a) (hG : ∀ cdg, LamX.GivesTo X Ng x (C8.fnScope st) g cdg (C8.fnBody st) a (X.env.qual ++ "<lambda>") TT)
    (TB : LamX.TabB X.base X.mg c tb) (hcode : X.env.code = .ref c) (hmT : (tb, X.env.qual ++ "<lambda>") ∈ T) (hu : ∀ p ∈ T, p.1 = tb → p.2 = X.env.qual ++ "<lambda>") (hr : Room j X.A) (hk : k + 2 ≤ j) (hg : Gl X x) (L : LamX.LamS X.env.scope scope)
    (hbody : ∀ (A : Around) (outer : List Env) (s : Shared) (H : Hp) (E : XK) (f c' : Addr), Room k (A.deeper (LamX.lamEnv X scope s.heap.objs.size f c')) → PE (LamX.lamCx X A outer s H E scope f c') body (t E))
    (hdef : defaultsOf params X.env = ([], []) := by rfl) (hbind : ∀ (q : Str) (cl : List (Str × Addr)) (pm cv ctv : Value), bindArgs (PySem.W.kla_fn "<lambda>" q params body scope cl pm cv ctv) ⟨[], []⟩ = pure [] := by intros; rfl)
    (hdb : (x == ("__debug__" : Str)) = false := by decide) (hd : (a == ("__debug__" : Str)) = false := by decide) (hcd : (a == ("__classdict__" : Str)) = false := by decide) :
    PE X (.Call (.Name x p) [.Lambda params body scope lpos] [] pos) (LamX.tLam T TT t) := by
  obtain ⟨oc, od, dV, kV, doc, pm, an, cdv, ct, osl, rfl, lk, hc⟩ := D.fn.ex
  exact LamX.pe_lamcall hg D.mgf D.kp lk hc b Sg hNg hva (hG cdv) TB hcode hmT hu (hr.mono hk) L hdef hbind hbody hdb hd hcd
end Gx

set_option Elab.async false
set_option linter.all false
set_option maxRecDepth 100000
set_option maxHeartbeats 1000000
/-! repr of data, or of the empty dict -/
namespace Gx
open PySem PySem.Spec PyProof.Rows L2
def rReprD (K : PySem.W.Frag) : List V → Hp → VK → Prop := fun xs H Q => rRepr K xs H Q ∨ ∃ a, xs = [.ref a] ∧ H a = some (.dK []) ∧ Q (.str "{}") H
theorem call_reprD {X : Cx} (hg : X.A.guards = some []) (hu : X.A.units + 64 < cLine) : CallR X (.builtin "repr") (rReprD X.K) := by
  intro pins s σ H xs us Q I r h
  rcases h with h | ⟨a, rfl, ha, q⟩
  · exact call_repr hg hu pins s σ H xs us Q I r h
  obtain ⟨u, rfl, ru⟩ := vals1 r
  cases ru
  obtain ⟨_, nsm, vs, kv, o, es, ep, h1, h2, h3, h4⟩ := (show ObjOk X.prog X.w H s.heap a (.dK []) from I.hok a _ ha)
  cases kv
  have e : es.toList = [] := by
    have z := h4.2.1
    generalize es.toList = l at z
    cases l with
    | nil => rfl
    | cons p l => cases z
  have rd : Reads s.heap (.ref a) (.dict []) (a :: [] ++ []) := .dict (kvs := []) h1 h2.1 h3 (by rw [e]; exact .nil) (by rw [e]; exact .nil)
  have nsm' : sysModules ∉ a :: [] ++ [] := fun z => by
    rcases List.mem_cons.mp z with z | z
    · rw [← z] at nsm; simp at nsm
    · cases z
  exact repr_of_reads' rd (by decide) (fun _ => nsm') hg (by show X.A.units + 2 < cLine; omega) (fun _ _ z => z) (fun h' t tk hk => ⟨.str "{}", H, I.kept hk, ⟨_, rfl⟩, q⟩) (by decide +kernel)
end Gx

set_option Elab.async false
set_option linter.all false
set_option maxRecDepth 100000
set_option maxHeartbeats 4000000
set_option exponentiation.threshold 2000
namespace Gx
open PySem PySem.Spec PyProof.Rows L2
/-! ### texts of data: how long they are -/
mutual
def Sml : PyData → Prop
  | .none => True
  | .bool _ => True
  | .int i => i.natAbs < 2 ^ 600
  | .str _ => False
  | .list xs => SmlAll xs
  | .tuple xs => SmlAll xs
  | .dict _ => False
def SmlAll : List PyData → Prop
  | [] => True
  | x :: xs => Sml x ∧ SmlAll xs
end
mutual
def nodes : PyData → Nat
  | .list xs => nodesAll xs + 1
  | .tuple xs => nodesAll xs + 1
  | .none => 1
  | .bool _ => 1
  | .int _ => 1
  | .str _ => 1
  | .dict _ => 1
def nodesAll : List PyData → Nat
  | [] => 0
  | x :: xs => nodes x + nodesAll xs
end
theorem log_lt {n k : Nat} (hk : 0 < k) (h : n < 2 ^ k) : n.log2 < k := PySem.Flt.log2_lt_of hk h
mutual
theorem sml_show : ∀ d : PyData, Sml d → d.showable = true
  | .none, _ => by simp only [PyData.showable]
  | .bool _, _ => by simp only [PyData.showable]
  | .int i, h => by
    simp only [PyData.showable, decide_eq_true_eq]
    exact Nat.lt_trans (log_lt (by decide) (show i.natAbs < 2 ^ 600 from by simpa only [Sml] using h)) (by decide)
  | .str _, h => by simp only [Sml] at h
  | .list xs, h => by
    simp only [PyData.showable]
    exact sml_showAll xs (by simpa only [Sml] using h)
  | .tuple xs, h => by
    simp only [PyData.showable]
    exact sml_showAll xs (by simpa only [Sml] using h)
  | .dict _, h => by simp only [Sml] at h
theorem sml_showAll : ∀ xs : List PyData, SmlAll xs → PyData.showableAll xs = true
  | [], _ => by simp only [PyData.showableAll]
  | x :: xs, h => by
    simp only [SmlAll] at h
    simp only [PyData.showableAll, Bool.and_eq_true]
    exact ⟨sml_show x h.1, sml_showAll xs h.2⟩
end
mutual
theorem sml_len : ∀ d : PyData, Sml d → d.shown.length + 2 ≤ 612 * nodes d
  | .none, _ => by simp only [nodes, PyData.shown]; decide
  | .bool b, _ => by cases b <;> simp only [nodes, PyData.shown] <;> decide
  | .int i, h => by
    have z : (toString i).length ≤ 601 := int_text_length_le (by decide) (log_lt (by decide) (show i.natAbs < 2 ^ 600 from by simpa only [Sml] using h))
    have e : (PyData.shown (.int i)).length = (toString i).length := by simp only [PyData.shown]; exact PySem.ofString_length _
    rw [e]
    simp only [nodes]
    omega
  | .str _, h => by simp only [Sml] at h
  | .list xs, h => by
    simp only [PyData.shown, nodes]
    have a := listText_len_le (PyData.shownAll xs)
    have b := sml_lenAll xs (by simpa only [Sml] using h)
    omega
  | .tuple xs, h => by
    simp only [PyData.shown, nodes]
    have a := tupleText_len_le (PyData.shownAll xs)
    have b := sml_lenAll xs (by simpa only [Sml] using h)
    omega
  | .dict _, h => by simp only [Sml] at h
theorem sml_lenAll : ∀ xs : List PyData, SmlAll xs → ((PyData.shownAll xs).map (·.length)).sum + 2 * (PyData.shownAll xs).length ≤ 612 * nodesAll xs
  | [], _ => by simp [PyData.shownAll, nodesAll]
  | x :: xs, h => by
    simp only [SmlAll] at h
    have a := sml_len x h.1
    have b := sml_lenAll xs h.2
    simp only [PyData.shownAll, nodesAll, List.map_cons, List.sum_cons, List.length_cons]
    omega
end
/-- what repr asks of the data -/
structure Okd (d : PyData) : Prop where
  sh : d.showable = true
  dp : d.depth ≤ 60
  ln : d.shown.length ≤ sizeLine
theorem okd {d : PyData} (h : Sml d) (hd : d.depth ≤ 60) (hn : nodes d ≤ 20000) : Okd d := ⟨sml_show d h, hd, by
  have := sml_len d h
  have e : sizeLine = 16777216 := sizeLine_eq
  omega⟩
theorem rpr {K : PySem.W.Frag} {H : Hp} {Q : VK} {x : V} (d : PyData) (h : Dp K H x d) (o : Okd d) (q : Q (.str d.shown) H) : rRepr K [x] H Q := ⟨x, d, rfl, h, o.sh, o.dp, o.ln, q⟩
theorem okInt {i : Int} (h : i.natAbs < 2 ^ 600) : Okd (.int i) := okd (by simpa only [Sml] using h) (by simp only [PyData.depth]; omega) (by simp only [nodes]; omega)
/-! ### three pairs -/
section
variable {k1 k2 k3 : Key} {a b c v : V}
theorem val1 : valV [(k1, a), (k2, b), (k3, c)] k1 = some a := valV_pos rfl
theorem val2 (h : ¬ k1 = k2) : valV [(k1, a), (k2, b), (k3, c)] k2 = some b := (valV_neg (p := (k1, a)) h).trans (valV_pos rfl)
theorem val3 (h : ¬ k1 = k3) (h2 : ¬ k2 = k3) : valV [(k1, a), (k2, b), (k3, c)] k3 = some c := (valV_neg (p := (k1, a)) h).trans ((valV_neg (p := (k2, b)) h2).trans (valV_pos rfl))
theorem put1 (h : ¬ k2 = k1) (h3 : ¬ k3 = k1) : putK [(k1, a), (k2, b), (k3, c)] k1 v = [(k1, v), (k2, b), (k3, c)] := by simp [putK, h, h3]
theorem put2 (h : ¬ k1 = k2) (h3 : ¬ k3 = k2) : putK [(k1, a), (k2, b), (k3, c)] k2 v = [(k1, a), (k2, v), (k3, c)] := by simp [putK, h, h3]
theorem put3 (h : ¬ k1 = k3) (h3 : ¬ k2 = k3) : putK [(k1, a), (k2, b), (k3, c)] k3 v = [(k1, a), (k2, b), (k3, v)] := by simp [putK, h, h3]
theorem merge3 (h : ¬ k1 = k2) (h2 : ¬ k1 = k3) (h3 : ¬ k2 = k3) : mergeK [] [(k1, a), (k2, b), (k3, c)] = [(k1, a), (k2, b), (k3, c)] := by
  have e1 : putK [] k1 a = [(k1, a)] := by simp [putK]
  have e2 : putK [(k1, a)] k2 b = [(k1, a), (k2, b)] := by simp [putK, h]
  have e3 : putK [(k1, a), (k2, b)] k3 c = [(k1, a), (k2, b), (k3, c)] := by simp [putK, h2, h3]
  simp only [mergeK, List.foldl_cons, List.foldl_nil, e1, e2, e3]
end
/-! ### an item of a written list -/
theorem pick {l : List Int} {P : Int → Prop} (h : ∀ x ∈ l, P x) {i : Int} (h0 : 0 ≤ i) (h1 : i < (l.length : Int)) : ∃ x, P x ∧ atI (l.map V.int) i = some (.int x) := by
  obtain ⟨n, rfl⟩ := Int.eq_ofNat_of_zero_le h0
  have hl : n < l.length := by omega
  refine ⟨l[n], h _ (List.getElem_mem hl), ?_⟩
  refine atI_nat ?_
  rw [List.getElem?_map, List.getElem?_eq_getElem hl]
  rfl
theorem dpInts {K : PySem.W.Frag} {H : Hp} : ∀ ns : List Int, DpAll K H (ns.map V.int) (ns.map PyData.int)
  | [] => .nil
  | n :: ns => .cons (.int n) (dpInts ns)
theorem canInts : ∀ ns : List Int, PyData.canLayAll0 (ns.map PyData.int) = true
  | [] => rfl
  | n :: ns => by simp only [List.map_cons, PyData.canLayAll0, PyData.canLay0, canInts ns, Bool.and_self]
theorem depInts : ∀ ns : List Int, PyData.depthAll (ns.map PyData.int) = 0
  | [] => rfl
  | n :: ns => by simp only [List.map_cons, PyData.depthAll, PyData.depth, depInts ns]; omega
theorem shpInts (ns : List Int) : SeqAt.shaped (.list (ns.map PyData.int)) = true := by
  simp only [SeqAt.shaped, PyData.canLay0, canInts, PyData.depth, depInts]
  decide
theorem eqInts : ∀ ns ms : List Int, PyData.eqvAll (ns.map PyData.int) (ms.map PyData.int) = decide (ns = ms)
  | [], [] => rfl
  | [], _ :: _ => rfl
  | _ :: _, [] => rfl
  | n :: ns, m :: ms => by
    simp only [List.map_cons, PyData.eqvAll, PyData.eqv, eqInts ns ms]
    by_cases h : n = m
    · subst h; simp
    · simp [h]
/-- two lists of ints compared -/
theorem eqL {K : PySem.W.Frag} {H : Hp} {Q : VK} {p q : Addr} {ns ms : List Int} (h1 : SqL K H p (ns.map V.int)) (h2 : SqL K H q (ms.map V.int)) (k : Q (.bl (decide (ns = ms))) H) : rEqD K (.ref p) (.ref q) H Q :=
  ⟨_, _, .lst h1 (dpInts ns), .lst h2 (dpInts ms), shpInts ns, shpInts ms, by
    have e : PyData.eqv (.list (ns.map PyData.int)) (.list (ms.map PyData.int)) = decide (ns = ms) := by simp only [PyData.eqv, eqInts]
    rw [e]; exact k⟩
theorem neL {K : PySem.W.Frag} {H : Hp} {Q : VK} {p q : Addr} {ns ms : List Int} (h1 : SqL K H p (ns.map V.int)) (h2 : SqL K H q (ms.map V.int)) (k : Q (.bl (!decide (ns = ms))) H) : rNeD K (.ref p) (.ref q) H Q :=
  ⟨_, _, .lst h1 (dpInts ns), .lst h2 (dpInts ms), shpInts ns, shpInts ms, by
    have e : PyData.eqv (.list (ns.map PyData.int)) (.list (ms.map PyData.int)) = decide (ns = ms) := by simp only [PyData.eqv, eqInts]
    rw [e]; exact k⟩
end Gx

set_option Elab.async false
set_option linter.all false
set_option maxRecDepth 100000
set_option maxHeartbeats 4000000
/-! what a heap keeps: words for a search over the steps -/
namespace Au
open PySem PySem.Spec PyProof.Rows L2
def ExP (p : Addr) (H H' : Hp) : Prop := ∀ c o, H c = some o → c ≠ p → H' c = some o
theorem ExP.refl {p : Addr} (H : Hp) : ExP p H H := fun _ _ e _ => e
theorem ExP.of {p : Addr} {H H' : Hp} (e : Rd.Ex H H') : ExP p H H' := fun c o h _ => e c o h
theorem ExP.trans {p : Addr} {H H1 H2 : Hp} (a : ExP p H H1) (b : ExP p H1 H2) : ExP p H H2 := fun c o h n => b c o (a c o h n) n
section
variable {H H' : Hp} {p b c : Addr} {o o' z : HO}
theorem sm (e : Rd.Ex H H') (h : H b = some z) : H' b = some z := e _ _ h
theorem smp (e : ExP p H H') (h : H b = some z) (n : b ≠ p) : H' b = some z := e _ _ h n
theorem smn (e : LamX.ExtN H H') (h : H b = some z) (n : ∀ ps, z ≠ .tbl ps) : H' b = some z := e _ _ h n
/-- b was there when p was not -/
theorem nen (n : H p = none) (h : H b = some z) : b ≠ p := ne_of_none h n
theorem nen' (n : H p = none) (h : H b = some z) : p ≠ b := fun e => ne_of_none h n e.symm
theorem nek (h1 : H b = some o) (h2 : H p = some o') (n : o ≠ o') : b ≠ p := fun e => n (by rw [e, h2] at h1; exact (Option.some.inj h1).symm)
theorem nek2 (h2 : H p = some o') (h1 : H b = some o) (n : o ≠ o') : b ≠ p := nek h1 h2 n
theorem alloc {Q : VK} (q : ∀ p H', H p = none → Rd.Ex H H' → H' p = some o → Q (.ref p) H') : ∀ p, H p = none → Q (.ref p) (upd H p o) := fun p hp => q p _ hp (Rd.ex_new hp) upd_same
theorem mutd {Q : Hp → Prop} (q : ∀ H', ExP p H H' → H' p = some o → Q H') : Q (upd H p o) := q _ (fun c z h n => by rw [upd_ne n]; exact h) upd_same
end
/-! ### data -/
section
variable {K : PySem.W.Frag} {H : Hp} {Q : VK} {x y : V} {d e : PyData}
theorem eqD (h1 : Dp K H x d) (h2 : Dp K H y e) (s1 : SeqAt.shaped d = true) (s2 : SeqAt.shaped e = true) (q : Q (.bl (PyData.eqv d e)) H) : rEqD K x y H Q := ⟨d, e, h1, h2, s1, s2, q⟩
theorem neD (h1 : Dp K H x d) (h2 : Dp K H y e) (s1 : SeqAt.shaped d = true) (s2 : SeqAt.shaped e = true) (q : Q (.bl (!PyData.eqv d e)) H) : rNeD K x y H Q := ⟨d, e, h1, h2, s1, s2, q⟩
theorem eqDs (h1 : Dp K H x d) (h2 : Dp K H y d) (s1 : SeqAt.shaped d = true) (q : Q (.bl true) H) : rEqD K x y H Q := ⟨d, d, h1, h2, s1, s1, by
  rw [PySem.SeqAt.eqv_refl d (SeqAt.canLay_of_shaped s1)]; exact q⟩
theorem neDs (h1 : Dp K H x d) (h2 : Dp K H y d) (s1 : SeqAt.shaped d = true) (q : Q (.bl false) H) : rNeD K x y H Q := ⟨d, d, h1, h2, s1, s1, by
  rw [PySem.SeqAt.eqv_refl d (SeqAt.canLay_of_shaped s1)]; exact q⟩
end
theorem cat {H : Hp} {Q : VK} {l b : Addr} {xs zs : List V} (h1 : H l = some (.lst xs)) (h2 : H b = some (.lst zs)) (hl : xs.length + zs.length ≤ 1000) (q : ∀ p H', H p = none → Rd.Ex H H' → H' p = some (.lst (xs ++ zs)) → Q (.ref p) H') : rCat (.ref l) (.ref b) H Q :=
  ⟨l, b, xs, zs, rfl, rfl, h1, h2, Nat.le_trans hl (Nat.le_of_ble_eq_true rfl), fun p hp => q p _ hp (Rd.ex_new hp) upd_same⟩
theorem rep {H : Hp} {Q : VK} {l : Addr} {k : Int} {xs : List V} (h1 : H l = some (.lst xs)) (hk : 0 ≤ k ∧ k < 100) (hl : xs.length ≤ 10) (q : ∀ p H', H p = none → Rd.Ex H H' → H' p = some (.lst (List.replicate k.toNat xs).flatten) → Q (.ref p) H') : rRep (.ref l) (.int k) H Q :=
  ⟨l, k, xs, rfl, rfl, h1, by omega, by omega, Nat.le_trans (Nat.mul_le_mul hl (show k.toNat ≤ 100 by omega)) (Nat.le_of_ble_eq_true rfl), fun p hp => q p _ hp (Rd.ex_new hp) upd_same⟩
theorem app {H : Hp} {Q : VK} {l : Addr} {xs : List V} {y : V} (h : H l = some (.lst xs)) (hl : xs.length < 100000) (q : ∀ H', ExP l H H' → H' l = some (.lst (xs ++ [y])) → Q .non H') : rAppend (.ref l) [y] H Q := Rd.app h hl (q _ (fun c z h n => by rw [upd_ne n]; exact h) upd_same)
/-! ### readings with new objects told by a new heap -/
def NewO (H : Hp) (o : HO) (Q : VK) : Prop := ∀ p, H p = none → Q (.ref p) (upd H p o)
section
variable {σ : L2.St} {H : Hp} {Q : VK} {K : PySem.W.Frag} {tr : TA} {te ti : TE} {o : HO} {a C dx : Addr} {fs : List (Str × V)} {xs : List V} {v : V}
theorem new (q : ∀ p H', H p = none → Rd.Ex H H' → H' p = some o → Q (.ref p) H') : NewO H o Q := fun p hp => q p _ hp (Rd.ex_new hp) upd_same
theorem tup (h : tr σ H fun xs H1 => xs.length ≤ sizeLine ∧ NewO H1 (.tup xs) Q) : tTup tr σ H Q := h
theorem lst (h : tr σ H fun xs H1 => xs.length ≤ sizeLine ∧ NewO H1 (.lst xs) Q) : tLst tr σ H Q := h
theorem lenOk {n : Nat} {A : Prop} (h : Nat.ble n 1000 = true) (q : A) : n ≤ sizeLine ∧ A := ⟨Nat.le_trans (Nat.le_of_ble_eq_true h) (Nat.le_of_ble_eq_true rfl), q⟩
theorem revL (h : te σ H fun x H1 => ∃ a xs, x = .ref a ∧ SqL K H1 a xs ∧ NewO H1 (.lst xs.reverse) Q) : tRevL K te σ H Q := h
theorem nopart {Q : Option Int → Hp → Prop} (h : Q none H) : tNoPart σ H Q := h
theorem part {Q : Option Int → Hp → Prop} (h : te σ H fun x H1 => ∃ i, x = .int i ∧ Q (some i) H1) : tPart te σ H Q := h
theorem isI {n : Int} {QC : Int → Prop} (h : QC n) : ∃ i, V.int n = .int i ∧ QC i := ⟨n, rfl, h⟩
theorem sl {r : V → Option Int → Option Int → Hp → VK → Prop} {tl th : TO} (h : te σ H fun x H1 => tl σ H1 fun l H2 => th σ H2 fun u H3 => r x l u H3 Q) : L2.tSl r te tl th σ H Q := h
theorem slL {lo hi : Option Int} (h : SqL K H a xs) (q : NewO H (.lst (cutV xs lo hi)) Q) : rSlL K (.ref a) lo hi H Q := ⟨a, xs, rfl, h, q⟩
theorem sum {ns : List Int} (h : SqL K H a (ns.map V.int)) (q : Q (.int ns.sum) H) : rSum K [.ref a] H Q := ⟨a, ns, rfl, h, q⟩
theorem pr2 {x y : V} {A : V → V → Prop} (h : A x y) : ∃ v w, [x, y] = [v, w] ∧ A v w := ⟨x, y, rfl, h⟩
theorem pr3 {x y z : V} {A : V → V → V → Prop} (h : A x y z) : ∃ u v w, [x, y, z] = [u, v, w] ∧ A u v w := ⟨x, y, z, rfl, h⟩
theorem methO {C : Addr} {m : Str} {A : Prop} (h : H a = some (.ins C dx fs)) (l : fs.lookup m = none) (q : A) : ∃ a' dx' fs', V.ref a = .ref a' ∧ H a' = some (.ins C dx' fs') ∧ fs'.lookup m = none ∧ A := ⟨a, dx, fs, rfl, h, l, q⟩
theorem propO {C : Addr} {A : Addr → Prop} (h : H a = some (.ins C dx fs)) (q : A a) : ∃ a' dx' fs', V.ref a = .ref a' ∧ H a' = some (.ins C dx' fs') ∧ A a' := ⟨a, dx, fs, rfl, h, q⟩
end
theorem eqB {a c : Bool} {H : Hp} {Q : VK} (h : Q (.bl (decide (a = c))) H) : rEq (.bl a) (.bl c) H Q := ⟨rfl, by
  have e : decide (V.bl a = V.bl c) = decide (a = c) := by
    by_cases z : a = c
    · subst z; simp
    · rw [decide_eq_false z, decide_eq_false (fun q => z (V.bl.inj q))]
  rw [e]; exact h⟩
end Au

set_option maxRecDepth 100000
namespace ML
/-! ### the linear source: x to (A * x + 11) modulo M -/
def A : Int := 205891132094649
def M : Int := 281474976710656
def S : Nat → Int
  | 0 => 0
  | n + 1 => A * S n + 1
theorem pow_ge (n : Nat) : A ^ n = 1 + (A - 1) * S n := by
  induction n with
  | zero => simp [S]
  | succ n ih => rw [Int.pow_succ, ih]; simp only [S]; grind
theorem S_add (a b : Nat) : S (a + b) = A ^ b * S a + S b := by
  induction b with
  | zero => simp [S]
  | succ b ih => rw [← Nat.add_assoc]; simp only [S]; rw [ih, Int.pow_succ]; grind
/-- the state after n steps, as an integer -/
def raw (n : Nat) (x : Int) : Int := A ^ n * x + 11 * S n
theorem raw_add (a b : Nat) (x : Int) : raw (a + b) x = raw b (raw a x) := by
  unfold raw
  rw [S_add, Int.pow_add]
  grind
theorem raw_sub (n : Nat) (x : Int) : raw n x - x = S n * ((A - 1) * x + 11) := by
  unfold raw
  rw [pow_ge]
  grind
def mv (n : Nat) (x : Int) : Int := raw n x % 281474976710656
def m1 (n : Nat) : Int := A ^ n % 281474976710656
def m2 (n : Nat) : Int := 11 * S n % 281474976710656
theorem m1_rng (n : Nat) : 0 ≤ m1 n ∧ m1 n < 281474976710656 := by unfold m1; omega
theorem m2_rng (n : Nat) : 0 ≤ m2 n ∧ m2 n < 281474976710656 := by unfold m2; omega
theorem mv_rng (n : Nat) (x : Int) : 0 ≤ mv n x ∧ mv n x < 281474976710656 := by unfold mv; omega
theorem mul_add_mod (a b x m : Int) : ((a % m) * x + b % m) % m = (a * x + b) % m := by
  rw [Int.add_emod, Int.emod_emod_of_dvd _ (Int.dvd_refl m), Int.mul_emod, Int.emod_emod_of_dvd _ (Int.dvd_refl m), ← Int.mul_emod, ← Int.add_emod]
theorem mul_add_mod2 (a b x m : Int) : (a * (x % m) + b % m) % m = (a * x + b) % m := by
  rw [Int.mul_comm, mul_add_mod, Int.mul_comm]
theorem mul_mod2 (a x m : Int) : ((a % m) * (x % m)) % m = (a * x) % m := by rw [← Int.mul_emod]
theorem mapped (n : Nat) (x : Int) : (m1 n * x + m2 n) % 281474976710656 = mv n x := by
  unfold m1 m2 mv raw
  exact mul_add_mod _ _ _ _
theorem join1 (a b : Nat) : m1 a * m1 b % 281474976710656 = m1 (a + b) := by
  unfold m1
  rw [mul_mod2, Int.pow_add]
theorem join2 (a b : Nat) : (m2 a * m1 b + m2 b) % 281474976710656 = m2 (a + b) := by
  unfold m2 m1
  rw [mul_add_mod2, S_add, Int.add_emod, Int.mul_emod, Int.emod_emod_of_dvd _ (Int.dvd_refl _), ← Int.mul_emod, ← Int.add_emod]
  congr 1
  grind
theorem mv_add (a b : Nat) (x : Int) : mv b (mv a x) = mv (a + b) x := by
  unfold mv
  rw [raw_add]
  unfold raw
  rw [Int.add_emod, Int.mul_emod, Int.emod_emod_of_dvd _ (Int.dvd_refl _), ← Int.mul_emod, ← Int.add_emod]
theorem mv_zero {x : Int} (h0 : 0 ≤ x) (h1 : x < 281474976710656) : mv 0 x = x := by
  unfold mv raw S
  rw [Int.pow_zero]
  omega
theorem m_zero : m1 0 = 1 ∧ m2 0 = 0 := by
  constructor <;> rfl
theorem m_one : m1 1 = 205891132094649 ∧ m2 1 = 11 := by
  constructor <;> rfl
/-! ### digits and periods -/
theorem S_double (n : Nat) : S (2 * n) = S n * (2 * (1 + 102945566047324 * S n)) := by
  rw [Nat.two_mul, S_add, pow_ge]
  have e : A - 1 = 205891132094648 := by decide
  rw [e]
  grind
theorem S_odd (n : Nat) : S (2 * n + 1) % 2 = 1 := by
  show (A * S (2 * n) + 1) % 2 = 1
  rw [S_double]
  have : A * (S n * (2 * (1 + 102945566047324 * S n))) = 2 * (A * (S n * (1 + 102945566047324 * S n))) := by grind
  rw [this]
  omega
theorem dvd_odd {k : Nat} {a c : Int} (h : c % 2 = 1) : (2 ^ k : Int) ∣ a * c ↔ (2 ^ k : Int) ∣ a := by
  constructor
  · intro hd
    induction k with
    | zero => exact Int.one_dvd _
    | succ k ih =>
      have h1 : (2 ^ k : Int) ∣ a * c := Int.dvd_trans ⟨2, by rw [Int.pow_succ]⟩ hd
      obtain ⟨z, hz⟩ := ih h1
      obtain ⟨y, hy⟩ := hd
      have p : (0 : Int) < 2 ^ k := Int.pow_pos (by decide)
      have e : (2 : Int) ^ k * (z * c) = 2 ^ k * (2 * y) := by rw [Int.pow_succ] at hy; grind
      have e2 := Int.eq_of_mul_eq_mul_left (Int.ne_of_gt p) e
      have hz2 : z % 2 = 0 := by
        have h5 : (z * c) % 2 = 0 := by omega
        rw [Int.mul_emod, h] at h5
        omega
      exact ⟨z / 2, by rw [Int.pow_succ, hz]; have : z = 2 * (z / 2) := by omega
                       rw [Int.mul_assoc, ← this]⟩
  · intro hd
    obtain ⟨z, hz⟩ := hd
    exact ⟨z * c, by rw [hz, Int.mul_assoc]⟩
theorem S_dvd : ∀ (k n : Nat), (2 ^ k : Int) ∣ S n ↔ (2 ^ k : Nat) ∣ n
  | 0, n => ⟨fun _ => ⟨n, by simp⟩, fun _ => Int.one_dvd _⟩
  | k + 1, n => by
    rcases Nat.mod_two_eq_zero_or_one n with h | h
    · have e : n = 2 * (n / 2) := by omega
      rw [e, S_double]
      have ih := S_dvd k (n / 2)
      have od : (1 + 102945566047324 * S (n / 2)) % 2 = 1 := by omega
      constructor
      · intro hd
        have h2 : (2 ^ k : Int) ∣ S (n / 2) * (1 + 102945566047324 * S (n / 2)) := by
          obtain ⟨y, hy⟩ := hd
          exact ⟨y, by
            rw [Int.pow_succ] at hy
            have : (2 : Int) * (S (n / 2) * (1 + 102945566047324 * S (n / 2))) = 2 * (2 ^ k * y) := by grind
            exact Int.eq_of_mul_eq_mul_left (by decide) this⟩
        obtain ⟨z, hz⟩ := ih.mp ((dvd_odd od).mp h2)
        exact ⟨z, by rw [Nat.pow_succ, hz]; simp only [Nat.mul_comm, Nat.mul_left_comm]⟩
      · rintro ⟨z, hz⟩
        have h3 : (2 ^ k : Nat) ∣ n / 2 := ⟨z, by
          rw [Nat.pow_succ, Nat.mul_comm (2 ^ k) 2, Nat.mul_assoc] at hz
          omega⟩
        obtain ⟨y, hy⟩ := ih.mpr h3
        exact ⟨y * (1 + 102945566047324 * S (n / 2)), by rw [Int.pow_succ]; rw [hy]; grind⟩
    · have e : n = 2 * (n / 2) + 1 := by omega
      constructor
      · intro hd
        have h1 := S_odd (n / 2)
        rw [← e] at h1
        obtain ⟨y, hy⟩ := hd
        rw [Int.pow_succ, Int.mul_comm _ 2, Int.mul_assoc] at hy
        omega
      · rintro ⟨z, hz⟩
        rw [Nat.pow_succ, Nat.mul_comm (2 ^ k) 2, Nat.mul_assoc] at hz
        omega
/-- n steps leave the lowest k digits as they are exactly if 2 ^ k divides n -/
theorem low_iff (k n : Nat) (x : Int) : (2 ^ k : Int) ∣ raw n x - x ↔ (2 ^ k : Nat) ∣ n := by
  rw [raw_sub, dvd_odd (by have : A - 1 = 205891132094648 := by decide
                           rw [this]; omega)]
  exact S_dvd k n
theorem mv_low {k : Nat} (hk : k ≤ 48) (n : Nat) (x : Int) : (2 ^ k : Int) ∣ mv n x - x ↔ (2 ^ k : Nat) ∣ n := by
  rw [← low_iff k n x]
  have e : (2 ^ k : Int) ∣ raw n x - mv n x := by
    unfold mv
    have h1 : (281474976710656 : Int) ∣ raw n x - raw n x % 281474976710656 := ⟨raw n x / 281474976710656, by omega⟩
    have h2 : (2 ^ k : Int) ∣ 281474976710656 := ⟨2 ^ (48 - k), by rw [← Int.pow_add, show k + (48 - k) = 48 by omega]; decide⟩
    exact Int.dvd_trans h2 h1
  constructor
  · intro h
    have := Int.dvd_add e h
    rwa [show raw n x - mv n x + (mv n x - x) = raw n x - x by omega] at this
  · intro h
    have := Int.dvd_sub h e
    rwa [show raw n x - x - (raw n x - mv n x) = mv n x - x by omega] at this
/-- at most one number of steps leads from x to y -/
theorem mv_inj {a b : Nat} {x : Int} (h : mv a x = mv b x) : (a : Int) % 281474976710656 = (b : Int) % 281474976710656 := by
  have key : ∀ {a b : Nat}, a ≤ b → mv a x = mv b x → (281474976710656 : Nat) ∣ b - a := fun {a b} hab h => by
    have e : mv (b - a) (mv a x) = mv b x := by rw [mv_add]; congr 1; omega
    have d : (2 ^ 48 : Int) ∣ mv (b - a) (mv a x) - mv a x := by
      rw [e, ← h]
      exact ⟨0, by omega⟩
    exact (mv_low (Nat.le_refl 48) _ _).mp d
  rcases Nat.le_total a b with hab | hab
  · obtain ⟨z, hz⟩ := key hab h
    omega
  · obtain ⟨z, hz⟩ := key hab h.symm
    omega
theorem mv_period (n : Nat) {x : Int} (h0 : 0 ≤ x) (h1 : x < 281474976710656) : mv (281474976710656 * n) x = x := by
  have d : (2 ^ 48 : Int) ∣ mv (281474976710656 * n) x - x := (mv_low (Nat.le_refl 48) _ _).mpr ⟨n, by rfl⟩
  have r := mv_rng (281474976710656 * n) x
  obtain ⟨z, hz⟩ := d
  have : (2 ^ 48 : Int) = 281474976710656 := by decide
  rw [this] at hz
  omega
theorem mv_mod (n : Nat) (x : Int) : mv (n % 281474976710656) x = mv n x := by
  have e : n = 281474976710656 * (n / 281474976710656) + n % 281474976710656 := by omega
  have r := mv_rng (n % 281474976710656) x
  calc mv (n % 281474976710656) x = mv (281474976710656 * (n / 281474976710656)) (mv (n % 281474976710656) x) := (mv_period _ r.1 r.2).symm
    _ = mv (n % 281474976710656 + 281474976710656 * (n / 281474976710656)) x := mv_add _ _ _
    _ = mv n x := by congr 1; omega
end ML

namespace ML
/-- 2 ^ i steps lead from a number that is right up to digit i to one that is right up to the next -/
theorem flip {i : Nat} (hi : i < 48) {s y : Int} (h : (2 ^ i : Int) ∣ s - y) (hn : ¬ (2 ^ (i + 1) : Int) ∣ s - y) : (2 ^ (i + 1) : Int) ∣ mv (2 ^ i) s - y := by
  obtain ⟨u, hu⟩ := h
  obtain ⟨v, hv⟩ := (mv_low (by omega : i ≤ 48) (2 ^ i) s).mpr (Nat.dvd_refl _)
  have nv : ¬ (2 ^ (i + 1) : Int) ∣ mv (2 ^ i) s - s := fun z => by
    have d := (mv_low (by omega : i + 1 ≤ 48) (2 ^ i) s).mp z
    have := Nat.le_of_dvd (Nat.pow_pos (by decide)) d
    rw [Nat.pow_succ] at this
    have := Nat.pow_pos (n := i) (show 0 < 2 by decide)
    omega
  have od : ∀ {d z : Int}, d = 2 ^ i * z → ¬ (2 ^ (i + 1) : Int) ∣ d → z % 2 = 1 := fun {d z} e n => by
    rcases Int.emod_two_eq z with q | q
    · refine absurd ⟨z / 2, ?_⟩ n
      rw [e, Int.pow_succ, Int.mul_assoc, show 2 * (z / 2) = z by omega]
    · exact q
  have h1 := od hu hn
  have h2 := od hv nv
  refine ⟨(u + v) / 2, ?_⟩
  have e : mv (2 ^ i) s - y = 2 ^ i * (u + v) := by rw [Int.mul_add, ← hu, ← hv]; omega
  rw [e, Int.pow_succ, Int.mul_assoc, show 2 * ((u + v) / 2) = u + v by omega]
theorem mod_eq_iff {m a b : Nat} : a % m = b % m ↔ (m : Int) ∣ (a : Int) - b := by
  constructor
  · intro h
    refine ⟨(a / m : Nat) - (b / m : Nat), ?_⟩
    have e1 := Nat.div_add_mod a m
    have e2 := Nat.div_add_mod b m
    rw [h] at e1
    have e3 : ((m * (a / m) + b % m : Nat) : Int) - ((m * (b / m) + b % m : Nat) : Int) = (a : Int) - b := by rw [e1, e2]
    rw [← e3, Int.mul_sub]
    push_cast
    omega
  · intro h
    have h2 := Int.emod_eq_emod_iff_emod_sub_eq_zero.mpr (Int.emod_eq_zero_of_dvd h)
    have h3 : ((a % m : Nat) : Int) = ((b % m : Nat) : Int) := by rw [Int.natCast_emod, Int.natCast_emod]; exact h2
    exact Int.ofNat.inj h3
/-- the digit i of the exclusive or tells whether two numbers that are equal below it differ there -/
theorem bit_xor {i : Nat} {a b : Nat} (h : (2 ^ i : Int) ∣ (a : Int) - b) : (a ^^^ b) / 2 ^ i % 2 = 1 ↔ ¬ (2 ^ (i + 1) : Int) ∣ (a : Int) - b := by
  have hm : a % 2 ^ i = b % 2 ^ i := mod_eq_iff.mpr (by push_cast; exact h)
  have hx : ∀ x : Nat, x / 2 ^ i % 2 = (x.testBit i).toNat := fun x => by
    rw [Nat.testBit_eq_decide_div_mod_eq]
    rcases Nat.mod_two_eq_zero_or_one (x / 2 ^ i) with q | q <;> rw [q] <;> rfl
  have hs : (2 ^ (i + 1) : Int) ∣ (a : Int) - b ↔ a % 2 ^ (i + 1) = b % 2 ^ (i + 1) := by
    rw [mod_eq_iff]; push_cast; exact Iff.rfl
  rw [hs, Nat.mod_pow_succ, Nat.mod_pow_succ, hm, hx, hx, hx, Nat.testBit_xor]
  have p := Nat.pow_pos (n := i) (show 0 < 2 by decide)
  cases a.testBit i <;> cases b.testBit i <;> simp <;> omega
end ML
namespace ML
/-! ### digits from the lowest on -/
def lsb (n : Nat) : List Int := if n = 0 then [] else ((n % 2 : Nat) : Int) :: lsb (n / 2)
termination_by n
decreasing_by omega
theorem lsb_zero : lsb 0 = [] := by rw [lsb]; rfl
theorem lsb_pos {n : Nat} (h : 0 < n) : lsb n = ((n % 2 : Nat) : Int) :: lsb (n / 2) := by
  rw [lsb, if_neg (by omega)]
theorem lsb_len : ∀ (k n : Nat), n < 2 ^ k → (lsb n).length ≤ k
  | 0, n, h => by
    have : n = 0 := by simpa using h
    subst this
    rw [lsb_zero]
    exact Nat.le_refl _
  | k + 1, n, h => by
    by_cases hn : n = 0
    · subst hn; rw [lsb_zero]; exact Nat.zero_le _
    · rw [lsb_pos (by omega), List.length_cons]
      have := lsb_len k (n / 2) (by rw [Nat.pow_succ] at h; omega)
      omega
theorem lsb_bit : ∀ (k n : Nat), n < 2 ^ k → ∀ d ∈ lsb n, d = 0 ∨ d = 1
  | 0, n, h => by
    have : n = 0 := by simpa using h
    subst this
    rw [lsb_zero]
    intro d hd
    cases hd
  | k + 1, n, h => by
    by_cases hn : n = 0
    · subst hn; rw [lsb_zero]; intro d hd; cases hd
    · rw [lsb_pos (by omega)]
      intro d hd
      rcases List.mem_cons.mp hd with e | e
      · subst e; omega
      · exact lsb_bit k (n / 2) (by rw [Nat.pow_succ] at h; omega) d e
/-- the number that digits write, the highest first -/
def valD (l : List Int) : Nat := l.foldl (fun a d => 2 * a + d.toNat) 0
theorem valD_snoc (l : List Int) (d : Int) : valD (l ++ [d]) = 2 * valD l + d.toNat := by
  unfold valD
  rw [List.foldl_append]
  rfl
theorem val_lsb : ∀ (k n : Nat), n < 2 ^ k → valD (lsb n).reverse = n
  | 0, n, h => by
    have : n = 0 := by simpa using h
    subst this
    rw [lsb_zero]
    rfl
  | k + 1, n, h => by
    by_cases hn : n = 0
    · subst hn; rw [lsb_zero]; rfl
    · rw [lsb_pos (by omega), List.reverse_cons, valD_snoc, val_lsb k (n / 2) (by rw [Nat.pow_succ] at h; omega)]
      omega
theorem dbl1 (k : Nat) : m1 k * m1 k % 281474976710656 = m1 (2 * k) := by rw [join1, Nat.two_mul]
theorem dbl2 (k : Nat) : (m1 k + 1) * m2 k % 281474976710656 = m2 (2 * k) := by
  rw [Nat.two_mul, ← join2]
  congr 1
  grind
theorem inc1 (k : Nat) : 205891132094649 * m1 k % 281474976710656 = m1 (k + 1) := by
  rw [← join1, m_one.1, Int.mul_comm]
theorem inc2 (k : Nat) : (205891132094649 * m2 k + 11) % 281474976710656 = m2 (k + 1) := by
  rw [← join2, m_one.1, m_one.2, Int.mul_comm]
end ML

set_option linter.all false
/-! the mixing of words, in plain numbers -/
namespace MX
def xs (k n : Nat) : Nat := n ^^^ (n / 2 ^ k)
def F : Nat := 3486784401
def U : Nat := 3396732273
theorem FU : F * U % 4294967296 = 1 := by decide
def tmp (n : Nat) : Nat := xs 16 (xs 13 n * F % 4294967296)
def utm (n : Nat) : Nat := let y := xs 16 n * U % 4294967296; y ^^^ (y / 2 ^ 13) ^^^ (y / 2 ^ 26)
theorem div_xor (a b k : Nat) : (a ^^^ b) / 2 ^ k = (a / 2 ^ k) ^^^ (b / 2 ^ k) := by
  simp only [← Nat.shiftRight_eq_div_pow, Nat.shiftRight_xor_distrib]
theorem div_div (a j k : Nat) : a / 2 ^ j / 2 ^ k = a / 2 ^ (j + k) := by rw [Nat.div_div_eq_div_mul, ← Nat.pow_add]
theorem small {a k : Nat} (h : a < 2 ^ k) : a / 2 ^ k = 0 := Nat.div_eq_of_lt h
theorem xor_lt {a b : Nat} (ha : a < 2 ^ 32) (hb : b < 2 ^ 32) : a ^^^ b < 2 ^ 32 := Nat.xor_lt_two_pow ha hb
theorem div_lt {a k : Nat} (ha : a < 2 ^ 32) : a / 2 ^ k < 2 ^ 32 := Nat.lt_of_le_of_lt (Nat.div_le_self _ _) ha
theorem xs_lt {k n : Nat} (h : n < 2 ^ 32) : xs k n < 2 ^ 32 := xor_lt h (div_lt h)
theorem xx (a b : Nat) : a ^^^ b ^^^ b = a := by rw [Nat.xor_assoc, Nat.xor_self, Nat.xor_zero]
theorem xs16 {n : Nat} (h : n < 2 ^ 32) : xs 16 (xs 16 n) = n := by
  unfold xs
  rw [div_xor, div_div, small h, Nat.xor_zero, xx]
theorem lift13 {n : Nat} (h : n < 2 ^ 32) : xs 13 n ^^^ (xs 13 n / 2 ^ 13) ^^^ (xs 13 n / 2 ^ 26) = n := by
  have h39 : n / 2 ^ 39 = 0 := small (Nat.lt_of_lt_of_le h (by decide))
  unfold xs
  rw [div_xor, div_xor, div_div, div_div]
  show n ^^^ n / 2 ^ 13 ^^^ (n / 2 ^ 13 ^^^ n / 2 ^ 26) ^^^ (n / 2 ^ 26 ^^^ n / 2 ^ 39) = n
  rw [h39, Nat.xor_zero, ← Nat.xor_assoc (n ^^^ n / 2 ^ 13), xx, xx]
theorem drop13 {y : Nat} (h : y < 2 ^ 32) : xs 13 (y ^^^ (y / 2 ^ 13) ^^^ (y / 2 ^ 26)) = y := by
  have h39 : y / 2 ^ 39 = 0 := small (Nat.lt_of_lt_of_le h (by decide))
  unfold xs
  rw [div_xor, div_xor, div_div, div_div]
  show y ^^^ y / 2 ^ 13 ^^^ y / 2 ^ 26 ^^^ (y / 2 ^ 13 ^^^ y / 2 ^ 26 ^^^ y / 2 ^ 39) = y
  rw [h39, Nat.xor_zero, Nat.xor_assoc y, xx]
theorem mulFU {a : Nat} (h : a < 2 ^ 32) : a * F % 4294967296 * U % 4294967296 = a := by
  rw [Nat.mod_mul_mod, Nat.mul_assoc, ← Nat.mul_mod_mod, FU, Nat.mul_one, Nat.mod_eq_of_lt h]
theorem mulUF {a : Nat} (h : a < 2 ^ 32) : a * U % 4294967296 * F % 4294967296 = a := by
  rw [Nat.mod_mul_mod, Nat.mul_assoc, Nat.mul_comm U F, ← Nat.mul_mod_mod, FU, Nat.mul_one, Nat.mod_eq_of_lt h]
theorem mod_lt (a : Nat) : a % 4294967296 < 2 ^ 32 := Nat.mod_lt _ (by decide)
theorem tmp_lt (n : Nat) : tmp n < 2 ^ 32 := xs_lt (mod_lt _)
theorem utm_lt (n : Nat) : utm n < 2 ^ 32 := xor_lt (xor_lt (mod_lt _) (div_lt (mod_lt _))) (div_lt (mod_lt _))
theorem utm_tmp {n : Nat} (h : n < 2 ^ 32) : utm (tmp n) = n := by
  unfold utm tmp
  rw [xs16 (mod_lt _), mulFU (xs_lt h)]
  exact lift13 h
theorem tmp_utm {n : Nat} (h : n < 2 ^ 32) : tmp (utm n) = n := by
  unfold utm tmp
  rw [drop13 (mod_lt _), mulUF (xs_lt h), xs16 h]
/-- the rounds -/
def fe (s : Nat) (p : Nat × Nat) : Nat × Nat := (p.2, p.1 ^^^ tmp ((p.2 + 1000003 * s) % 4294967296))
def bk (s : Nat) (p : Nat × Nat) : Nat × Nat := (p.2 ^^^ tmp ((p.1 + 1000003 * s) % 4294967296), p.1)
theorem bk_fe (s : Nat) (p : Nat × Nat) : bk s (fe s p) = p := by simp [bk, fe, xx]
theorem fe_bk (s : Nat) (p : Nat × Nat) : fe s (bk s p) = p := by simp [bk, fe, xx]
def ok (p : Nat × Nat) : Prop := p.1 < 2 ^ 32 ∧ p.2 < 2 ^ 32
theorem ok_fe {s : Nat} {p : Nat × Nat} (h : ok p) : ok (fe s p) := ⟨h.2, xor_lt h.1 (tmp_lt _)⟩
theorem ok_bk {s : Nat} {p : Nat × Nat} (h : ok p) : ok (bk s p) := ⟨xor_lt h.2 (tmp_lt _), h.1⟩
def spl (n : Nat) : Nat × Nat := (n / 4294967296, n % 4294967296)
def cat (p : Nat × Nat) : Nat := p.1 * 4294967296 + p.2
theorem ok_spl {n : Nat} (h : n < 2 ^ 64) : ok (spl n) := ⟨by show n / 4294967296 < 2 ^ 32; omega, mod_lt n⟩
theorem cat_spl (n : Nat) : cat (spl n) = n := by unfold cat spl; show n / 4294967296 * 4294967296 + n % 4294967296 = n; omega
theorem spl_cat {p : Nat × Nat} (h : ok p) : spl (cat p) = p := by
  obtain ⟨a, b⟩ := p
  obtain ⟨h1, h2⟩ := h
  show ((a * 4294967296 + b) / 4294967296, (a * 4294967296 + b) % 4294967296) = (a, b)
  have : b < 4294967296 := h2
  rw [show (a * 4294967296 + b) / 4294967296 = a by omega, show (a * 4294967296 + b) % 4294967296 = b by omega]
theorem cat_lt {p : Nat × Nat} (h : ok p) : cat p < 2 ^ 64 := by
  obtain ⟨h1, h2⟩ := h
  unfold cat
  omega
def mix (n : Nat) : Nat := cat (fe 4 (fe 3 (fe 2 (fe 1 (spl n)))))
def unm (n : Nat) : Nat := cat (bk 1 (bk 2 (bk 3 (bk 4 (spl n)))))
theorem unm_mix {n : Nat} (h : n < 2 ^ 64) : unm (mix n) = n := by
  unfold unm mix
  rw [spl_cat (ok_fe (ok_fe (ok_fe (ok_fe (ok_spl h))))), bk_fe, bk_fe, bk_fe, bk_fe, cat_spl]
theorem mix_unm {n : Nat} (h : n < 2 ^ 64) : mix (unm n) = n := by
  unfold unm mix
  rw [spl_cat (ok_bk (ok_bk (ok_bk (ok_bk (ok_spl h))))), fe_bk, fe_bk, fe_bk, fe_bk, cat_spl]
theorem mix_lt {n : Nat} (h : n < 2 ^ 64) : mix n < 2 ^ 64 := cat_lt (ok_fe (ok_fe (ok_fe (ok_fe (ok_spl h)))))
theorem unm_lt {n : Nat} (h : n < 2 ^ 64) : unm n < 2 ^ 64 := cat_lt (ok_bk (ok_bk (ok_bk (ok_bk (ok_spl h)))))
/-- one bit more of an exclusive or -/
theorem xor_bit (a b i : Nat) : (a ^^^ b) % 2 ^ (i + 1) = (a ^^^ b) % 2 ^ i + (if a / 2 ^ i % 2 ≠ b / 2 ^ i % 2 then 2 ^ i else 0) := by
  have e : (a ^^^ b) / 2 ^ i % 2 = if a / 2 ^ i % 2 ≠ b / 2 ^ i % 2 then 1 else 0 := by
    rw [div_xor]
    generalize a / 2 ^ i = x
    generalize b / 2 ^ i = y
    have h1 : (x ^^^ y) % 2 = (x % 2) ^^^ (y % 2) := by
      have := Nat.xor_mod_two_pow (a := x) (b := y) (n := 1)
      simpa using this
    rw [h1]
    rcases Nat.mod_two_eq_zero_or_one x with hx | hx <;> rcases Nat.mod_two_eq_zero_or_one y with hy | hy <;> rw [hx, hy] <;> decide
  rw [Nat.pow_succ, Nat.mod_mul, e]
  split <;> omega
end MX

set_option Elab.async false
set_option linter.all false
set_option maxRecDepth 100000
set_option maxHeartbeats 4000000
set_option exponentiation.threshold 2000
/-! promises that no law's own text stands in -/
namespace Pr
open PySem PySem.Spec PyProof.Rows L2
/-! ### dicts, new objects, fields -/
section
variable {σ : L2.St} {H : Hp} {Q : VK} {K : PySem.W.Frag} {d a C dx : Addr} {kvs kvs' : List (Key × V)} {x : Str} {v : V} {fs : List (Str × V)} {D : Ends}
theorem u_get {Q : V → Prop} (h : H d = some (.dK kvs)) (e : valV kvs (Sum.inr x) = some v) (q : Q v) : ∃ a v', V.ref d = .ref a ∧ DGet H a (.str x) (some v') ∧ Q v' :=
  ⟨d, v, rfl, by rw [← e]; exact DGet.k (k := Sum.inr x) h, q⟩
theorem dget {td ty : TE} (h : td σ H fun x H1 => ty σ H1 fun y H2 => ∃ a v, x = .ref a ∧ DGet H2 a y (some v) ∧ Q v H2) : tDGet td ty σ H Q := h
theorem dput {td ty tv : TE} (h : tv σ H fun v H1 => td σ H1 fun x H2 => ty σ H2 fun y H3 => ∃ a H4, x = .ref a ∧ DPut H3 a y v H4 ∧ D.nx σ H4) : sDPut td ty tv D σ H := h
theorem u_put {Q : Hp → Prop} (h : H d = some (.dK kvs)) (hl : kvs.length < 1000) (e : putK kvs (Sum.inr x) v = kvs') (q : Q (upd H d (.dK kvs'))) : ∃ a H4, V.ref d = .ref a ∧ DPut H a (.str x) v H4 ∧ Q H4 :=
  ⟨d, _, rfl, DPut.k (k := Sum.inr x) h (small1000 (by omega)), by rw [e]; exact q⟩
/-- o.f = v -/
theorem stF {f : Str} {y : V} {fs' : List (Str × V)} (h : H a = some (.ins C dx fs)) (c : Cls K C) (n : NoAttr K C f) (l : Nat.ble fs.length 100 = true) (e : putF f y fs = fs') (q : ∀ H', Au.ExP a H H' → H' a = some (.ins C dx fs') → D.nx σ H') :
    ∃ a' C' dx' fs'', V.ref a = .ref a' ∧ H a' = some (.ins C' dx' fs'') ∧ Cls K C' ∧ NoAttr K C' f ∧ fs''.length < 1000 ∧ D.nx σ (upd H a' (.ins C' dx' (putF f y fs''))) :=
  ⟨a, C, dx, fs, rfl, h, c, n, Nat.lt_of_le_of_lt (Nat.le_of_ble_eq_true l) (by decide), by rw [e]; exact q _ (fun c z h n => by rw [upd_ne n]; exact h) upd_same⟩
theorem sfld {to te : TE} {f : Str} (h : te σ H fun y H1 => to σ H1 fun x H2 => ∃ a C dx fs, x = .ref a ∧ H2 a = some (.ins C dx fs) ∧ Cls K C ∧ NoAttr K C f ∧ fs.length < 1000 ∧ D.nx σ (upd H2 a (.ins C dx (putF f y fs)))) : sFld K to te f D σ H := h
end
/-- the heap in which an object is made -/
theorem ex_make {H : Hp} {x dx : Addr} {o o' : HO} (hx : H x = none) (hdx : H dx = none) : Rd.Ex H (upd (upd H dx o) x o') := fun b z e => by
  rw [upd_ne (ne_of_none e hx), upd_ne (ne_of_none e hdx)]
  exact e
theorem ex_made {H H' : Hp} {x dx : Addr} {o o' : HO} (hx : H x = none) (hdx : H dx = none) (m : Au.ExP x (upd (upd H dx o) x o') H') : Rd.Ex H H' := fun b z e => m b z (ex_make hx hdx b z e) (ne_of_none e hx)
/-! ### numbers -/
def NonInt (H : Hp) (v : V) : Prop := v = .non ∨ (∃ b, v = .bl b) ∨ (∃ s, v = .str s) ∨ (∃ a xs, v = .ref a ∧ H a = some (.tup xs)) ∨ (∃ a xs, v = .ref a ∧ H a = some (.lst xs)) ∨ ∃ a kvs, v = .ref a ∧ H a = some (.dK kvs)
theorem kit_t (K : PySem.W.Frag) : PySem.W.kitOne K (.type "NoneType") (.type "int") = some false ∧ PySem.W.kitOne K (.type "bool") (.type "int") = some true ∧ PySem.W.kitOne K (.type "bool") (.type "bool") = some true ∧ PySem.W.kitOne K (.type "str") (.type "int") = some false ∧
    PySem.W.kitOne K (.type "tuple") (.type "int") = some false ∧ PySem.W.kitOne K (.type "list") (.type "int") = some false ∧ PySem.W.kitOne K (.type "dict") (.type "int") = some false := by
  refine ⟨?_, ?_, ?_, ?_, ?_, ?_, ?_⟩ <;> first | rfl | decide +kernel | kernel_rfl
def spIsInt : Sp := fun vs H Q _ => ∃ v, vs = [v] ∧ ((∃ n : Int, v = .int n ∧ Q (.bl true) H) ∨ (NonInt H v ∧ Q (.bl false) H))
theorem u_isInt {n : Int} {H : Hp} {Q : VK} {E : XK} (h : Q (.bl true) H) : spIsInt ([.int n] ++ []) H Q E := ⟨.int n, rfl, .inl ⟨n, rfl, h⟩⟩
theorem u_isNon {v : V} {H : Hp} {Q : VK} {E : XK} (n : NonInt H v) (h : Q (.bl false) H) : spIsInt ([v] ++ []) H Q E := ⟨v, rfl, .inr ⟨n, h⟩⟩
def spNeed (lo hi : Int) : Sp := fun vs H Q _ => ∃ n : Int, vs = [.int n] ∧ lo ≤ n ∧ n ≤ hi ∧ Q .non H
theorem u_need {lo hi n : Int} {H : Hp} {Q : VK} {E : XK} (h1 : lo ≤ n) (h2 : n ≤ hi) (h : Q .non H) : spNeed lo hi ([.int n] ++ []) H Q E := ⟨n, rfl, h1, h2, h⟩
/-- is the value a number in its bounds -/
def spIs (lo hi : Int) : Sp := fun vs H Q _ => ∃ v, vs = [v] ∧ ((∃ n : Int, v = .int n ∧ Q (.bl (decide (lo ≤ n ∧ n ≤ hi))) H) ∨ (NonInt H v ∧ Q (.bl false) H))
theorem u_isIn {lo hi n : Int} {H : Hp} {Q : VK} {E : XK} (h : lo ≤ n ∧ n ≤ hi) (q : Q (.bl true) H) : spIs lo hi ([.int n] ++ []) H Q E := ⟨_, rfl, .inl ⟨n, rfl, by rw [decide_eq_true h]; exact q⟩⟩
theorem u_isOut {lo hi n : Int} {H : Hp} {Q : VK} {E : XK} (h : ¬ (lo ≤ n ∧ n ≤ hi)) (q : Q (.bl false) H) : spIs lo hi ([.int n] ++ []) H Q E := ⟨_, rfl, .inl ⟨n, rfl, by rw [decide_eq_false h]; exact q⟩⟩
/-! ### linear sources -/
def MapAt (K : PySem.W.Frag) (H : Hp) (a : Addr) (n : Nat) : Prop := SqT K H a [.int (ML.m1 n), .int (ML.m2 n)]
theorem MapAt.ex {K : PySem.W.Frag} {H H' : Hp} {a : Addr} {n : Nat} (e : Rd.Ex H H') (h : MapAt K H a n) : MapAt K H' a n := Rd.ex_t e h
def spJoined (K : PySem.W.Frag) : Sp := fun vs H Q _ => ∃ (a b : Addr) (n m : Nat), vs = [.ref a, .ref b] ∧ MapAt K H a n ∧ MapAt K H b m ∧
  ∀ t H', H t = none → Rd.Ex H H' → H' t = some (.tup [.int (ML.m1 (n + m)), .int (ML.m2 (n + m))]) → Q (.ref t) H'
def spMapped (K : PySem.W.Frag) : Sp := fun vs H Q _ => ∃ (a : Addr) (n : Nat) (x : Int), vs = [.ref a, .int x] ∧ MapAt K H a n ∧ 0 ≤ x ∧ x < 281474976710656 ∧ Q (.int (ML.mv n x)) H
def spMap (K : PySem.W.Frag) : Sp := fun vs H Q _ => ∃ n : Int, vs = [.int n] ∧ ∀ t H', Rd.Ex H H' → MapAt K H' t (n % 281474976710656).toNat → Q (.ref t) H'
def spMoved : Sp := fun vs H Q _ => ∃ x n : Int, vs = [.int x, .int n] ∧ 0 ≤ x ∧ x < 281474976710656 ∧ ∀ H', Rd.Ex H H' → Q (.int (ML.mv (n % 281474976710656).toNat x)) H'
theorem u_moved {x n : Int} {H : Hp} {Q : VK} {E : XK} (h : 0 ≤ x ∧ x < 281474976710656) (q : ∀ H', Rd.Ex H H' → Q (.int (ML.mv (n % 281474976710656).toNat x)) H') : spMoved ([.int x, .int n] ++ []) H Q E := ⟨x, n, rfl, h.1, h.2, q⟩
def spDist0 : Sp := fun vs H Q _ => ∃ x y : Int, vs = [.int x, .int y] ∧ (0 ≤ x ∧ x < 281474976710656 ∧ 0 ≤ y ∧ y < 281474976710656) ∧ ∀ (H' : Hp) (n : Nat), Rd.Ex H H' → n < 281474976710656 → ML.mv n x = y → Q (.int n) H'
theorem u_dist0 {x y : Int} {H : Hp} {Q : VK} {E : XK} (h : 0 ≤ x ∧ x < 281474976710656 ∧ 0 ≤ y ∧ y < 281474976710656) (q : ∀ (H' : Hp) (n : Nat), Rd.Ex H H' → n < 281474976710656 → ML.mv n x = y → Q (.int n) H') : spDist0 ([.int x, .int y] ++ []) H Q E := ⟨x, y, rfl, h, q⟩
abbrev LinO (C dx : Addr) (x : Int) : HO := .ins C dx [("s2_x", .int x)]
def spInit1 (C : Addr) : Sp := fun vs H Q _ => ∃ (p dx : Addr) (x : Int), vs = [.ref p, .int x] ∧ (0 ≤ x ∧ x < 281474976710656) ∧ H p = some (.ins C dx []) ∧ ∀ H', Au.ExP p H H' → H' p = some (LinO C dx x) → Q .non H'
theorem u_lin {C : Addr} {H : Hp} {Q : Addr → Hp → Prop} {E : XK} {n : Int} (h1 : 0 ≤ n ∧ n < 281474976710656) (h : ∀ p dx H', H p = none → Rd.Ex H H' → H' p = some (LinO C dx n) → Q p H') :
    ∀ x dx, H x = none → H dx = none → dx ≠ x → spInit1 C (.ref x :: ([.int n] ++ [])) (upd (upd H dx (.own x)) x (.ins C dx [])) (fun v H2 => v = .non ∧ Q x H2) E := fun x dx hx hdx hne =>
  ⟨x, dx, n, rfl, h1, upd_same, fun H' m k => ⟨rfl, h x dx H' hx (ex_made hx hdx m) k⟩⟩
def spState1 (C : Addr) : Sp := fun vs H Q _ => ∃ (p dx : Addr) (x : Int), vs = [.ref p] ∧ H p = some (LinO C dx x) ∧ ∀ t H', H t = none → Rd.Ex H H' → H' t = some (.tup [.int x]) → Q (.ref t) H'
theorem u_state1 {C p dx : Addr} {x : Int} {H : Hp} {Q : VK} {E : XK} (h : H p = some (LinO C dx x)) (q : ∀ t H', H t = none → Rd.Ex H H' → H' t = some (.tup [.int x]) → Q (.ref t) H') : spState1 C [.ref p] H Q E := ⟨p, dx, x, rfl, h, q⟩
def spAhead1 (C : Addr) (g : Int → Int) : Sp := fun vs H Q _ => ∃ (p dx : Addr) (x n : Int), vs = [.ref p, .int n] ∧ H p = some (LinO C dx x) ∧ (0 ≤ x ∧ x < 281474976710656) ∧ (0 ≤ n ∧ n ≤ 18446744073709551616) ∧
  ∀ p' dx' H', H p' = none → Rd.Ex H H' → H' p' = some (LinO C dx' (ML.mv (g n % 281474976710656).toNat x)) → Q (.ref p') H'
theorem u_ahead1 {C p dx : Addr} {x n : Int} {g : Int → Int} {H : Hp} {Q : VK} {E : XK} (h : H p = some (LinO C dx x) ∧ (0 ≤ x ∧ x < 281474976710656) ∧ (0 ≤ n ∧ n ≤ 18446744073709551616))
    (q : ∀ p' dx' H', H p' = none → Rd.Ex H H' → H' p' = some (LinO C dx' (ML.mv (g n % 281474976710656).toNat x)) → Q (.ref p') H') : spAhead1 C g (.ref p :: ([.int n] ++ [])) H Q E := ⟨p, dx, x, n, rfl, h.1, h.2.1, h.2.2, q⟩
def spDistance (C : Addr) : Sp := fun vs H Q _ => ∃ (p o dx dy : Addr) (x y : Int), vs = [.ref p, .ref o] ∧ (H p = some (LinO C dx x) ∧ H o = some (LinO C dy y) ∧ 0 ≤ x ∧ x < 281474976710656 ∧ 0 ≤ y ∧ y < 281474976710656) ∧
  ∀ (H' : Hp) (n : Nat), Rd.Ex H H' → n < 281474976710656 → ML.mv n x = y → Q (.int n) H'
theorem u_distance {C p o dx dy : Addr} {x y : Int} {H : Hp} {Q : VK} {E : XK} (h : H p = some (LinO C dx x) ∧ H o = some (LinO C dy y) ∧ 0 ≤ x ∧ x < 281474976710656 ∧ 0 ≤ y ∧ y < 281474976710656)
    (q : ∀ (H' : Hp) (n : Nat), Rd.Ex H H' → n < 281474976710656 → ML.mv n x = y → Q (.int n) H') : spDistance C ([.ref p, .ref o] ++ []) H Q E := ⟨p, o, dx, dy, x, y, rfl, h, q⟩
end Pr

set_option Elab.async false
set_option linter.all false
set_option maxRecDepth 100000
set_option maxHeartbeats 4000000
namespace Gx
open PySem PySem.Spec PyProof.Rows L2
/-! ### an attribute as a target among several -/
def gFld (K : PySem.W.Frag) (to : TE) (f : Str) : TG := fun v σ H Q => to σ H fun x H1 => ∃ a C dx fs, x = .ref a ∧ H1 a = some (.ins C dx fs) ∧ Cls K C ∧ NoAttr K C f ∧ fs.length < 1000 ∧ Q σ (upd H1 a (.ins C dx (putF f v fs)))
theorem pg_fld {X : Cx} {o : Expr} {to : TE} {f : Str} {pos : Pos} (ho : PE X o to) : PG X (.Attribute o f pos) (gFld X.K to f) := by
  refine ⟨fun pins s σ H v u Q I r h => ?_⟩
  rw [assign_Attribute]
  refine wpAny_bind (wpAny_holding (thn (ho.run pins s σ H _ I h) fun ov s1 ⟨x, H1, I1, r1, a, C, dx, fs, ex, ea, c, n, l, q⟩ => ?_))
  subst ex
  obtain rfl : ov = Value.ref a := r1
  refine wpAny_bind (wpAny_standAt (wpAny_bind (wpAny_holding (setattr_ok I1 ea c n l r fun s3 I3 => ?_))))
  exact wpAny_release ⟨σ, _, I3, q⟩
theorem gfld {K : PySem.W.Frag} {to : TE} {f : Str} {v : V} {σ : L2.St} {H : Hp} {Q : L2.St → Hp → Prop} (h : to σ H fun x H1 => ∃ a C dx fs, x = .ref a ∧ H1 a = some (.ins C dx fs) ∧ Cls K C ∧ NoAttr K C f ∧ fs.length < 1000 ∧ Q σ (upd H1 a (.ins C dx (putF f v fs)))) : gFld K to f v σ H Q := h
theorem stG {K : PySem.W.Frag} {H : Hp} {a C dx : Addr} {fs fs' : List (Str × V)} {f : Str} {y : V} {Q : Hp → Prop} (h : H a = some (.ins C dx fs)) (c : Cls K C) (n : NoAttr K C f) (l : Nat.ble fs.length 100 = true) (e : putF f y fs = fs') (q : ∀ H', Au.ExP a H H' → H' a = some (.ins C dx fs') → Q H') :
    ∃ a' C' dx' fs'', V.ref a = .ref a' ∧ H a' = some (.ins C' dx' fs'') ∧ Cls K C' ∧ NoAttr K C' f ∧ fs''.length < 1000 ∧ Q (upd H a' (.ins C' dx' (putF f y fs''))) :=
  ⟨a, C, dx, fs, rfl, h, c, n, Nat.lt_of_le_of_lt (Nat.le_of_ble_eq_true l) (by decide), by rw [e]; exact q _ (fun c z h n => by rw [upd_ne n]; exact h) upd_same⟩
theorem gfldV {K : PySem.W.Frag} {H : Hp} {a C dx : Addr} {fs fs' : List (Str × V)} {f : Str} {v : V} {σ : L2.St} {i : Nat} {Q : L2.St → Hp → Prop} (hv : σ[i]? = some (some (.ref a))) (h : H a = some (.ins C dx fs)) (c : Cls K C) (n : NoAttr K C f) (l : Nat.ble fs.length 100 = true) (e : putF f v fs = fs')
    (q : ∀ H', Au.ExP a H H' → H' a = some (.ins C dx fs') → Q σ H') : gFld K (tVar i) f v σ H Q :=
  ⟨_, hv, a, C, dx, fs, rfl, h, c, n, Nat.lt_of_le_of_lt (Nat.le_of_ble_eq_true l) (by decide), by rw [e]; exact q _ (fun c z h n => by rw [upd_ne n]; exact h) upd_same⟩
/-! ### isinstance with a tuple of own classes -/
theorem isTupYes {K : PySem.W.Frag} {C D a dx tp : Addr} {fs : List (Str × V)} {H : Hp} {Q : VK} {b : Bool} (c : C8.InsC K C) (ht : H tp = some (.tup [.ref D, .ref D'])) (h : H a = some (.ins C dx fs)) (k : PySem.W.kitAny K (.ref C) [.ref D, .ref D'] = some b) (q : Q (.bl b) H) : rIsiT K [.ref a, .ref tp] H Q :=
  ⟨_, tp, _, .ref C, _, b, rfl, ht, .cons (.own D) (.cons (.own D') .nil), .base (.ins h c.cl c.ha c.hn c.htk c.hm), k, q⟩
theorem isOwnB {K : PySem.W.Frag} {C D a dx : Addr} {fs : List (Str × V)} {H : Hp} {Q : VK} {b : Bool} (c : C8.InsC K C) (h : H a = some (.ins C dx fs)) (k : PySem.W.kitOne K (.ref C) (.ref D) = some b) (q : Q (.bl b) H) : rIsi K [.ref a, .ref D] H Q :=
  ⟨_, _, .ref C, .ref D, b, rfl, .own D, .base (.ins h c.cl c.ha c.hn c.htk c.hm), k, q⟩
end Gx

set_option Elab.async false
set_option linter.all false
set_option maxRecDepth 100000
set_option maxHeartbeats 1000000
/-! own exceptions over any built-in class (LookupError, RuntimeError, ..), made by an own __init__ of one field -/
namespace Gx
open PySem PySem.Spec PyProof.Rows L2 GenW Builtin Builtin.ObjectAttr
structure YexC (K : PySem.W.Frag) (C : Addr) (initId : String) : Prop where
  cls : ∃ (B newId : String) (bmB : List Value), ExcBaseFacts B newId initId bmB ∧ PySem.StoreFacts B bmB "object.__setattr__" "object" ∧ PySem.W.excInitIn K C bmB newId = true ∧ PySem.W.excOver K C bmB = true
  hd : PySem.W.hasDictIn K C = true
  sa : PySem.W.findIn K (.ref C) "__setattr__" = some (some (.builtin "object.__setattr__"))
  exC : PySem.W.subIn K (.ref C) (.type "BaseException") = some true
  tyC : PySem.W.typeIn K (.ref C) = some (.type "type")
  kC : PySem.W.keepIn K (.ref C) = true
section
variable {X : Cx} {pins : List (Addr × Obj)} {σ : L2.St} {H : Hp} {s : Shared} {a C dx : Addr} {f : Str} {y : V} {u : Value} {initId : String} {A : Around} {E : Value → Shared → Prop}
theorem ostY {Q : Unit → Shared → Prop} (T : YexC X.K C initId) (I : Inv X pins σ H s) (ea : H a = some (exo a C none)) (tf : PySem.W.takerIn X.K C f = some none) (ry : RelV y u)
    (next : ∀ dx s', H dx = none → dx ≠ a → Inv X pins σ (upd (upd H dx (exd dx [(f, y)])) a (exo a C (some dx))) s' → Q () s') : wpAny (model X.prog X.w) A (setAttr (.ref a) f u) Q E s := by
  obtain ⟨B, newId, bmB, FB, SF, hin, hov⟩ := T.cls
  obtain ⟨t1, ho⟩ := exo_at I.hok ea
  obtain ⟨cd, hcd, hdict⟩ := PySem.W.any_some T.hd
  have lcd : PySem.W.Looks (model X.prog X.w) s.heap (classData C) cd := PySem.W.looks_clsIn I.kIn hcd
  obtain ⟨hp, g, dr, t, os⟩ := s
  have inst : PySem.W.InstAt hp a ({ cls := .ref C, dict := none, data := .fields #[.ref t1, .none, .none, .none, .bool false, .none] } : Obj) C none := ⟨ho, rfl, rfl, trivial⟩
  refine PySem.W.set_plain I.kIn (od := none) inst T.sa (PySem.W.osa_openX SF I.kIn inst hov tf fun b => ?_)
  obtain ⟨c1, c2, c3, c4, c5, c6, c7, c8, c9, c10, c11⟩ := cd
  have c6t : c6 = true := hdict
  subst c6t
  have apart : a ≠ hp.objs.size := Nat.ne_of_lt (Heap.lt_size ho)
  show wpAny _ _ (storeInOwnDict _ _ _ _ _ _) _ _ _
  unfold storeInOwnDict ownDictForStores
  repeat (first | with_reducible refine PySem.HandSPX.store_in_new ?_ ?_ | with_reducible refine wpAny_loadPart_at ho ?_ | with_reducible refine lcd.at ?_ | wp_step)
  · exact ⟨_, #[], _, (Heap.get?_update_ne _ _ _ _ (Ne.symm apart)).trans (Heap.get?_push_at rfl rfl), rfl, fun en hen => absurd hen (by simp), fun _ => rfl⟩
  intro h' tk' ns' sb
  have free : H hp.objs.size = none := I.hok.fresh (Nat.le_refl _)
  have off : ∀ {b : Addr}, H b = none → b ≠ a := fun {b} hb z => by rw [z, ea] at hb; cases hb
  have low : ∀ {b : Addr} {o : Obj}, hp.get? b = some o → b ≠ hp.objs.size := fun {b o} hb => Nat.ne_of_lt (Heap.lt_size hb)
  have stays : ∀ b o, b ≠ a → hp.get? b = some o → h'.get? b = some o := fun b o hb ho => by
    rw [sb.2 b (low ho), Heap.get?_update_ne _ _ _ _ hb]
    exact Heap.get?_push_of_some _ ho
  have atA : h'.get? a = some ({ cls := .ref C, dict := some hp.objs.size, data := .fields #[.ref t1, .none, .none, .none, .bool false, .none] } : Obj) := by
    rw [sb.2 a apart]
    exact Heap.get?_update_self _ (Heap.get?_push_of_some _ ho) rfl
  have nTup : ∀ {b : Addr} {xs : List V}, H b = some (.tup xs) → b ≠ a := fun {b xs} hb z => by rw [z, ea] at hb; exact exo_tup (Option.some.inj hb)
  have nFrz : ∀ {b : Addr} {o : Obj} {v : HO}, H b = some (.frz o v) → b ≠ a := fun {b o v} hb z => by rw [z, ea] at hb; exact exo_frz (Option.some.inj hb)
  have nTbl : ∀ {b : Addr} {ps : Array Value}, H b = some (.tbl ps) → b ≠ a := fun {b ps} hb z => by rw [z, ea] at hb; exact exo_tbl (Option.some.inj hb)
  have nOwn : ∀ {b c : Addr}, H b = some (.own c) → b ≠ a := fun {b c} hb z => by rw [z, ea] at hb; exact exo_own (Option.some.inj hb)
  have both : ∀ {b : Addr} {o : HO}, H b = some o → b ≠ a → upd (upd H hp.objs.size (exd hp.objs.size [(f, y)])) a (exo a C (some hp.objs.size)) b = some o := fun {b o} hb n => by
    rw [upd_ne n, upd_ne (ne_of_none hb free)]
    exact hb
  have U : Un X.fs [] H (upd (upd H hp.objs.size (exd hp.objs.size [(f, y)])) a (exo a C (some hp.objs.size))) hp h' := by
    refine ⟨fun b o ho hb _ _ => stays b o (off hb) ho, fun b o ho hb _ _ => ⟨o.slots, stays b o (off hb) ho⟩, fun b o ho hb _ => ?_, fun b o ho _ => ?_, fun b xs hb => both hb (nTup hb), fun b o v hb => both hb (nFrz hb), fun b ps hb => ⟨#[], by rw [Array.append_empty]; exact both hb (nTbl hb)⟩⟩
    · rw [upd_ne (off hb), upd_ne (low ho)]; exact hb
    · by_cases z : b = a
      · exact ⟨_, z ▸ atA⟩
      · exact ⟨o, stays b o z ho⟩
  refine next hp.objs.size _ free (Ne.symm apart) (I.un (t' := tk') U fun b o hb => ?_)
  by_cases z : b = a
  · rw [z, upd_same] at hb
    cases hb
    rw [z]
    exact exo_ok atA
  rw [upd_ne z] at hb
  by_cases z2 : b = hp.objs.size
  · rw [z2, upd_same] at hb
    cases hb
    rw [z2]
    exact exd_ok ns' (relO_put (fs := []) ry fun _ => True.intro)
  rw [upd_ne z2] at hb
  refine (I.hok b o hb).stay (fun c v hc hv => stays c v ?_ hv) (fun c hc => both hc (nOwn hc)) fun c xs hc => both hc (nTup hc)
  rcases hc with hc | hc
  · exact hc ▸ z
  · exact nOwn hc
theorem initY {us : List Value} {Q : Value → Shared → Prop} (T : YexC X.K C initId) (I : Inv X pins σ H s) (ea : H a = some (exo a C none)) (hl : us.length ≤ sizeLine) (next : ∀ s', Inv X pins σ H s' → Q .none s') :
    wpAny (model X.prog X.w) A (call (.builtin initId) (.ref a :: us)) Q E s := by
  obtain ⟨B, newId, bmB, FB, SF, hin, hov⟩ := T.cls
  obtain ⟨nm, N, qn, bs, bm, hdct, sn, sub, ab, col, dd, k0, k1, k2, k3, k5, hC, hT⟩ := PySem.W.excInit_of I.kIn hin
  obtain ⟨t1, ho⟩ := exo_at I.hok ea
  obtain ⟨hp, g, dr, t, os⟩ := s
  refine wpAny_call (PySem.HandSPX.init_base FB hT hC ho hl fun h' t2 kept hx => ?_)
  have same : upd H a (exo a C none) = H := funext fun b => by
    by_cases z : b = a
    · rw [z, upd_same, ea]
    · rw [upd_ne z]
  have J := I.write (t' := t) (x := a) (e := a) (o := exo a C none) (by rw [ea]; trivial) (.inl rfl) kept ⟨_, hx⟩ (exo_ok hx)
  rw [same] at J
  exact next _ J
end
/-! ### readings -/
def tBI (K : PySem.W.Frag) (initId : String) (ta : TA) : TE := fun σ H Q => ta σ H fun vs H1 => ∃ (a C : Addr) (ws : List V), vs = .ref a :: ws ∧ ws.length ≤ 1000 ∧ YexC K C initId ∧ H1 a = some (exo a C none) ∧ Q .non H1
def tOstY (K : PySem.W.Frag) (initId : String) (f : Str) (to te : TE) : TS := fun D σ H => te σ H fun y H1 => to σ H1 fun x H2 => ∃ a C : Addr, x = .ref a ∧ YexC K C initId ∧ PySem.W.takerIn K C f = some none ∧
  H2 a = some (exo a C none) ∧ ∀ dx, H2 dx = none → dx ≠ a → D.nx σ (upd (upd H2 dx (exd dx [(f, y)])) a (exo a C (some dx)))
section
variable {X : Cx} {x f : Str} {e o : Expr} {es : List Expr} {ta : TA} {to te : TE} {p p' p1 p2 pos : Pos} {initId : String}
/-- B.__init__(self, ..), B an own class over a built-in one, without an __init__ of its own -/
theorem pe_bi {pl : Sem Bool} {B : Addr} {mc : Value} (hg : Gl X x) (hm : X.mg x = some (.ref B)) (r : ClX.CRead X.K B mc) (hv : PySem.W.findCls X.K (.ref B) mc "__init__" = some (.val (.builtin initId))) (hh : PySem.W.handedIn (.builtin initId) = true) (ha : PA X (e :: es) ta)
    (hdb : (x == ("__debug__" : Str)) = false := by decide)
    (hc : eval (.Call (.Attribute (.Name x p1) "__init__" p2) (e :: es) [] pos) X.env = (do
      let ov ← eval (.Name x p1) X.env
      standAt p2.atName
      let (f, first) ← holding [ov] (getMethod ov "__init__" pl)
      callWith pos f first (backTo pos (starEach (e :: es) X.env)) (backToKw pos (keywordEach [] X.env))) := by rfl)
    (he : starEach (e :: es) X.env = (false, eval e X.env) :: starEach es X.env := by rfl) (hpl : (backTo pos (starEach es X.env)).any (·.1) = false := by rfl) :
    PE X (.Call (.Attribute (.Name x p1) "__init__" p2) (e :: es) [] pos) (tBI X.K initId ta) := by
  refine ⟨fun pins s σ H Q I h => PySem.W.methodCall_KW (ld_glob I hg hm ?_ hdb) hc⟩
  refine PySem.W.method_cls I.kIn r.ga (PySem.W.cls_value I.kIn r.rd hv hh ?_)
  refine PyProof.Rows.callWith_method1 (thn (ha.run pos pins _ σ H _ (I.tok _) h) fun us s1 got => ?_) he hpl
  obtain ⟨vs, H1, I1, r1, a, C, ws, ev, hl, T, ea, q⟩ := got
  subst ev
  cases r1 with
  | @cons _ u _ ur ra rr =>
    obtain rfl : u = Value.ref a := ra
    exact initY T I1 ea (by rw [← Paired.length rr, sizeLine_eq]; omega) fun s' J => ⟨.non, H1, J, rfl, q⟩
theorem ps_ostY (ho : PE X o to) (he : PE X e te) (hs : swapsWith e (some (.Attribute o f p')) pos.line X.env = pure false := by rfl) : PS X (.Assign [.Attribute o f p'] e pos) (tOstY X.K initId f to te) := by
  refine ⟨fun pins s σ H D I h => plainObj_wpAny_Assign_Attribute (thn (he.run pins s σ H _ I h) fun v s1 got => ?_) hs⟩
  obtain ⟨y, H1, I1, r1, q1⟩ := got
  refine thn (ho.run pins s1 σ H1 _ I1 q1) fun u s2 got => ?_
  obtain ⟨z, H2, I2, r2, a, C, ez, T, tf, ea, q⟩ := got
  subst ez
  obtain rfl : u = Value.ref a := r2
  exact ostY T I2 ea tf r1 fun dx s' n ne J => ⟨σ, _, J, q dx n ne⟩
/-- C(e, ..), C's own __init__ keeping sp -/
theorem pmkY {CX : CXT} {C fI : Addr} {k : Nat} {fd : FuncData} {ps : List Str} {sp : Sp} (T : YexC X.K C initId) (iC : PySem.W.findIn X.K (.ref C) "__init__" = some (some (.ref fI))) (tI : PySem.W.typeIn X.K (.ref fI) = some (.type "function"))
    (F1 : FnOk X.prog X.w X.K X.mg X.base CX k fI fd ps sp) (hr : Room (k + 1) X.A) (hb : Binds X.K fd ps []) (hx : Passes CX X (fun _ _ _ => False)) (hg : Gl X x) (hm : X.mg x = some (.ref C)) (ha : PA X (e :: es) ta)
    (hdb : (x == ("__debug__" : Str)) = false := by decide) (he : starEach (e :: es) X.env = (false, eval e X.env) :: starEach es X.env := by rfl) (hpl : (backTo pos (starEach es X.env)).any (·.1) = false := by rfl) :
    PMk X (.Call (.Name x p) (e :: es) [] pos) (tMkO C sp [] ta) := by
  intro pins s σ H Q I h
  obtain ⟨B, newId, bmB, FB, SF, hin, hov⟩ := T.cls
  refine wpAny_Call_Name_kw (ld_glob I hg hm (PySem.W.callWith_K (h₀ := X.base) I.ok.mod.kin T.kC (thn (ha.run pos pins s σ H _ I h) fun us s1 got => ?_) he hpl) hdb)
  obtain ⟨vs, H1, I1, r1, hz, q1⟩ := got
  refine ⟨I1.kIn, ?_⟩
  obtain ⟨nm, N, qn, bs, bm, hdct, sn, sub, ab, col, dd, k0, k1, k2, k3, k5, hC, hT⟩ := PySem.W.excInit_of I1.kIn hin
  show wpAny _ _ (call (.ref C) us) _ _ _
  obtain ⟨hp, g, dr, tk, os⟩ := s1
  generalize hE : hp.objs.size + 1 = ex at *
  have above : hp.objs.size ≤ ex := by omega
  have fresh : H1 ex = none := I1.hok.fresh above
  have wish := q1 ex fresh
  have old : ∀ b o, hp.get? b = some o → ((hp.push (PySem.W.kdv_tup us)).push (PySem.HandSPX.excO C hp.objs.size)).get? b = some o := fun b o hb => Heap.get?_push_of_some _ (Heap.get?_push_of_some _ hb)
  have made : ((hp.push (PySem.W.kdv_tup us)).push (PySem.HandSPX.excO C hp.objs.size)).get? ex = some (PySem.HandSPX.excO C hp.objs.size) := by subst hE; heap_get
  have J : Inv X pins σ (upd H1 ex (exo ex C none)) ⟨(hp.push (PySem.W.kdv_tup us)).push (PySem.HandSPX.excO C hp.objs.size), g, dr, tk, os⟩ := I1.laid (t' := tk) old above (exo_ok made)
  have vals : Vals (V.ref ex :: (vs ++ [])) (Value.ref ex :: (us ++ [])) := .cons rfl (r1.append .nil)
  have len : (Value.ref ex :: us ++ []).length = ps.length := (F1.len _ _ _ _ wish ▸ vals.length).symm
  have lus : us.length ≤ sizeLine := by rw [← Paired.length r1, sizeLine_eq]; omega
  have go := F1.run _ X.stack _ _ ⟨Value.ref ex :: us, []⟩ (Value.ref ex :: (us ++ [])) _ _ (fun _ _ _ => False) (hr.make C us []) (J.env0.make C us []) (by rw [← List.cons_append]; exact hb _ (Value.ref ex :: us) J.kIn len) vals wish
  subst hE
  refine wpAny_call (PySem.HandSPX.call_own FB hT hC (PySem.W.looks_findIn I1.kIn iC) (fun self => PySem.W.bind_fn I1.kIn self tI) lus (codeAny_mono go fun r s' res => ?_))
  match r, res with
  | .error er, res => exact hx pins σ _ _ er s' J res
  | .ok (.ret u), res =>
    obtain ⟨v, H2, os2, bare2, un2, hok2, rv, ev, d, fs, e1, e2, e3, q2⟩ := res
    subst ev
    obtain ⟨h2, g2, d2, t2, os'⟩ := s'
    exact ⟨rv, mk_end (raises_own T.exC T.tyC) I1 above old un2 hok2 os2 bare2 e1 e2 e3 q2⟩
  | .ok .next, res => exact False.elim res
  | .ok .brk, res => exact False.elim res
  | .ok .cont, res => exact False.elim res
end
/-- an own exception class and what its __init__ promises -/
structure ExcMkY (P : Program) (w : World) (K : PySem.W.Frag) (mg : Str → Option Value) (base : Heap) (k : Nat) (x : Str) (C : Addr) (fl : Str) : Prop where
  ex : ∃ (f : Addr) (fd : FuncData) (ps : List Str) (initId : String), YexC K C initId ∧ PySem.W.findIn K (.ref C) "__init__" = some (some (.ref f)) ∧ PySem.W.typeIn K (.ref f) = some (.type "function") ∧ FnOk P w K mg base C8.CX0 k f fd ps (spExc C fl) ∧ Binds K fd ps [] ∧ mg x = some (.ref C)
theorem pmk_exY {X : Cx} {x : Str} {e : Expr} {ta : TA} {p pos : Pos} {k j : Nat} {C : Addr} {fl : Str} (c : ExcMkY X.prog X.w X.K X.mg X.base k x C fl) (hr : Room j X.A) (hk : k + 1 ≤ j) (hg : Gl X x) (ha : PA X [e] ta) (hdb : (x == ("__debug__" : Str)) = false := by decide)
    (he : starEach [e] X.env = (false, eval e X.env) :: starEach [] X.env := by rfl) (hpl : (backTo pos (starEach [] X.env)).any (·.1) = false := by rfl) : PMk X (.Call (.Name x p) [e] [] pos) (tMkO C (spExc C fl) [] ta) := by
  obtain ⟨f, fd, ps, initId, T, i, t, F, b, hm⟩ := c.ex
  exact pmkY T i t F (hr.mono hk) b C8.pass0 hg hm ha hdb he hpl
end Gx

set_option Elab.async false
set_option linter.all false
set_option maxRecDepth 100000
set_option maxHeartbeats 1000000
/-! defs and methods that may raise: called where it passes on, and within a try -/
namespace Gx
open PySem PySem.Spec PyProof.Rows L2 GenW
structure MetX (P : Program) (w : World) (K : PySem.W.Frag) (mg : Str → Option Value) (base : Heap) (k : Nat) (C : Addr) (m : Str) (sp : Sp) : Prop where
  ex : ∃ (f : Addr) (fd : FuncData) (ps : List Str), Cls K C ∧ Meth K C m f ∧ FnOk P w K mg base (CX P w) k f fd ps sp ∧ Binds K fd ps []
theorem metX {P : Program} {w : World} {K : PySem.W.Frag} {mg : Str → Option Value} {base : Heap} {m qual : Str} {C : Addr} {st : Stmt} {f : Addr} {fd : FuncData} {N ps : List Str} {k : Nat} {sp : Sp} (c : Cls K C) (me : Meth K C m f) (F : C8.Fun K m qual st f fd) (b : Binds K fd ps [])
    (S : FnScope N ps (C8.fnScope st)) (len : ∀ vs H Q E, sp vs H Q E → vs.length = ps.length)
    (hbody : ∀ (cdv : Value) (A : Around) (outer : List Env) (s : Shared) (H : Hp) (vs : List V) (Q : VK) (E : XK), Room k (A.deeper (envOfC qual (C8.fnScope st) s.heap.objs.size f cdv)) → sp vs H Q E →
      ∃ t, PSs (cxOf (CX P w) P w K mg base N qual (C8.fnScope st) f cdv A outer s H E) (C8.fnBody st) t ∧ t { nx := fun _ H' => Q .non H', rt := Q } (start N vs) H) : MetX P w K mg base (k + 1) C m sp := by
  obtain ⟨oc, od, dV, kV, doc, pm, an, cdv, ct, osl, rfl, lk, hcd⟩ := F.ex
  exact ⟨f, _, ps, c, me, fn_of lk hcd S len (hbody cdv), b⟩
section
variable {X : Cx} {k j : Nat} {C : Addr} {x m : Str} {sp : Sp} {p pos apos : Pos} {e o : Expr} {es : List Expr} {ta : TE} {t : TA} {W : WX} {E : XK} {pl : Sem Bool}
theorem pe_cx0 (c : CalX X.prog X.w X.K X.mg X.base k x sp) (tk : Takes X W) (hW : ∀ cls d σ H, E cls d H → W cls d σ H) (hr : Room j X.A) (hk : k ≤ j) (hg : Gl X x) (hdb : (x == ("__debug__" : Str)) = false := by decide) :
    PE X (.Call (.Name x p) [] [] pos) (tCall sp [] E tNil) := by
  obtain ⟨f, fd, ps, F, hm, kp, b⟩ := c.ex
  exact pe_call0 F (hr.mono hk) hg hm kp b .nil (passes_call tk hW) hdb
theorem pe_mx (c : MetX X.prog X.w X.K X.mg X.base k C m sp) (tk : Takes X W) (hW : ∀ cls d σ H, E cls d H → W cls d σ H) (hr : Room j X.A) (hk : k ≤ j) (he : PE X o ta) (ha : PA X (e :: es) t)
    (hst : starEach (e :: es) X.env = (false, eval e X.env) :: starEach es X.env := by rfl) (hpl : (backTo pos (starEach es X.env)).any (·.1) = false := by rfl)
    (ht : eval (.Call (.Attribute o m apos) (e :: es) [] pos) X.env = (do
      let ov ← eval o X.env
      standAt apos.atName
      let (f, first) ← holding [ov] (getMethod ov m pl)
      callWith pos f first (backTo pos (starEach (e :: es) X.env)) (backToKw pos (keywordEach [] X.env))) := by rfl) :
    PE X (.Call (.Attribute o m apos) (e :: es) [] pos) (tMeth C m sp [] E ta t) := by
  obtain ⟨f, fd, ps, hc, hm, F, b⟩ := c.ex
  exact pe_meth (pl := pl) he hc hm F (hr.mono hk) b .nil (passes_call tk hW) ha hst hpl ht
theorem pe_mx0 (c : MetX X.prog X.w X.K X.mg X.base k C m sp) (tk : Takes X W) (hW : ∀ cls d σ H, E cls d H → W cls d σ H) (hr : Room j X.A) (hk : k ≤ j) (he : PE X o ta)
    (ht : eval (.Call (.Attribute o m apos) [] [] pos) X.env = (do
      let ov ← eval o X.env
      standAt apos.atName
      let (f, first) ← holding [ov] (getMethod ov m pl)
      callWith pos f first (backTo pos (starEach [] X.env)) (backToKw pos (keywordEach [] X.env))) := by rfl) :
    PE X (.Call (.Attribute o m apos) [] [] pos) (tMeth C m sp [] E ta tNil) := by
  obtain ⟨f, fd, ps, hc, hm, F, b⟩ := c.ex
  exact pe_meth0 (pl := pl) he hc hm F (hr.mono hk) b .nil (passes_call tk hW) ht
/-- within a try: what is raised is wished for at the slots as they are -/
theorem pe_cs (c : CalX X.prog X.w X.K X.mg X.base k x sp) (tk : Takes X W) (hr : Room j X.A) (hk : k ≤ j) (hg : Gl X x) (ha : PA X (e :: es) t)
    (hdb : (x == ("__debug__" : Str)) = false := by decide) (he : starEach (e :: es) X.env = (false, eval e X.env) :: starEach es X.env := by rfl) (hpl : (backTo pos (starEach es X.env)).any (·.1) = false := by rfl) :
    PE X (.Call (.Name x p) (e :: es) [] pos) (tCallSD sp [] (WE W) t) := by
  obtain ⟨f, fd, ps, F, hm, kp, b⟩ := c.ex
  exact pe_callSD F (hr.mono hk) hg hm kp b .nil (fun σ => passAt tk σ) ha hdb he hpl
def tMethS (C : Addr) (m : Str) (sp : Sp) (E : L2.St → XK) (ta : TE) (t : TA) : TE := fun σ H Q => ta σ H fun x H1 => ∃ a dx fs, x = .ref a ∧ H1 a = some (.ins C dx fs) ∧ fs.lookup m = none ∧ t σ H1 fun vs H2 => sp (x :: (vs ++ [])) H2 Q (E σ)
theorem pe_ms (c : MetX X.prog X.w X.K X.mg X.base k C m sp) (tk : Takes X W) (hr : Room j X.A) (hk : k ≤ j) (he : PE X o ta) (ha : PA X (e :: es) t)
    (hst : starEach (e :: es) X.env = (false, eval e X.env) :: starEach es X.env := by rfl) (hpl : (backTo pos (starEach es X.env)).any (·.1) = false := by rfl)
    (ht : eval (.Call (.Attribute o m apos) (e :: es) [] pos) X.env = (do
      let ov ← eval o X.env
      standAt apos.atName
      let (f, first) ← holding [ov] (getMethod ov m pl)
      callWith pos f first (backTo pos (starEach (e :: es) X.env)) (backToKw pos (keywordEach [] X.env))) := by rfl) :
    PE X (.Call (.Attribute o m apos) (e :: es) [] pos) (tMethS C m sp (WE W) ta t) := by
  obtain ⟨f, fd, ps, hc, hm, F, b⟩ := c.ex
  refine ⟨fun pins s σ H Q I h => PySem.W.methodCall_KW (pl := pl) (thn (he.run pins s σ H _ I h) fun u s1 got => ?_) ht⟩
  obtain ⟨x, H1, I1, rx, a, dx, fs, ex, ea, l, q⟩ := got
  subst ex
  obtain rfl : u = Value.ref a := rx
  refine getmeth_ok I1 ea hc hm l (PySem.W.callWith_K (first := [.ref a]) (h₀ := X.base) I.ok.mod.kin hm.kp (thn (ha.run pos pins s1 σ H1 _ I1 q) fun us s2 got => ?_) hst hpl)
  obtain ⟨vs, H2, I2, r, q2⟩ := got
  exact ⟨I2.kIn, run_fnSD (us := .ref a :: us) (vs := .ref a :: vs) (E := WE W) F (hr.mono hk) b .nil (passAt tk σ) I2 (.cons rfl r) q2⟩
theorem pe_ms0 (c : MetX X.prog X.w X.K X.mg X.base k C m sp) (tk : Takes X W) (hr : Room j X.A) (hk : k ≤ j) (he : PE X o ta)
    (ht : eval (.Call (.Attribute o m apos) [] [] pos) X.env = (do
      let ov ← eval o X.env
      standAt apos.atName
      let (f, first) ← holding [ov] (getMethod ov m pl)
      callWith pos f first (backTo pos (starEach [] X.env)) (backToKw pos (keywordEach [] X.env))) := by rfl) :
    PE X (.Call (.Attribute o m apos) [] [] pos) (tMethS C m sp (WE W) ta tNil) := by
  obtain ⟨f, fd, ps, hc, hm, F, b⟩ := c.ex
  refine ⟨fun pins s σ H Q I h => PySem.W.methodCall_KW (pl := pl) (thn (he.run pins s σ H _ I h) fun u s1 got => ?_) ht⟩
  obtain ⟨x, H1, I1, rx, a, dx, fs, ex, ea, l, q⟩ := got
  subst ex
  obtain rfl : u = Value.ref a := rx
  exact getmeth_ok I1 ea hc hm l (PySem.W.callWith_K0 (first := [.ref a]) I1.kIn hm.kp (run_fnSD (us := [.ref a]) (vs := [.ref a]) (E := WE W) F (hr.mono hk) b .nil (passAt tk σ) I1 (.cons rfl .nil) q))
end
section
variable {σ : L2.St} {H : Hp} {Q : VK} {sp : Sp} {C : Addr} {m : Str} {ta : TE} {tr : TA} {E : L2.St → XK}
theorem callSD (h : tr σ H fun vs H1 => sp (vs ++ []) H1 Q (E σ)) : tCallSD sp [] E tr σ H Q := h
theorem methSD (h : ta σ H fun x H1 => ∃ a dx fs, x = .ref a ∧ H1 a = some (.ins C dx fs) ∧ fs.lookup m = none ∧ tr σ H1 fun vs H2 => sp (x :: (vs ++ [])) H2 Q (E σ)) : tMethS C m sp E ta tr σ H Q := h
/-- e.f in an except suite -/
theorem xf {a C dd : Addr} {cls : Value} {d : Option Addr} {f : Str} {te : TE} (h : te σ H fun x H1 => x = .ref a ∧ cls = .ref C ∧ ∃ (dd : Addr) (fs : List (Str × V)) (v : V), d = some dd ∧ H1 dd = some (.xd fs) ∧ fs.lookup f = some v ∧ Q v H1) : tXf a cls d C f te σ H Q := h
end
/-- what `except X as n` wishes, X the very class that is raised -/
theorem asYes {K : PySem.W.Frag} {C : Addr} {i : Nat} {ts : Addr → Value → Option Addr → TS} {Wout : WX} {D : Ends} {d : Option Addr} {σ : L2.St} {H : Hp} (m : PySem.W.exmOne K (.ref C) c = some true)
    (h : ∀ a, H a = none → ts a (.ref C) d { nx := fun σ' H' => D.nx (σ'.set i none) H', rt := D.rt, bk := fun σ' H' => D.bk (σ'.set i none) H', ct := fun σ' H' => D.ct (σ'.set i none) H' } (σ.set i (some (.ref a))) H) : wAs K c i ts Wout D (.ref C) d σ H :=
  ⟨true, m, fun _ => h, fun z => by cases z⟩
/-- a new exception of one field -/
theorem mkY {C : Addr} {fl : Str} {v : V} {H : Hp} {Q : XK} (q : ∀ d H', H d = none → Rd.Ex H H' → H' d = some (.xd [(fl, v)]) → Q (.ref C) (some d) H') :
    [v].length ≤ 1000 ∧ ∀ a, H a = none → spExc C fl (.ref a :: ([v] ++ [])) (upd H a (exo a C none))
      (fun r H2 => r = .non ∧ ∃ (d : Addr) (fs : List (Str × V)), H2 a = some (exo a C (some d)) ∧ H2 d = some (exd d fs) ∧ H d = none ∧ Q (.ref C) (some d) (upd (del H2 a) d (.xd fs))) (fun _ _ _ => False) := mkO q
end Gx

set_option linter.all false
/-! leaps of the linear source -/
namespace ML
/-- every number from 1 on is a power of 2 times an odd number -/
theorem two_odd : ∀ (e : Nat), 0 < e → ∃ v o, e = 2 ^ v * o ∧ o % 2 = 1 := by
  intro e
  induction e using Nat.strongRecOn with
  | ind e ih =>
    intro h
    by_cases c : e % 2 = 1
    · exact ⟨0, e, by simp, c⟩
    · obtain ⟨v, o, h1, h2⟩ := ih (e / 2) (by omega) (by omega)
      refine ⟨v + 1, o, ?_, h2⟩
      have : e = 2 * (e / 2) := by omega
      rw [this, h1, Nat.pow_succ]; grind
theorem land_pred : ∀ (v o : Nat), o % 2 = 1 → (2 ^ v * o) &&& (2 ^ v * o - 1) = 2 ^ v * o - 2 ^ v := by
  intro v
  induction v with
  | zero =>
    intro o h
    simp only [Nat.pow_zero, Nat.one_mul]
    refine Nat.eq_of_testBit_eq fun i => ?_
    rw [Nat.testBit_and]
    cases i with
    | zero => simp [Nat.testBit_zero]; omega
    | succ i =>
      rw [Nat.testBit_succ, Nat.testBit_succ]
      have : (o - 1) / 2 = o / 2 := by omega
      rw [this, Bool.and_self]
  | succ v ih =>
    intro o h
    have hp : 0 < 2 ^ v * o := Nat.mul_pos (Nat.two_pow_pos v) (by omega)
    have e : 2 ^ (v + 1) * o = 2 * (2 ^ v * o) := by rw [Nat.pow_succ]; grind
    have z := ih o h
    have le : 2 ^ v ≤ 2 ^ v * o := Nat.le_mul_of_pos_right _ (by omega)
    rw [e, Nat.pow_succ]
    generalize 2 ^ v * o = m at *
    generalize 2 ^ v = p at *
    refine Nat.eq_of_testBit_eq fun i => ?_
    rw [Nat.testBit_and]
    cases i with
    | zero => simp [Nat.testBit_zero]; omega
    | succ i =>
      rw [Nat.testBit_succ, Nat.testBit_succ, Nat.testBit_succ]
      have h1 : 2 * m / 2 = m := by omega
      have h2 : (2 * m - 1) / 2 = m - 1 := by omega
      have h3 : (2 * m - p * 2) / 2 = m - p := by omega
      rw [h1, h2, h3, ← z, Nat.testBit_and]
/-- the greatest power of 2 up to 2 ^ 48 that divides e: its exponent -/
def tw (e : Nat) : Nat := if e % 281474976710656 = 0 then 48 else Nat.log2 (e - (e &&& (e - 1)))
theorem pow_mod {v o : Nat} (ho : o % 2 = 1) (hv : v < 48) : (2 ^ v * o) % 281474976710656 ≠ 0 := fun h => by
  have d : (281474976710656 : Nat) ∣ 2 ^ v * o := Nat.dvd_of_mod_eq_zero h
  have e : (281474976710656 : Nat) = 2 ^ v * 2 ^ (48 - v) := by rw [← Nat.pow_add, show v + (48 - v) = 48 by omega]
  rw [e] at d
  have d2 := Nat.dvd_of_mul_dvd_mul_left (Nat.two_pow_pos v) d
  have d3 : 2 ∣ o := Nat.dvd_trans (by rw [show 48 - v = (47 - v) + 1 by omega, Nat.pow_succ]; exact Nat.dvd_mul_left _ _) d2
  omega
theorem tw_le (e : Nat) (he : 0 < e) : tw e ≤ 48 ∧ 2 ^ tw e ∣ e ∧ (tw e < 48 → e / 2 ^ tw e % 2 = 1) := by
  obtain ⟨v, o, rfl, ho⟩ := two_odd e he
  unfold tw
  by_cases hv : v < 48
  · rw [if_neg (pow_mod ho hv), land_pred v o ho]
    have le : 2 ^ v ≤ 2 ^ v * o := Nat.le_mul_of_pos_right _ (by omega)
    rw [Nat.sub_sub_self le, Nat.log2_two_pow]
    exact ⟨by omega, Nat.dvd_mul_right _ _, fun _ => by rw [Nat.mul_div_cancel_left _ (Nat.two_pow_pos v)]; exact ho⟩
  · have d : (281474976710656 : Nat) ∣ 2 ^ v * o := by
      rw [show (281474976710656 : Nat) = 2 ^ 48 by decide, show v = 48 + (v - 48) by omega, Nat.pow_add]
      exact Nat.dvd_trans (Nat.dvd_mul_right _ _) (Nat.dvd_mul_right _ _)
    rw [if_pos (Nat.mod_eq_zero_of_dvd d)]
    exact ⟨by omega, by rw [show (2 : Nat) ^ 48 = 281474976710656 by decide]; exact d, fun h => absurd h (by omega)⟩
/-- min(e & -e, 2 ^ 48) -/
theorem tw_min (e : Nat) (he : 0 < e) : (if (281474976710656 : Int) < (e : Int) - ((e &&& (e - 1) : Nat) : Int) then (281474976710656 : Int) else (e : Int) - ((e &&& (e - 1) : Nat) : Int)) = (2 ^ tw e : Nat) := by
  obtain ⟨v, o, rfl, ho⟩ := two_odd e he
  have le : 2 ^ v ≤ 2 ^ v * o := Nat.le_mul_of_pos_right _ (by omega)
  unfold tw
  rw [land_pred v o ho]
  have e1 : ((2 ^ v * o : Nat) : Int) - ((2 ^ v * o - 2 ^ v : Nat) : Int) = ((2 ^ v : Nat) : Int) := by omega
  rw [e1]
  by_cases hv : v < 48
  · rw [if_neg (pow_mod ho hv), Nat.sub_sub_self le, Nat.log2_two_pow]
    have : (2 : Nat) ^ v ≤ 2 ^ 48 := Nat.pow_le_pow_right (by decide) (by omega)
    rw [show (2 : Nat) ^ 48 = 281474976710656 by decide] at this
    rw [if_neg (by omega)]
  · have d : (281474976710656 : Nat) ∣ 2 ^ v * o := by
      rw [show (281474976710656 : Nat) = 2 ^ 48 by decide, show v = 48 + (v - 48) by omega, Nat.pow_add]
      exact Nat.dvd_trans (Nat.dvd_mul_right _ _) (Nat.dvd_mul_right _ _)
    rw [if_pos (Nat.mod_eq_zero_of_dvd d)]
    have : (2 : Nat) ^ 48 ≤ 2 ^ v := Nat.pow_le_pow_right (by decide) (by omega)
    rw [show (2 : Nat) ^ 48 = 281474976710656 by decide] at this ⊢
    by_cases z : (281474976710656 : Int) < ((2 ^ v : Nat) : Int)
    · rw [if_pos z]; rfl
    · rw [if_neg z]; omega
/-- Newton's steps: the inverse of an odd number modulo 2 ^ 48 -/
def nwt (a : Int) : Nat → Int
  | 0 => a
  | n + 1 => nwt a n * (2 - a * nwt a n) % 281474976710656
theorem nwt_step {a f : Int} {k : Nat} (h : (2 ^ k : Int) ∣ 1 - a * f) : (2 ^ (k + k) : Int) ∣ 1 - a * (f * (2 - a * f)) := by
  obtain ⟨c, hc⟩ := h
  refine ⟨c * c, ?_⟩
  have e : 1 - a * (f * (2 - a * f)) = (1 - a * f) * (1 - a * f) := by grind
  rw [e, hc, Int.pow_add]
  grind
theorem odd_sq {a : Int} (h : a % 2 = 1) : (2 ^ 3 : Int) ∣ 1 - a * a := by
  obtain ⟨k, rfl⟩ : ∃ k, a = 2 * k + 1 := ⟨a / 2, by omega⟩
  have e : 1 - (2 * k + 1) * (2 * k + 1) = -(4 * (k * (k + 1))) := by grind
  rw [e]
  have : k * (k + 1) % 2 = 0 := by
    rw [Int.mul_emod]
    rcases Int.emod_two_eq k with z | z
    · rw [z]; simp
    · have : (k + 1) % 2 = 0 := by omega
      rw [this]; simp
  obtain ⟨c, hc⟩ := Int.dvd_of_emod_eq_zero this
  exact ⟨-c, by rw [hc]; grind⟩
theorem nwt_k {a f : Int} {k j : Nat} (h : (2 ^ k : Int) ∣ 1 - a * f) (hj : j ≤ k + k) (hj2 : j ≤ 48) : (2 ^ j : Int) ∣ 1 - a * ((f * (2 - a * f)) % 281474976710656) := by
  have h1 := nwt_step h
  have h2 : (2 ^ j : Int) ∣ 1 - a * (f * (2 - a * f)) := Int.dvd_trans (by rw [show k + k = j + (k + k - j) by omega, Int.pow_add]; exact Int.dvd_mul_right _ _) h1
  have h3 : (2 ^ j : Int) ∣ 281474976710656 := by rw [show (281474976710656 : Int) = 2 ^ (j + (48 - j)) by rw [show j + (48 - j) = 48 by omega]; decide, Int.pow_add]; exact Int.dvd_mul_right _ _
  generalize f * (2 - a * f) = X at *
  have e : 1 - a * (X % 281474976710656) = (1 - a * X) + a * (X / 281474976710656) * 281474976710656 := by
    have := Int.emod_add_mul_ediv X 281474976710656
    rw [show X % 281474976710656 = X - 281474976710656 * (X / 281474976710656) by omega]
    grind
  rw [e]
  exact Int.dvd_add h2 (Int.dvd_trans h3 (Int.dvd_mul_left _ _))
theorem nwt_inv {a : Int} (h : a % 2 = 1) : (2 ^ 48 : Int) ∣ 1 - a * nwt a 6 := by
  have h0 : (2 ^ 3 : Int) ∣ 1 - a * nwt a 0 := odd_sq h
  have h1 : (2 ^ 6 : Int) ∣ 1 - a * nwt a 1 := nwt_k h0 (by decide) (by decide)
  have h2 : (2 ^ 12 : Int) ∣ 1 - a * nwt a 2 := nwt_k h1 (by decide) (by decide)
  have h3 : (2 ^ 24 : Int) ∣ 1 - a * nwt a 3 := nwt_k h2 (by decide) (by decide)
  have h4 : (2 ^ 48 : Int) ∣ 1 - a * nwt a 4 := nwt_k h3 (by decide) (by decide)
  have h5 : (2 ^ 48 : Int) ∣ 1 - a * nwt a 5 := nwt_k h4 (by decide) (by decide)
  exact nwt_k h5 (by decide) (by decide)
theorem leap_ok {o m i : Int} {t : Nat} (ht : t ≤ 48) (hi : t < 48 → (2 ^ 48 : Int) ∣ 1 - o * i) : (281474976710656 : Int) ∣ (2 ^ t * o) * (m * i % 2 ^ (48 - t)) - 2 ^ t * m := by
  rw [show (281474976710656 : Int) = 2 ^ t * 2 ^ (48 - t) by rw [← Int.pow_add, show t + (48 - t) = 48 by omega]; decide, show (2 ^ t * o) * (m * i % 2 ^ (48 - t)) - 2 ^ t * m = 2 ^ t * (o * (m * i % 2 ^ (48 - t)) - m) by grind]
  refine Int.mul_dvd_mul (Int.dvd_refl _) ?_
  by_cases c : t < 48
  · have h1 : (2 ^ (48 - t) : Int) ∣ 1 - o * i := Int.dvd_trans (by rw [show (2 : Int) ^ 48 = 2 ^ (48 - t) * 2 ^ t by rw [← Int.pow_add, show 48 - t + t = 48 by omega]]; exact Int.dvd_mul_right _ _) (hi c)
    generalize (2 : Int) ^ (48 - t) = M at *
    have e : o * (m * i % M) - m = -(m * (1 - o * i)) - o * (m * i / M) * M := by
      have := Int.emod_add_mul_ediv (m * i) M
      rw [show m * i % M = m * i - M * (m * i / M) by omega]
      grind
    rw [e]
    exact Int.dvd_sub (Int.dvd_neg.mpr (Int.dvd_trans h1 (Int.dvd_mul_left _ _))) (Int.dvd_mul_left _ _)
  · rw [show 48 - t = 0 by omega, Int.pow_zero]
    exact Int.one_dvd _
theorem leap_uniq {o a b : Int} {t : Nat} (ht : t ≤ 48) (ho : t < 48 → o % 2 = 1) (h : (281474976710656 : Int) ∣ (2 ^ t * o) * a - (2 ^ t * o) * b) : a % 2 ^ (48 - t) = b % 2 ^ (48 - t) := by
  by_cases c : t < 48
  · have h1 : (2 ^ t * 2 ^ (48 - t) : Int) ∣ 2 ^ t * ((a - b) * o) := by
      rw [← Int.pow_add, show t + (48 - t) = 48 by omega, show (2 : Int) ^ 48 = 281474976710656 by decide, show (2 : Int) ^ t * ((a - b) * o) = (2 ^ t * o) * a - (2 ^ t * o) * b by grind]
      exact h
    have h2 : (2 ^ (48 - t) : Int) ∣ (a - b) * o := Int.dvd_of_mul_dvd_mul_left (Int.ne_of_gt (Int.pow_pos (by decide))) h1
    have h3 := (dvd_odd (ho c)).mp h2
    exact Int.emod_eq_emod_iff_emod_sub_eq_zero.mpr (Int.emod_eq_zero_of_dvd h3)
  · rw [show 48 - t = 0 by omega, Int.pow_zero, Int.emod_one, Int.emod_one]
end ML

set_option Elab.async false
set_option linter.all false
set_option maxRecDepth 100000
set_option maxHeartbeats 4000000
namespace Pf
open PySem PySem.Spec PyProof.Rows L2
def top (i : Nat) : Stmt := PySem.Challenge.pw_drawstate_k16_whole_leaps_between.main.body.getD i (.Pass ⟨0, 0, 0, 0⟩)
abbrev s_NoRow___init__ : Stmt := inClass (top 7) 0
theorem sc_NoRow___init__ : FnScope ["self", "given"] ["self", "given"] (C8.fnScope s_NoRow___init__) := C8.fnScope_by (by decide +kernel)
abbrev s_is_integer : Stmt := top 9
theorem sc_is_integer : FnScope ["value"] ["value"] (C8.fnScope s_is_integer) := C8.fnScope_by (by decide +kernel)
abbrev s_need_steps : Stmt := top 12
theorem sc_need_steps : FnScope ["steps"] ["steps"] (C8.fnScope s_need_steps) := C8.fnScope_by (by decide +kernel)
abbrev s_s2_is_number : Stmt := top 19
theorem sc_s2_is_number : FnScope ["value"] ["value"] (C8.fnScope s_s2_is_number) := C8.fnScope_by (by decide +kernel)
abbrev s_s2_need_start : Stmt := top 20
theorem sc_s2_need_start : FnScope ["start"] ["start"] (C8.fnScope s_s2_need_start) := C8.fnScope_by (by decide +kernel)
abbrev s_s2_joined : Stmt := top 22
theorem sc_s2_joined : FnScope ["one", "other"] ["one", "other"] (C8.fnScope s_s2_joined) := C8.fnScope_by (by decide +kernel)
abbrev s_s2_step_map : Stmt := top 23
theorem sc_s2_step_map : FnScope ["steps", "found", "power"] ["steps"] (C8.fnScope s_s2_step_map) := C8.fnScope_by (by decide +kernel)
abbrev s_s2_mapped : Stmt := top 24
theorem sc_s2_mapped : FnScope ["one", "start"] ["one", "start"] (C8.fnScope s_s2_mapped) := C8.fnScope_by (by decide +kernel)
abbrev s_s2_moved : Stmt := top 25
theorem sc_s2_moved : FnScope ["start", "steps"] ["start", "steps"] (C8.fnScope s_s2_moved) := C8.fnScope_by (by decide +kernel)
abbrev s_s2_distance : Stmt := top 26
theorem sc_s2_distance : FnScope ["start", "goal", "power", "found", "digit"] ["start", "goal"] (C8.fnScope s_s2_distance) := C8.fnScope_by (by decide +kernel)
abbrev s_Linear___init__ : Stmt := inClass (top 27) 1
theorem sc_Linear___init__ : FnScope ["self", "start"] ["self", "start"] (C8.fnScope s_Linear___init__) := C8.fnScope_by (by decide +kernel)
abbrev s_Linear_state : Stmt := inClass (top 27) 4
theorem sc_Linear_state : FnScope ["self"] ["self"] (C8.fnScope s_Linear_state) := C8.fnScope_by (by decide +kernel)
abbrev s_Linear_ahead : Stmt := inClass (top 27) 9
theorem sc_Linear_ahead : FnScope ["self", "steps"] ["self", "steps"] (C8.fnScope s_Linear_ahead) := C8.fnScope_by (by decide +kernel)
abbrev s_s2_need_linear : Stmt := top 28
theorem sc_s2_need_linear : FnScope ["source"] ["source"] (C8.fnScope s_s2_need_linear) := C8.fnScope_by (by decide +kernel)
abbrev s_distance : Stmt := top 29
theorem sc_distance : FnScope ["one", "other"] ["one", "other"] (C8.fnScope s_distance) := C8.fnScope_by (by decide +kernel)
abbrev s_s2_is_every : Stmt := top 31
theorem sc_s2_is_every : FnScope ["value"] ["value"] (C8.fnScope s_s2_is_every) := C8.fnScope_by (by decide +kernel)
abbrev s_s2_need_every : Stmt := top 32
theorem sc_s2_need_every : FnScope ["every"] ["every"] (C8.fnScope s_s2_need_every) := C8.fnScope_by (by decide +kernel)
abbrev s_s2_twos : Stmt := top 34
theorem sc_s2_twos : FnScope ["every"] ["every"] (C8.fnScope s_s2_twos) := C8.fnScope_by (by decide +kernel)
abbrev s_Leaping___init__ : Stmt := inClass (top 35) 1
theorem sc_Leaping___init__ : FnScope ["self", "start", "every"] ["self", "start", "every"] (C8.fnScope s_Leaping___init__) := C8.fnScope_by (by decide +kernel)
abbrev s_Leaping_every : Stmt := inClass (top 35) 3
theorem sc_Leaping_every : FnScope ["self"] ["self"] (C8.fnScope s_Leaping_every) := C8.fnScope_by (by decide +kernel)
abbrev s_Leaping_period : Stmt := inClass (top 35) 4
theorem sc_Leaping_period : FnScope ["self"] ["self"] (C8.fnScope s_Leaping_period) := C8.fnScope_by (by decide +kernel)
abbrev s_Leaping_s2_after : Stmt := inClass (top 35) 5
theorem sc_Leaping_s2_after : FnScope ["self", "steps"] ["self", "steps"] (C8.fnScope s_Leaping_s2_after) := C8.fnScope_by (by decide +kernel)
abbrev s_Leaping_state : Stmt := inClass (top 35) 8
theorem sc_Leaping_state : FnScope ["self"] ["self"] (C8.fnScope s_Leaping_state) := C8.fnScope_by (by decide +kernel)
abbrev s_Leaping_ahead : Stmt := inClass (top 35) 13
theorem sc_Leaping_ahead : FnScope ["self", "steps"] ["self", "steps"] (C8.fnScope s_Leaping_ahead) := C8.fnScope_by (by decide +kernel)
abbrev s_s2_x_of : Stmt := top 36
theorem sc_s2_x_of : FnScope ["source"] ["source"] (C8.fnScope s_s2_x_of) := C8.fnScope_by (by decide +kernel)
abbrev s_leaps : Stmt := top 37
theorem sc_leaps : FnScope ["one", "other", "steps", "twos", "odd", "found", "turn"] ["one", "other"] (C8.fnScope s_leaps) := C8.fnScope_by (by decide +kernel)
abbrev s__law_begun : Stmt := top 39
theorem sc__law_begun : FnScope ["_law_script", "_law_run", "_law_k", "_law_cell"] ["_law_script"] (C8.fnScope s__law_begun) := C8.fnScope_by (by decide +kernel)
abbrev s__law_next : Stmt := top 40
theorem sc__law_next : FnScope ["_law_draw", "_law_below", "_law_great", "_law_at", "_law_found_here", "_law_run"] ["_law_draw", "_law_below"] (C8.fnScope s__law_next) := C8.fnScope_by (by decide +kernel)
abbrev s__law_x : Stmt := top 41
theorem sc__law_x : FnScope ["_law_draw", "_law_far", "_law_some"] ["_law_draw"] (C8.fnScope s__law_x) := C8.fnScope_by (by decide +kernel)
abbrev s__law_steps : Stmt := top 42
theorem sc__law_steps : FnScope ["_law_draw", "_law_far", "_law_some"] ["_law_draw"] (C8.fnScope s__law_steps) := C8.fnScope_by (by decide +kernel)
abbrev s__law_every : Stmt := top 43
theorem sc__law_every : FnScope ["_law_draw", "_law_odd"] ["_law_draw"] (C8.fnScope s__law_every) := C8.fnScope_by (by decide +kernel)
abbrev s__law_twos : Stmt := top 44
theorem sc__law_twos : FnScope ["_law_every_here", "_law_found_here"] ["_law_every_here"] (C8.fnScope s__law_twos) := C8.fnScope_by (by decide +kernel)
abbrev s__law_found : Stmt := top 45
theorem sc__law_found : FnScope ["_law_one", "_law_goal", "error"] ["_law_one", "_law_goal"] (C8.fnScope s__law_found) := C8.fnScope_by (by decide +kernel)
abbrev s__law_is_right : Stmt := top 46
theorem sc__law_is_right : FnScope ["_law_one", "_law_goal", "_law_x_here", "_law_found_here", "_law_steps_here", "_law_twos_here"] ["_law_one", "_law_goal", "_law_x_here"] (C8.fnScope s__law_is_right) := C8.fnScope_by (by decide +kernel)
abbrev s_law : Stmt := top 47
theorem sc_law : FnScope ["_law_script", "_law_draw", "_law_turn", "_law_one", "_law_steps_here", "_law_y", "_law_goal", "_law_x_here", "_law_far"] ["_law_script"] (C8.fnScope s_law) := C8.fnScope_by (by decide +kernel)
structure Txt (K : PySem.W.Frag) (mg : Str → Option Value) (C_Linear C_Leaping C_Shortage C_NoRow : Addr) : Prop where
  d_NoRow___init__ : ∃ f fd, PySem.W.findIn K (.ref C_NoRow) "__init__" = some (some (.ref f)) ∧ PySem.W.typeIn K (.ref f) = some (.type "function") ∧ C8.Fun K "__init__" "NoRow.__init__" s_NoRow___init__ f fd ∧ Binds K fd ["self", "given"] []
  d_is_integer : ∃ f fd, C8.Def K mg "is_integer" s_is_integer f fd ∧ Binds K fd ["value"] []
  d_need_steps : ∃ f fd, C8.Def K mg "need_steps" s_need_steps f fd ∧ Binds K fd ["steps"] []
  d_s2_is_number : ∃ f fd, C8.Def K mg "s2_is_number" s_s2_is_number f fd ∧ Binds K fd ["value"] []
  d_s2_need_start : ∃ f fd, C8.Def K mg "s2_need_start" s_s2_need_start f fd ∧ Binds K fd ["start"] []
  d_s2_joined : ∃ f fd, C8.Def K mg "s2_joined" s_s2_joined f fd ∧ Binds K fd ["one", "other"] []
  d_s2_step_map : ∃ f fd, C8.Def K mg "s2_step_map" s_s2_step_map f fd ∧ Binds K fd ["steps"] []
  d_s2_mapped : ∃ f fd, C8.Def K mg "s2_mapped" s_s2_mapped f fd ∧ Binds K fd ["one", "start"] []
  d_s2_moved : ∃ f fd, C8.Def K mg "s2_moved" s_s2_moved f fd ∧ Binds K fd ["start", "steps"] []
  d_s2_distance : ∃ f fd, C8.Def K mg "s2_distance" s_s2_distance f fd ∧ Binds K fd ["start", "goal"] []
  d_Linear___init__ : ∃ f fd, Mk K C_Linear f ∧ C8.Fun K "__init__" "Linear.__init__" s_Linear___init__ f fd ∧ Binds K fd ["self", "start"] []
  d_Linear_state : ∃ p f fd, PropOf K C_Linear "state" p f ∧ C8.Fun K "state" "Linear.state" s_Linear_state f fd ∧ Binds K fd ["self"] []
  d_Linear_ahead : ∃ f fd, Meth K C_Linear "ahead" f ∧ C8.Fun K "ahead" "Linear.ahead" s_Linear_ahead f fd ∧ Binds K fd ["self", "steps"] []
  d_s2_need_linear : ∃ f fd, C8.Def K mg "s2_need_linear" s_s2_need_linear f fd ∧ Binds K fd ["source"] []
  d_distance : ∃ f fd, C8.Def K mg "distance" s_distance f fd ∧ Binds K fd ["one", "other"] []
  d_s2_is_every : ∃ f fd, C8.Def K mg "s2_is_every" s_s2_is_every f fd ∧ Binds K fd ["value"] []
  d_s2_need_every : ∃ f fd, C8.Def K mg "s2_need_every" s_s2_need_every f fd ∧ Binds K fd ["every"] []
  d_s2_twos : ∃ f fd, C8.Def K mg "s2_twos" s_s2_twos f fd ∧ Binds K fd ["every"] []
  d_Leaping___init__ : ∃ f fd, Mk K C_Leaping f ∧ C8.Fun K "__init__" "Leaping.__init__" s_Leaping___init__ f fd ∧ Binds K fd ["self", "start", "every"] []
  d_Leaping_every : ∃ p f fd, PropOf K C_Leaping "every" p f ∧ C8.Fun K "every" "Leaping.every" s_Leaping_every f fd ∧ Binds K fd ["self"] []
  d_Leaping_period : ∃ p f fd, PropOf K C_Leaping "period" p f ∧ C8.Fun K "period" "Leaping.period" s_Leaping_period f fd ∧ Binds K fd ["self"] []
  d_Leaping_s2_after : ∃ f fd, Meth K C_Leaping "s2_after" f ∧ C8.Fun K "s2_after" "Leaping.s2_after" s_Leaping_s2_after f fd ∧ Binds K fd ["self", "steps"] []
  d_Leaping_state : ∃ p f fd, PropOf K C_Leaping "state" p f ∧ C8.Fun K "state" "Leaping.state" s_Leaping_state f fd ∧ Binds K fd ["self"] []
  d_Leaping_ahead : ∃ f fd, Meth K C_Leaping "ahead" f ∧ C8.Fun K "ahead" "Leaping.ahead" s_Leaping_ahead f fd ∧ Binds K fd ["self", "steps"] []
  d_s2_x_of : ∃ f fd, C8.Def K mg "s2_x_of" s_s2_x_of f fd ∧ Binds K fd ["source"] []
  d_leaps : ∃ f fd, C8.Def K mg "leaps" s_leaps f fd ∧ Binds K fd ["one", "other"] []
  d__law_begun : ∃ f fd, C8.Def K mg "_law_begun" s__law_begun f fd ∧ Binds K fd ["_law_script"] []
  d__law_next : ∃ f fd, C8.Def K mg "_law_next" s__law_next f fd ∧ Binds K fd ["_law_draw", "_law_below"] []
  d__law_x : ∃ f fd, C8.Def K mg "_law_x" s__law_x f fd ∧ Binds K fd ["_law_draw"] []
  d__law_steps : ∃ f fd, C8.Def K mg "_law_steps" s__law_steps f fd ∧ Binds K fd ["_law_draw"] []
  d__law_every : ∃ f fd, C8.Def K mg "_law_every" s__law_every f fd ∧ Binds K fd ["_law_draw"] []
  d__law_twos : ∃ f fd, C8.Def K mg "_law_twos" s__law_twos f fd ∧ Binds K fd ["_law_every_here"] []
  d__law_found : ∃ f fd, C8.Def K mg "_law_found" s__law_found f fd ∧ Binds K fd ["_law_one", "_law_goal"] []
  d__law_is_right : ∃ f fd, C8.Def K mg "_law_is_right" s__law_is_right f fd ∧ Binds K fd ["_law_one", "_law_goal", "_law_x_here"] []
  d_law : ∃ f fd, C8.Def K mg "law" s_law f fd ∧ Binds K fd ["_law_script"] [] ∧ ∀ (s : Shared) (v : Value), BindsTo s fd ⟨[v], []⟩ [("_law_script", v)]
  c_MOST_STEPS : ∃ u, mg "MOST_STEPS" = some u ∧ RelV (.int 18446744073709551616) u
  c_DIGITS : ∃ u, mg "DIGITS" = some u ∧ RelV (.int 48) u
  c_MODULUS : ∃ u, mg "MODULUS" = some u ∧ RelV (.int 281474976710656) u
  c_MULTIPLIER : ∃ u, mg "MULTIPLIER" = some u ∧ RelV (.int 205891132094649) u
  c_ADDEND : ∃ u, mg "ADDEND" = some u ∧ RelV (.int 11) u
  k_Linear : ∃ u, mg "Linear" = some u ∧ RelV (.ref C_Linear) u
  cl_Linear : Cls K C_Linear
  is_Linear : C8.InsC K C_Linear
  n_Linear_s2_x : NoAttr K C_Linear "s2_x"
  k_Leaping : ∃ u, mg "Leaping" = some u ∧ RelV (.ref C_Leaping) u
  cl_Leaping : Cls K C_Leaping
  is_Leaping : C8.InsC K C_Leaping
  n_Leaping_s2_leap_x : NoAttr K C_Leaping "s2_leap_x"
  n_Leaping_s2_every : NoAttr K C_Leaping "s2_every"
  o_Linear_Leaping : PySem.W.kitOne K (.ref C_Linear) (.ref C_Leaping) = some false
  o_Leaping_Linear : PySem.W.kitOne K (.ref C_Leaping) (.ref C_Linear) = some false
  k_Shortage : ∃ u, mg "Shortage" = some u ∧ RelV (.ref C_Shortage) u
  g_Shortage : mg "Shortage" = some (.ref C_Shortage)
  r_Shortage : ClX.CRead K C_Shortage (.type "type")
  i_Shortage : PySem.W.findCls K (.ref C_Shortage) (.type "type") "__init__" = some (.val (.builtin "LookupError.__init__"))
  k_NoRow : ∃ u, mg "NoRow" = some u ∧ RelV (.ref C_NoRow) u
  g_NoRow : mg "NoRow" = some (.ref C_NoRow)
  y_NoRow : Gx.YexC K C_NoRow "LookupError.__init__"
  f_NoRow : XfC K C_NoRow
  n_NoRow_given : PySem.W.findIn K (.ref C_NoRow) "given" = some none
  t_NoRow_given : PySem.W.takerIn K C_NoRow "given" = some none
  m_NoRow : PySem.W.exmOne K (.ref C_NoRow) (.ref C_NoRow) = some true
  b_bool : mg "bool" = none
  b_enumerate : mg "enumerate" = none
  b_int : mg "int" = none
  b_isinstance : mg "isinstance" = none
  b_len : mg "len" = none
  b_list : mg "list" = none
  b_max : mg "max" = none
  b_min : mg "min" = none
  b_range : mg "range" = none
section
variable {P : Program} {w : World} {K : PySem.W.Frag} {mg : Str → Option Value} {base : Heap} {C_Linear C_Leaping C_Shortage C_NoRow : Addr}
local macro_rules | `(tactic| walk_at "side") => `(tactic| first | ((with_reducible show L2.CMul _ _); first | exact Or.inl ⟨by omega, by omega⟩ | exact Or.inr ⟨by omega, by omega⟩) | ((with_reducible show L2.CPow _ _); exact ⟨by decide, by decide, by decide⟩) | ((with_reducible show L2.CMulW _ _); exact wide_mul (a := 96) (b := 96) (by omega) (by omega) (by decide) (by decide) (by decide)) | ((with_reducible show L2.CDivW _ _); exact wide_div (b := 96) (by omega) (by omega) (by decide) (by decide)) | (show (0 : Int) < _; omega) | (show (0 : Int) ≤ _; omega))
local macro_rules | `(tactic| walk_at "rd1") => `(tactic| first | with_reducible refine Rd.seq ?_ | with_reducible refine Rd.asg ?_ | with_reducible refine Rd.nm ?_ | with_reducible refine Rd.ret ?_ | with_reducible refine Rd.drop ?_ | with_reducible refine Rd.ifs ?_ | with_reducible refine Rd.par ?_ | with_reducible refine Rd.par3 ?_ | with_reducible refine Rd.next ?_ | with_reducible refine Rd.fr1 ?_ | with_reducible refine Rd.nxp ?_ | with_reducible refine Rd.rtp ?_ | ((with_reducible show tVar _ _ _ _); refine Rd.var rfl ?_) | with_reducible refine Rd.cst ?_ | with_reducible refine Rd.op ?_ | with_reducible refine Rd.un ?_ | with_reducible refine Rd.i0 ?_ | with_reducible refine Rd.ung ?_ | with_reducible refine Rd.eqI ?_ | with_reducible refine Rd.neI ?_ | with_reducible refine Rd.eqS ?_ | with_reducible refine Rd.neS ?_ | with_reducible refine Rd.test ?_ | with_reducible refine Rd.tstB ?_ | with_reducible refine Rd.isB ?_ | with_reducible refine Rd.not ?_ | with_reducible refine Rd.andT ?_ | with_reducible refine Rd.orT ?_ | with_reducible refine Rd.andV ?_ | with_reducible refine Rd.orV ?_ | with_reducible refine Rd.notV ?_ | with_reducible refine Rd.ifE ?_ | with_reducible refine Rd.chain ?_ | with_reducible refine Rd.nil ?_ | with_reducible refine Rd.cons ?_ | with_reducible refine Rd.call ?_ | with_reducible refine Rd.cb ?_ | with_reducible refine Rd.bm ?_ | with_reducible refine Au.revL ?_ | with_reducible refine Rd.frl ?_ | with_reducible refine Rd.frt ?_ | with_reducible refine Rd.fre ?_ | with_reducible refine Rd.disp ?_ | with_reducible refine Rd.pnil ?_ | with_reducible refine Rd.pcons ?_ | with_reducible refine Rd.gcons ?_ | with_reducible refine Rd.gnil ?_ | with_reducible refine Rd.gsub ?_ | with_reducible refine Rd.setD ?_ | ((with_reducible show gTup _ _ _ _ _ (upd _ _ (HO.tup _)) _); refine Rd.tupNew rfl ?_) | with_reducible refine Rd.fld ?_ | with_reducible refine Rd.meth ?_ | with_reducible refine Rd.make ?_ | with_reducible refine Rd.prop ?_ | with_reducible refine Au.tup ?_ | with_reducible refine Au.lst ?_ | ((with_reducible refine Au.lenOk ?hl ?_); (case hl => exact rfl)) | with_reducible refine Au.nopart ?_ | with_reducible refine Au.part ?_ | with_reducible refine Au.isI ?_ | with_reducible refine Au.sl ?_ | with_reducible refine Au.pr2 ?_ | with_reducible refine Au.pr3 ?_ | with_reducible refine Au.eqB ?_ | with_reducible refine Rd.isInt ?_ | with_reducible refine Rd.isBool ?_ | with_reducible refine Rd.mx2 ?_ | with_reducible refine Rd.mn2 ?_ | ((with_reducible show Rd.rAndM _ _ _ _); first | refine Rd.and1 ?_ | refine Rd.and48 ?_ | refine Rd.and32 ?_ | refine Rd.and64 ?_ | refine Rd.and65 ?_) | ((with_reducible refine Rd.iC ?hc ?_); (case hc => walk_at "side")) | ((with_reducible refine Rd.yes ?hc ?_); (case hc => omega)) | ((with_reducible refine Rd.no ?hc ?_); (case hc => omega)) | ((with_reducible refine Rd.noN ?hc ?_); (case hc => omega)) | ((with_reducible refine Rd.yesN ?hc ?_); (case hc => omega)) | ((with_reducible refine Rd.yesNN ?hc ?_); (case hc => omega)) | ((with_reducible refine Rd.noNN ?hc ?_); (case hc => omega)) | with_reducible refine iteT ?_ | with_reducible refine iteF ?_ | with_reducible refine Rd.iteNT ?_ | with_reducible refine Rd.iteNF ?_)
local macro_rules | `(tactic| walk_at "rd") => `(tactic| repeat (walk_at "rd1"))
local macro_rules | `(tactic| walk_at "hp") => `(tactic| first | assumption | (apply Au.sm; (focus assumption); (walk_at "hp")) | (apply Au.smp; (focus assumption); (focus (walk_at "hp")); (walk_at "ne")) | (apply Au.smn; (focus assumption); (focus (walk_at "hp")); (focus (intro _ z; cases z; done))) | fail "hp")
local macro_rules | `(tactic| walk_at "ne") => `(tactic| first | assumption | (apply Ne.symm; assumption) | (apply Au.nen; (focus assumption); (walk_at "hp")) | (apply Au.nen'; (focus assumption); (walk_at "hp")) | (apply Au.nek; (focus assumption); (focus assumption); (intro z; cases z; done)) | (apply Au.nek2; (focus assumption); (focus (walk_at "hp")); (intro z; cases z; done)) | fail "ne")
local macro_rules | `(tactic| walk_at "dp") => `(tactic| first | exact Dp.int _ | exact Dp.str _ | exact Dp.bl _ | exact Dp.non | (apply Dp.lst; (focus (apply Rd.sql; walk_at "hp")); (walk_at "dps")) | (apply Dp.tup; (focus (apply Rd.sqt; walk_at "hp")); (walk_at "dps")) | fail "dp")
local macro_rules | `(tactic| walk_at "dps") => `(tactic| first | exact DpAll.nil | (apply DpAll.cons; (focus (walk_at "dp")); (walk_at "dps")) | fail "dps")
local macro_rules | `(tactic| walk_at "shp") => `(tactic| ((simp only [SeqAt.shaped, PyData.canLay0, PyData.canLayAll0, PyData.depth, PyData.depthAll]) <;> first | decide | rfl))
local macro_rules | `(tactic| walk_at "sd") => `(tactic| first | assumption | rfl | omega | (walk_at "hp") | (refine ⟨?_, ?_⟩; (focus (walk_at "sd")); (walk_at "sd")) | fail "sd")
local macro_rules | `(tactic| walk_at "lk") => `(tactic| first | exact Rd.lk1 | rfl | decide +kernel)
local macro_rules | `(tactic| walk_at "rd1") => `(tactic| first | with_reducible refine Pr.dget ?_ | with_reducible refine Pr.dput ?_ | with_reducible refine Pr.sfld ?_ | with_reducible refine Pr.u_isInt ?_ | ((with_reducible show Pr.spNeed _ _ _ _ _ _); refine Pr.u_need (by omega) (by omega) ?_) | ((with_reducible show Pr.spIs _ _ _ _ _ _); refine Pr.u_isIn (by omega) ?_) | ((with_reducible apply Rd.fld1); (focus (walk_at "hp")); (focus assumption); (focus assumption); (focus (walk_at "lk"))) | ((with_reducible apply Au.methO); (focus (walk_at "hp")); (focus (walk_at "lk"))) | ((with_reducible apply Au.propO); (focus (walk_at "hp"))) | ((with_reducible show rIxT _ (V.ref _) (V.int _) _ _); refine Rd.ixT (Rd.sqt (by walk_at "hp")) rfl ?_) | ((with_reducible show rIxL _ (V.ref _) (V.int _) _ _); refine Rd.ixL (Rd.sql (by walk_at "hp")) rfl ?_) | ((with_reducible show Rd.rLenQ _ [V.ref _] _ _); first | refine Rd.lenL (Rd.sql (by walk_at "hp")) ?_ | refine Rd.lenT (Rd.sqt (by walk_at "hp")) ?_) | ((with_reducible show gTup _ _ _ (V.ref _) _ _ _); refine Rd.gtup (Rd.sqt (by walk_at "hp")) rfl ?_) | with_reducible refine Gx.gat ?_ | with_reducible refine Gx.gnx ?_ | with_reducible refine Gx.gthen ?_ | with_reducible refine Gx.gplain ?_ | with_reducible refine Gx.gfr ?_ | with_reducible refine Gx.lg ?_ | with_reducible refine Gx.mg ?_ | with_reducible refine Gx.sme ?_ | with_reducible refine Gx.callSD ?_ | with_reducible refine Gx.methSD ?_)
theorem isiB {K : PySem.W.Frag} {H : Hp} {Q : VK} {v : V} {t : String} {T : Value} {r : Bool} (h : TyX K H v T) (k : PySem.W.kitOne K T (.type t) = some r) (q : Q (.bl r) H) : rIsi K [v, .ty t] H Q := ⟨_, _, T, _, r, rfl, .ty _, h, k, q⟩
theorem cal_is_integer (T : Txt K mg C_Linear C_Leaping C_Shortage C_NoRow) : C8.Cal P w K mg base 1 "is_integer" (Pr.spIsInt) [] := by
  obtain ⟨f, fd, F, b⟩ := T.d_is_integer
  refine C8.cal0 F b .nil sc_is_integer (fun vs H Q E h => ?_) (fun cdv A outer s H vs Q E hr h => ?_)
  · obtain ⟨v, rfl, _⟩ := h; rfl
  · obtain ⟨v, rfl, h⟩ := h
    have hu := hu_of hr
    have hu64 := hr.units
    have cl_Linear := T.cl_Linear
    have n_Linear_s2_x := T.n_Linear_s2_x
    have cl_Leaping := T.cl_Leaping
    have n_Leaping_s2_leap_x := T.n_Leaping_s2_leap_x
    have n_Leaping_s2_every := T.n_Leaping_s2_every
    refine ⟨_, (pss_one (ps_ret (pe_and (pe_callB call_isi (by rfl) T.b_isinstance (by decide +kernel) (pa_cons (pv 0) (pa_cons (pe_bltn (v := .ty "int") (by rfl) T.b_int (by decide +kernel) rfl) pa_nil))) (pe_one (pe_not (pe_callB call_isi (by rfl) T.b_isinstance (by decide +kernel) (pa_cons (pv 0) (pa_cons (pe_bltn (v := .ty "bool") (by rfl) T.b_bool (by decide +kernel) rfl) pa_nil)))))))), ?_⟩
    walk_at "rd"
    obtain ⟨k1, k2, k3, k4, k5, k6, k7⟩ := Pr.kit_t K
    rcases h with ⟨n, rfl, q⟩ | ⟨h, q⟩
    · walk_at "rd"
      exact q
    · rcases h with rfl | ⟨b, rfl⟩ | ⟨s, rfl⟩ | ⟨a, xs, rfl, ha⟩ | ⟨a, xs, rfl, ha⟩ | ⟨a, xs, rfl, ha⟩
      · refine isiB (.base .non) k1 ?_
        walk_at "rd"
        exact q
      · refine isiB (.base (.bl b)) k2 ?_
        walk_at "rd"
        refine isiB (.base (.bl b)) k3 ?_
        walk_at "rd"
        exact q
      · refine isiB (.base (.str s)) k4 ?_
        walk_at "rd"
        exact q
      · refine isiB (.base (.tup ha)) k5 ?_
        walk_at "rd"
        exact q
      · refine isiB (.base (.lst ha)) k6 ?_
        walk_at "rd"
        exact q
      · refine isiB (.base (.dK ha)) k7 ?_
        walk_at "rd"
        exact q
theorem cal_need_steps (T : Txt K mg C_Linear C_Leaping C_Shortage C_NoRow) : C8.Cal P w K mg base 2 "need_steps" (Pr.spNeed 0 18446744073709551616) [] := by
  obtain ⟨f, fd, F, b⟩ := T.d_need_steps
  refine C8.cal0 F b .nil sc_need_steps (fun vs H Q E h => ?_) (fun cdv A outer s H vs Q E hr h => ?_)
  · obtain ⟨n, rfl, _⟩ := h; rfl
  · obtain ⟨n, rfl, h1, h2, q⟩ := h
    have hu := hu_of hr
    have hu64 := hr.units
    have cl_Linear := T.cl_Linear
    have n_Linear_s2_x := T.n_Linear_s2_x
    have cl_Leaping := T.cl_Leaping
    have n_Leaping_s2_leap_x := T.n_Leaping_s2_leap_x
    have n_Leaping_s2_every := T.n_Leaping_s2_every
    refine ⟨_, (pss_one (ps_if (PW.pt (pw_or (pt_not (pt_val (C8.pe_c (cal_is_integer T) hr (by omega) (by rfl) (pa_cons (pv 0) pa_nil)))) (pw_or1 (pt_not (pt_chain op_le op_le pe_int (pv 0) (C8.pe_gc (by rfl) T.c_MOST_STEPS)))))) pss_never pss_nil)), ?_⟩
    walk_at "rd"
    exact q
theorem cal_s2_is_number (T : Txt K mg C_Linear C_Leaping C_Shortage C_NoRow) : C8.Cal P w K mg base 2 "s2_is_number" (Pr.spIs 0 281474976710655) [] := by
  obtain ⟨f, fd, F, b⟩ := T.d_s2_is_number
  refine C8.cal0 F b .nil sc_s2_is_number (fun vs H Q E h => ?_) (fun cdv A outer s H vs Q E hr h => ?_)
  · obtain ⟨v, rfl, _⟩ := h; rfl
  · obtain ⟨v, rfl, h⟩ := h
    have hu := hu_of hr
    have hu64 := hr.units
    have cl_Linear := T.cl_Linear
    have n_Linear_s2_x := T.n_Linear_s2_x
    have cl_Leaping := T.cl_Leaping
    have n_Leaping_s2_leap_x := T.n_Leaping_s2_leap_x
    have n_Leaping_s2_every := T.n_Leaping_s2_every
    refine ⟨_, (pss_one (ps_ret (pe_and (C8.pe_c (cal_is_integer T) hr (by omega) (by rfl) (pa_cons (pv 0) pa_nil)) (pe_one (pe_chain op_le op_lt pe_int (pv 0) (C8.pe_gc (by rfl) T.c_MODULUS)))))), ?_⟩
    walk_at "rd"
    rcases h with ⟨n, rfl, q⟩ | ⟨h, q⟩
    · walk_at "rd"
      refine Rd.both (fun c => ?_) (fun c => ?_)
      · walk_at "rd"
        rw [show decide (n < 281474976710656) = decide (0 ≤ n ∧ n ≤ 281474976710655) from by rw [decide_eq_decide]; omega]
        exact q
      · walk_at "rd"
        rw [decide_eq_false (fun h => c h.1)] at q
        exact q
    · refine Pr.u_isNon h ?_
      walk_at "rd"
      exact q
theorem cal_s2_need_start (T : Txt K mg C_Linear C_Leaping C_Shortage C_NoRow) : C8.Cal P w K mg base 3 "s2_need_start" (Pr.spNeed 0 281474976710655) [] := by
  obtain ⟨f, fd, F, b⟩ := T.d_s2_need_start
  refine C8.cal0 F b .nil sc_s2_need_start (fun vs H Q E h => ?_) (fun cdv A outer s H vs Q E hr h => ?_)
  · obtain ⟨n, rfl, _⟩ := h; rfl
  · obtain ⟨n, rfl, h1, h2, q⟩ := h
    have hu := hu_of hr
    have hu64 := hr.units
    have cl_Linear := T.cl_Linear
    have n_Linear_s2_x := T.n_Linear_s2_x
    have cl_Leaping := T.cl_Leaping
    have n_Leaping_s2_leap_x := T.n_Leaping_s2_leap_x
    have n_Leaping_s2_every := T.n_Leaping_s2_every
    refine ⟨_, (pss_one (ps_if (pt_not (pt_val (C8.pe_c (cal_s2_is_number T) hr (by omega) (by rfl) (pa_cons (pv 0) pa_nil)))) pss_never pss_nil)), ?_⟩
    walk_at "rd"
    exact q
theorem cal_s2_joined (T : Txt K mg C_Linear C_Leaping C_Shortage C_NoRow) : C8.Cal P w K mg base 1 "s2_joined" (Pr.spJoined K) [] := by
  obtain ⟨f, fd, F, b⟩ := T.d_s2_joined
  refine C8.cal0 F b .nil sc_s2_joined (fun vs H Q E h => ?_) (fun cdv A outer s H vs Q E hr h => ?_)
  · obtain ⟨a, c, n, m, rfl, _⟩ := h; rfl
  · obtain ⟨a, c, n, m, rfl, ha, hc, q⟩ := h
    have hu := hu_of hr
    have hu64 := hr.units
    have cl_Linear := T.cl_Linear
    have n_Linear_s2_x := T.n_Linear_s2_x
    have cl_Leaping := T.cl_Leaping
    have n_Leaping_s2_leap_x := T.n_Leaping_s2_leap_x
    have n_Leaping_s2_every := T.n_Leaping_s2_every
    refine ⟨_, (pss_one (ps_ret (pe_tup (pa_cons (pe_op Rd.op_andM (pe_op op_mul (pe_ix ix_tup (pv 0) pe_int (fun _ _ => rfl)) (pe_ix ix_tup (pv 1) pe_int (fun _ _ => rfl))) (pe_op op_sub (C8.pe_gc (by rfl) T.c_MODULUS) pe_int)) (pa_cons (pe_op Rd.op_andM (pe_op op_add (pe_op op_mul (pe_ix ix_tup (pv 0) pe_int (fun _ _ => rfl)) (pe_ix ix_tup (pv 1) pe_int (fun _ _ => rfl))) (pe_ix ix_tup (pv 1) pe_int (fun _ _ => rfl))) (pe_op op_sub (C8.pe_gc (by rfl) T.c_MODULUS) pe_int)) pa_nil))))), ?_⟩
    walk_at "rd"
    have r1 := ML.m1_rng n
    have r2 := ML.m2_rng n
    have r3 := ML.m1_rng m
    have r4 := ML.m2_rng m
    refine Rd.ixT ha rfl ?_
    walk_at "rd"
    refine Rd.ixT hc rfl ?_
    walk_at "rd"
    refine Rd.ixT ha rfl ?_
    walk_at "rd"
    refine Rd.ixT hc rfl ?_
    walk_at "rd"
    refine Rd.ixT hc rfl ?_
    walk_at "rd"
    refine Au.new fun t H1 ht e1 k1 => ?_
    rw [ML.join1, ML.join2] at k1
    exact q t H1 ht e1 k1
theorem cal_s2_mapped (T : Txt K mg C_Linear C_Leaping C_Shortage C_NoRow) : C8.Cal P w K mg base 1 "s2_mapped" (Pr.spMapped K) [] := by
  obtain ⟨f, fd, F, b⟩ := T.d_s2_mapped
  refine C8.cal0 F b .nil sc_s2_mapped (fun vs H Q E h => ?_) (fun cdv A outer s H vs Q E hr h => ?_)
  · obtain ⟨a, n, x, rfl, _⟩ := h; rfl
  · obtain ⟨a, n, x, rfl, ha, h1, h2, q⟩ := h
    have hu := hu_of hr
    have hu64 := hr.units
    have cl_Linear := T.cl_Linear
    have n_Linear_s2_x := T.n_Linear_s2_x
    have cl_Leaping := T.cl_Leaping
    have n_Leaping_s2_leap_x := T.n_Leaping_s2_leap_x
    have n_Leaping_s2_every := T.n_Leaping_s2_every
    refine ⟨_, (pss_one (ps_ret (pe_op Rd.op_andM (pe_op op_add (pe_op op_mul (pe_ix ix_tup (pv 0) pe_int (fun _ _ => rfl)) (pv 1)) (pe_ix ix_tup (pv 0) pe_int (fun _ _ => rfl))) (pe_op op_sub (C8.pe_gc (by rfl) T.c_MODULUS) pe_int)))), ?_⟩
    walk_at "rd"
    have r1 := ML.m1_rng n
    have r2 := ML.m2_rng n
    refine Rd.ixT ha rfl ?_
    walk_at "rd"
    refine Rd.ixT ha rfl ?_
    walk_at "rd"
    rw [ML.mapped]
    exact q
theorem cal_s2_step_map (T : Txt K mg C_Linear C_Leaping C_Shortage C_NoRow) : C8.Cal P w K mg base 2 "s2_step_map" (Pr.spMap K) [] := by
  obtain ⟨f, fd, F, b⟩ := T.d_s2_step_map
  refine C8.cal0 F b .nil sc_s2_step_map (fun vs H Q E h => ?_) (fun cdv A outer s H vs Q E hr h => ?_)
  · obtain ⟨n, rfl, _⟩ := h; rfl
  · obtain ⟨n, rfl, q⟩ := h
    have hu := hu_of hr
    have hu64 := hr.units
    have cl_Linear := T.cl_Linear
    have n_Linear_s2_x := T.n_Linear_s2_x
    have cl_Leaping := T.cl_Leaping
    have n_Leaping_s2_leap_x := T.n_Leaping_s2_leap_x
    have n_Leaping_s2_every := T.n_Leaping_s2_every
    refine ⟨_, (pss_cons (ps_par (i := 1) (j := 2) rfl sc_s2_step_map.nd rfl rfl (by decide) rfl rfl (pa_cons (pe_tup (pa_cons pe_int (pa_cons pe_int pa_nil))) (pa_cons (pe_tup (pa_cons (C8.pe_gc (by rfl) T.c_MULTIPLIER) (pa_cons (C8.pe_gc (by rfl) T.c_ADDEND) pa_nil))) pa_nil)) (by rfl))
      (pss_cons (ps_set (i := 0) sc_s2_step_map.nd rfl (.inl rfl) (pe_op Rd.op_andM (pv 0) (pe_op op_sub (C8.pe_gc (by rfl) T.c_MODULUS) pe_int)))
      (pss_cons (ps_while PassesOwn.never (pt_cmpR op_gt (pv 0) pe_int (nomark _)) (pss_cons (ps_if (pt_cmpR op_eq (pe_op Rd.op_andM (pv 0) pe_int) pe_int (nomark _)) (pss_one (ps_set (i := 1) sc_s2_step_map.nd rfl (.inl rfl) (C8.pe_c (cal_s2_joined T) hr (by omega) (by rfl) (pa_cons (pv 1) (pa_cons (pv 2) pa_nil))))) pss_nil)
      (pss_cons (ps_set (i := 2) sc_s2_step_map.nd rfl (.inl rfl) (C8.pe_c (cal_s2_joined T) hr (by omega) (by rfl) (pa_cons (pv 2) (pa_cons (pv 2) pa_nil))))
      (pss_one (ps_set (i := 0) sc_s2_step_map.nd rfl (.inl rfl) (pe_op op_fdivW (pv 0) pe_int))))))
      (pss_one (ps_ret (pv 1)))))), ?_⟩
    walk_at "rd"
    refine Au.new fun p1 H1 hp1 e1 k1 => ?_
    walk_at "rd"
    refine Au.new fun p2 H2 hp2 e2 k2 => ?_
    walk_at "rd"
    have hn : (0 : Int) ≤ n % 281474976710656 := by omega
    refine Rd.whl (fun m σ' H' => ∃ (r : Int) (a c : Nat) (fa pa : Addr), m = r.toNat ∧ σ' = [some (.int r), some (.ref fa), some (.ref pa)] ∧ Pr.MapAt K H' fa a ∧ Pr.MapAt K H' pa c ∧ Rd.Ex H H' ∧ 0 ≤ r ∧ a + c * r.toNat = (n % 281474976710656).toNat)
      (n % 281474976710656).toNat ⟨n % 281474976710656, 0, 1, p1, p2, rfl, rfl, Rd.sqt (by walk_at "hp"), Rd.sqt k2, fun c o h => by walk_at "hp", hn, by omega⟩ ?_
    rintro m σ' H' ⟨r, a, c, fa, pa, rfl, rfl, hf, hp, x, h0, e⟩
    walk_at "rd"
    refine Rd.both (fun c1 => ?_) (fun c1 => ?_)
    · refine ⟨_, fun _ _ z => z, ?_⟩
      walk_at "rd"
      refine Rd.both (fun c2 => ?_) (fun c2 => ?_)
      · walk_at "rd"
        refine ⟨fa, pa, a, c, rfl, hf, hp, fun t J1 ht f1 g1 => ?_⟩
        walk_at "rd"
        have hp' := hp.ex f1
        refine ⟨pa, pa, c, c, rfl, hp', hp', fun t2 J2 ht2 f2 g2 => ?_⟩
        walk_at "rd"
        refine ⟨(r / 2).toNat, by omega, r / 2, a + c, c + c, t, t2, rfl, rfl, Pr.MapAt.ex f2 (Rd.sqt g1), Rd.sqt g2, (x.trans f1).trans f2, by omega, ?_⟩
        rw [← e]
        have : r.toNat = 2 * (r / 2).toNat + 1 := by omega
        rw [this]; grind
      · walk_at "rd"
        refine ⟨pa, pa, c, c, rfl, hp, hp, fun t2 J2 ht2 f2 g2 => ?_⟩
        walk_at "rd"
        refine ⟨(r / 2).toNat, by omega, r / 2, a, c + c, fa, t2, rfl, rfl, Pr.MapAt.ex f2 hf, Rd.sqt g2, x.trans f2, by omega, ?_⟩
        rw [← e]
        have : r.toNat = 2 * (r / 2).toNat := by omega
        rw [this]; grind
    · walk_at "rd"
      have : r.toNat = 0 := by omega
      rw [this] at e
      refine q fa H' x ?_
      rw [← e]
      exact hf
theorem cal_s2_moved (T : Txt K mg C_Linear C_Leaping C_Shortage C_NoRow) : C8.Cal P w K mg base 3 "s2_moved" (Pr.spMoved) [] := by
  obtain ⟨f, fd, F, b⟩ := T.d_s2_moved
  refine C8.cal0 F b .nil sc_s2_moved (fun vs H Q E h => ?_) (fun cdv A outer s H vs Q E hr h => ?_)
  · obtain ⟨x, n, rfl, _⟩ := h; rfl
  · obtain ⟨x, n, rfl, h1, h2, q⟩ := h
    have hu := hu_of hr
    have hu64 := hr.units
    have cl_Linear := T.cl_Linear
    have n_Linear_s2_x := T.n_Linear_s2_x
    have cl_Leaping := T.cl_Leaping
    have n_Leaping_s2_leap_x := T.n_Leaping_s2_leap_x
    have n_Leaping_s2_every := T.n_Leaping_s2_every
    refine ⟨_, (pss_one (ps_ret (C8.pe_c (cal_s2_mapped T) hr (by omega) (by rfl) (pa_cons (C8.pe_c (cal_s2_step_map T) hr (by omega) (by rfl) (pa_cons (pv 1) pa_nil)) (pa_cons (pv 0) pa_nil))))), ?_⟩
    walk_at "rd"
    refine ⟨n, rfl, fun t H' e m => ?_⟩
    walk_at "rd"
    exact ⟨t, _, x, rfl, m, h1, h2, q H' e⟩
theorem cal_s2_distance (T : Txt K mg C_Linear C_Leaping C_Shortage C_NoRow) : C8.Cal P w K mg base 2 "s2_distance" (Pr.spDist0) [] := by
  obtain ⟨f, fd, F, b⟩ := T.d_s2_distance
  refine C8.cal0 F b .nil sc_s2_distance (fun vs H Q E h => ?_) (fun cdv A outer s H vs Q E hr h => ?_)
  · obtain ⟨x, y, rfl, _⟩ := h; rfl
  · obtain ⟨x, y, rfl, ⟨x0, x1, y0, y1⟩, q⟩ := h
    have hu := hu_of hr
    have hu64 := hr.units
    have cl_Linear := T.cl_Linear
    have n_Linear_s2_x := T.n_Linear_s2_x
    have cl_Leaping := T.cl_Leaping
    have n_Leaping_s2_leap_x := T.n_Leaping_s2_leap_x
    have n_Leaping_s2_every := T.n_Leaping_s2_every
    refine ⟨_, (pss_cons (ps_par (i := 2) (j := 3) rfl sc_s2_distance.nd rfl rfl (by decide) rfl rfl (pa_cons (pe_tup (pa_cons (C8.pe_gc (by rfl) T.c_MULTIPLIER) (pa_cons (C8.pe_gc (by rfl) T.c_ADDEND) pa_nil))) (pa_cons pe_int pa_nil)) (by rfl))
      (pss_cons (ps_for PassesOwn.never rfl (pi_range1 rfl T.b_range (pa_cons (C8.pe_gc (by rfl) T.c_DIGITS) pa_nil)) (pg_name (i := 4) sc_s2_distance.nd rfl (.inl rfl)) (pss_cons (ps_if (pt_cmpR op_eq (pe_op Rd.op_andM (pe_op op_shr (pe_op op_xor (pv 0) (pv 1)) (pv 4)) pe_int) pe_int (nomark _)) (pss_cons (ps_set (i := 0) sc_s2_distance.nd rfl (.inl rfl) (C8.pe_c (cal_s2_mapped T) hr (by omega) (by rfl) (pa_cons (pv 2) (pa_cons (pv 0) pa_nil))))
      (pss_one (ps_set (i := 3) sc_s2_distance.nd rfl (.inl rfl) (pe_op op_add (pv 3) (pe_op Rd.op_oneShl pe_int (pv 4)))))) pss_nil)
      (pss_one (ps_set (i := 2) sc_s2_distance.nd rfl (.inl rfl) (C8.pe_c (cal_s2_joined T) hr (by omega) (by rfl) (pa_cons (pv 2) (pa_cons (pv 2) pa_nil)))))))
      (pss_one (ps_ret (pv 3))))), ?_⟩
    walk_at "rd"
    refine Au.new fun p1 H1 hp1 e1 k1 => ?_
    walk_at "rd"
    refine Rd.frN (n := 48) rfl (by decide) (fun i σ' H' => ∃ (fnd : Nat) (pa : Addr) (dg : Option V), σ' = [some (.int (ML.mv fnd x)), some (.int y), some (.ref pa), some (.int (fnd : Int)), dg] ∧ Pr.MapAt K H' pa (2 ^ i) ∧ Rd.Ex H H' ∧ fnd < 2 ^ i ∧ (2 ^ i : Int) ∣ ML.mv fnd x - y)
      ⟨0, p1, none, ?_, Rd.sqt k1, e1, by decide, Int.one_dvd _⟩ ?_ ?_
    · rw [ML.mv_zero x0 x1]; rfl
    · rintro i σ' H' hi ⟨fnd, pa, dg, rfl, hp, e, hf, hd⟩
      have r := ML.mv_rng fnd x
      have bx : ∀ (a c : Int), 0 ≤ a → 0 ≤ c → (2 ^ i : Int) ∣ a - c → (Builtin.bitXor a c / 2 ^ (i : Int).toNat % 2 = 1 ↔ ¬ (2 ^ (i + 1) : Int) ∣ a - c) := fun a c ha hc hh => by
        have e1 : ((a.toNat : Nat) : Int) = a := by omega
        have e2 : ((c.toNat : Nat) : Int) = c := by omega
        have z := ML.bit_xor (i := i) (a := a.toNat) (b := c.toNat) (by rw [e1, e2]; exact hh)
        rw [Bits.bitXor_pp ha hc, Int.toNat_natCast]
        rw [e1, e2] at z
        rw [← z]
        constructor
        · intro q1; have : ((((a.toNat ^^^ c.toNat) / 2 ^ i % 2 : Nat)) : Int) = 1 := by push_cast; exact q1
          omega
        · intro q1; have : ((((a.toNat ^^^ c.toNat) / 2 ^ i % 2 : Nat)) : Int) = 1 := by rw [q1]; rfl
          push_cast at this; exact this
      have bx1 := bx _ _ r.1 y0 hd
      walk_at "rd"
      have pw : (2 ^ (i + 1) : Nat) = 2 ^ i + 2 ^ i := by rw [Nat.pow_succ]; omega
      refine Rd.both (fun c1 => ?_) (fun c1 => ?_)
      · walk_at "rd"
        refine ⟨pa, 2 ^ i, _, rfl, hp, r.1, r.2, ?_⟩
        walk_at "rd"
        refine Rd.shl1 (by omega) ?_
        walk_at "rd"
        refine ⟨pa, pa, 2 ^ i, 2 ^ i, rfl, hp, hp, fun t J1 ht f1 g1 => ?_⟩
        walk_at "rd"
        refine ⟨fnd + 2 ^ i, t, some (.int i), ?_, ?_, e.trans f1, by omega, ?_⟩
        · rw [ML.mv_add]
          push_cast
          rfl
        · rw [pw]; exact Rd.sqt g1
        · rw [← ML.mv_add]
          exact ML.flip hi hd (bx1.mp c1)
      · walk_at "rd"
        refine ⟨pa, pa, 2 ^ i, 2 ^ i, rfl, hp, hp, fun t J1 ht f1 g1 => ?_⟩
        walk_at "rd"
        refine ⟨fnd, t, _, rfl, ?_, e.trans f1, by omega, ?_⟩
        · rw [pw]; exact Rd.sqt g1
        · exact Classical.byContradiction fun z => c1 (bx1.mpr z)
    · rintro σ' H' ⟨fnd, pa, dg, rfl, hp, e, hf, hd⟩
      walk_at "rd"
      refine q H' fnd e hf ?_
      have r := ML.mv_rng fnd x
      obtain ⟨z, hz⟩ := hd
      rw [show (2 ^ 48 : Int) = 281474976710656 by decide] at hz
      omega
theorem mak_Linear (T : Txt K mg C_Linear C_Leaping C_Shortage C_NoRow) : C8.Mak P w K mg base 4 "Linear" C_Linear (Pr.spInit1 C_Linear) [] := by
  obtain ⟨f, fd, M, F, b⟩ := T.d_Linear___init__
  obtain ⟨u, hu1, hu2⟩ := T.k_Linear
  cases hu2
  refine C8.mak0 M hu1 F b .nil sc_Linear___init__ (fun vs H Q E h => ?_) (fun cdv A outer s H vs Q E hr h => ?_)
  · obtain ⟨p, dx, x, rfl, _⟩ := h; rfl
  · obtain ⟨p, dx, x, rfl, h1, hp, q⟩ := h
    have hu := hu_of hr
    have hu64 := hr.units
    have cl_Linear := T.cl_Linear
    have n_Linear_s2_x := T.n_Linear_s2_x
    have cl_Leaping := T.cl_Leaping
    have n_Leaping_s2_leap_x := T.n_Leaping_s2_leap_x
    have n_Leaping_s2_every := T.n_Leaping_s2_every
    refine ⟨_, (pss_cons (ps_expr (C8.pe_c (cal_s2_need_start T) hr (by omega) (by rfl) (pa_cons (pv 1) pa_nil)))
      (pss_one (ps_fld (pv 0) (pv 1) rfl))), ?_⟩
    walk_at "rd"
    refine Pr.stF hp T.cl_Linear T.n_Linear_s2_x rfl rfl fun H1 m1 k1 => ?_
    exact q H1 m1 k1
theorem prop_Linear_state (T : Txt K mg C_Linear C_Leaping C_Shortage C_NoRow) : Gx.PrpC P w K mg base 1 C_Linear "state" (Pr.spState1 C_Linear) := by
  obtain ⟨pp, f, fd, pr, F, b⟩ := T.d_Linear_state
  refine Gx.prp0 T.cl_Linear pr F b sc_Linear_state (fun vs H Q E h => ?_) (fun cdv A outer s H vs Q E hr h => ?_)
  · obtain ⟨p, dx, x, rfl, _⟩ := h; rfl
  · obtain ⟨p, dx, x, rfl, hp, q⟩ := h
    have hu := hu_of hr
    have hu64 := hr.units
    have cl_Linear := T.cl_Linear
    have n_Linear_s2_x := T.n_Linear_s2_x
    have cl_Leaping := T.cl_Leaping
    have n_Leaping_s2_leap_x := T.n_Leaping_s2_leap_x
    have n_Leaping_s2_every := T.n_Leaping_s2_every
    refine ⟨_, (pss_one (ps_ret (pe_tup (pa_cons (pe_fld (pv 0) rfl) pa_nil)))), ?_⟩
    walk_at "rd"
    exact Au.new q
theorem met_Linear_ahead (T : Txt K mg C_Linear C_Leaping C_Shortage C_NoRow) : C8.Met P w K mg base 6 C_Linear "ahead" (Pr.spAhead1 C_Linear fun n => n) [] := by
  obtain ⟨f, fd, M, F, b⟩ := T.d_Linear_ahead
  refine C8.met0 T.cl_Linear M F b sc_Linear_ahead (fun vs H Q E h => ?_) (fun cdv A outer s H vs Q E hr h => ?_)
  · obtain ⟨p, dx, x, n, rfl, _⟩ := h; rfl
  · obtain ⟨p, dx, x, n, rfl, hp, hx, hn, q⟩ := h
    have hu := hu_of hr
    have hu64 := hr.units
    have cl_Linear := T.cl_Linear
    have n_Linear_s2_x := T.n_Linear_s2_x
    have cl_Leaping := T.cl_Leaping
    have n_Leaping_s2_leap_x := T.n_Leaping_s2_leap_x
    have n_Leaping_s2_every := T.n_Leaping_s2_every
    refine ⟨_, (pss_cons (ps_expr (C8.pe_c (cal_need_steps T) hr (by omega) (by rfl) (pa_cons (pv 1) pa_nil)))
      (pss_one (ps_ret (C8.pe_mk (mak_Linear T) hr (by omega) (by rfl) (pa_cons (C8.pe_c (cal_s2_moved T) hr (by omega) (by rfl) (pa_cons (pe_fld (pv 0) rfl) (pa_cons (pv 1) pa_nil))) pa_nil))))), ?_⟩
    walk_at "rd"
    refine Pr.u_moved hx fun H1 e1 => ?_
    have r := ML.mv_rng (n % 281474976710656).toNat x
    walk_at "rd"
    exact Pr.u_lin r fun p' dx' H2 hn e2 l => q p' dx' H2 (e1.free hn) (e1.trans e2) l
def spNeedLin (C : Addr) : Sp := fun vs H Q _ => ∃ (p dx : Addr) (x : Int), vs = [.ref p] ∧ H p = some (Pr.LinO C dx x) ∧ Q .non H
theorem cal_s2_need_linear (T : Txt K mg C_Linear C_Leaping C_Shortage C_NoRow) : C8.Cal P w K mg base 6 "s2_need_linear" (spNeedLin C_Linear) [] := by
  obtain ⟨f, fd, F, b⟩ := T.d_s2_need_linear
  refine C8.cal0 F b .nil sc_s2_need_linear (fun vs H Q E h => ?_) (fun cdv A outer s H vs Q E hr h => ?_)
  · obtain ⟨p, dx, x, rfl, _⟩ := h; rfl
  · obtain ⟨p, dx, x, rfl, hp, q⟩ := h
    have hu := hu_of hr
    have hu64 := hr.units
    have cl_Linear := T.cl_Linear
    have n_Linear_s2_x := T.n_Linear_s2_x
    have cl_Leaping := T.cl_Leaping
    have n_Leaping_s2_leap_x := T.n_Leaping_s2_leap_x
    have n_Leaping_s2_every := T.n_Leaping_s2_every
    refine ⟨_, (pss_one (ps_if (pt_not (pt_val (pe_callB call_isi (by rfl) T.b_isinstance (by decide +kernel) (pa_cons (pv 0) (pa_cons (C8.pe_gc (by rfl) T.k_Linear) pa_nil))))) pss_never pss_nil)), ?_⟩
    walk_at "rd"
    refine Rd.isOwn T.is_Linear hp ?_
    walk_at "rd"
    exact q
theorem cal_distance (T : Txt K mg C_Linear C_Leaping C_Shortage C_NoRow) : C8.Cal P w K mg base 7 "distance" (Pr.spDistance C_Linear) [] := by
  obtain ⟨f, fd, F, b⟩ := T.d_distance
  refine C8.cal0 F b .nil sc_distance (fun vs H Q E h => ?_) (fun cdv A outer s H vs Q E hr h => ?_)
  · obtain ⟨p, o, dx, dy, x, y, rfl, _⟩ := h; rfl
  · obtain ⟨p, o, dx, dy, x, y, rfl, ⟨hp, ho, hb⟩, q⟩ := h
    have hu := hu_of hr
    have hu64 := hr.units
    have cl_Linear := T.cl_Linear
    have n_Linear_s2_x := T.n_Linear_s2_x
    have cl_Leaping := T.cl_Leaping
    have n_Leaping_s2_leap_x := T.n_Leaping_s2_leap_x
    have n_Leaping_s2_every := T.n_Leaping_s2_every
    refine ⟨_, (pss_cons (ps_expr (C8.pe_c (cal_s2_need_linear T) hr (by omega) (by rfl) (pa_cons (pv 0) pa_nil)))
      (pss_cons (ps_expr (C8.pe_c (cal_s2_need_linear T) hr (by omega) (by rfl) (pa_cons (pv 1) pa_nil)))
      (pss_one (ps_ret (C8.pe_c (cal_s2_distance T) hr (by omega) (by rfl) (pa_cons (pe_fld (pv 0) rfl) (pa_cons (pe_fld (pv 1) rfl) pa_nil))))))), ?_⟩
    walk_at "rd"
    refine ⟨p, dx, x, rfl, hp, ?_⟩
    walk_at "rd"
    refine ⟨o, dy, y, rfl, ho, ?_⟩
    walk_at "rd"
    exact Pr.u_dist0 hb q
theorem exc_NoRow (T : Txt K mg C_Linear C_Leaping C_Shortage C_NoRow) : Gx.ExcMkY P w K mg base 6 "NoRow" C_NoRow "given" := by
  obtain ⟨f, fd, hi, ht, F, b⟩ := T.d_NoRow___init__
  refine ⟨f, fd, _, _, T.y_NoRow, hi, ht, C8.fn0 F sc_NoRow___init__ (fun vs H Q E h => ?_) (fun cdv A outer s H vs Q E hr h => ?_), b, T.g_NoRow⟩
  · obtain ⟨p, v, rfl, _⟩ := h; rfl
  · obtain ⟨p, v, rfl, hp, q⟩ := h
    refine ⟨_, (pss_cons (ps_expr (Gx.pe_bi (by rfl) T.g_Shortage T.r_Shortage T.i_Shortage (by decide +kernel) (pa_cons (pv 0) (pa_cons pe_str pa_nil))))
      (pss_one (Gx.ps_ostY (initId := "LookupError.__init__") (pv 0) (pv 1)))), ?_⟩
    walk_at "rd"
    exact ⟨_, rfl, p, C_NoRow, [.str "there is no row"], rfl, Nat.le_of_ble_eq_true rfl, T.y_NoRow, hp, _, rfl, _, rfl, p, C_NoRow, rfl, T.y_NoRow, T.t_NoRow_given, hp, q⟩
end
end Pf

set_option Elab.async false
set_option linter.all false
set_option maxRecDepth 100000
set_option maxHeartbeats 4000000
namespace Pf
open PySem PySem.Spec PyProof.Rows L2
section
variable {P : Program} {w : World} {K : PySem.W.Frag} {mg : Str → Option Value} {base : Heap} {C_Linear C_Leaping C_Shortage C_NoRow : Addr}
local macro_rules | `(tactic| walk_at "side") => `(tactic| first | ((with_reducible show L2.CMul _ _); first | exact Or.inl ⟨by omega, by omega⟩ | exact Or.inr ⟨by omega, by omega⟩) | ((with_reducible show L2.CPow _ _); exact ⟨by decide, by decide, by decide⟩) | ((with_reducible show L2.CMulW _ _); exact wide_mul (a := 96) (b := 96) (by omega) (by omega) (by decide) (by decide) (by decide)) | ((with_reducible show L2.CDivW _ _); exact wide_div (b := 96) (by omega) (by omega) (by decide) (by decide)) | (show (0 : Int) < _; omega) | (show (0 : Int) ≤ _; omega))
local macro_rules | `(tactic| walk_at "rd1") => `(tactic| first | with_reducible refine Rd.seq ?_ | with_reducible refine Rd.asg ?_ | with_reducible refine Rd.nm ?_ | with_reducible refine Rd.ret ?_ | with_reducible refine Rd.drop ?_ | with_reducible refine Rd.ifs ?_ | with_reducible refine Rd.par ?_ | with_reducible refine Rd.par3 ?_ | with_reducible refine Rd.next ?_ | with_reducible refine Rd.fr1 ?_ | with_reducible refine Rd.nxp ?_ | with_reducible refine Rd.rtp ?_ | ((with_reducible show tVar _ _ _ _); refine Rd.var rfl ?_) | with_reducible refine Rd.cst ?_ | with_reducible refine Rd.op ?_ | with_reducible refine Rd.un ?_ | with_reducible refine Rd.i0 ?_ | with_reducible refine Rd.ung ?_ | with_reducible refine Rd.eqI ?_ | with_reducible refine Rd.neI ?_ | with_reducible refine Rd.eqS ?_ | with_reducible refine Rd.neS ?_ | with_reducible refine Rd.test ?_ | with_reducible refine Rd.tstB ?_ | with_reducible refine Rd.isB ?_ | with_reducible refine Rd.not ?_ | with_reducible refine Rd.andT ?_ | with_reducible refine Rd.orT ?_ | with_reducible refine Rd.andV ?_ | with_reducible refine Rd.orV ?_ | with_reducible refine Rd.notV ?_ | with_reducible refine Rd.ifE ?_ | with_reducible refine Rd.chain ?_ | with_reducible refine Rd.nil ?_ | with_reducible refine Rd.cons ?_ | with_reducible refine Rd.call ?_ | with_reducible refine Rd.cb ?_ | with_reducible refine Rd.bm ?_ | with_reducible refine Au.revL ?_ | with_reducible refine Rd.frl ?_ | with_reducible refine Rd.frt ?_ | with_reducible refine Rd.fre ?_ | with_reducible refine Rd.disp ?_ | with_reducible refine Rd.pnil ?_ | with_reducible refine Rd.pcons ?_ | with_reducible refine Rd.gcons ?_ | with_reducible refine Rd.gnil ?_ | with_reducible refine Rd.gsub ?_ | with_reducible refine Rd.setD ?_ | ((with_reducible show gTup _ _ _ _ _ (upd _ _ (HO.tup _)) _); refine Rd.tupNew rfl ?_) | with_reducible refine Rd.fld ?_ | with_reducible refine Rd.meth ?_ | with_reducible refine Rd.make ?_ | with_reducible refine Rd.prop ?_ | with_reducible refine Au.tup ?_ | with_reducible refine Au.lst ?_ | ((with_reducible refine Au.lenOk ?hl ?_); (case hl => exact rfl)) | with_reducible refine Au.nopart ?_ | with_reducible refine Au.part ?_ | with_reducible refine Au.isI ?_ | with_reducible refine Au.sl ?_ | with_reducible refine Au.pr2 ?_ | with_reducible refine Au.pr3 ?_ | with_reducible refine Au.eqB ?_ | with_reducible refine Rd.isInt ?_ | with_reducible refine Rd.isBool ?_ | with_reducible refine Rd.mx2 ?_ | with_reducible refine Rd.mn2 ?_ | ((with_reducible show Rd.rAndM _ _ _ _); first | refine Rd.and1 ?_ | refine Rd.and48 ?_ | refine Rd.and32 ?_ | refine Rd.and64 ?_ | refine Rd.and65 ?_) | ((with_reducible refine Rd.iC ?hc ?_); (case hc => walk_at "side")) | ((with_reducible refine Rd.yes ?hc ?_); (case hc => omega)) | ((with_reducible refine Rd.no ?hc ?_); (case hc => omega)) | ((with_reducible refine Rd.noN ?hc ?_); (case hc => omega)) | ((with_reducible refine Rd.yesN ?hc ?_); (case hc => omega)) | ((with_reducible refine Rd.yesNN ?hc ?_); (case hc => omega)) | ((with_reducible refine Rd.noNN ?hc ?_); (case hc => omega)) | with_reducible refine iteT ?_ | with_reducible refine iteF ?_ | with_reducible refine Rd.iteNT ?_ | with_reducible refine Rd.iteNF ?_)
local macro_rules | `(tactic| walk_at "rd") => `(tactic| repeat (walk_at "rd1"))
local macro_rules | `(tactic| walk_at "hp") => `(tactic| first | assumption | (apply Au.sm; (focus assumption); (walk_at "hp")) | (apply Au.smp; (focus assumption); (focus (walk_at "hp")); (walk_at "ne")) | (apply Au.smn; (focus assumption); (focus (walk_at "hp")); (focus (intro _ z; cases z; done))) | fail "hp")
local macro_rules | `(tactic| walk_at "ne") => `(tactic| first | assumption | (apply Ne.symm; assumption) | (apply Au.nen; (focus assumption); (walk_at "hp")) | (apply Au.nen'; (focus assumption); (walk_at "hp")) | (apply Au.nek; (focus assumption); (focus assumption); (intro z; cases z; done)) | (apply Au.nek2; (focus assumption); (focus (walk_at "hp")); (intro z; cases z; done)) | fail "ne")
local macro_rules | `(tactic| walk_at "dp") => `(tactic| first | exact Dp.int _ | exact Dp.str _ | exact Dp.bl _ | exact Dp.non | (apply Dp.lst; (focus (apply Rd.sql; walk_at "hp")); (walk_at "dps")) | (apply Dp.tup; (focus (apply Rd.sqt; walk_at "hp")); (walk_at "dps")) | fail "dp")
local macro_rules | `(tactic| walk_at "dps") => `(tactic| first | exact DpAll.nil | (apply DpAll.cons; (focus (walk_at "dp")); (walk_at "dps")) | fail "dps")
local macro_rules | `(tactic| walk_at "shp") => `(tactic| ((simp only [SeqAt.shaped, PyData.canLay0, PyData.canLayAll0, PyData.depth, PyData.depthAll]) <;> first | decide | rfl))
local macro_rules | `(tactic| walk_at "sd") => `(tactic| first | assumption | rfl | omega | (walk_at "hp") | (refine ⟨?_, ?_⟩; (focus (walk_at "sd")); (walk_at "sd")) | fail "sd")
local macro_rules | `(tactic| walk_at "lk") => `(tactic| first | exact Rd.lk1 | rfl | decide +kernel)
local macro_rules | `(tactic| walk_at "rd1") => `(tactic| first | with_reducible refine Pr.dget ?_ | with_reducible refine Pr.dput ?_ | with_reducible refine Pr.sfld ?_ | with_reducible refine Pr.u_isInt ?_ | ((with_reducible show Pr.spNeed _ _ _ _ _ _); refine Pr.u_need (by omega) (by omega) ?_) | ((with_reducible show Pr.spIs _ _ _ _ _ _); refine Pr.u_isIn (by omega) ?_) | ((with_reducible apply Rd.fld1); (focus (walk_at "hp")); (focus assumption); (focus assumption); (focus (walk_at "lk"))) | ((with_reducible apply Au.methO); (focus (walk_at "hp")); (focus (walk_at "lk"))) | ((with_reducible apply Au.propO); (focus (walk_at "hp"))) | ((with_reducible show rIxT _ (V.ref _) (V.int _) _ _); refine Rd.ixT (Rd.sqt (by walk_at "hp")) rfl ?_) | ((with_reducible show rIxL _ (V.ref _) (V.int _) _ _); refine Rd.ixL (Rd.sql (by walk_at "hp")) rfl ?_) | ((with_reducible show Rd.rLenQ _ [V.ref _] _ _); first | refine Rd.lenL (Rd.sql (by walk_at "hp")) ?_ | refine Rd.lenT (Rd.sqt (by walk_at "hp")) ?_) | ((with_reducible show gTup _ _ _ (V.ref _) _ _ _); refine Rd.gtup (Rd.sqt (by walk_at "hp")) rfl ?_) | with_reducible refine Gx.gat ?_ | with_reducible refine Gx.gnx ?_ | with_reducible refine Gx.gthen ?_ | with_reducible refine Gx.gplain ?_ | with_reducible refine Gx.gfr ?_ | with_reducible refine Gx.lg ?_ | with_reducible refine Gx.mg ?_ | with_reducible refine Gx.sme ?_ | with_reducible refine Gx.callSD ?_ | with_reducible refine Gx.methSD ?_)
/-! ### the law's draws -/
abbrev kRun : Key := Sum.inr "run"
abbrev kGreat : Key := Sum.inr "great"
abbrev kTurn : Key := Sum.inr "turn"
theorem n_rg : ¬ kRun = kGreat := by decide +kernel
theorem n_rt : ¬ kRun = kTurn := by decide +kernel
theorem n_gt : ¬ kGreat = kTurn := by decide +kernel
theorem n_gr : ¬ kGreat = kRun := by decide +kernel
theorem n_tr : ¬ kTurn = kRun := by decide +kernel
theorem n_tg : ¬ kTurn = kGreat := by decide +kernel
structure DrawAt (H : Hp) (d g : Addr) (run turn : Int) (ns : List Int) : Prop where
  dic : H d = some (.dK [(kRun, .int run), (kGreat, .ref g), (kTurn, .int turn)])
  lst : H g = some (.lst (ns.map V.int))
  r0 : 0 ≤ run
  r1 : run < 2305843009213693951
def Draw (H : Hp) (d g : Addr) : Prop := ∃ run turn ns, DrawAt H d g run turn ns
/-- all but the draw's own objects stand -/
def ExB (d g : Addr) (H H' : Hp) : Prop := ∀ c o, H c = some o → c ≠ d → c ≠ g → H' c = some o
theorem ExB.refl {d g : Addr} (H : Hp) : ExB d g H H := fun _ _ e _ _ => e
theorem ExB.trans {d g : Addr} {H H1 H2 : Hp} (a : ExB d g H H1) (b : ExB d g H1 H2) : ExB d g H H2 := fun c o e h1 h2 => b c o (a c o e h1 h2) h1 h2
theorem ExB.of {d g : Addr} {H H' : Hp} (e : Rd.Ex H H') : ExB d g H H' := fun c o h _ _ => e c o h
theorem ExB.d {d g : Addr} {H H' : Hp} {o : HO} (e : ExB d g H H') : ExB d g H (upd H' d o) := fun c z h h1 h2 => by
  rw [upd_ne h1]
  exact e c z h h1 h2
theorem ExB.g {d g : Addr} {H H' : Hp} {o : HO} (e : ExB d g H H') : ExB d g H (upd H' g o) := fun c z h h1 h2 => by
  rw [upd_ne h2]
  exact e c z h h1 h2
theorem DrawAt.ex {H H' : Hp} {d g : Addr} {run turn : Int} {ns : List Int} (e : Rd.Ex H H') (h : DrawAt H d g run turn ns) : DrawAt H' d g run turn ns := ⟨e _ _ h.dic, e _ _ h.lst, h.r0, h.r1⟩
theorem Draw.ex {H H' : Hp} {d g : Addr} (e : Rd.Ex H H') (h : Draw H d g) : Draw H' d g := by
  obtain ⟨r, t, ns, h⟩ := h
  exact ⟨r, t, ns, h.ex e⟩
theorem DrawAt.ne {H : Hp} {d g : Addr} {run turn : Int} {ns : List Int} (h : DrawAt H d g run turn ns) : d ≠ g := ne_of h.dic h.lst (fun z => by cases z)
def spNext : Sp := fun vs H Q _ => ∃ (d g : Addr) (b : Int), vs = [.ref d, .int b] ∧ 0 < b ∧ b < 2 ^ 90 ∧ Draw H d g ∧ ∀ (H' : Hp) (v : Int), 0 ≤ v → v < b → Draw H' d g → ExB d g H H' → Q (.int v) H'
theorem cal__law_next (T : Txt K mg C_Linear C_Leaping C_Shortage C_NoRow) : C8.Cal P w K mg base 1 "_law_next" (spNext) [] := by
  obtain ⟨f, fd, F, b⟩ := T.d__law_next
  refine C8.cal0 F b .nil sc__law_next (fun vs H Q E h => ?_) (fun cdv A outer s H vs Q E hr h => ?_)
  · obtain ⟨d, g, m, rfl, _⟩ := h; rfl
  · obtain ⟨d, g, m, rfl, m0, m1, ⟨run, turn, ns, D⟩, q⟩ := h
    have hu := hu_of hr
    have hu64 := hr.units
    have cl_Linear := T.cl_Linear
    have n_Linear_s2_x := T.n_Linear_s2_x
    have cl_Leaping := T.cl_Leaping
    have n_Leaping_s2_leap_x := T.n_Leaping_s2_leap_x
    have n_Leaping_s2_every := T.n_Leaping_s2_every
    refine ⟨_, (pss_cons (ps_asg (pe_tup (pa_cons (pe_op op_add (pe_dget hu (pv 0) pe_str (fun _ _ => rfl)) pe_int) (pa_cons (pe_dget hu (pv 0) pe_str (fun _ _ => rfl)) pa_nil))) (pg_tup rfl (pgs_cons (pg_sub (pv 0) pe_str (set_dict hu)) (pgs_cons (pg_name (i := 2) sc__law_next.nd rfl (.inl rfl)) pgs_nil))))
      (pss_cons (ps_set (i := 3) sc__law_next.nd rfl (.inl rfl) (pe_op op_mod (pe_dget hu (pv 0) pe_str (fun _ _ => rfl)) (pe_callB (Rd.call_mx2 rfl) (by rfl) T.b_max (by decide +kernel) (pa_cons pe_int (pa_cons (pe_callB Rd.call_lenQ (by rfl) T.b_len PySem.boot_len (pa_cons (pv 2) pa_nil)) pa_nil)))))
      (C8.pss_cut (ps_if (PW.pt (pw_and (pt_cmpR (op_neD hu64) (pv 2) (pe_lst pa_nil) (nomark _)) (pw_and1 (pt_cmpR op_gt (pe_ix ix_list (pv 2) (pv 3) (fun _ _ => rfl)) pe_int (nomark _))))) (pss_cons (ps_set (i := 4) sc__law_next.nd rfl (.inl rfl) (pe_op op_mod (pe_ix ix_list (pv 2) (pv 3) (fun _ _ => rfl)) (pv 1)))
      (pss_cons (ps_asg (pe_op op_fdivW (pe_ix ix_list (pv 2) (pv 3) (fun _ _ => rfl)) (pv 1)) (pg_sub (pv 2) (pv 3) set_list))
      (pss_one (ps_ret (pv 4))))) pss_nil)
      (pss_cons (ps_set (i := 5) sc__law_next.nd rfl (.inl rfl) (pe_op op_add (pe_op op_add (pe_op op_mul (pe_dget hu (pv 0) pe_str (fun _ _ => rfl)) pe_int) (pe_op op_mul pe_int (pe_dget hu (pv 0) pe_str (fun _ _ => rfl)))) pe_int))
      (pss_cons (ps_dput hu (pv 0) pe_str (pe_op op_mod (pv 5) pe_int) rfl)
      (pss_one (ps_ret (pe_op op_mod (pe_op op_fdivW (pe_dget hu (pv 0) pe_str (fun _ _ => rfl)) pe_int) (pv 1))))))))), ?_⟩
    walk_at "rd"
    have ndg := D.ne
    refine Pr.u_get D.dic (Gx.val3 n_rt n_gt) ?_
    walk_at "rd"
    refine Pr.u_get D.dic (Gx.val2 n_rg) ?_
    walk_at "rd"
    refine Au.new fun t Ht ht et kt => ?_
    have D1 := D.ex et
    have x1 : ExB d g H Ht := .of et
    walk_at "rd"
    refine Pr.u_put D1.dic (by show 3 < 1000; decide) (Gx.put3 n_rt n_gt) ?_
    walk_at "rd"
    generalize hH2 : upd Ht d (.dK [(kRun, .int run), (kGreat, .ref g), (kTurn, .int (turn + 1))]) = H2
    have D2 : DrawAt H2 d g run (turn + 1) ns := by
      subst hH2
      exact ⟨upd_same, by rw [upd_ne (Ne.symm ndg)]; exact D1.lst, D.r0, D.r1⟩
    have x2 : ExB d g H H2 := by subst hH2; exact x1.d
    refine Pr.u_get D2.dic (Gx.val3 n_rt n_gt) ?_
    walk_at "rd"
    refine Rd.lenL (Rd.sql D2.lst) ?_
    walk_at "rd"
    generalize hat : (turn + 1) % (if ((ns.map V.int).length : Int) > 1 then ((ns.map V.int).length : Int) else 1) = at'
    have at0 : ns ≠ [] → 0 ≤ at' ∧ at' < (ns.length : Int) := fun hne => by
      have hl : 0 < ns.length := List.length_pos_iff.mpr hne
      rw [List.length_map] at hat
      rw [← hat]
      by_cases h1 : (ns.length : Int) > 1
      · rw [if_pos h1]
        exact ⟨Int.emod_nonneg _ (by omega), Int.emod_lt_of_pos _ (by omega)⟩
      · rw [if_neg h1]
        omega
    refine Rd.cut (fun σ' H' => ∃ y4 y5, σ' = [some (.ref d), some (.int m), some (.ref g), some (.int at'), y4, y5] ∧ DrawAt H' d g run (turn + 1) ns ∧ ExB d g H H') ?_ ?_
    · walk_at "rd"
      refine Au.new fun p H3 hp e3 k3 => ?_
      have D3 := D2.ex e3
      have x3 : ExB d g H H3 := x2.trans (.of e3)
      refine Gx.neL (ms := []) (Rd.sql D3.lst) (Rd.sql k3) ?_
      walk_at "rd"
      refine Rd.bothN (fun c => ?_) (fun c => ?_)
      · obtain ⟨h0, h1⟩ := at0 c
        obtain ⟨k, rfl⟩ := Int.eq_ofNat_of_zero_le h0
        have hk : k < ns.length := by omega
        have gk : atI (ns.map V.int) (k : Int) = some (.int ns[k]) := atI_nat (by rw [List.getElem?_map, List.getElem?_eq_getElem hk]; rfl)
        walk_at "rd"
        refine Rd.ixL (Rd.sql D3.lst) gk ?_
        walk_at "rd"
        refine Rd.both (fun c2 => ?_) (fun c2 => ?_)
        · walk_at "rd"
          refine Rd.ixL (Rd.sql D3.lst) gk ?_
          walk_at "rd"
          refine Rd.ixL (Rd.sql D3.lst) gk ?_
          walk_at "rd"
          have ij : ixN (ns.map V.int).length (k : Int) = some k := by
            unfold ixN
            rw [if_pos h0, if_pos (by rw [List.length_map]; omega), Int.toNat_natCast]
          refine Rd.setL D3.lst ij ?_
          walk_at "rd"
          refine q _ _ (Int.emod_nonneg _ (by omega)) (Int.emod_lt_of_pos _ m0) ⟨run, turn + 1, ns.set k (ns[k] / m), ?_, ?_, D.r0, D.r1⟩ x3.g
          · rw [upd_ne ndg]; exact D3.dic
          · rw [upd_same, List.map_set]
        · walk_at "rd"
          exact ⟨_, _, rfl, D3, x3⟩
      · walk_at "rd"
        exact ⟨_, _, rfl, D3, x3⟩
    · rintro σ' H' ⟨y4, y5, rfl, D4, x4⟩
      have r0 := D.r0
      have r1 := D.r1
      walk_at "rd"
      refine Pr.u_get D4.dic Gx.val1 ?_
      walk_at "rd"
      refine Pr.u_get D4.dic (Gx.val3 n_rt n_gt) ?_
      walk_at "rd"
      generalize hn : (run * 6364136223846793 + 1442695040888963 * (turn + 1) + 11) % 2305843009213693951 = r'
      refine Pr.u_put D4.dic (by show 3 < 1000; decide) (Gx.put1 n_gr n_tr) ?_
      walk_at "rd"
      refine Pr.u_get upd_same Gx.val1 ?_
      walk_at "rd"
      refine q _ _ (Int.emod_nonneg _ (by omega)) (Int.emod_lt_of_pos _ m0) ⟨r', turn + 1, ns, upd_same, ?_, by omega, by omega⟩ x4.d
      rw [upd_ne (Ne.symm ndg)]; exact D4.lst
theorem u_next {H : Hp} {Q : VK} {E : XK} {d g : Addr} {b : Int} (h0 : 0 < b) (h1 : b < 2 ^ 90) (D : Draw H d g) (q : ∀ (H' : Hp) (v : Int), 0 ≤ v → v < b → Draw H' d g → ExB d g H H' → Q (.int v) H') : spNext ([.ref d, .int b] ++ []) H Q E := ⟨d, g, b, rfl, h0, h1, D, q⟩
/-- numbers below a bound that a helper draws -/
def spPick (hi : Int) : Sp := fun vs H Q _ => ∃ (d g : Addr), vs = [.ref d] ∧ Draw H d g ∧ ∀ (H' : Hp) (v : Int), 0 ≤ v → v ≤ hi → Draw H' d g → ExB d g H H' → Q (.int v) H'
theorem Draw.nd {H : Hp} {d g p : Addr} (D : Draw H d g) (h : H p = none) : p ≠ d ∧ p ≠ g := by
  obtain ⟨r, t, ns, D⟩ := D
  exact ⟨Ne.symm (ne_of_none D.dic h), Ne.symm (ne_of_none D.lst h)⟩
theorem pick_of (l : List Int) (hi : Int) (hl : l.length = 8) (hb : ∀ x ∈ l, 0 ≤ x ∧ x ≤ hi) {v : Int} (v0 : 0 ≤ v) (v1 : v < 12) :
    ∃ j x : Int, atI ([0, 1, 2, 3, 4, 5, 6, 7, 7, 7, 7, 7].map V.int) v = some (.int j) ∧ atI (l.map V.int) j = some (.int x) ∧ 0 ≤ x ∧ x ≤ hi := by
  obtain ⟨j, hj, ej⟩ := Gx.pick (l := [0, 1, 2, 3, 4, 5, 6, 7, 7, 7, 7, 7]) (P := fun j => 0 ≤ j ∧ j < 8) (by decide) v0 v1
  obtain ⟨x, hx, ex⟩ := Gx.pick (l := l) (P := fun x => 0 ≤ x ∧ x ≤ hi) hb hj.1 (by omega)
  exact ⟨j, x, ej, ex, hx.1, hx.2⟩
theorem smb {d g b : Addr} {H H' : Hp} {z : HO} (e : ExB d g H H') (h : H b = some z) (n1 : b ≠ d) (n2 : b ≠ g) : H' b = some z := e _ _ h n1 n2
theorem smbK {d g b : Addr} {H H' : Hp} {z : HO} (e : ExB d g H H') (h : H b = some z) (D : Draw H d g) (n : (∀ kvs, z ≠ .dK kvs) ∧ ∀ xs, z ≠ .lst xs) : H' b = some z := e _ _ h (fun q => by
    obtain ⟨r, t, ns, D⟩ := D
    rw [q, D.dic] at h
    exact n.1 _ (Option.some.inj h).symm) (fun q => by
    obtain ⟨r, t, ns, D⟩ := D
    rw [q, D.lst] at h
    exact n.2 _ (Option.some.inj h).symm)
theorem smbN {d g b : Addr} {H H' H0 : Hp} {z : HO} (e : ExB d g H H') (h : H b = some z) (n : H0 b = none) (D : Draw H0 d g) : H' b = some z := e _ _ h (D.nd n).1 (D.nd n).2
theorem ndN {d g p : Addr} {H : Hp} (h : H p = none) (D : Draw H d g) : p ≠ d ∧ p ≠ g := D.nd h
theorem Draw.exp {d g p : Addr} {H H' : Hp} (e : Au.ExP p H H') (D : Draw H d g) (n : p ≠ d ∧ p ≠ g) : Draw H' d g := by
  obtain ⟨r, t, ns, D⟩ := D
  exact ⟨r, t, ns, e _ _ D.dic (Ne.symm n.1), e _ _ D.lst (Ne.symm n.2), D.r0, D.r1⟩
theorem int_at {ns : List Int} {i : Nat} {y : V} (h : (ns.map V.int)[i]? = some y) : ∃ z, ns[i]? = some z ∧ y = .int z := by
  rw [List.getElem?_map] at h
  cases e : ns[i]? with
  | none => rw [e] at h; cases h
  | some z => rw [e] at h; exact ⟨z, rfl, (Option.some.inj h).symm⟩
def spBegun (K : PySem.W.Frag) : Sp := fun vs H Q _ => ∃ (a : Addr) (ns : List Int), vs = [.ref a] ∧ SqL K H a (ns.map V.int) ∧ ns.length ≤ 63 ∧ ∀ H' d g, Rd.Ex H H' → Draw H' d g → Q (.ref d) H'
theorem cal__law_begun (T : Txt K mg C_Linear C_Leaping C_Shortage C_NoRow) : C8.Cal P w K mg base 1 "_law_begun" (spBegun K) [] := by
  obtain ⟨f, fd, F, b⟩ := T.d__law_begun
  refine C8.cal0 F b .nil sc__law_begun (fun vs H Q E h => ?_) (fun cdv A outer s H vs Q E hr h => ?_)
  · obtain ⟨a, ns, rfl, _⟩ := h; rfl
  · obtain ⟨a, ns, rfl, hS, hl, q⟩ := h
    have hu := hu_of hr
    have hu64 := hr.units
    have cl_Linear := T.cl_Linear
    have n_Linear_s2_x := T.n_Linear_s2_x
    have cl_Leaping := T.cl_Leaping
    have n_Leaping_s2_leap_x := T.n_Leaping_s2_leap_x
    have n_Leaping_s2_every := T.n_Leaping_s2_every
    refine ⟨_, (pss_cons (ps_set (i := 1) sc__law_begun.nd rfl (.inl rfl) (pe_op op_add pe_int (pe_op op_mul pe_int (pe_callB Rd.call_lenQ (by rfl) T.b_len PySem.boot_len (pa_cons (pv 0) pa_nil)))))
      (pss_cons (ps_for PassesOwn.never rfl (pi_enum (by rfl) T.b_enumerate (pa_cons (pv 0) pa_nil)) (pg_tup rfl (pgs_cons (pg_name (i := 2) sc__law_begun.nd rfl (.inl rfl)) (pgs_cons (pg_name (i := 3) sc__law_begun.nd rfl (.inl rfl)) pgs_nil))) (pss_one (ps_set (i := 1) sc__law_begun.nd rfl (.inl rfl) (pe_op op_mod (pe_op op_add (pe_op op_add (pe_op op_mul (pv 1) pe_int) (pv 3)) (pe_op op_mul pe_int (pv 2))) pe_int))))
      (pss_one (ps_ret (pe_disp (pps_cons pe_str (pv 1) (pps_cons pe_str (pe_lc (own := [("_law_cell", 3)]) rfl sc__law_begun.nd (pi_list (pv 0)) (blkOk_by (N := ["_law_script", "_law_run", "_law_k", "_law_cell"]) (sc := C8.fnScope s__law_begun) (by decide +kernel)) (fun _ _ _ _ _ => (pg_name (i := 3) sc__law_begun.nd rfl (.inl rfl))) (fun _ _ _ _ _ => (pts_one (pt_cmpR op_ge (pv 3) (pe_op op_pow pe_int pe_int) (nomark _)))) (fun _ _ _ _ _ => (pv 3))) (pps_cons pe_str pe_int pps_nil))) rfl rfl (by simp) (by decide)))))), ?_⟩
    walk_at "rd"
    refine Rd.lenL hS ?_
    have hl' : ((ns.map V.int).length : Int) ≤ 63 := by rw [List.length_map]; omega
    have hl0 : (0 : Int) ≤ ((ns.map V.int).length : Int) := by omega
    walk_at "rd"
    refine ⟨a, _, rfl, hS, for_it (walk_enum (K := K) (a := a) (xs := ns.map V.int)) (fun i σ' H' => ∃ (r : Int) (y2 y3 : Option V), σ' = [some (.ref a), some (.int r), y2, y3] ∧ Rd.Ex H H' ∧ 0 ≤ r ∧ r < 2305843009213693951)
      ⟨_, none, none, rfl, Same.refl H, by omega, by omega⟩ (fun i σ' H' _ hh => ?_) ?_ ?_⟩
    · obtain ⟨_, _, _, _, e, _⟩ := hh
      exact Rd.ex_l e hS
    · rintro i x σ' H' H2 hi ⟨r, y2, y3, rfl, e, r0, r1⟩ ⟨t, x1, x2, rfl, nt, rfl, e1, e2⟩
      obtain ⟨z, hz, rfl⟩ := int_at e2
      cases e1
      walk_at "rd"
      exact ⟨_, _, _, rfl, e.trans (Rd.ex_new nt), by omega, by omega⟩
    · rintro σ' H' ⟨r, y2, y3, rfl, e, r0, r1⟩
      walk_at "rd"
      intro p hp
      walk_at "rd"
      have e1 : Rd.Ex H (upd H' p (.dK [])) := e.trans (Rd.ex_new hp)
      refine ⟨_, rfl, a, rfl, ⟨_, Rd.ex_l e1 hS⟩, fun D hD => lc_list (K := K) (a := a) (xs := ns.map V.int) (fun i H3 => ∃ ms : List Int, H3 D = some (.lst (ms.map V.int)) ∧ ms.length ≤ i ∧ Rd.Ex (upd H' p (.dK [])) H3)
        ⟨[], upd_same, Nat.le_refl _, Rd.ex_new hD⟩ (fun i H3 _ hh => ?_) ?_ ?_⟩
      · obtain ⟨_, _, _, x3⟩ := hh
        exact Rd.ex_l (e1.trans x3) hS
      · rintro i y H3 hi ⟨ms, hm, lm, x3⟩
        obtain ⟨z, hz, rfl⟩ := int_at hi
        have hi2 : i < 63 := by
          have := (List.getElem?_eq_some_iff.mp hz).1
          omega
        walk_at "rd"
        refine ⟨rfl, ?_⟩
        walk_at "rd"
        refine Rd.both (fun c => ?_) (fun c => ?_)
        · walk_at "rd"
          refine ⟨_, hm, by rw [List.length_map]; exact small1000 (by omega), ms ++ [z], ?_, by rw [List.length_append, List.length_singleton]; omega, Rd.ex_mut x3 hD⟩
          rw [upd_same, List.map_append]
          rfl
        · exact ⟨ms, hm, by omega, x3⟩
      · rintro H3 ⟨ms, hm, lm, x3⟩
        walk_at "rd"
        refine ⟨x3 _ _ upd_same, [(kRun, .int r), (kGreat, .ref D), (kTurn, .int 0)], rfl, by show 3 ≤ 15; decide, ?_⟩
        rw [Gx.merge3 n_rg n_rt n_gt]
        have npD : D ≠ p := fun z => by subst z; rw [upd_same] at hD; cases hD
        refine q _ p D ?_ ⟨r, 0, ms, upd_same, by rw [upd_ne npD]; exact hm, r0, r1⟩
        intro b o hb
        have nb : b ≠ p := ne_of_none (e _ _ hb) hp
        rw [upd_ne nb]
        exact x3 _ _ (e1 _ _ hb)
end
end Pf

set_option Elab.async false
set_option linter.all false
set_option maxRecDepth 100000
set_option maxHeartbeats 4000000
namespace Pf
open PySem PySem.Spec PyProof.Rows L2
section
variable {P : Program} {w : World} {K : PySem.W.Frag} {mg : Str → Option Value} {base : Heap} {C_Linear C_Leaping C_Shortage C_NoRow : Addr}
local macro_rules | `(tactic| walk_at "side") => `(tactic| first | ((with_reducible show L2.CMul _ _); first | exact Or.inl ⟨by omega, by omega⟩ | exact Or.inr ⟨by omega, by omega⟩) | ((with_reducible show L2.CPow _ _); exact ⟨by decide, by decide, by decide⟩) | ((with_reducible show L2.CMulW _ _); exact wide_mul (a := 96) (b := 96) (by omega) (by omega) (by decide) (by decide) (by decide)) | ((with_reducible show L2.CDivW _ _); exact wide_div (b := 96) (by omega) (by omega) (by decide) (by decide)) | (show (0 : Int) < _; omega) | (show (0 : Int) ≤ _; omega))
local macro_rules | `(tactic| walk_at "rd1") => `(tactic| first | with_reducible refine Rd.seq ?_ | with_reducible refine Rd.asg ?_ | with_reducible refine Rd.nm ?_ | with_reducible refine Rd.ret ?_ | with_reducible refine Rd.drop ?_ | with_reducible refine Rd.ifs ?_ | with_reducible refine Rd.par ?_ | with_reducible refine Rd.par3 ?_ | with_reducible refine Rd.next ?_ | with_reducible refine Rd.fr1 ?_ | with_reducible refine Rd.nxp ?_ | with_reducible refine Rd.rtp ?_ | ((with_reducible show tVar _ _ _ _); refine Rd.var rfl ?_) | with_reducible refine Rd.cst ?_ | with_reducible refine Rd.op ?_ | with_reducible refine Rd.un ?_ | with_reducible refine Rd.i0 ?_ | with_reducible refine Rd.ung ?_ | with_reducible refine Rd.eqI ?_ | with_reducible refine Rd.neI ?_ | with_reducible refine Rd.eqS ?_ | with_reducible refine Rd.neS ?_ | with_reducible refine Rd.test ?_ | with_reducible refine Rd.tstB ?_ | with_reducible refine Rd.isB ?_ | with_reducible refine Rd.not ?_ | with_reducible refine Rd.andT ?_ | with_reducible refine Rd.orT ?_ | with_reducible refine Rd.andV ?_ | with_reducible refine Rd.orV ?_ | with_reducible refine Rd.notV ?_ | with_reducible refine Rd.ifE ?_ | with_reducible refine Rd.chain ?_ | with_reducible refine Rd.nil ?_ | with_reducible refine Rd.cons ?_ | with_reducible refine Rd.call ?_ | with_reducible refine Rd.cb ?_ | with_reducible refine Rd.bm ?_ | with_reducible refine Au.revL ?_ | with_reducible refine Rd.frl ?_ | with_reducible refine Rd.frt ?_ | with_reducible refine Rd.fre ?_ | with_reducible refine Rd.disp ?_ | with_reducible refine Rd.pnil ?_ | with_reducible refine Rd.pcons ?_ | with_reducible refine Rd.gcons ?_ | with_reducible refine Rd.gnil ?_ | with_reducible refine Rd.gsub ?_ | with_reducible refine Rd.setD ?_ | ((with_reducible show gTup _ _ _ _ _ (upd _ _ (HO.tup _)) _); refine Rd.tupNew rfl ?_) | with_reducible refine Rd.fld ?_ | with_reducible refine Rd.meth ?_ | with_reducible refine Rd.make ?_ | with_reducible refine Rd.prop ?_ | with_reducible refine Au.tup ?_ | with_reducible refine Au.lst ?_ | ((with_reducible refine Au.lenOk ?hl ?_); (case hl => exact rfl)) | with_reducible refine Au.nopart ?_ | with_reducible refine Au.part ?_ | with_reducible refine Au.isI ?_ | with_reducible refine Au.sl ?_ | with_reducible refine Au.pr2 ?_ | with_reducible refine Au.pr3 ?_ | with_reducible refine Au.eqB ?_ | with_reducible refine Rd.isInt ?_ | with_reducible refine Rd.isBool ?_ | with_reducible refine Rd.mx2 ?_ | with_reducible refine Rd.mn2 ?_ | ((with_reducible show Rd.rAndM _ _ _ _); first | refine Rd.and1 ?_ | refine Rd.and48 ?_ | refine Rd.and32 ?_ | refine Rd.and64 ?_ | refine Rd.and65 ?_) | ((with_reducible refine Rd.iC ?hc ?_); (case hc => walk_at "side")) | ((with_reducible refine Rd.yes ?hc ?_); (case hc => omega)) | ((with_reducible refine Rd.no ?hc ?_); (case hc => omega)) | ((with_reducible refine Rd.noN ?hc ?_); (case hc => omega)) | ((with_reducible refine Rd.yesN ?hc ?_); (case hc => omega)) | ((with_reducible refine Rd.yesNN ?hc ?_); (case hc => omega)) | ((with_reducible refine Rd.noNN ?hc ?_); (case hc => omega)) | with_reducible refine iteT ?_ | with_reducible refine iteF ?_ | with_reducible refine Rd.iteNT ?_ | with_reducible refine Rd.iteNF ?_)
local macro_rules | `(tactic| walk_at "rd") => `(tactic| repeat (walk_at "rd1"))
local macro_rules | `(tactic| walk_at "hp") => `(tactic| first | assumption | (apply Au.sm; (focus assumption); (walk_at "hp")) | (apply Au.smp; (focus assumption); (focus (walk_at "hp")); (walk_at "ne")) | (apply Au.smn; (focus assumption); (focus (walk_at "hp")); (focus (intro _ z; cases z; done))) | fail "hp")
local macro_rules | `(tactic| walk_at "ne") => `(tactic| first | assumption | (apply Ne.symm; assumption) | (apply Au.nen; (focus assumption); (walk_at "hp")) | (apply Au.nen'; (focus assumption); (walk_at "hp")) | (apply Au.nek; (focus assumption); (focus assumption); (intro z; cases z; done)) | (apply Au.nek2; (focus assumption); (focus (walk_at "hp")); (intro z; cases z; done)) | fail "ne")
local macro_rules | `(tactic| walk_at "dp") => `(tactic| first | exact Dp.int _ | exact Dp.str _ | exact Dp.bl _ | exact Dp.non | (apply Dp.lst; (focus (apply Rd.sql; walk_at "hp")); (walk_at "dps")) | (apply Dp.tup; (focus (apply Rd.sqt; walk_at "hp")); (walk_at "dps")) | fail "dp")
local macro_rules | `(tactic| walk_at "dps") => `(tactic| first | exact DpAll.nil | (apply DpAll.cons; (focus (walk_at "dp")); (walk_at "dps")) | fail "dps")
local macro_rules | `(tactic| walk_at "shp") => `(tactic| ((simp only [SeqAt.shaped, PyData.canLay0, PyData.canLayAll0, PyData.depth, PyData.depthAll]) <;> first | decide | rfl))
local macro_rules | `(tactic| walk_at "sd") => `(tactic| first | assumption | rfl | omega | (walk_at "hp") | (refine ⟨?_, ?_⟩; (focus (walk_at "sd")); (walk_at "sd")) | fail "sd")
local macro_rules | `(tactic| walk_at "lk") => `(tactic| first | exact Rd.lk1 | rfl | decide +kernel)
local macro_rules | `(tactic| walk_at "rd1") => `(tactic| first | with_reducible refine Pr.dget ?_ | with_reducible refine Pr.dput ?_ | with_reducible refine Pr.sfld ?_ | with_reducible refine Pr.u_isInt ?_ | ((with_reducible show Pr.spNeed _ _ _ _ _ _); refine Pr.u_need (by omega) (by omega) ?_) | ((with_reducible show Pr.spIs _ _ _ _ _ _); refine Pr.u_isIn (by omega) ?_) | ((with_reducible apply Rd.fld1); (focus (walk_at "hp")); (focus assumption); (focus assumption); (focus (walk_at "lk"))) | ((with_reducible apply Au.methO); (focus (walk_at "hp")); (focus (walk_at "lk"))) | ((with_reducible apply Au.propO); (focus (walk_at "hp"))) | ((with_reducible show rIxT _ (V.ref _) (V.int _) _ _); refine Rd.ixT (Rd.sqt (by walk_at "hp")) rfl ?_) | ((with_reducible show rIxL _ (V.ref _) (V.int _) _ _); refine Rd.ixL (Rd.sql (by walk_at "hp")) rfl ?_) | ((with_reducible show Rd.rLenQ _ [V.ref _] _ _); first | refine Rd.lenL (Rd.sql (by walk_at "hp")) ?_ | refine Rd.lenT (Rd.sqt (by walk_at "hp")) ?_) | ((with_reducible show gTup _ _ _ (V.ref _) _ _ _); refine Rd.gtup (Rd.sqt (by walk_at "hp")) rfl ?_) | with_reducible refine Gx.gat ?_ | with_reducible refine Gx.gnx ?_ | with_reducible refine Gx.gthen ?_ | with_reducible refine Gx.gplain ?_ | with_reducible refine Gx.gfr ?_ | with_reducible refine Gx.lg ?_ | with_reducible refine Gx.mg ?_ | with_reducible refine Gx.sme ?_ | with_reducible refine Gx.callSD ?_ | with_reducible refine Gx.methSD ?_)
local macro_rules | `(tactic| walk_at "hp") => `(tactic| first | assumption | (apply smb; (focus assumption); (focus (walk_at "hp")); (focus assumption); assumption) | (apply smbK; (focus assumption); (focus (walk_at "hp")); (focus (walk_at "dr")); (constructor <;> (intro _ z; cases z; done))) | (apply smbN; (focus assumption); (focus (walk_at "hp")); (focus assumption); (walk_at "dr")))
local macro_rules | `(tactic| walk_at "dr") => `(tactic| first | assumption | (apply Draw.ex; (focus assumption); (walk_at "dr")) | (apply Draw.exp; (focus assumption); (focus (walk_at "dr")); (focus (walk_at "nd"))) | fail "dr")
local macro_rules | `(tactic| walk_at "nd") => `(tactic| first | assumption | (apply ndN; (focus assumption); (walk_at "dr")) | fail "nd")
theorem cal_s2_is_every (T : Txt K mg C_Linear C_Leaping C_Shortage C_NoRow) : C8.Cal P w K mg base 2 "s2_is_every" (Pr.spIs 1 18446744073709551616) [] := by
  obtain ⟨f, fd, F, b⟩ := T.d_s2_is_every
  refine C8.cal0 F b .nil sc_s2_is_every (fun vs H Q E h => ?_) (fun cdv A outer s H vs Q E hr h => ?_)
  · obtain ⟨v, rfl, _⟩ := h; rfl
  · obtain ⟨v, rfl, h⟩ := h
    have hu := hu_of hr
    have hu64 := hr.units
    have cl_Linear := T.cl_Linear
    have n_Linear_s2_x := T.n_Linear_s2_x
    have cl_Leaping := T.cl_Leaping
    have n_Leaping_s2_leap_x := T.n_Leaping_s2_leap_x
    have n_Leaping_s2_every := T.n_Leaping_s2_every
    refine ⟨_, (pss_one (ps_ret (pe_and (C8.pe_c (cal_is_integer T) hr (by omega) (by rfl) (pa_cons (pv 0) pa_nil)) (pe_one (pe_chain op_le op_le pe_int (pv 0) (C8.pe_gc (by rfl) T.c_MOST_STEPS)))))), ?_⟩
    walk_at "rd"
    rcases h with ⟨n, rfl, q⟩ | ⟨h, q⟩
    · walk_at "rd"
      refine Rd.both (fun c => ?_) (fun c => ?_)
      · walk_at "rd"
        rw [show decide (n ≤ 18446744073709551616) = decide (1 ≤ n ∧ n ≤ 18446744073709551616) from by rw [decide_eq_decide]; omega]
        exact q
      · walk_at "rd"
        rw [decide_eq_false (fun h => c h.1)] at q
        exact q
    · refine Pr.u_isNon h ?_
      walk_at "rd"
      exact q
theorem cal_s2_need_every (T : Txt K mg C_Linear C_Leaping C_Shortage C_NoRow) : C8.Cal P w K mg base 3 "s2_need_every" (Pr.spNeed 1 18446744073709551616) [] := by
  obtain ⟨f, fd, F, b⟩ := T.d_s2_need_every
  refine C8.cal0 F b .nil sc_s2_need_every (fun vs H Q E h => ?_) (fun cdv A outer s H vs Q E hr h => ?_)
  · obtain ⟨n, rfl, _⟩ := h; rfl
  · obtain ⟨n, rfl, h1, h2, q⟩ := h
    have hu := hu_of hr
    have hu64 := hr.units
    have cl_Linear := T.cl_Linear
    have n_Linear_s2_x := T.n_Linear_s2_x
    have cl_Leaping := T.cl_Leaping
    have n_Leaping_s2_leap_x := T.n_Leaping_s2_leap_x
    have n_Leaping_s2_every := T.n_Leaping_s2_every
    refine ⟨_, (pss_one (ps_if (pt_not (pt_val (C8.pe_c (cal_s2_is_every T) hr (by omega) (by rfl) (pa_cons (pv 0) pa_nil)))) pss_never pss_nil)), ?_⟩
    walk_at "rd"
    exact q
/-- the leaping sources' numbers -/
def spTwos : Sp := fun vs H Q _ => ∃ e : Nat, vs = [.int e] ∧ 0 < e ∧ Q (.int (2 ^ ML.tw e : Nat)) H
theorem u_twos {e : Nat} {H : Hp} {Q : VK} {E : XK} (h : 0 < e) (q : Q (.int (2 ^ ML.tw e : Nat)) H) : spTwos ([.int e] ++ []) H Q E := ⟨e, rfl, h, q⟩
theorem and_neg {e : Nat} (h : 0 < e) : Builtin.bitAnd (e : Int) (0 - (e : Int)) = (e : Int) - ((e &&& (e - 1) : Nat) : Int) := by
  unfold Builtin.bitAnd
  rw [decide_eq_true (show (0 : Int) ≤ (e : Int) by omega), decide_eq_false (show ¬ (0 : Int) ≤ 0 - (e : Int) by omega)]
  show (e : Int) - ((((e : Int).toNat &&& (Builtin.bitNot (0 - (e : Int))).toNat : Nat)) : Int) = _
  have h1 : (Builtin.bitNot (0 - (e : Int))).toNat = e - 1 := by unfold Builtin.bitNot; omega
  rw [h1, Int.toNat_natCast]
theorem cal_s2_twos (T : Txt K mg C_Linear C_Leaping C_Shortage C_NoRow) : C8.Cal P w K mg base 1 "s2_twos" (spTwos) [] := by
  obtain ⟨f, fd, F, b⟩ := T.d_s2_twos
  refine C8.cal0 F b .nil sc_s2_twos (fun vs H Q E h => ?_) (fun cdv A outer s H vs Q E hr h => ?_)
  · obtain ⟨e, rfl, _⟩ := h; rfl
  · obtain ⟨e, rfl, he, q⟩ := h
    have hu := hu_of hr
    have hu64 := hr.units
    have cl_Linear := T.cl_Linear
    have n_Linear_s2_x := T.n_Linear_s2_x
    have cl_Leaping := T.cl_Leaping
    have n_Leaping_s2_leap_x := T.n_Leaping_s2_leap_x
    have n_Leaping_s2_every := T.n_Leaping_s2_every
    refine ⟨_, (pss_one (ps_ret (pe_callB (Rd.call_mn2 rfl) (by rfl) T.b_min (by decide +kernel) (pa_cons (pe_op op_and (pv 0) (pe_op op_sub pe_int (pv 0))) (pa_cons (C8.pe_gc (by rfl) T.c_MODULUS) pa_nil))))), ?_⟩
    walk_at "rd"
    rw [and_neg he, ML.tw_min e he]
    exact q
abbrev LeapO (C dx : Addr) (x : Int) (e : Nat) : HO := .ins C dx [("s2_leap_x", .int x), ("s2_every", .int (e : Int))]
def spInit2 (C : Addr) : Sp := fun vs H Q _ => ∃ (p dx : Addr) (x : Int) (e : Nat), vs = [.ref p, .int x, .int e] ∧ (0 ≤ x ∧ x < 281474976710656 ∧ 1 ≤ e ∧ e ≤ 18446744073709551616) ∧ H p = some (.ins C dx []) ∧ ∀ H', Au.ExP p H H' → H' p = some (LeapO C dx x e) → Q .non H'
theorem u_leap {C : Addr} {H : Hp} {Q : Addr → Hp → Prop} {E : XK} {n : Int} {e : Nat} (h1 : 0 ≤ n ∧ n < 281474976710656 ∧ 1 ≤ e ∧ e ≤ 18446744073709551616) (h : ∀ p dx H', H p = none → Rd.Ex H H' → H' p = some (LeapO C dx n e) → Q p H') :
    ∀ x dx, H x = none → H dx = none → dx ≠ x → spInit2 C (.ref x :: ([.int n, .int (e : Int)] ++ [])) (upd (upd H dx (.own x)) x (.ins C dx [])) (fun v H2 => v = .non ∧ Q x H2) E := fun x dx hx hdx hne =>
  ⟨x, dx, n, e, rfl, h1, upd_same, fun H' m k => ⟨rfl, h x dx H' hx (Pr.ex_made hx hdx m) k⟩⟩
theorem mak_Leaping (T : Txt K mg C_Linear C_Leaping C_Shortage C_NoRow) : C8.Mak P w K mg base 4 "Leaping" C_Leaping (spInit2 C_Leaping) [] := by
  obtain ⟨f, fd, M, F, b⟩ := T.d_Leaping___init__
  obtain ⟨u, hu1, hu2⟩ := T.k_Leaping
  cases hu2
  refine C8.mak0 M hu1 F b .nil sc_Leaping___init__ (fun vs H Q E h => ?_) (fun cdv A outer s H vs Q E hr h => ?_)
  · obtain ⟨p, dx, x, e, rfl, _⟩ := h; rfl
  · obtain ⟨p, dx, x, e, rfl, ⟨x0, x1, e0, e1⟩, hp, q⟩ := h
    have hu := hu_of hr
    have hu64 := hr.units
    have cl_Linear := T.cl_Linear
    have n_Linear_s2_x := T.n_Linear_s2_x
    have cl_Leaping := T.cl_Leaping
    have n_Leaping_s2_leap_x := T.n_Leaping_s2_leap_x
    have n_Leaping_s2_every := T.n_Leaping_s2_every
    refine ⟨_, (pss_cons (ps_expr (C8.pe_c (cal_s2_need_start T) hr (by omega) (by rfl) (pa_cons (pv 1) pa_nil)))
      (pss_cons (ps_expr (C8.pe_c (cal_s2_need_every T) hr (by omega) (by rfl) (pa_cons (pv 2) pa_nil)))
      (pss_one (ps_asg (pe_tup (pa_cons (pv 1) (pa_cons (pv 2) pa_nil))) (pg_tup rfl (pgs_cons (Gx.pg_fld (pv 0)) (pgs_cons (Gx.pg_fld (pv 0)) pgs_nil))))))), ?_⟩
    walk_at "rd"
    refine Au.new fun t H1 ht f1 k1 => ?_
    walk_at "rd"
    have hp1 := f1 _ _ hp
    have np := ne_of_none hp ht
    refine Gx.gfldV rfl hp1 T.cl_Leaping T.n_Leaping_s2_leap_x rfl rfl fun H2 m2 k2 => ?_
    walk_at "rd"
    refine Gx.gfldV rfl k2 T.cl_Leaping T.n_Leaping_s2_every rfl rfl fun H3 m3 k3 => ?_
    walk_at "rd"
    exact q H3 (fun c o h n => by walk_at "hp") k3
def spEvery (C : Addr) : Sp := fun vs H Q _ => ∃ (p dx : Addr) (x : Int) (e : Nat), vs = [.ref p] ∧ H p = some (LeapO C dx x e) ∧ Q (.int (e : Int)) H
theorem u_every {C p dx : Addr} {x : Int} {e : Nat} {H : Hp} {Q : VK} {E : XK} (h : H p = some (LeapO C dx x e)) (q : Q (.int (e : Int)) H) : spEvery C [.ref p] H Q E := ⟨p, dx, x, e, rfl, h, q⟩
theorem prop_Leaping_every (T : Txt K mg C_Linear C_Leaping C_Shortage C_NoRow) : Gx.PrpC P w K mg base 1 C_Leaping "every" (spEvery C_Leaping) := by
  obtain ⟨pp, f, fd, pr, F, b⟩ := T.d_Leaping_every
  refine Gx.prp0 T.cl_Leaping pr F b sc_Leaping_every (fun vs H Q E h => ?_) (fun cdv A outer s H vs Q E hr h => ?_)
  · obtain ⟨p, dx, x, e, rfl, _⟩ := h; rfl
  · obtain ⟨p, dx, x, e, rfl, hp, q⟩ := h
    have hu := hu_of hr
    have hu64 := hr.units
    have cl_Linear := T.cl_Linear
    have n_Linear_s2_x := T.n_Linear_s2_x
    have cl_Leaping := T.cl_Leaping
    have n_Leaping_s2_leap_x := T.n_Leaping_s2_leap_x
    have n_Leaping_s2_every := T.n_Leaping_s2_every
    refine ⟨_, (pss_one (ps_ret (pe_fld (pv 0) rfl))), ?_⟩
    walk_at "rd"
    exact q
def spPeriod (C : Addr) : Sp := fun vs H Q _ => ∃ (p dx : Addr) (x : Int) (e : Nat), vs = [.ref p] ∧ H p = some (LeapO C dx x e) ∧ 0 < e ∧ Q (.int (2 ^ (48 - ML.tw e))) H
theorem u_period {C p dx : Addr} {x : Int} {e : Nat} {H : Hp} {Q : VK} {E : XK} (h : H p = some (LeapO C dx x e)) (he : 0 < e) (q : Q (.int (2 ^ (48 - ML.tw e))) H) : spPeriod C [.ref p] H Q E := ⟨p, dx, x, e, rfl, h, he, q⟩
theorem per_eq {t : Nat} (h : t ≤ 48) : (281474976710656 : Int) / ((2 ^ t : Nat) : Int) = 2 ^ (48 - t) := by
  rw [show (281474976710656 : Int) = ((2 ^ (48 - t) * 2 ^ t : Nat) : Int) by rw [← Nat.pow_add, show 48 - t + t = 48 by omega]; rfl, ← Int.natCast_ediv, Nat.mul_div_cancel _ (Nat.two_pow_pos t)]
  push_cast; rfl
theorem pow_pos' (t : Nat) : 0 < ((2 ^ t : Nat) : Int) := by have := Nat.two_pow_pos t; omega
theorem prop_Leaping_period (T : Txt K mg C_Linear C_Leaping C_Shortage C_NoRow) : Gx.PrpC P w K mg base 2 C_Leaping "period" (spPeriod C_Leaping) := by
  obtain ⟨pp, f, fd, pr, F, b⟩ := T.d_Leaping_period
  refine Gx.prp0 T.cl_Leaping pr F b sc_Leaping_period (fun vs H Q E h => ?_) (fun cdv A outer s H vs Q E hr h => ?_)
  · obtain ⟨p, dx, x, e, rfl, _⟩ := h; rfl
  · obtain ⟨p, dx, x, e, rfl, hp, he, q⟩ := h
    have hu := hu_of hr
    have hu64 := hr.units
    have cl_Linear := T.cl_Linear
    have n_Linear_s2_x := T.n_Linear_s2_x
    have cl_Leaping := T.cl_Leaping
    have n_Leaping_s2_leap_x := T.n_Leaping_s2_leap_x
    have n_Leaping_s2_every := T.n_Leaping_s2_every
    refine ⟨_, (pss_one (ps_ret (pe_op op_fdivW (C8.pe_gc (by rfl) T.c_MODULUS) (C8.pe_c (cal_s2_twos T) hr (by omega) (by rfl) (pa_cons (pe_fld (pv 0) rfl) pa_nil))))), ?_⟩
    walk_at "rd"
    refine u_twos he ?_
    have ht := (ML.tw_le e he).1
    have hp48 : ((2 ^ ML.tw e : Nat) : Int) ≤ 281474976710656 := by
      have : (2 : Nat) ^ ML.tw e ≤ 2 ^ 48 := Nat.pow_le_pow_right (by decide) ht
      rw [show (2 : Nat) ^ 48 = 281474976710656 by decide] at this
      omega
    have hp0 := pow_pos' (ML.tw e)
    walk_at "rd"
    rw [per_eq ht]
    exact q
def spAfter (C : Addr) : Sp := fun vs H Q _ => ∃ (p dx : Addr) (x n : Int) (e : Nat), vs = [.ref p, .int n] ∧ (H p = some (LeapO C dx x e) ∧ (0 ≤ x ∧ x < 281474976710656) ∧ (0 ≤ n ∧ n ≤ 18446744073709551616) ∧ e ≤ 18446744073709551616) ∧ ∀ H', Rd.Ex H H' → Q (.int (ML.mv (n * e % 281474976710656).toNat x)) H'
theorem u_after {C p dx : Addr} {x n : Int} {e : Nat} {H : Hp} {Q : VK} {E : XK} (h : H p = some (LeapO C dx x e) ∧ (0 ≤ x ∧ x < 281474976710656) ∧ (0 ≤ n ∧ n ≤ 18446744073709551616) ∧ e ≤ 18446744073709551616) (q : ∀ H', Rd.Ex H H' → Q (.int (ML.mv (n * e % 281474976710656).toNat x)) H') :
    spAfter C (.ref p :: ([.int n] ++ [])) H Q E := ⟨p, dx, x, n, e, rfl, h, q⟩
theorem met_Leaping_s2_after (T : Txt K mg C_Linear C_Leaping C_Shortage C_NoRow) : C8.Met P w K mg base 4 C_Leaping "s2_after" (spAfter C_Leaping) [] := by
  obtain ⟨f, fd, M, F, b⟩ := T.d_Leaping_s2_after
  refine C8.met0 T.cl_Leaping M F b sc_Leaping_s2_after (fun vs H Q E h => ?_) (fun cdv A outer s H vs Q E hr h => ?_)
  · obtain ⟨p, dx, x, n, e, rfl, _⟩ := h; rfl
  · obtain ⟨p, dx, x, n, e, rfl, ⟨hp, hx, hn, he⟩, q⟩ := h
    have hu := hu_of hr
    have hu64 := hr.units
    have cl_Linear := T.cl_Linear
    have n_Linear_s2_x := T.n_Linear_s2_x
    have cl_Leaping := T.cl_Leaping
    have n_Leaping_s2_leap_x := T.n_Leaping_s2_leap_x
    have n_Leaping_s2_every := T.n_Leaping_s2_every
    refine ⟨_, (pss_one (ps_ret (C8.pe_c (cal_s2_moved T) hr (by omega) (by rfl) (pa_cons (pe_fld (pv 0) rfl) (pa_cons (pe_op op_mulW (pv 1) (pe_fld (pv 0) rfl)) pa_nil))))), ?_⟩
    walk_at "rd"
    refine Pr.u_moved hx fun H1 e1 => ?_
    exact q H1 e1
def spState2 (C : Addr) : Sp := fun vs H Q _ => ∃ (p dx : Addr) (x : Int) (e : Nat), vs = [.ref p] ∧ H p = some (LeapO C dx x e) ∧ ∀ t H', H t = none → Rd.Ex H H' → H' t = some (.tup [.int x, .int (e : Int)]) → Q (.ref t) H'
theorem u_state2 {C p dx : Addr} {x : Int} {e : Nat} {H : Hp} {Q : VK} {E : XK} (h : H p = some (LeapO C dx x e)) (q : ∀ t H', H t = none → Rd.Ex H H' → H' t = some (.tup [.int x, .int (e : Int)]) → Q (.ref t) H') : spState2 C [.ref p] H Q E := ⟨p, dx, x, e, rfl, h, q⟩
theorem prop_Leaping_state (T : Txt K mg C_Linear C_Leaping C_Shortage C_NoRow) : Gx.PrpC P w K mg base 1 C_Leaping "state" (spState2 C_Leaping) := by
  obtain ⟨pp, f, fd, pr, F, b⟩ := T.d_Leaping_state
  refine Gx.prp0 T.cl_Leaping pr F b sc_Leaping_state (fun vs H Q E h => ?_) (fun cdv A outer s H vs Q E hr h => ?_)
  · obtain ⟨p, dx, x, e, rfl, _⟩ := h; rfl
  · obtain ⟨p, dx, x, e, rfl, hp, q⟩ := h
    have hu := hu_of hr
    have hu64 := hr.units
    have cl_Linear := T.cl_Linear
    have n_Linear_s2_x := T.n_Linear_s2_x
    have cl_Leaping := T.cl_Leaping
    have n_Leaping_s2_leap_x := T.n_Leaping_s2_leap_x
    have n_Leaping_s2_every := T.n_Leaping_s2_every
    refine ⟨_, (pss_one (ps_ret (pe_tup (pa_cons (pe_fld (pv 0) rfl) (pa_cons (pe_fld (pv 0) rfl) pa_nil))))), ?_⟩
    walk_at "rd"
    exact Au.new q
def spAhead2 (C : Addr) : Sp := fun vs H Q _ => ∃ (p dx : Addr) (x n : Int) (e : Nat), vs = [.ref p, .int n] ∧ (H p = some (LeapO C dx x e) ∧ (0 ≤ x ∧ x < 281474976710656) ∧ (0 ≤ n ∧ n ≤ 18446744073709551616) ∧ (1 ≤ e ∧ e ≤ 18446744073709551616)) ∧
  ∀ p' dx' H', H p' = none → Rd.Ex H H' → H' p' = some (LeapO C dx' (ML.mv (n * e % 281474976710656).toNat x) e) → Q (.ref p') H'
theorem u_ahead2 {C p dx : Addr} {x n : Int} {e : Nat} {H : Hp} {Q : VK} {E : XK} (h : H p = some (LeapO C dx x e) ∧ (0 ≤ x ∧ x < 281474976710656) ∧ (0 ≤ n ∧ n ≤ 18446744073709551616) ∧ (1 ≤ e ∧ e ≤ 18446744073709551616))
    (q : ∀ p' dx' H', H p' = none → Rd.Ex H H' → H' p' = some (LeapO C dx' (ML.mv (n * e % 281474976710656).toNat x) e) → Q (.ref p') H') : spAhead2 C (.ref p :: ([.int n] ++ [])) H Q E := ⟨p, dx, x, n, e, rfl, h, q⟩
theorem met_Leaping_ahead (T : Txt K mg C_Linear C_Leaping C_Shortage C_NoRow) : C8.Met P w K mg base 6 C_Leaping "ahead" (spAhead2 C_Leaping) [] := by
  obtain ⟨f, fd, M, F, b⟩ := T.d_Leaping_ahead
  refine C8.met0 T.cl_Leaping M F b sc_Leaping_ahead (fun vs H Q E h => ?_) (fun cdv A outer s H vs Q E hr h => ?_)
  · obtain ⟨p, dx, x, n, e, rfl, _⟩ := h; rfl
  · obtain ⟨p, dx, x, n, e, rfl, ⟨hp, hx, hn, he⟩, q⟩ := h
    have hu := hu_of hr
    have hu64 := hr.units
    have cl_Linear := T.cl_Linear
    have n_Linear_s2_x := T.n_Linear_s2_x
    have cl_Leaping := T.cl_Leaping
    have n_Leaping_s2_leap_x := T.n_Leaping_s2_leap_x
    have n_Leaping_s2_every := T.n_Leaping_s2_every
    refine ⟨_, (pss_cons (ps_expr (C8.pe_c (cal_need_steps T) hr (by omega) (by rfl) (pa_cons (pv 1) pa_nil)))
      (pss_one (ps_ret (C8.pe_mk (mak_Leaping T) hr (by omega) (by rfl) (pa_cons (C8.pe_mt (met_Leaping_s2_after T) hr (by omega) (pv 0) (pa_cons (pv 1) pa_nil)) (pa_cons (pe_fld (pv 0) rfl) pa_nil)))))), ?_⟩
    walk_at "rd"
    refine u_after ⟨hp, hx, hn, he.2⟩ fun H1 e1 => ?_
    have r := ML.mv_rng (n * e % 281474976710656).toNat x
    walk_at "rd"
    exact u_leap ⟨r.1, r.2, he⟩ fun p' dx' H2 hn e2 l => q p' dx' H2 (e1.free hn) (e1.trans e2) l
end
end Pf

set_option Elab.async false
set_option linter.all false
set_option maxRecDepth 100000
set_option maxHeartbeats 4000000
namespace Pf
open PySem PySem.Spec PyProof.Rows L2
section
variable {P : Program} {w : World} {K : PySem.W.Frag} {mg : Str → Option Value} {base : Heap} {C_Linear C_Leaping C_Shortage C_NoRow : Addr}
local macro_rules | `(tactic| walk_at "side") => `(tactic| first | ((with_reducible show L2.CMul _ _); first | exact Or.inl ⟨by omega, by omega⟩ | exact Or.inr ⟨by omega, by omega⟩) | ((with_reducible show L2.CPow _ _); exact ⟨by decide, by decide, by decide⟩) | ((with_reducible show L2.CMulW _ _); exact wide_mul (a := 96) (b := 96) (by omega) (by omega) (by decide) (by decide) (by decide)) | ((with_reducible show L2.CDivW _ _); exact wide_div (b := 96) (by omega) (by omega) (by decide) (by decide)) | (show (0 : Int) < _; omega) | (show (0 : Int) ≤ _; omega))
local macro_rules | `(tactic| walk_at "rd1") => `(tactic| first | with_reducible refine Rd.seq ?_ | with_reducible refine Rd.asg ?_ | with_reducible refine Rd.nm ?_ | with_reducible refine Rd.ret ?_ | with_reducible refine Rd.drop ?_ | with_reducible refine Rd.ifs ?_ | with_reducible refine Rd.par ?_ | with_reducible refine Rd.par3 ?_ | with_reducible refine Rd.next ?_ | with_reducible refine Rd.fr1 ?_ | with_reducible refine Rd.nxp ?_ | with_reducible refine Rd.rtp ?_ | ((with_reducible show tVar _ _ _ _); refine Rd.var rfl ?_) | with_reducible refine Rd.cst ?_ | with_reducible refine Rd.op ?_ | with_reducible refine Rd.un ?_ | with_reducible refine Rd.i0 ?_ | with_reducible refine Rd.ung ?_ | with_reducible refine Rd.eqI ?_ | with_reducible refine Rd.neI ?_ | with_reducible refine Rd.eqS ?_ | with_reducible refine Rd.neS ?_ | with_reducible refine Rd.test ?_ | with_reducible refine Rd.tstB ?_ | with_reducible refine Rd.isB ?_ | with_reducible refine Rd.not ?_ | with_reducible refine Rd.andT ?_ | with_reducible refine Rd.orT ?_ | with_reducible refine Rd.andV ?_ | with_reducible refine Rd.orV ?_ | with_reducible refine Rd.notV ?_ | with_reducible refine Rd.ifE ?_ | with_reducible refine Rd.chain ?_ | with_reducible refine Rd.nil ?_ | with_reducible refine Rd.cons ?_ | with_reducible refine Rd.call ?_ | with_reducible refine Rd.cb ?_ | with_reducible refine Rd.bm ?_ | with_reducible refine Au.revL ?_ | with_reducible refine Rd.frl ?_ | with_reducible refine Rd.frt ?_ | with_reducible refine Rd.fre ?_ | with_reducible refine Rd.disp ?_ | with_reducible refine Rd.pnil ?_ | with_reducible refine Rd.pcons ?_ | with_reducible refine Rd.gcons ?_ | with_reducible refine Rd.gnil ?_ | with_reducible refine Rd.gsub ?_ | with_reducible refine Rd.setD ?_ | ((with_reducible show gTup _ _ _ _ _ (upd _ _ (HO.tup _)) _); refine Rd.tupNew rfl ?_) | with_reducible refine Rd.fld ?_ | with_reducible refine Rd.meth ?_ | with_reducible refine Rd.make ?_ | with_reducible refine Rd.prop ?_ | with_reducible refine Au.tup ?_ | with_reducible refine Au.lst ?_ | ((with_reducible refine Au.lenOk ?hl ?_); (case hl => exact rfl)) | with_reducible refine Au.nopart ?_ | with_reducible refine Au.part ?_ | with_reducible refine Au.isI ?_ | with_reducible refine Au.sl ?_ | with_reducible refine Au.pr2 ?_ | with_reducible refine Au.pr3 ?_ | with_reducible refine Au.eqB ?_ | with_reducible refine Rd.isInt ?_ | with_reducible refine Rd.isBool ?_ | with_reducible refine Rd.mx2 ?_ | with_reducible refine Rd.mn2 ?_ | ((with_reducible show Rd.rAndM _ _ _ _); first | refine Rd.and1 ?_ | refine Rd.and48 ?_ | refine Rd.and32 ?_ | refine Rd.and64 ?_ | refine Rd.and65 ?_) | ((with_reducible refine Rd.iC ?hc ?_); (case hc => walk_at "side")) | ((with_reducible refine Rd.yes ?hc ?_); (case hc => omega)) | ((with_reducible refine Rd.no ?hc ?_); (case hc => omega)) | ((with_reducible refine Rd.noN ?hc ?_); (case hc => omega)) | ((with_reducible refine Rd.yesN ?hc ?_); (case hc => omega)) | ((with_reducible refine Rd.yesNN ?hc ?_); (case hc => omega)) | ((with_reducible refine Rd.noNN ?hc ?_); (case hc => omega)) | with_reducible refine iteT ?_ | with_reducible refine iteF ?_ | with_reducible refine Rd.iteNT ?_ | with_reducible refine Rd.iteNF ?_)
local macro_rules | `(tactic| walk_at "rd") => `(tactic| repeat (walk_at "rd1"))
local macro_rules | `(tactic| walk_at "hp") => `(tactic| first | assumption | (apply Au.sm; (focus assumption); (walk_at "hp")) | (apply Au.smp; (focus assumption); (focus (walk_at "hp")); (walk_at "ne")) | (apply Au.smn; (focus assumption); (focus (walk_at "hp")); (focus (intro _ z; cases z; done))) | fail "hp")
local macro_rules | `(tactic| walk_at "ne") => `(tactic| first | assumption | (apply Ne.symm; assumption) | (apply Au.nen; (focus assumption); (walk_at "hp")) | (apply Au.nen'; (focus assumption); (walk_at "hp")) | (apply Au.nek; (focus assumption); (focus assumption); (intro z; cases z; done)) | (apply Au.nek2; (focus assumption); (focus (walk_at "hp")); (intro z; cases z; done)) | fail "ne")
local macro_rules | `(tactic| walk_at "dp") => `(tactic| first | exact Dp.int _ | exact Dp.str _ | exact Dp.bl _ | exact Dp.non | (apply Dp.lst; (focus (apply Rd.sql; walk_at "hp")); (walk_at "dps")) | (apply Dp.tup; (focus (apply Rd.sqt; walk_at "hp")); (walk_at "dps")) | fail "dp")
local macro_rules | `(tactic| walk_at "dps") => `(tactic| first | exact DpAll.nil | (apply DpAll.cons; (focus (walk_at "dp")); (walk_at "dps")) | fail "dps")
local macro_rules | `(tactic| walk_at "shp") => `(tactic| ((simp only [SeqAt.shaped, PyData.canLay0, PyData.canLayAll0, PyData.depth, PyData.depthAll]) <;> first | decide | rfl))
local macro_rules | `(tactic| walk_at "sd") => `(tactic| first | assumption | rfl | omega | (walk_at "hp") | (refine ⟨?_, ?_⟩; (focus (walk_at "sd")); (walk_at "sd")) | fail "sd")
local macro_rules | `(tactic| walk_at "lk") => `(tactic| first | exact Rd.lk1 | rfl | decide +kernel)
local macro_rules | `(tactic| walk_at "rd1") => `(tactic| first | with_reducible refine Pr.dget ?_ | with_reducible refine Pr.dput ?_ | with_reducible refine Pr.sfld ?_ | with_reducible refine Pr.u_isInt ?_ | ((with_reducible show Pr.spNeed _ _ _ _ _ _); refine Pr.u_need (by omega) (by omega) ?_) | ((with_reducible show Pr.spIs _ _ _ _ _ _); refine Pr.u_isIn (by omega) ?_) | ((with_reducible apply Rd.fld1); (focus (walk_at "hp")); (focus assumption); (focus assumption); (focus (walk_at "lk"))) | ((with_reducible apply Au.methO); (focus (walk_at "hp")); (focus (walk_at "lk"))) | ((with_reducible apply Au.propO); (focus (walk_at "hp"))) | ((with_reducible show rIxT _ (V.ref _) (V.int _) _ _); refine Rd.ixT (Rd.sqt (by walk_at "hp")) rfl ?_) | ((with_reducible show rIxL _ (V.ref _) (V.int _) _ _); refine Rd.ixL (Rd.sql (by walk_at "hp")) rfl ?_) | ((with_reducible show Rd.rLenQ _ [V.ref _] _ _); first | refine Rd.lenL (Rd.sql (by walk_at "hp")) ?_ | refine Rd.lenT (Rd.sqt (by walk_at "hp")) ?_) | ((with_reducible show gTup _ _ _ (V.ref _) _ _ _); refine Rd.gtup (Rd.sqt (by walk_at "hp")) rfl ?_) | with_reducible refine Gx.gat ?_ | with_reducible refine Gx.gnx ?_ | with_reducible refine Gx.gthen ?_ | with_reducible refine Gx.gplain ?_ | with_reducible refine Gx.gfr ?_ | with_reducible refine Gx.lg ?_ | with_reducible refine Gx.mg ?_ | with_reducible refine Gx.sme ?_ | with_reducible refine Gx.callSD ?_ | with_reducible refine Gx.methSD ?_)
local macro_rules | `(tactic| walk_at "hp") => `(tactic| first | assumption | (apply smb; (focus assumption); (focus (walk_at "hp")); (focus assumption); assumption) | (apply smbK; (focus assumption); (focus (walk_at "hp")); (focus (walk_at "dr")); (constructor <;> (intro _ z; cases z; done))) | (apply smbN; (focus assumption); (focus (walk_at "hp")); (focus assumption); (walk_at "dr")))
local macro_rules | `(tactic| walk_at "dr") => `(tactic| first | assumption | (apply Draw.ex; (focus assumption); (walk_at "dr")) | (apply Draw.exp; (focus assumption); (focus (walk_at "dr")); (focus (walk_at "nd"))) | fail "dr")
local macro_rules | `(tactic| walk_at "nd") => `(tactic| first | assumption | (apply ndN; (focus assumption); (walk_at "dr")) | fail "nd")
/-- a source of either class with this x -/
def SrcX (C1 C2 : Addr) (H : Hp) (o : Addr) (y : Int) : Prop := (∃ dx e, H o = some (LeapO C2 dx y e)) ∨ ∃ dx, H o = some (Pr.LinO C1 dx y)
theorem SrcX.ex {C1 C2 o : Addr} {H H' : Hp} {y : Int} (e : Rd.Ex H H') (h : SrcX C1 C2 H o y) : SrcX C1 C2 H' o y := by
  rcases h with ⟨dx, v, h⟩ | ⟨dx, h⟩
  · exact .inl ⟨dx, v, e _ _ h⟩
  · exact .inr ⟨dx, e _ _ h⟩
def spXof (C1 C2 : Addr) : Sp := fun vs H Q _ => ∃ (o : Addr) (y : Int), vs = [.ref o] ∧ SrcX C1 C2 H o y ∧ Q (.int y) H
theorem cal_s2_x_of (T : Txt K mg C_Linear C_Leaping C_Shortage C_NoRow) : C8.Cal P w K mg base 6 "s2_x_of" (spXof C_Linear C_Leaping) [] := by
  obtain ⟨f, fd, F, b⟩ := T.d_s2_x_of
  refine C8.cal0 F b .nil sc_s2_x_of (fun vs H Q E h => ?_) (fun cdv A outer s H vs Q E hr h => ?_)
  · obtain ⟨o, y, rfl, _⟩ := h; rfl
  · obtain ⟨o, y, rfl, h, q⟩ := h
    have hu := hu_of hr
    have hu64 := hr.units
    have cl_Linear := T.cl_Linear
    have n_Linear_s2_x := T.n_Linear_s2_x
    have cl_Leaping := T.cl_Leaping
    have n_Leaping_s2_leap_x := T.n_Leaping_s2_leap_x
    have n_Leaping_s2_every := T.n_Leaping_s2_every
    refine ⟨_, (pss_one (ps_ret (pe_ifExp (pt_val (pe_callB call_isi (by rfl) T.b_isinstance (by decide +kernel) (pa_cons (pv 0) (pa_cons (C8.pe_gc (by rfl) T.k_Leaping) pa_nil)))) (pe_fld (pv 0) rfl) (pe_fld (pv 0) rfl)))), ?_⟩
    walk_at "rd"
    rcases h with ⟨dx, e, h⟩ | ⟨dx, h⟩
    · refine Rd.isOwn T.is_Leaping h ?_
      walk_at "rd"
      exact q
    · refine Gx.isOwnB T.is_Linear h T.o_Linear_Leaping ?_
      walk_at "rd"
      exact q
def spLeaps (C1 C2 CE : Addr) : Sp := fun vs H Q E => ∃ (p dx o : Addr) (x y : Int) (e : Nat), vs = [.ref p, .ref o] ∧
  (H p = some (LeapO C2 dx x e) ∧ SrcX C1 C2 H o y ∧ (0 ≤ x ∧ x < 281474976710656) ∧ (0 ≤ y ∧ y < 281474976710656) ∧ (1 ≤ e ∧ e ≤ 18446744073709551616)) ∧
  (∀ (H' : Hp) (r : Int) (n : Nat), Rd.Ex H H' → n < 281474976710656 → ML.mv n x = y → 2 ^ ML.tw e ∣ n → 0 ≤ r → r < 2 ^ (48 - ML.tw e) → (281474976710656 : Int) ∣ (e : Int) * r - n → Q (.int r) H') ∧
  (∀ (H' : Hp) (d : Addr) (n : Nat), Rd.Ex H H' → H d = none → H' d = some (.xd [("given", .int (n : Int))]) → n < 281474976710656 → ML.mv n x = y → ¬ 2 ^ ML.tw e ∣ n → E (.ref CE) (some d) H')
theorem dvd_iff {n t : Nat} : (n : Int) % 2 ^ t = 0 ↔ 2 ^ t ∣ n := by
  rw [show ((2 : Int) ^ t) = ((2 ^ t : Nat) : Int) by push_cast; rfl]
  constructor
  · intro h; exact Int.natCast_dvd_natCast.mp (Int.dvd_of_emod_eq_zero h)
  · intro h; exact Int.emod_eq_zero_of_dvd (Int.natCast_dvd_natCast.mpr h)
theorem calx_leaps (T : Txt K mg C_Linear C_Leaping C_Shortage C_NoRow) : Gx.CalX P w K mg base 8 "leaps" (spLeaps C_Linear C_Leaping C_NoRow) := by
  obtain ⟨f, fd, F, b⟩ := T.d_leaps
  refine Gx.calX F b sc_leaps (fun vs H Q E h => ?_) (fun cdv A outer s H vs Q E hr h => ?_)
  · obtain ⟨p, dx, o, x, y, e, rfl, _⟩ := h; rfl
  · obtain ⟨p, dx, o, x, y, e, rfl, ⟨hp, ho, hx, hy, he⟩, q1, q2⟩ := h
    have hu := hu_of hr
    have hu64 := hr.units
    have cl_Linear := T.cl_Linear
    have n_Linear_s2_x := T.n_Linear_s2_x
    have cl_Leaping := T.cl_Leaping
    have n_Leaping_s2_leap_x := T.n_Leaping_s2_leap_x
    have n_Leaping_s2_every := T.n_Leaping_s2_every
    refine ⟨_, (pss_cons (ps_if (pt_not (pt_val (pe_callB call_isi (by rfl) T.b_isinstance (by decide +kernel) (pa_cons (pv 0) (pa_cons (C8.pe_gc (by rfl) T.k_Leaping) pa_nil))))) (pss_one ps_never) pss_nil)
      (pss_cons (ps_if (pt_not (pt_val (pe_callB call_isiT (by rfl) T.b_isinstance (by decide +kernel) (pa_cons (pv 1) (pa_cons (pe_tup (pa_cons (C8.pe_gc (by rfl) T.k_Leaping) (pa_cons (C8.pe_gc (by rfl) T.k_Linear) pa_nil))) pa_nil))))) (pss_one ps_never) pss_nil)
      (pss_cons (ps_par (i := 2) (j := 3) rfl sc_leaps.nd rfl rfl (by decide) rfl rfl (pa_cons (C8.pe_c (cal_s2_distance T) hr (by omega) (by rfl) (pa_cons (pe_fld (pv 0) rfl) (pa_cons (C8.pe_c (cal_s2_x_of T) hr (by omega) (by rfl) (pa_cons (pv 1) pa_nil)) pa_nil))) (pa_cons (C8.pe_c (cal_s2_twos T) hr (by omega) (by rfl) (pa_cons (pe_fld (pv 0) rfl) pa_nil)) pa_nil)) (by rfl))
      (pss_cons (ps_if (pt_cmpR op_ne (pe_op Rd.op_andM (pv 2) (pe_op op_sub (pv 3) pe_int)) pe_int (nomark _)) (pss_one (ps_raise rfl Gx.takes_cx (Gx.pmk_exY (exc_NoRow T) hr (by omega) (by rfl) (pa_cons (pv 2) pa_nil)))) pss_nil)
      (pss_cons (ps_set (i := 4) sc_leaps.nd rfl (.inl rfl) (pe_op op_fdivW (pe_fld (pv 0) rfl) (pv 3)))
      (pss_cons (ps_set (i := 5) sc_leaps.nd rfl (.inl rfl) (pv 4))
      (pss_cons (ps_for (passes_of rfl) rfl (pi_range1 rfl T.b_range (pa_cons pe_int pa_nil)) (pg_name (i := 6) sc_leaps.nd rfl (.inl rfl)) (pss_one (ps_set (i := 5) sc_leaps.nd rfl (.inl rfl) (pe_op Rd.op_andM (pe_op op_mul (pv 5) (pe_op op_sub pe_int (pe_op op_mul (pv 4) (pv 5)))) (pe_op op_sub (C8.pe_gc (by rfl) T.c_MODULUS) pe_int)))))
      (pss_one (ps_ret (pe_op Rd.op_andM (pe_op op_mul (pe_op op_fdivW (pv 2) (pv 3)) (pv 5)) (pe_op op_sub (pe_op op_fdivW (C8.pe_gc (by rfl) T.c_MODULUS) (pv 3)) pe_int))))))))))), ?_⟩
    walk_at "rd"
    have he0 : 0 < e := he.1
    obtain ⟨t48, tdvd, todd⟩ := ML.tw_le e he0
    refine Rd.isOwn T.is_Leaping hp ?_
    walk_at "rd"
    refine Au.new fun tp H1 htp e1 k1 => ?_
    walk_at "rd"
    have ho1 := ho.ex e1
    have kL : PySem.W.kitAny K (.ref C_Leaping) [.ref C_Leaping, .ref C_Linear] = some true := by
      unfold PySem.W.kitAny; rw [Rd.kit_self]
    have kN : PySem.W.kitAny K (.ref C_Linear) [.ref C_Leaping, .ref C_Linear] = some true := by
      unfold PySem.W.kitAny; rw [T.o_Linear_Leaping]; unfold PySem.W.kitAny; rw [Rd.kit_self]
    have step : ∀ Q : VK, Q (.bl true) H1 → rIsiT K [.ref o, .ref tp] H1 Q := fun Q h => by
      rcases ho1 with ⟨dy, v, z⟩ | ⟨dy, z⟩
      · exact Gx.isTupYes T.is_Leaping k1 z kL h
      · exact Gx.isTupYes T.is_Linear k1 z kN h
    refine step _ ?_
    walk_at "rd"
    refine ⟨o, y, rfl, ho1, ?_⟩
    walk_at "rd"
    refine Pr.u_dist0 ⟨hx.1, hx.2, hy.1, hy.2⟩ fun H2 n e2 hn mn => ?_
    walk_at "rd"
    refine u_twos he0 ?_
    walk_at "rd"
    have pw : ((2 ^ ML.tw e : Nat) : Int) = 2 ^ ML.tw e := by push_cast; rfl
    refine Rd.andM (ML.tw e) (by rw [pw]) ?_
    walk_at "rd"
    refine Rd.bothN (fun c => ?_) (fun c => ?_)
    · walk_at "rd"
      refine ⟨_, rfl, Gx.mkY fun d H3 hd e3 k3 => ?_⟩
      refine q2 H3 d n (fun c o h => by walk_at "hp") ((e1.trans e2).free hd) k3 hn mn fun z => c (dvd_iff.mpr z)
    · have hd := dvd_iff.mp c
      have hp0 := pow_pos' (ML.tw e)
      have hp48 : ((2 ^ ML.tw e : Nat) : Int) ≤ 281474976710656 := by
        have : (2 : Nat) ^ ML.tw e ≤ 2 ^ 48 := Nat.pow_le_pow_right (by decide) t48
        rw [show (2 : Nat) ^ 48 = 281474976710656 by decide] at this
        omega
      walk_at "rd"
      rw [← Int.natCast_ediv]
      have ob : e / 2 ^ ML.tw e < 18446744073709551616 := by
        by_cases z : ML.tw e = 0
        · have h1 := todd (by omega)
          rw [z, Nat.pow_zero, Nat.div_one] at h1 ⊢
          omega
        · have : 2 ^ 1 ≤ 2 ^ ML.tw e := Nat.pow_le_pow_right (by decide) (by omega)
          have h2 : e / 2 ^ ML.tw e ≤ e / 2 := Nat.div_le_div_left this (by decide)
          omega
      have eo : (e : Int) = 2 ^ ML.tw e * ((e / 2 ^ ML.tw e : Nat) : Int) := by
        rw [← pw, ← Int.natCast_mul, Nat.mul_div_cancel' tdvd]
      have en : (n : Int) = 2 ^ ML.tw e * ((n / 2 ^ ML.tw e : Nat) : Int) := by
        rw [← pw, ← Int.natCast_mul, Nat.mul_div_cancel' hd]
      have oo : ML.tw e < 48 → ((e / 2 ^ ML.tw e : Nat) : Int) % 2 = 1 := fun z => by have := todd z; omega
      have O0 : 0 ≤ ((e / 2 ^ ML.tw e : Nat) : Int) := Int.natCast_nonneg _
      have O1 : ((e / 2 ^ ML.tw e : Nat) : Int) < 18446744073709551616 := by omega
      generalize hO : ((e / 2 ^ ML.tw e : Nat) : Int) = O at *
      refine Rd.frN (n := 6) rfl (by decide) (fun i σ' H' => ∃ y7, σ' = [some (.ref p), some (.ref o), some (.int n), some (.int (2 ^ ML.tw e : Nat)), some (.int O), some (.int (ML.nwt O i)), y7] ∧ Rd.Ex H H' ∧ H' p = some (LeapO C_Leaping dx x e) ∧ 0 ≤ ML.nwt O i ∧ ML.nwt O i < 18446744073709551616) ⟨none, rfl, fun c o h => by walk_at "hp", by walk_at "hp", O0, O1⟩ ?_ ?_
      · rintro i σ' H3 hi ⟨y7, rfl, e3, hp3, f0, f1⟩
        walk_at "rd"
        exact ⟨_, rfl, e3, hp3, by show 0 ≤ ML.nwt O i * (2 - O * ML.nwt O i) % 281474976710656; omega, by show ML.nwt O i * (2 - O * ML.nwt O i) % 281474976710656 < 18446744073709551616; omega⟩
      · rintro σ' H3 ⟨y7, rfl, e3, hp3, f0, f1⟩
        walk_at "rd"
        rw [per_eq t48]
        refine Rd.andM (48 - ML.tw e) rfl ?_
        rw [← Int.natCast_ediv]
        walk_at "rd"
        have hpp : (0 : Int) < 2 ^ (48 - ML.tw e) := Int.pow_pos (by decide)
        refine q1 H3 _ n e3 hn mn hd (Int.emod_nonneg _ (by omega)) (Int.emod_lt_of_pos _ hpp) ?_
        rw [eo, en]
        exact ML.leap_ok t48 fun z => ML.nwt_inv (oo z)
/-! ### the law's own -/
theorem cal__law_x (T : Txt K mg C_Linear C_Leaping C_Shortage C_NoRow) : C8.Cal P w K mg base 2 "_law_x" (spPick 281474976710655) [] := by
  obtain ⟨f, fd, F, b⟩ := T.d__law_x
  refine C8.cal0 F b .nil sc__law_x (fun vs H Q E h => ?_) (fun cdv A outer s H vs Q E hr h => ?_)
  · obtain ⟨d, g, rfl, _⟩ := h; rfl
  · obtain ⟨d, g, rfl, D, q⟩ := h
    have hu := hu_of hr
    have hu64 := hr.units
    have cl_Linear := T.cl_Linear
    have n_Linear_s2_x := T.n_Linear_s2_x
    have cl_Leaping := T.cl_Leaping
    have n_Leaping_s2_leap_x := T.n_Leaping_s2_leap_x
    have n_Leaping_s2_every := T.n_Leaping_s2_every
    refine ⟨_, (pss_cons (ps_set (i := 1) sc__law_x.nd rfl (.inl rfl) (C8.pe_c (cal__law_next T) hr (by omega) (by rfl) (pa_cons (pv 0) (pa_cons pe_int pa_nil))))
      (pss_cons (ps_set (i := 2) sc__law_x.nd rfl (.inl rfl) (pe_lst (pa_cons pe_int (pa_cons pe_int (pa_cons pe_int (pa_cons pe_int (pa_cons pe_int (pa_cons pe_int (pa_cons (pe_op op_sub (pv 1) (pe_op op_mod (pv 1) pe_int)) (pa_cons (pv 1) pa_nil))))))))))
      (pss_one (ps_ret (pe_ix ix_list (pv 2) (pe_ix ix_list (pe_lst (pa_cons pe_int (pa_cons pe_int (pa_cons pe_int (pa_cons pe_int (pa_cons pe_int (pa_cons pe_int (pa_cons pe_int (pa_cons pe_int (pa_cons pe_int (pa_cons pe_int (pa_cons pe_int (pa_cons pe_int pa_nil))))))))))))) (C8.pe_c (cal__law_next T) hr (by omega) (by rfl) (pa_cons (pv 0) (pa_cons pe_int pa_nil))) (fun _ _ => rfl)) (fun _ _ => rfl)))))), ?_⟩
    walk_at "rd"
    refine u_next (by decide) (by decide) D fun H1 v v0 v1 D1 x1 => ?_
    walk_at "rd"
    refine Au.new fun p H2 hp e2 k2 => ?_
    walk_at "rd"
    refine Au.new fun p2 H3 hp2 e3 k3 => ?_
    walk_at "rd"
    refine u_next (by decide) (by decide) (by walk_at "dr") fun H4 v' w0 w1 D4 x4 => ?_
    obtain ⟨j, x, ej, ex, h0, h1⟩ := pick_of [0, 1, 65535, 65536, 281474976710655, 140737488355328, v - v % 65536, v] 281474976710655 rfl (fun x hx => by
      simp only [List.mem_cons, List.not_mem_nil, or_false] at hx
      omega) w0 w1
    refine Rd.ixL (Rd.sql (by walk_at "hp")) ej ?_
    refine Rd.ixL (Rd.sql (by walk_at "hp")) ex ?_
    walk_at "rd"
    exact q H4 x h0 h1 D4 (fun c o h n1 n2 => by walk_at "hp")
theorem cal__law_steps (T : Txt K mg C_Linear C_Leaping C_Shortage C_NoRow) : C8.Cal P w K mg base 2 "_law_steps" (spPick 18446744073709551616) [] := by
  obtain ⟨f, fd, F, b⟩ := T.d__law_steps
  refine C8.cal0 F b .nil sc__law_steps (fun vs H Q E h => ?_) (fun cdv A outer s H vs Q E hr h => ?_)
  · obtain ⟨d, g, rfl, _⟩ := h; rfl
  · obtain ⟨d, g, rfl, D, q⟩ := h
    have hu := hu_of hr
    have hu64 := hr.units
    have cl_Linear := T.cl_Linear
    have n_Linear_s2_x := T.n_Linear_s2_x
    have cl_Leaping := T.cl_Leaping
    have n_Leaping_s2_leap_x := T.n_Leaping_s2_leap_x
    have n_Leaping_s2_every := T.n_Leaping_s2_every
    refine ⟨_, (pss_cons (ps_set (i := 1) sc__law_steps.nd rfl (.inl rfl) (C8.pe_c (cal__law_next T) hr (by omega) (by rfl) (pa_cons (pv 0) (pa_cons pe_int pa_nil))))
      (pss_cons (ps_set (i := 2) sc__law_steps.nd rfl (.inl rfl) (pe_lst (pa_cons pe_int (pa_cons pe_int (pa_cons pe_int (pa_cons pe_int (pa_cons pe_int (pa_cons pe_int (pa_cons pe_int (pa_cons (pv 1) pa_nil))))))))))
      (pss_one (ps_ret (pe_ix ix_list (pv 2) (pe_ix ix_list (pe_lst (pa_cons pe_int (pa_cons pe_int (pa_cons pe_int (pa_cons pe_int (pa_cons pe_int (pa_cons pe_int (pa_cons pe_int (pa_cons pe_int (pa_cons pe_int (pa_cons pe_int (pa_cons pe_int (pa_cons pe_int pa_nil))))))))))))) (C8.pe_c (cal__law_next T) hr (by omega) (by rfl) (pa_cons (pv 0) (pa_cons pe_int pa_nil))) (fun _ _ => rfl)) (fun _ _ => rfl)))))), ?_⟩
    walk_at "rd"
    refine u_next (by decide) (by decide) D fun H1 v v0 v1 D1 x1 => ?_
    walk_at "rd"
    refine Au.new fun p H2 hp e2 k2 => ?_
    walk_at "rd"
    refine Au.new fun p2 H3 hp2 e3 k3 => ?_
    walk_at "rd"
    refine u_next (by decide) (by decide) (by walk_at "dr") fun H4 v' w0 w1 D4 x4 => ?_
    obtain ⟨j, x, ej, ex, h0, h1⟩ := pick_of [0, 1, 2, 281474976710655, 281474976710656, 281474976710657, 18446744073709551616, v] 18446744073709551616 rfl (fun x hx => by
      simp only [List.mem_cons, List.not_mem_nil, or_false] at hx
      omega) w0 w1
    refine Rd.ixL (Rd.sql (by walk_at "hp")) ej ?_
    refine Rd.ixL (Rd.sql (by walk_at "hp")) ex ?_
    walk_at "rd"
    exact q H4 x h0 h1 D4 (fun c o h n1 n2 => by walk_at "hp")
def spEveryD : Sp := fun vs H Q _ => ∃ (d g : Addr), vs = [.ref d] ∧ Draw H d g ∧ ∀ (H' : Hp) (v : Nat), 1 ≤ v → v ≤ 18446744073709551616 → Draw H' d g → ExB d g H H' → Q (.int (v : Int)) H'
theorem cal__law_every (T : Txt K mg C_Linear C_Leaping C_Shortage C_NoRow) : C8.Cal P w K mg base 2 "_law_every" (spEveryD) [] := by
  obtain ⟨f, fd, F, b⟩ := T.d__law_every
  refine C8.cal0 F b .nil sc__law_every (fun vs H Q E h => ?_) (fun cdv A outer s H vs Q E hr h => ?_)
  · obtain ⟨d, g, rfl, _⟩ := h; rfl
  · obtain ⟨d, g, rfl, D, q⟩ := h
    have hu := hu_of hr
    have hu64 := hr.units
    have cl_Linear := T.cl_Linear
    have n_Linear_s2_x := T.n_Linear_s2_x
    have cl_Leaping := T.cl_Leaping
    have n_Leaping_s2_leap_x := T.n_Leaping_s2_leap_x
    have n_Leaping_s2_every := T.n_Leaping_s2_every
    refine ⟨_, (pss_cons (ps_set (i := 1) sc__law_every.nd rfl (.inl rfl) (pe_op op_add pe_int (pe_op op_mul pe_int (C8.pe_c (cal__law_next T) hr (by omega) (by rfl) (pa_cons (pv 0) (pa_cons pe_int pa_nil))))))
      (pss_one (ps_ret (pe_ix ix_list (pe_lst (pa_cons (pv 1) (pa_cons (pe_op op_mul (pv 1) (pe_op Rd.op_oneShl pe_int (C8.pe_c (cal__law_next T) hr (by omega) (by rfl) (pa_cons (pv 0) (pa_cons pe_int pa_nil))))) (pa_cons (pe_op Rd.op_oneShl pe_int (C8.pe_c (cal__law_next T) hr (by omega) (by rfl) (pa_cons (pv 0) (pa_cons pe_int pa_nil)))) (pa_cons pe_int pa_nil))))) (C8.pe_c (cal__law_next T) hr (by omega) (by rfl) (pa_cons (pv 0) (pa_cons pe_int pa_nil))) (fun _ _ => rfl))))), ?_⟩
    walk_at "rd"
    refine u_next (by decide) (by decide) D fun H1 o o0 o1 D1 x1 => ?_
    walk_at "rd"
    refine u_next (by decide) (by decide) D1 fun H2 a a0 a1 D2 x2 => ?_
    walk_at "rd"
    obtain ⟨a, rfl⟩ := Int.eq_ofNat_of_zero_le a0
    refine Rd.shl1 (by omega) ?_
    have pa : (2 : Int) ^ a ≤ 2 ^ 48 := by
      rw [show (2 : Int) ^ a = ((2 ^ a : Nat) : Int) by push_cast; rfl]
      exact Int.ofNat_le.mpr (Nat.pow_le_pow_right (by decide) (by omega))
    rw [show (2 : Int) ^ 48 = 281474976710656 by decide] at pa
    have pa0 : (0 : Int) < 2 ^ a := Int.pow_pos (by decide)
    walk_at "rd"
    refine u_next (by decide) (by decide) D2 fun H3 b b0 b1 D3 x3 => ?_
    walk_at "rd"
    obtain ⟨b, rfl⟩ := Int.eq_ofNat_of_zero_le b0
    refine Rd.shl1 (by omega) ?_
    have pb : (2 : Int) ^ b ≤ 2 ^ 64 := by
      rw [show (2 : Int) ^ b = ((2 ^ b : Nat) : Int) by push_cast; rfl]
      exact Int.ofNat_le.mpr (Nat.pow_le_pow_right (by decide) (by omega))
    rw [show (2 : Int) ^ 64 = 18446744073709551616 by decide] at pb
    have pb0 : (0 : Int) < 2 ^ b := Int.pow_pos (by decide)
    walk_at "rd"
    refine Au.new fun p H4 hp e4 k4 => ?_
    walk_at "rd"
    refine u_next (by decide) (by decide) (by walk_at "dr") fun H5 c c0 c1 D5 x5 => ?_
    have hpp : 0 < (1 + 2 * o) * 2 ^ a ∧ (1 + 2 * o) * 2 ^ a ≤ 65535 * 281474976710656 := ⟨Int.mul_pos (by omega) pa0, Int.mul_le_mul (by omega) pa (by omega) (by omega)⟩
    generalize (1 + 2 * o) * 2 ^ a = z at *
    generalize (2 : Int) ^ b = y at *
    have k5 : H5 p = some (.lst (([1 + 2 * o, z, y, 18446744073709551615] : List Int).map V.int)) := by walk_at "hp"
    obtain ⟨m, hm, em⟩ := Gx.pick (l := [1 + 2 * o, z, y, 18446744073709551615]) (P := fun m => 1 ≤ m ∧ m ≤ 18446744073709551616) (fun x hx => by
      simp only [List.mem_cons, List.not_mem_nil, or_false] at hx
      omega) c0 c1
    refine Rd.ixL (Rd.sql k5) em ?_
    walk_at "rd"
    obtain ⟨m, rfl⟩ := Int.eq_ofNat_of_zero_le (show 0 ≤ m by omega)
    exact q H5 m (by omega) (by omega) D5 (fun c o h n1 n2 => by walk_at "hp")
def spTwosL : Sp := fun vs H Q _ => ∃ e : Nat, vs = [.int e] ∧ 0 < e ∧ Q (.int (2 ^ ML.tw e : Nat)) H
theorem cal__law_twos (T : Txt K mg C_Linear C_Leaping C_Shortage C_NoRow) : C8.Cal P w K mg base 1 "_law_twos" (spTwosL) [] := by
  obtain ⟨f, fd, F, b⟩ := T.d__law_twos
  refine C8.cal0 F b .nil sc__law_twos (fun vs H Q E h => ?_) (fun cdv A outer s H vs Q E hr h => ?_)
  · obtain ⟨e, rfl, _⟩ := h; rfl
  · obtain ⟨e, rfl, he, q⟩ := h
    have hu := hu_of hr
    have hu64 := hr.units
    have cl_Linear := T.cl_Linear
    have n_Linear_s2_x := T.n_Linear_s2_x
    have cl_Leaping := T.cl_Leaping
    have n_Leaping_s2_leap_x := T.n_Leaping_s2_leap_x
    have n_Leaping_s2_every := T.n_Leaping_s2_every
    refine ⟨_, (pss_cons (ps_set (i := 1) sc__law_twos.nd rfl (.inl rfl) pe_int)
      (pss_cons (ps_while PassesOwn.never (PW.pt (pw_and (pt_cmpR op_lt (pv 1) pe_int (nomark _)) (pw_and1 (pt_cmpR op_eq (pe_op op_mod (pv 0) (pe_op op_mul pe_int (pv 1))) pe_int (nomark _))))) (pss_one (ps_set (i := 1) sc__law_twos.nd rfl (.inl rfl) (pe_op op_mul pe_int (pv 1)))))
      (pss_one (ps_ret (pv 1))))), ?_⟩
    walk_at "rd"
    obtain ⟨t48, tdvd, todd⟩ := ML.tw_le e he
    refine Rd.whl (fun m σ' H' => ∃ i : Nat, m = 48 - i ∧ i ≤ ML.tw e ∧ σ' = [some (.int e), some (.int (2 ^ i : Nat))] ∧ H' = H) 48 ⟨0, rfl, Nat.zero_le _, rfl, rfl⟩ ?_
    rintro m σ' H' ⟨i, rfl, hi, rfl, rfl⟩
    have p0 := pow_pos' i
    generalize hP : ((2 ^ i : Nat) : Int) = P at *
    walk_at "rd"
    refine Rd.both (fun c1 => ?_) (fun c1 => ?_)
    · have hi48 : i < 48 := by
        refine Classical.byContradiction fun z => ?_
        rw [← hP, show i = 48 by omega] at c1
        exact absurd c1 (by decide)
      walk_at "rd"
      have d2 : ((e : Int) % (2 * P) = 0) ↔ 2 ^ (i + 1) ∣ e := by
        rw [← hP, show 2 * ((2 ^ i : Nat) : Int) = ((2 ^ (i + 1) : Nat) : Int) by rw [Nat.pow_succ]; push_cast; omega]
        constructor
        · intro h; exact Int.natCast_dvd_natCast.mp (Int.dvd_of_emod_eq_zero h)
        · intro h; exact Int.emod_eq_zero_of_dvd (Int.natCast_dvd_natCast.mpr h)
      refine Rd.both (fun c2 => ?_) (fun c2 => ?_)
      · refine ⟨_, fun _ _ z => z, ?_⟩
        walk_at "rd"
        refine ⟨48 - (i + 1), by omega, i + 1, rfl, ?_, ?_, rfl⟩
        · have h2 := d2.mp c2
          refine Classical.byContradiction fun z => ?_
          have e1 : i = ML.tw e := by omega
          have o1 := todd (by omega)
          rw [e1, Nat.pow_succ] at h2
          obtain ⟨k, hk⟩ := h2
          rw [Nat.div_eq_of_eq_mul_right (k := 2 * k) (Nat.two_pow_pos _) (by rw [← Nat.mul_assoc]; exact hk)] at o1
          omega
        · rw [show ((2 ^ (i + 1) : Nat) : Int) = 2 * P by rw [← hP, Nat.pow_succ]; push_cast; omega]
          rfl
      · walk_at "rd"
        have e1 : i = ML.tw e := by
          refine Classical.byContradiction fun z => c2 (d2.mpr ?_)
          exact Nat.dvd_trans (Nat.pow_dvd_pow 2 (show i + 1 ≤ ML.tw e by omega)) tdvd
        rw [← hP, e1]
        exact q
    · walk_at "rd"
      have e1 : i = ML.tw e := by
        refine Classical.byContradiction fun z => c1 ?_
        have : (2 : Nat) ^ i < 2 ^ 48 := Nat.pow_lt_pow_right (by decide) (by omega)
        rw [show (2 : Nat) ^ 48 = 281474976710656 by decide] at this
        omega
      rw [← hP, e1]
      exact q
end
end Pf

set_option Elab.async false
set_option linter.all false
set_option maxRecDepth 100000
set_option maxHeartbeats 4000000
namespace Pf
open PySem PySem.Spec PyProof.Rows L2
section
variable {P : Program} {w : World} {K : PySem.W.Frag} {mg : Str → Option Value} {base : Heap} {C_Linear C_Leaping C_Shortage C_NoRow : Addr}
local macro_rules | `(tactic| walk_at "side") => `(tactic| first | ((with_reducible show L2.CMul _ _); first | exact Or.inl ⟨by omega, by omega⟩ | exact Or.inr ⟨by omega, by omega⟩) | ((with_reducible show L2.CPow _ _); exact ⟨by decide, by decide, by decide⟩) | ((with_reducible show L2.CMulW _ _); exact wide_mul (a := 96) (b := 96) (by omega) (by omega) (by decide) (by decide) (by decide)) | ((with_reducible show L2.CDivW _ _); exact wide_div (b := 96) (by omega) (by omega) (by decide) (by decide)) | (show (0 : Int) < _; omega) | (show (0 : Int) ≤ _; omega))
local macro_rules | `(tactic| walk_at "rd1") => `(tactic| first | with_reducible refine Rd.seq ?_ | with_reducible refine Rd.asg ?_ | with_reducible refine Rd.nm ?_ | with_reducible refine Rd.ret ?_ | with_reducible refine Rd.drop ?_ | with_reducible refine Rd.ifs ?_ | with_reducible refine Rd.par ?_ | with_reducible refine Rd.par3 ?_ | with_reducible refine Rd.next ?_ | with_reducible refine Rd.fr1 ?_ | with_reducible refine Rd.nxp ?_ | with_reducible refine Rd.rtp ?_ | ((with_reducible show tVar _ _ _ _); refine Rd.var rfl ?_) | with_reducible refine Rd.cst ?_ | with_reducible refine Rd.op ?_ | with_reducible refine Rd.un ?_ | with_reducible refine Rd.i0 ?_ | with_reducible refine Rd.ung ?_ | with_reducible refine Rd.eqI ?_ | with_reducible refine Rd.neI ?_ | with_reducible refine Rd.eqS ?_ | with_reducible refine Rd.neS ?_ | with_reducible refine Rd.test ?_ | with_reducible refine Rd.tstB ?_ | with_reducible refine Rd.isB ?_ | with_reducible refine Rd.not ?_ | with_reducible refine Rd.andT ?_ | with_reducible refine Rd.orT ?_ | with_reducible refine Rd.andV ?_ | with_reducible refine Rd.orV ?_ | with_reducible refine Rd.notV ?_ | with_reducible refine Rd.ifE ?_ | with_reducible refine Rd.chain ?_ | with_reducible refine Rd.nil ?_ | with_reducible refine Rd.cons ?_ | with_reducible refine Rd.call ?_ | with_reducible refine Rd.cb ?_ | with_reducible refine Rd.bm ?_ | with_reducible refine Au.revL ?_ | with_reducible refine Rd.frl ?_ | with_reducible refine Rd.frt ?_ | with_reducible refine Rd.fre ?_ | with_reducible refine Rd.disp ?_ | with_reducible refine Rd.pnil ?_ | with_reducible refine Rd.pcons ?_ | with_reducible refine Rd.gcons ?_ | with_reducible refine Rd.gnil ?_ | with_reducible refine Rd.gsub ?_ | with_reducible refine Rd.setD ?_ | ((with_reducible show gTup _ _ _ _ _ (upd _ _ (HO.tup _)) _); refine Rd.tupNew rfl ?_) | with_reducible refine Rd.fld ?_ | with_reducible refine Rd.meth ?_ | with_reducible refine Rd.make ?_ | with_reducible refine Rd.prop ?_ | with_reducible refine Au.tup ?_ | with_reducible refine Au.lst ?_ | ((with_reducible refine Au.lenOk ?hl ?_); (case hl => exact rfl)) | with_reducible refine Au.nopart ?_ | with_reducible refine Au.part ?_ | with_reducible refine Au.isI ?_ | with_reducible refine Au.sl ?_ | with_reducible refine Au.pr2 ?_ | with_reducible refine Au.pr3 ?_ | with_reducible refine Au.eqB ?_ | with_reducible refine Rd.isInt ?_ | with_reducible refine Rd.isBool ?_ | with_reducible refine Rd.mx2 ?_ | with_reducible refine Rd.mn2 ?_ | ((with_reducible show Rd.rAndM _ _ _ _); first | refine Rd.and1 ?_ | refine Rd.and48 ?_ | refine Rd.and32 ?_ | refine Rd.and64 ?_ | refine Rd.and65 ?_) | ((with_reducible refine Rd.iC ?hc ?_); (case hc => walk_at "side")) | ((with_reducible refine Rd.yes ?hc ?_); (case hc => omega)) | ((with_reducible refine Rd.no ?hc ?_); (case hc => omega)) | ((with_reducible refine Rd.noN ?hc ?_); (case hc => omega)) | ((with_reducible refine Rd.yesN ?hc ?_); (case hc => omega)) | ((with_reducible refine Rd.yesNN ?hc ?_); (case hc => omega)) | ((with_reducible refine Rd.noNN ?hc ?_); (case hc => omega)) | with_reducible refine iteT ?_ | with_reducible refine iteF ?_ | with_reducible refine Rd.iteNT ?_ | with_reducible refine Rd.iteNF ?_)
local macro_rules | `(tactic| walk_at "rd") => `(tactic| repeat (walk_at "rd1"))
local macro_rules | `(tactic| walk_at "hp") => `(tactic| first | assumption | (apply Au.sm; (focus assumption); (walk_at "hp")) | (apply Au.smp; (focus assumption); (focus (walk_at "hp")); (walk_at "ne")) | (apply Au.smn; (focus assumption); (focus (walk_at "hp")); (focus (intro _ z; cases z; done))) | fail "hp")
local macro_rules | `(tactic| walk_at "ne") => `(tactic| first | assumption | (apply Ne.symm; assumption) | (apply Au.nen; (focus assumption); (walk_at "hp")) | (apply Au.nen'; (focus assumption); (walk_at "hp")) | (apply Au.nek; (focus assumption); (focus assumption); (intro z; cases z; done)) | (apply Au.nek2; (focus assumption); (focus (walk_at "hp")); (intro z; cases z; done)) | fail "ne")
local macro_rules | `(tactic| walk_at "dp") => `(tactic| first | exact Dp.int _ | exact Dp.str _ | exact Dp.bl _ | exact Dp.non | (apply Dp.lst; (focus (apply Rd.sql; walk_at "hp")); (walk_at "dps")) | (apply Dp.tup; (focus (apply Rd.sqt; walk_at "hp")); (walk_at "dps")) | fail "dp")
local macro_rules | `(tactic| walk_at "dps") => `(tactic| first | exact DpAll.nil | (apply DpAll.cons; (focus (walk_at "dp")); (walk_at "dps")) | fail "dps")
local macro_rules | `(tactic| walk_at "shp") => `(tactic| ((simp only [SeqAt.shaped, PyData.canLay0, PyData.canLayAll0, PyData.depth, PyData.depthAll]) <;> first | decide | rfl))
local macro_rules | `(tactic| walk_at "sd") => `(tactic| first | assumption | rfl | omega | (walk_at "hp") | (refine ⟨?_, ?_⟩; (focus (walk_at "sd")); (walk_at "sd")) | fail "sd")
local macro_rules | `(tactic| walk_at "lk") => `(tactic| first | exact Rd.lk1 | rfl | decide +kernel)
local macro_rules | `(tactic| walk_at "rd1") => `(tactic| first | with_reducible refine Pr.dget ?_ | with_reducible refine Pr.dput ?_ | with_reducible refine Pr.sfld ?_ | with_reducible refine Pr.u_isInt ?_ | ((with_reducible show Pr.spNeed _ _ _ _ _ _); refine Pr.u_need (by omega) (by omega) ?_) | ((with_reducible show Pr.spIs _ _ _ _ _ _); refine Pr.u_isIn (by omega) ?_) | ((with_reducible apply Rd.fld1); (focus (walk_at "hp")); (focus assumption); (focus assumption); (focus (walk_at "lk"))) | ((with_reducible apply Au.methO); (focus (walk_at "hp")); (focus (walk_at "lk"))) | ((with_reducible apply Au.propO); (focus (walk_at "hp"))) | ((with_reducible show rIxT _ (V.ref _) (V.int _) _ _); refine Rd.ixT (Rd.sqt (by walk_at "hp")) rfl ?_) | ((with_reducible show rIxL _ (V.ref _) (V.int _) _ _); refine Rd.ixL (Rd.sql (by walk_at "hp")) rfl ?_) | ((with_reducible show Rd.rLenQ _ [V.ref _] _ _); first | refine Rd.lenL (Rd.sql (by walk_at "hp")) ?_ | refine Rd.lenT (Rd.sqt (by walk_at "hp")) ?_) | ((with_reducible show gTup _ _ _ (V.ref _) _ _ _); refine Rd.gtup (Rd.sqt (by walk_at "hp")) rfl ?_) | with_reducible refine Gx.gat ?_ | with_reducible refine Gx.gnx ?_ | with_reducible refine Gx.gthen ?_ | with_reducible refine Gx.gplain ?_ | with_reducible refine Gx.gfr ?_ | with_reducible refine Gx.lg ?_ | with_reducible refine Gx.mg ?_ | with_reducible refine Gx.sme ?_ | with_reducible refine Gx.callSD ?_ | with_reducible refine Gx.methSD ?_)
local macro_rules | `(tactic| walk_at "hp") => `(tactic| first | assumption | (apply smb; (focus assumption); (focus (walk_at "hp")); (focus assumption); assumption) | (apply smbK; (focus assumption); (focus (walk_at "hp")); (focus (walk_at "dr")); (constructor <;> (intro _ z; cases z; done))) | (apply smbN; (focus assumption); (focus (walk_at "hp")); (focus assumption); (walk_at "dr")))
local macro_rules | `(tactic| walk_at "dr") => `(tactic| first | assumption | (apply Draw.ex; (focus assumption); (walk_at "dr")) | (apply Draw.exp; (focus assumption); (focus (walk_at "dr")); (focus (walk_at "nd"))) | fail "dr")
local macro_rules | `(tactic| walk_at "nd") => `(tactic| first | assumption | (apply ndN; (focus assumption); (walk_at "dr")) | fail "nd")
def PreL (C1 C2 : Addr) (H : Hp) (p dx o : Addr) (x y : Int) (e : Nat) : Prop := H p = some (LeapO C2 dx x e) ∧ SrcX C1 C2 H o y ∧ (0 ≤ x ∧ x < 281474976710656) ∧ (0 ≤ y ∧ y < 281474976710656) ∧ (1 ≤ e ∧ e ≤ 18446744073709551616)
def spFound (C1 C2 : Addr) : Sp := fun vs H Q _ => ∃ (p dx o : Addr) (x y : Int) (e : Nat), vs = [.ref p, .ref o] ∧ PreL C1 C2 H p dx o x y e ∧
  (∀ (H' : Hp) (r : Int) (n : Nat), Rd.Ex H H' → n < 281474976710656 → ML.mv n x = y → 2 ^ ML.tw e ∣ n → 0 ≤ r → r < 2 ^ (48 - ML.tw e) → (281474976710656 : Int) ∣ (e : Int) * r - n → Q (.int r) H') ∧
  (∀ (H' : Hp) (t : Addr) (n : Nat), Rd.Ex H H' → H' t = some (.lst [.int (n : Int)]) → n < 281474976710656 → ML.mv n x = y → ¬ 2 ^ ML.tw e ∣ n → Q (.ref t) H')
theorem cal__law_found (T : Txt K mg C_Linear C_Leaping C_Shortage C_NoRow) : C8.Cal P w K mg base 9 "_law_found" (spFound C_Linear C_Leaping) [] := by
  obtain ⟨f, fd, F, b⟩ := T.d__law_found
  refine C8.cal0 F b .nil sc__law_found (fun vs H Q E h => ?_) (fun cdv A outer s H vs Q E hr h => ?_)
  · obtain ⟨p, dx, o, x, y, e, rfl, _⟩ := h; rfl
  · obtain ⟨p, dx, o, x, y, e, rfl, hpre, q1, q2⟩ := h
    have hu := hu_of hr
    have hu64 := hr.units
    have cl_Linear := T.cl_Linear
    have n_Linear_s2_x := T.n_Linear_s2_x
    have cl_Leaping := T.cl_Leaping
    have n_Leaping_s2_leap_x := T.n_Leaping_s2_leap_x
    have n_Leaping_s2_every := T.n_Leaping_s2_every
    refine ⟨_, (pss_one (ps_try_as (i := 2) rfl rfl sc__law_found.nd rfl (by rfl) ⟨by rfl, by decide, .inl T.g_NoRow⟩ LamX.takes0 (fun W pn xe tk _ => (pss_one (ps_ret (Gx.pe_cs (calx_leaps T) tk hr (by omega) (by rfl) (pa_cons (pv 0) (pa_cons (pv 1) pa_nil)))))) (fun a oe cls d pn hz hf => (pss_one (ps_ret (pe_lst (pa_cons (pe_xf T.f_NoRow T.n_NoRow_given hz hf (pv 2)) pa_nil))))))), ?_⟩
    walk_at "rd"
    refine ⟨p, dx, o, x, y, e, rfl, hpre, q1, fun H1 d n e1 hd k1 hn mn nd => ?_⟩
    refine Gx.asYes T.m_NoRow fun a ha => ?_
    walk_at "rd"
    refine ⟨_, rfl, rfl, rfl, d, _, _, rfl, k1, Rd.lk1, ?_⟩
    walk_at "rd"
    refine Au.new fun t H2 ht e2 k2 => ?_
    exact q2 H2 t n (e1.trans e2) k2 hn mn nd
theorem kit_l (K : PySem.W.Frag) : PySem.W.kitOne K (.type "int") (.type "list") = some false ∧ PySem.W.kitOne K (.type "list") (.type "list") = some true := by
  refine ⟨?_, ?_⟩ <;> first | rfl | decide +kernel | kernel_rfl
def spRight (C1 C2 : Addr) : Sp := fun vs H Q _ => ∃ (p dx o : Addr) (x y : Int) (e : Nat), vs = [.ref p, .ref o, .int y] ∧ PreL C1 C2 H p dx o x y e ∧ ∀ H', Rd.Ex H H' → Q (.bl true) H'
theorem mv_cast {n : Nat} {e : Nat} {r x : Int} (h0 : 0 ≤ r) (h : (281474976710656 : Int) ∣ (e : Int) * r - n) : ML.mv (r * e % 281474976710656).toNat x = ML.mv n x := by
  have h1 : (r * e % 281474976710656).toNat = n % 281474976710656 := by
    have : r * e % 281474976710656 = (n : Int) % 281474976710656 := by
      rw [Int.mul_comm]
      exact Int.emod_eq_emod_iff_emod_sub_eq_zero.mpr (Int.emod_eq_zero_of_dvd h)
    rw [this]; omega
  rw [h1, ML.mv_mod]
theorem cal__law_is_right (T : Txt K mg C_Linear C_Leaping C_Shortage C_NoRow) : C8.Cal P w K mg base 10 "_law_is_right" (spRight C_Linear C_Leaping) [] := by
  obtain ⟨f, fd, F, b⟩ := T.d__law_is_right
  refine C8.cal0 F b .nil sc__law_is_right (fun vs H Q E h => ?_) (fun cdv A outer s H vs Q E hr h => ?_)
  · obtain ⟨p, dx, o, x, y, e, rfl, _⟩ := h; rfl
  · obtain ⟨p, dx, o, x, y, e, rfl, hpre, q⟩ := h
    have hu := hu_of hr
    have hu64 := hr.units
    have cl_Linear := T.cl_Linear
    have n_Linear_s2_x := T.n_Linear_s2_x
    have cl_Leaping := T.cl_Leaping
    have n_Leaping_s2_leap_x := T.n_Leaping_s2_leap_x
    have n_Leaping_s2_every := T.n_Leaping_s2_every
    refine ⟨_, (pss_cons (ps_par3 (i := 3) (j := 4) (l := 5) rfl sc__law_is_right.nd rfl rfl rfl (by decide) (by decide) (by decide) rfl rfl rfl (pa_cons (C8.pe_c (cal__law_found T) hr (by omega) (by rfl) (pa_cons (pv 0) (pa_cons (pv 1) pa_nil))) (pa_cons (C8.pe_c (cal_distance T) hr (by omega) (by rfl) (pa_cons (C8.pe_mk (mak_Linear T) hr (by omega) (by rfl) (pa_cons (pe_ix ix_tup (Gx.pe_propC (pv 0) (prop_Leaping_state T) hr (by omega) rfl) pe_int (fun _ _ => rfl)) pa_nil)) (pa_cons (C8.pe_mk (mak_Linear T) hr (by omega) (by rfl) (pa_cons (pv 2) pa_nil)) pa_nil))) (pa_cons (C8.pe_c (cal__law_twos T) hr (by omega) (by rfl) (pa_cons (Gx.pe_propC (pv 0) (prop_Leaping_every T) hr (by omega) rfl) pa_nil)) pa_nil))) (by rfl))
      (pss_cons (ps_if (pt_val (pe_callB call_isi (by rfl) T.b_isinstance (by decide +kernel) (pa_cons (pv 3) (pa_cons (pe_bltn (v := .ty "list") (by rfl) T.b_list (by decide +kernel) rfl) pa_nil)))) (pss_one (ps_ret (pe_and (pe_cmpR (op_eqD hu64) (pv 3) (pe_lst (pa_cons (pv 4) pa_nil)) (nomark _)) (pe_one (pe_cmpR op_ne (pe_op op_mod (pv 4) (pv 5)) pe_int (nomark _)))))) pss_nil)
      (pss_one (ps_ret (pe_and (pe_cmpR op_eq (pe_op op_mod (pv 4) (pv 5)) pe_int (nomark _)) (pe_and (pe_chain op_le op_lt pe_int (pv 3) (Gx.pe_propC (pv 0) (prop_Leaping_period T) hr (by omega) rfl)) (pe_one (pe_cmpR op_eq (pe_ix ix_tup (Gx.pe_propC (C8.pe_mt (met_Leaping_ahead T) hr (by omega) (pv 0) (pa_cons (pv 3) pa_nil)) (prop_Leaping_state T) hr (by omega) rfl) pe_int (fun _ _ => rfl)) (pv 2) (nomark _))))))))), ?_⟩
    walk_at "rd"
    obtain ⟨hp, ho, hx, hy, he⟩ := hpre
    have he0 : 0 < e := he.1
    obtain ⟨t48, tdvd, todd⟩ := ML.tw_le e he0
    refine ⟨p, dx, o, x, y, e, rfl, ⟨hp, ho, hx, hy, he⟩, fun H1 r n e1 hn mn hd r0 r1 hdv => ?_, fun H1 t n e1 k1 hn mn nd => ?_⟩
    · walk_at "rd"
      refine u_state2 (by walk_at "hp") fun t2 H2 ht2 e2 k2 => ?_
      walk_at "rd"
      refine Pr.u_lin hx fun o3 d3 H3 ho3 e3 k3 => ?_
      walk_at "rd"
      refine Pr.u_lin hy fun o4 d4 H4 ho4 e4 k4 => ?_
      walk_at "rd"
      refine Pr.u_distance ⟨by walk_at "hp", k4, hx.1, hx.2, hy.1, hy.2⟩ fun H5 m e5 hm mm => ?_
      have em : m = n := by
        have := ML.mv_inj (a := m) (b := n) (x := x) (by rw [mm, mn])
        omega
      subst em
      walk_at "rd"
      refine u_every (by walk_at "hp") ?_
      walk_at "rd"
      refine ⟨e, rfl, he0, ?_⟩
      walk_at "rd"
      refine isiB (.base (.int r)) (kit_l K).1 ?_
      walk_at "rd"
      have p0 := pow_pos' (ML.tw e)
      have hz : (m : Int) % ((2 ^ ML.tw e : Nat) : Int) = 0 := by rw [show ((2 ^ ML.tw e : Nat) : Int) = 2 ^ ML.tw e by push_cast; rfl]; exact dvd_iff.mpr hd
      generalize hP : ((2 ^ ML.tw e : Nat) : Int) = P at *
      walk_at "rd"
      refine u_period (by walk_at "hp") he0 ?_
      generalize hM : (2 : Int) ^ (48 - ML.tw e) = M at *
      walk_at "rd"
      have r48 : r < 281474976710656 := by
        have h1 : (2 : Int) ^ (48 - ML.tw e) ≤ 2 ^ 48 := by
          rw [show (2 : Int) ^ (48 - ML.tw e) = ((2 ^ (48 - ML.tw e) : Nat) : Int) by push_cast; rfl]
          exact Int.ofNat_le.mpr (Nat.pow_le_pow_right (by decide) (by omega))
        rw [hM, show (2 : Int) ^ 48 = 281474976710656 by decide] at h1
        omega
      refine u_ahead2 ⟨by walk_at "hp", hx, ⟨r0, by omega⟩, he⟩ fun o6 d6 H6 ho6 e6 k6 => ?_
      rw [mv_cast r0 hdv, mn] at k6
      walk_at "rd"
      refine u_state2 k6 fun t7 H7 ht7 e7 k7 => ?_
      walk_at "rd"
      rw [decide_eq_true rfl]
      exact q H7 fun c o h => by walk_at "hp"
    · walk_at "rd"
      refine u_state2 (by walk_at "hp") fun t2 H2 ht2 e2 k2 => ?_
      walk_at "rd"
      refine Pr.u_lin hx fun o3 d3 H3 ho3 e3 k3 => ?_
      walk_at "rd"
      refine Pr.u_lin hy fun o4 d4 H4 ho4 e4 k4 => ?_
      walk_at "rd"
      refine Pr.u_distance ⟨by walk_at "hp", k4, hx.1, hx.2, hy.1, hy.2⟩ fun H5 m e5 hm mm => ?_
      have em : m = n := by
        have := ML.mv_inj (a := m) (b := n) (x := x) (by rw [mm, mn])
        omega
      subst em
      walk_at "rd"
      refine u_every (by walk_at "hp") ?_
      walk_at "rd"
      refine ⟨e, rfl, he0, ?_⟩
      walk_at "rd"
      have k5 : H5 t = some (.lst [.int (m : Int)]) := by walk_at "hp"
      refine isiB (.base (.lst k5)) (kit_l K).2 ?_
      walk_at "rd"
      refine Au.new fun t6 H6 ht6 e6 k6 => ?_
      walk_at "rd"
      refine Au.eqDs (d := .list [.int (m : Int)]) (by walk_at "dp") (by walk_at "dp") (by walk_at "shp") ?_
      walk_at "rd"
      have p0 := pow_pos' (ML.tw e)
      have hz : ¬ (m : Int) % ((2 ^ ML.tw e : Nat) : Int) = 0 := by rw [show ((2 ^ ML.tw e : Nat) : Int) = 2 ^ ML.tw e by push_cast; rfl]; exact fun z => nd (dvd_iff.mp z)
      generalize hP : ((2 ^ ML.tw e : Nat) : Int) = P at *
      walk_at "rd"
      rw [decide_eq_false hz]
      exact q H6 fun c o h => by walk_at "hp"
end
end Pf

set_option Elab.async false
set_option linter.all false
set_option maxRecDepth 100000
set_option maxHeartbeats 4000000
namespace Pf
open PySem PySem.Spec PyProof.Rows L2
section
variable {P : Program} {w : World} {K : PySem.W.Frag} {mg : Str → Option Value} {base : Heap} {C_Linear C_Leaping C_Shortage C_NoRow : Addr}
local macro_rules | `(tactic| walk_at "side") => `(tactic| first | ((with_reducible show L2.CMul _ _); first | exact Or.inl ⟨by omega, by omega⟩ | exact Or.inr ⟨by omega, by omega⟩) | ((with_reducible show L2.CPow _ _); exact ⟨by decide, by decide, by decide⟩) | ((with_reducible show L2.CMulW _ _); exact wide_mul (a := 96) (b := 96) (by omega) (by omega) (by decide) (by decide) (by decide)) | ((with_reducible show L2.CDivW _ _); exact wide_div (b := 96) (by omega) (by omega) (by decide) (by decide)) | (show (0 : Int) < _; omega) | (show (0 : Int) ≤ _; omega))
local macro_rules | `(tactic| walk_at "rd1") => `(tactic| first | with_reducible refine Rd.seq ?_ | with_reducible refine Rd.asg ?_ | with_reducible refine Rd.nm ?_ | with_reducible refine Rd.ret ?_ | with_reducible refine Rd.drop ?_ | with_reducible refine Rd.ifs ?_ | with_reducible refine Rd.par ?_ | with_reducible refine Rd.par3 ?_ | with_reducible refine Rd.next ?_ | with_reducible refine Rd.fr1 ?_ | with_reducible refine Rd.nxp ?_ | with_reducible refine Rd.rtp ?_ | ((with_reducible show tVar _ _ _ _); refine Rd.var rfl ?_) | with_reducible refine Rd.cst ?_ | with_reducible refine Rd.op ?_ | with_reducible refine Rd.un ?_ | with_reducible refine Rd.i0 ?_ | with_reducible refine Rd.ung ?_ | with_reducible refine Rd.eqI ?_ | with_reducible refine Rd.neI ?_ | with_reducible refine Rd.eqS ?_ | with_reducible refine Rd.neS ?_ | with_reducible refine Rd.test ?_ | with_reducible refine Rd.tstB ?_ | with_reducible refine Rd.isB ?_ | with_reducible refine Rd.not ?_ | with_reducible refine Rd.andT ?_ | with_reducible refine Rd.orT ?_ | with_reducible refine Rd.andV ?_ | with_reducible refine Rd.orV ?_ | with_reducible refine Rd.notV ?_ | with_reducible refine Rd.ifE ?_ | with_reducible refine Rd.chain ?_ | with_reducible refine Rd.nil ?_ | with_reducible refine Rd.cons ?_ | with_reducible refine Rd.call ?_ | with_reducible refine Rd.cb ?_ | with_reducible refine Rd.bm ?_ | with_reducible refine Au.revL ?_ | with_reducible refine Rd.frl ?_ | with_reducible refine Rd.frt ?_ | with_reducible refine Rd.fre ?_ | with_reducible refine Rd.disp ?_ | with_reducible refine Rd.pnil ?_ | with_reducible refine Rd.pcons ?_ | with_reducible refine Rd.gcons ?_ | with_reducible refine Rd.gnil ?_ | with_reducible refine Rd.gsub ?_ | with_reducible refine Rd.setD ?_ | ((with_reducible show gTup _ _ _ _ _ (upd _ _ (HO.tup _)) _); refine Rd.tupNew rfl ?_) | with_reducible refine Rd.fld ?_ | with_reducible refine Rd.meth ?_ | with_reducible refine Rd.make ?_ | with_reducible refine Rd.prop ?_ | with_reducible refine Au.tup ?_ | with_reducible refine Au.lst ?_ | ((with_reducible refine Au.lenOk ?hl ?_); (case hl => exact rfl)) | with_reducible refine Au.nopart ?_ | with_reducible refine Au.part ?_ | with_reducible refine Au.isI ?_ | with_reducible refine Au.sl ?_ | with_reducible refine Au.pr2 ?_ | with_reducible refine Au.pr3 ?_ | with_reducible refine Au.eqB ?_ | with_reducible refine Rd.isInt ?_ | with_reducible refine Rd.isBool ?_ | with_reducible refine Rd.mx2 ?_ | with_reducible refine Rd.mn2 ?_ | ((with_reducible show Rd.rAndM _ _ _ _); first | refine Rd.and1 ?_ | refine Rd.and48 ?_ | refine Rd.and32 ?_ | refine Rd.and64 ?_ | refine Rd.and65 ?_) | ((with_reducible refine Rd.iC ?hc ?_); (case hc => walk_at "side")) | ((with_reducible refine Rd.yes ?hc ?_); (case hc => omega)) | ((with_reducible refine Rd.no ?hc ?_); (case hc => omega)) | ((with_reducible refine Rd.noN ?hc ?_); (case hc => omega)) | ((with_reducible refine Rd.yesN ?hc ?_); (case hc => omega)) | ((with_reducible refine Rd.yesNN ?hc ?_); (case hc => omega)) | ((with_reducible refine Rd.noNN ?hc ?_); (case hc => omega)) | with_reducible refine iteT ?_ | with_reducible refine iteF ?_ | with_reducible refine Rd.iteNT ?_ | with_reducible refine Rd.iteNF ?_)
local macro_rules | `(tactic| walk_at "rd") => `(tactic| repeat (walk_at "rd1"))
local macro_rules | `(tactic| walk_at "hp") => `(tactic| first | assumption | (apply Au.sm; (focus assumption); (walk_at "hp")) | (apply Au.smp; (focus assumption); (focus (walk_at "hp")); (walk_at "ne")) | (apply Au.smn; (focus assumption); (focus (walk_at "hp")); (focus (intro _ z; cases z; done))) | fail "hp")
local macro_rules | `(tactic| walk_at "ne") => `(tactic| first | assumption | (apply Ne.symm; assumption) | (apply Au.nen; (focus assumption); (walk_at "hp")) | (apply Au.nen'; (focus assumption); (walk_at "hp")) | (apply Au.nek; (focus assumption); (focus assumption); (intro z; cases z; done)) | (apply Au.nek2; (focus assumption); (focus (walk_at "hp")); (intro z; cases z; done)) | fail "ne")
local macro_rules | `(tactic| walk_at "dp") => `(tactic| first | exact Dp.int _ | exact Dp.str _ | exact Dp.bl _ | exact Dp.non | (apply Dp.lst; (focus (apply Rd.sql; walk_at "hp")); (walk_at "dps")) | (apply Dp.tup; (focus (apply Rd.sqt; walk_at "hp")); (walk_at "dps")) | fail "dp")
local macro_rules | `(tactic| walk_at "dps") => `(tactic| first | exact DpAll.nil | (apply DpAll.cons; (focus (walk_at "dp")); (walk_at "dps")) | fail "dps")
local macro_rules | `(tactic| walk_at "shp") => `(tactic| ((simp only [SeqAt.shaped, PyData.canLay0, PyData.canLayAll0, PyData.depth, PyData.depthAll]) <;> first | decide | rfl))
local macro_rules | `(tactic| walk_at "sd") => `(tactic| first | assumption | rfl | omega | (walk_at "hp") | (refine ⟨?_, ?_⟩; (focus (walk_at "sd")); (walk_at "sd")) | fail "sd")
local macro_rules | `(tactic| walk_at "lk") => `(tactic| first | exact Rd.lk1 | rfl | decide +kernel)
local macro_rules | `(tactic| walk_at "rd1") => `(tactic| first | with_reducible refine Pr.dget ?_ | with_reducible refine Pr.dput ?_ | with_reducible refine Pr.sfld ?_ | with_reducible refine Pr.u_isInt ?_ | ((with_reducible show Pr.spNeed _ _ _ _ _ _); refine Pr.u_need (by omega) (by omega) ?_) | ((with_reducible show Pr.spIs _ _ _ _ _ _); refine Pr.u_isIn (by omega) ?_) | ((with_reducible apply Rd.fld1); (focus (walk_at "hp")); (focus assumption); (focus assumption); (focus (walk_at "lk"))) | ((with_reducible apply Au.methO); (focus (walk_at "hp")); (focus (walk_at "lk"))) | ((with_reducible apply Au.propO); (focus (walk_at "hp"))) | ((with_reducible show rIxT _ (V.ref _) (V.int _) _ _); refine Rd.ixT (Rd.sqt (by walk_at "hp")) rfl ?_) | ((with_reducible show rIxL _ (V.ref _) (V.int _) _ _); refine Rd.ixL (Rd.sql (by walk_at "hp")) rfl ?_) | ((with_reducible show Rd.rLenQ _ [V.ref _] _ _); first | refine Rd.lenL (Rd.sql (by walk_at "hp")) ?_ | refine Rd.lenT (Rd.sqt (by walk_at "hp")) ?_) | ((with_reducible show gTup _ _ _ (V.ref _) _ _ _); refine Rd.gtup (Rd.sqt (by walk_at "hp")) rfl ?_) | with_reducible refine Gx.gat ?_ | with_reducible refine Gx.gnx ?_ | with_reducible refine Gx.gthen ?_ | with_reducible refine Gx.gplain ?_ | with_reducible refine Gx.gfr ?_ | with_reducible refine Gx.lg ?_ | with_reducible refine Gx.mg ?_ | with_reducible refine Gx.sme ?_ | with_reducible refine Gx.callSD ?_ | with_reducible refine Gx.methSD ?_)
local macro_rules | `(tactic| walk_at "hp") => `(tactic| first | assumption | (apply smb; (focus assumption); (focus (walk_at "hp")); (focus assumption); assumption) | (apply smbK; (focus assumption); (focus (walk_at "hp")); (focus (walk_at "dr")); (constructor <;> (intro _ z; cases z; done))) | (apply smbN; (focus assumption); (focus (walk_at "hp")); (focus assumption); (walk_at "dr")))
local macro_rules | `(tactic| walk_at "dr") => `(tactic| first | assumption | (apply Draw.ex; (focus assumption); (walk_at "dr")) | (apply Draw.exp; (focus assumption); (focus (walk_at "dr")); (focus (walk_at "nd"))) | fail "dr")
local macro_rules | `(tactic| walk_at "nd") => `(tactic| first | assumption | (apply ndN; (focus assumption); (walk_at "dr")) | fail "nd")
theorem u_pick {hi : Int} {H : Hp} {Q : VK} {E : XK} {d g : Addr} (D : Draw H d g) (q : ∀ (H' : Hp) (v : Int), 0 ≤ v → v ≤ hi → Draw H' d g → ExB d g H H' → Q (.int v) H') : spPick hi ([.ref d] ++ []) H Q E := ⟨d, g, rfl, D, q⟩
theorem u_everyD {H : Hp} {Q : VK} {E : XK} {d g : Addr} (D : Draw H d g) (q : ∀ (H' : Hp) (v : Nat), 1 ≤ v → v ≤ 18446744073709551616 → Draw H' d g → ExB d g H H' → Q (.int (v : Int)) H') : spEveryD ([.ref d] ++ []) H Q E := ⟨d, g, rfl, D, q⟩
/-- leaps where the way is known: y is n leaps ahead of x -/
theorem u_leaps {C1 C2 CE p dx o : Addr} {x y : Int} {e : Nat} {H : Hp} {Q : VK} {k : Int} (h : PreL C1 C2 H p dx o x y e) (k0 : 0 ≤ k) (hk : y = ML.mv (k * e % 281474976710656).toNat x) (q : ∀ H', Rd.Ex H H' → Q (.int (k % 2 ^ (48 - ML.tw e))) H') :
    spLeaps C1 C2 CE ([.ref p, .ref o] ++ []) H Q (fun _ _ _ => False) := by
  have he0 : 0 < e := h.2.2.2.2.1
  obtain ⟨t48, tdvd, todd⟩ := ML.tw_le e he0
  have same : ∀ {n : Nat}, n < 281474976710656 → ML.mv n x = y → (281474976710656 : Int) ∣ k * e - n := fun {n} hn mn => by
    have h1 := ML.mv_inj (a := (k * e % 281474976710656).toNat) (b := n) (x := x) (by rw [mn, hk])
    have h2 : ((k * e % 281474976710656).toNat : Int) = k * e % 281474976710656 := Int.toNat_of_nonneg (by omega)
    rw [h2, Int.emod_emod_of_dvd _ (Int.dvd_refl _)] at h1
    exact Int.dvd_of_emod_eq_zero (Int.emod_eq_emod_iff_emod_sub_eq_zero.mp h1)
  have dv : ∀ {n : Nat}, n < 281474976710656 → ML.mv n x = y → 2 ^ ML.tw e ∣ n := fun {n} hn mn => by
    have h1 := same hn mn
    have h2 : ((2 ^ ML.tw e : Nat) : Int) ∣ 281474976710656 := by
      rw [show (281474976710656 : Int) = ((2 ^ ML.tw e * 2 ^ (48 - ML.tw e) : Nat) : Int) by rw [← Nat.pow_add, show ML.tw e + (48 - ML.tw e) = 48 by omega]; rfl]
      exact Int.natCast_dvd_natCast.mpr (Nat.dvd_mul_right _ _)
    have h3 : ((2 ^ ML.tw e : Nat) : Int) ∣ k * e := Int.dvd_trans (Int.natCast_dvd_natCast.mpr tdvd) (Int.dvd_mul_left _ _)
    have h4 := Int.dvd_sub h3 (Int.dvd_trans h2 h1)
    rw [show k * e - (k * e - (n : Int)) = n by omega] at h4
    exact Int.natCast_dvd_natCast.mp h4
  refine ⟨p, dx, o, x, y, e, rfl, h, fun H1 r n e1 hn mn hd r0 r1 hdv => ?_, fun H1 d n _ _ _ hn mn nd => nd (dv hn mn)⟩
  have eo : (e : Int) = 2 ^ ML.tw e * ((e / 2 ^ ML.tw e : Nat) : Int) := by
    rw [show (2 : Int) ^ ML.tw e = ((2 ^ ML.tw e : Nat) : Int) by push_cast; rfl, ← Int.natCast_mul, Nat.mul_div_cancel' tdvd]
  have h5 : (281474976710656 : Int) ∣ (e : Int) * r - (e : Int) * k := by
    have := Int.dvd_sub hdv (same hn mn)
    rw [show (e : Int) * r - (n : Int) - (k * e - n) = e * r - e * k by rw [Int.mul_comm (e : Int) k]; omega] at this
    exact this
  rw [eo] at h5
  have h6 := ML.leap_uniq t48 (fun z => by have := todd z; omega) h5
  rw [Int.emod_eq_of_lt r0 r1] at h6
  rw [h6]
  exact q H1 e1
def spLaw (K : PySem.W.Frag) : Sp := fun vs H Q _ => ∃ (a : Addr) (ns : List Int), vs = [.ref a] ∧ SqL K H a (ns.map V.int) ∧ ns.length ≤ 63 ∧ ∀ H', Q (.bl true) H'
theorem fn_law (T : Txt K mg C_Linear C_Leaping C_Shortage C_NoRow) {f : Addr} {fd : FuncData} (F : C8.Def K mg "law" s_law f fd) : Gx.FnG P w K mg base 11 f fd ["_law_script"] (spLaw K) := by
  refine Gx.fnG_of F.fn sc_law (fun vs H Q E h => ?_) (fun cdv A outer s H vs Q gd hr h => ?_)
  · obtain ⟨a, ns, rfl, _⟩ := h; rfl
  · obtain ⟨a, ns, rfl, hS, hl, q⟩ := h
    have hu := hu_of hr
    have hu64 := hr.units
    have cl1 := T.cl_Linear
    have cl2 := T.cl_Leaping
    refine ⟨_, (pss_cons (ps_set (i := 1) sc_law.nd rfl (.inl rfl) (C8.pe_c (cal__law_begun T) hr (by omega) (by rfl) (pa_cons (pv 0) pa_nil)))
      (pss_cons (ps_for PassesOwn.never rfl (pi_range1 rfl T.b_range (pa_cons (pe_op op_add pe_int (pe_callB (Rd.call_mn2 rfl) (by rfl) T.b_min (by decide +kernel) (pa_cons pe_int (pa_cons (pe_op op_fdivW (pe_callB Rd.call_lenQ (by rfl) T.b_len PySem.boot_len (pa_cons (pv 0) pa_nil)) pe_int) pa_nil)))) pa_nil)) (pg_name (i := 2) sc_law.nd rfl (.inl rfl)) (pss_cons (ps_par3 (i := 3) (j := 4) (l := 5) rfl sc_law.nd rfl rfl rfl (by decide) (by decide) (by decide) rfl rfl rfl (pa_cons (C8.pe_mk (mak_Leaping T) hr (by omega) (by rfl) (pa_cons (C8.pe_c (cal__law_x T) hr (by omega) (by rfl) (pa_cons (pv 1) pa_nil)) (pa_cons (C8.pe_c (cal__law_every T) hr (by omega) (by rfl) (pa_cons (pv 1) pa_nil)) pa_nil))) (pa_cons (C8.pe_c (cal__law_steps T) hr (by omega) (by rfl) (pa_cons (pv 1) pa_nil)) (pa_cons (C8.pe_c (cal__law_x T) hr (by omega) (by rfl) (pa_cons (pv 1) pa_nil)) pa_nil))) (by rfl))
      (pss_cons (ps_set (i := 6) sc_law.nd rfl (.inl rfl) (C8.pe_mt (met_Leaping_ahead T) hr (by omega) (pv 3) (pa_cons (pv 4) pa_nil)))
      (pss_cons (ps_if (PW.pt (pw_or (pt_cmpR op_ne (Gx.pe_cx (calx_leaps T) LamX.takes0 (E := fun _ _ _ => False) (fun _ _ _ _ h => h) hr (by omega) (by rfl) (pa_cons (pv 3) (pa_cons (pv 6) pa_nil))) (pe_op op_mod (pv 4) (Gx.pe_propC (pv 3) (prop_Leaping_period T) hr (by omega) rfl)) (nomark _)) (pw_or1 (pt_cmpR op_ne (Gx.pe_cx (calx_leaps T) LamX.takes0 (E := fun _ _ _ => False) (fun _ _ _ _ h => h) hr (by omega) (by rfl) (pa_cons (pv 6) (pa_cons (pv 6) pa_nil))) pe_int (nomark _))))) (pss_one (ps_ret pe_bl)) pss_nil)
      (pss_cons (ps_set (i := 7) sc_law.nd rfl (.inl rfl) (pe_ix ix_tup (Gx.pe_propC (pv 6) (prop_Leaping_state T) hr (by omega) rfl) pe_int (fun _ _ => rfl)))
      (pss_cons (ps_for PassesOwn.never rfl (pi_tup (pe_tup (pa_cons (C8.pe_mk (mak_Leaping T) hr (by omega) (by rfl) (pa_cons (pv 7) (pa_cons (pe_op op_add pe_int (C8.pe_c (cal__law_next T) hr (by omega) (by rfl) (pa_cons (pv 1) (pa_cons pe_int pa_nil)))) pa_nil))) (pa_cons (C8.pe_mk (mak_Linear T) hr (by omega) (by rfl) (pa_cons (pv 7) pa_nil)) pa_nil)))) (pg_name (i := 8) sc_law.nd rfl (.inl rfl)) (pss_one (ps_if (pt_cmpR op_ne (Gx.pe_cx (calx_leaps T) LamX.takes0 (E := fun _ _ _ => False) (fun _ _ _ _ h => h) hr (by omega) (by rfl) (pa_cons (pv 3) (pa_cons (pv 8) pa_nil))) (pe_op op_mod (pv 4) (Gx.pe_propC (pv 3) (prop_Leaping_period T) hr (by omega) rfl)) (nomark _)) (pss_one (ps_ret pe_bl)) pss_nil)))
      (pss_one (ps_if (PW.pt (pw_or (pt_not (pt_val (C8.pe_c (cal__law_is_right T) hr (by omega) (by rfl) (pa_cons (pv 3) (pa_cons (C8.pe_mk (mak_Linear T) hr (by omega) (by rfl) (pa_cons (pv 5) pa_nil)) (pa_cons (pv 5) pa_nil)))))) (pw_or1 (pt_not (pt_val (C8.pe_c (cal__law_is_right T) hr (by omega) (by rfl) (pa_cons (pv 3) (pa_cons (C8.pe_mk (mak_Leaping T) hr (by omega) (by rfl) (pa_cons (pv 5) (pa_cons pe_int pa_nil))) (pa_cons (pv 5) pa_nil))))))))) (pss_one (ps_ret pe_bl)) pss_nil))))))))
      (pss_one (ps_ret pe_bl)))), ?_⟩
    walk_at "rd"
    refine ⟨a, ns, rfl, hS, hl, fun H1 d g e1 D1 => ?_⟩
    walk_at "rd"
    refine Rd.lenL (Rd.ex_l e1 hS) ?_
    have hl' : ((ns.map V.int).length : Int) ≤ 63 := by rw [List.length_map]; omega
    walk_at "rd"
    refine Rd.frN (n := (4 + (if ((ns.map V.int).length : Int) / 4 < 6 then ((ns.map V.int).length : Int) / 4 else 6)).toNat) (by split <;> omega) (by split <;> omega)
      (fun i σ' H' => ∃ y2 y3 y4 y5 y6 y7 y8, σ' = [some (.ref a), some (.ref d), y2, y3, y4, y5, y6, y7, y8] ∧ Draw H' d g) ⟨none, none, none, none, none, none, none, rfl, D1⟩ ?_ ?_
    · rintro i σ' H' hi ⟨y2, y3, y4, y5, y6, y7, y8, rfl, D2⟩
      walk_at "rd"
      refine u_pick D2 fun H3 x x0 x1 D3 x3 => ?_
      walk_at "rd"
      refine u_everyD D3 fun H4 e e0 e1' D4 x4 => ?_
      walk_at "rd"
      refine u_leap ⟨x0, by omega, e0, e1'⟩ fun o1 d1 H5 ho1 e5 k5 => ?_
      walk_at "rd"
      refine u_pick (by walk_at "dr") fun H6 n n0 n1 D6 x6 => ?_
      walk_at "rd"
      refine u_pick D6 fun H7 y y0 y1 D7 x7 => ?_
      have k7 : H7 o1 = some (LeapO C_Leaping d1 x e) := by walk_at "hp"
      have hx : 0 ≤ x ∧ x < 281474976710656 := ⟨x0, by omega⟩
      have hy : 0 ≤ y ∧ y < 281474976710656 := ⟨y0, by omega⟩
      have he : 1 ≤ e ∧ e ≤ 18446744073709551616 := ⟨e0, e1'⟩
      walk_at "rd"
      refine u_ahead2 ⟨k7, hx, ⟨n0, n1⟩, he⟩ fun o2 d2 H8 ho2 e8 k8 => ?_
      generalize hz : ML.mv (n * e % 281474976710656).toNat x = z at k8
      have rz : 0 ≤ z ∧ z < 281474976710656 := by rw [← hz]; exact ML.mv_rng _ _
      have hpp : (0 : Int) < 2 ^ (48 - ML.tw e) := Int.pow_pos (by decide)
      generalize hM : (2 : Int) ^ (48 - ML.tw e) = M at *
      walk_at "rd"
      refine u_leaps (k := n) ⟨by walk_at "hp", .inl ⟨_, _, k8⟩, hx, rz, he⟩ n0 hz.symm fun H9 e9 => ?_
      walk_at "rd"
      refine u_period (by walk_at "hp") e0 ?_
      rw [hM]
      walk_at "rd"
      refine u_leaps (k := 0) (x := z) (y := z) ⟨by walk_at "hp", .inl ⟨_, _, by walk_at "hp"⟩, rz, rz, he⟩ (by decide) (by rw [Int.zero_mul, Int.zero_emod]; exact (ML.mv_zero rz.1 rz.2).symm) fun H10 e10 => ?_
      rw [Int.zero_emod]
      walk_at "rd"
      refine u_state2 (by walk_at "hp") fun t1 H11 ht1 e11 k11 => ?_
      walk_at "rd"
      refine u_next (by decide) (by decide) (by walk_at "dr") fun H12 m m0 m1 D12 x12 => ?_
      walk_at "rd"
      obtain ⟨m, rfl⟩ := Int.eq_ofNat_of_zero_le m0
      rw [show (1 : Int) + (m : Int) = ((1 + m : Nat) : Int) by omega]
      refine u_leap ⟨rz.1, rz.2, by omega, by omega⟩ fun o3 d3 H13 ho3 e13 k13 => ?_
      walk_at "rd"
      refine Pr.u_lin rz fun o4 d4 H14 ho4 e14 k14 => ?_
      walk_at "rd"
      refine Au.new fun tp H15 htp e15 k15 => ?_
      walk_at "rd"
      refine ⟨tp, rfl, ⟨_, Rd.sqt k15⟩, for_tup (K := K) (a := tp) (xs := [.ref o3, .ref o4]) (fun j σ' H' => ∃ y8, σ' = [some (.ref a), some (.ref d), some (.int i), some (.ref o1), some (.int n), some (.int y), some (.ref o2), some (.int z), y8] ∧ Rd.Ex H15 H') ⟨_, rfl, Same.refl _⟩ (fun j σ' H' _ hh => ?_) ?_ ?_⟩
      · obtain ⟨_, _, ex⟩ := hh
        exact Rd.ex_t ex (Rd.sqt k15)
      · rintro j v σ' H16 hj ⟨y8, rfl, e16⟩
        have hv : ∃ o5, v = .ref o5 ∧ SrcX C_Linear C_Leaping H16 o5 z := by
          match j, hj with
          | 0, hj => cases hj; exact ⟨o3, rfl, .inl ⟨_, _, by walk_at "hp"⟩⟩
          | 1, hj => cases hj; exact ⟨o4, rfl, .inr ⟨_, by walk_at "hp"⟩⟩
          | j + 2, hj => cases hj
        obtain ⟨o5, rfl, s5⟩ := hv
        walk_at "rd"
        refine u_leaps (k := n) ⟨by walk_at "hp", s5, hx, rz, he⟩ n0 hz.symm fun H17 e17 => ?_
        walk_at "rd"
        refine u_period (by walk_at "hp") e0 ?_
        rw [hM]
        walk_at "rd"
        exact ⟨_, rfl, fun c o h => by walk_at "hp"⟩
      · rintro σ' H16 ⟨y8, rfl, e16⟩
        walk_at "rd"
        refine Pr.u_lin hy fun o6 d6 H17 ho6 e17 k17 => ?_
        walk_at "rd"
        refine ⟨o1, d1, o6, x, y, e, rfl, ⟨by walk_at "hp", .inr ⟨_, k17⟩, hx, hy, he⟩, fun H18 e18 => ?_⟩
        walk_at "rd"
        refine u_leap (e := 7) ⟨hy.1, hy.2, by decide, by decide⟩ fun o7 d7 H19 ho7 e19 k19 => ?_
        walk_at "rd"
        refine ⟨o1, d1, o7, x, y, e, rfl, ⟨by walk_at "hp", .inl ⟨_, _, k19⟩, hx, hy, he⟩, fun H20 e20 => ?_⟩
        walk_at "rd"
        exact ⟨_, _, _, _, _, _, _, rfl, by walk_at "dr"⟩
    · rintro σ' H' ⟨y2, y3, y4, y5, y6, y7, y8, rfl, D2⟩
      walk_at "rd"
      exact q H'
end
theorem law_mk {l : PySem.W.OpenLaw} {w : World} {K : PySem.W.Frag} {mg : Str → Option Value} {fa C_Linear C_Leaping C_Shortage C_NoRow : Addr} {h : Heap} (hmg : mg "law" = some (.ref fa)) (T : Txt K mg C_Linear C_Leaping C_Shortage C_NoRow) : Gx.LawG l w K 11 "_law_script" mg fa h := by
  obtain ⟨f, fd, F, b, hb⟩ := T.d_law
  have e := hmg.symm.trans F.mgf
  cases e
  exact ⟨fd, [], spLaw K, fun p hp => (nomatch hp), fun p hp => (nomatch hp), fun p hp => (nomatch hp), hb, fun H a ns hl _ _ hS => ⟨a, ns, rfl, hS, hl, fun _ => rfl⟩, fun base _ _ _ => fn_law T F⟩
end Pf

set_option Elab.async false
set_option linter.all false
set_option maxRecDepth 100000
set_option maxHeartbeats 4000000
namespace Pf
open PySem PySem.Spec PyProof.Rows L2
set_option maxHeartbeats 4000000 in
theorem txt_mk {K : PySem.W.Frag} {h : Heap} {mg : Str → Option Value} {f_NoRow___init__ f_is_integer f_need_steps f_s2_is_number f_s2_need_start f_s2_joined f_s2_step_map f_s2_mapped f_s2_moved f_s2_distance f_Linear___init__ f_Linear_state f_Linear_ahead f_s2_need_linear f_distance f_s2_is_every f_s2_need_every f_s2_twos f_Leaping___init__ f_Leaping_every f_Leaping_period f_Leaping_s2_after f_Leaping_state f_Leaping_ahead f_s2_x_of f_leaps f__law_begun f__law_next f__law_x f__law_steps f__law_every f__law_twos f__law_found f__law_is_right f_law p_Linear_state p_Leaping_every p_Leaping_period p_Leaping_state C_Linear C_Leaping C_Shortage C_NoRow : Addr} {od_NoRow___init__ an_NoRow___init__ od_is_integer an_is_integer od_need_steps an_need_steps od_s2_is_number an_s2_is_number od_s2_need_start an_s2_need_start od_s2_joined an_s2_joined od_s2_step_map an_s2_step_map od_s2_mapped an_s2_mapped od_s2_moved an_s2_moved od_s2_distance an_s2_distance od_Linear___init__ an_Linear___init__ od_Linear_state an_Linear_state od_Linear_ahead an_Linear_ahead od_s2_need_linear an_s2_need_linear od_distance an_distance od_s2_is_every an_s2_is_every od_s2_need_every an_s2_need_every od_s2_twos an_s2_twos od_Leaping___init__ an_Leaping___init__ od_Leaping_every an_Leaping_every od_Leaping_period an_Leaping_period od_Leaping_s2_after an_Leaping_s2_after od_Leaping_state an_Leaping_state od_Leaping_ahead an_Leaping_ahead od_s2_x_of an_s2_x_of od_leaps an_leaps od__law_begun an__law_begun od__law_next an__law_next od__law_x an__law_x od__law_steps an__law_steps od__law_every an__law_every od__law_twos an__law_twos od__law_found an__law_found od__law_is_right an__law_is_right od_law an_law : Option Addr} {sl_NoRow___init__ sl_is_integer sl_need_steps sl_s2_is_number sl_s2_need_start sl_s2_joined sl_s2_step_map sl_s2_mapped sl_s2_moved sl_s2_distance sl_Linear___init__ sl_Linear_state sl_Linear_ahead sl_s2_need_linear sl_distance sl_s2_is_every sl_s2_need_every sl_s2_twos sl_Leaping___init__ sl_Leaping_every sl_Leaping_period sl_Leaping_s2_after sl_Leaping_state sl_Leaping_ahead sl_s2_x_of sl_leaps sl__law_begun sl__law_next sl__law_x sl__law_steps sl__law_every sl__law_twos sl__law_found sl__law_is_right sl_law : Array (Option Value)} {oc_NoRow___init__ kV_NoRow___init__ dc_NoRow___init__ pm_NoRow___init__ cd_NoRow___init__ ct_NoRow___init__ oc_is_integer kV_is_integer dc_is_integer pm_is_integer cd_is_integer ct_is_integer oc_need_steps kV_need_steps dc_need_steps pm_need_steps cd_need_steps ct_need_steps oc_s2_is_number kV_s2_is_number dc_s2_is_number pm_s2_is_number cd_s2_is_number ct_s2_is_number oc_s2_need_start kV_s2_need_start dc_s2_need_start pm_s2_need_start cd_s2_need_start ct_s2_need_start oc_s2_joined kV_s2_joined dc_s2_joined pm_s2_joined cd_s2_joined ct_s2_joined oc_s2_step_map kV_s2_step_map dc_s2_step_map pm_s2_step_map cd_s2_step_map ct_s2_step_map oc_s2_mapped kV_s2_mapped dc_s2_mapped pm_s2_mapped cd_s2_mapped ct_s2_mapped oc_s2_moved kV_s2_moved dc_s2_moved pm_s2_moved cd_s2_moved ct_s2_moved oc_s2_distance kV_s2_distance dc_s2_distance pm_s2_distance cd_s2_distance ct_s2_distance oc_Linear___init__ kV_Linear___init__ dc_Linear___init__ pm_Linear___init__ cd_Linear___init__ ct_Linear___init__ oc_Linear_state kV_Linear_state dc_Linear_state pm_Linear_state cd_Linear_state ct_Linear_state oc_Linear_ahead kV_Linear_ahead dc_Linear_ahead pm_Linear_ahead cd_Linear_ahead ct_Linear_ahead oc_s2_need_linear kV_s2_need_linear dc_s2_need_linear pm_s2_need_linear cd_s2_need_linear ct_s2_need_linear oc_distance kV_distance dc_distance pm_distance cd_distance ct_distance oc_s2_is_every kV_s2_is_every dc_s2_is_every pm_s2_is_every cd_s2_is_every ct_s2_is_every oc_s2_need_every kV_s2_need_every dc_s2_need_every pm_s2_need_every cd_s2_need_every ct_s2_need_every oc_s2_twos kV_s2_twos dc_s2_twos pm_s2_twos cd_s2_twos ct_s2_twos oc_Leaping___init__ kV_Leaping___init__ dc_Leaping___init__ pm_Leaping___init__ cd_Leaping___init__ ct_Leaping___init__ oc_Leaping_every kV_Leaping_every dc_Leaping_every pm_Leaping_every cd_Leaping_every ct_Leaping_every oc_Leaping_period kV_Leaping_period dc_Leaping_period pm_Leaping_period cd_Leaping_period ct_Leaping_period oc_Leaping_s2_after kV_Leaping_s2_after dc_Leaping_s2_after pm_Leaping_s2_after cd_Leaping_s2_after ct_Leaping_s2_after oc_Leaping_state kV_Leaping_state dc_Leaping_state pm_Leaping_state cd_Leaping_state ct_Leaping_state oc_Leaping_ahead kV_Leaping_ahead dc_Leaping_ahead pm_Leaping_ahead cd_Leaping_ahead ct_Leaping_ahead oc_s2_x_of kV_s2_x_of dc_s2_x_of pm_s2_x_of cd_s2_x_of ct_s2_x_of oc_leaps kV_leaps dc_leaps pm_leaps cd_leaps ct_leaps oc__law_begun kV__law_begun dc__law_begun pm__law_begun cd__law_begun ct__law_begun oc__law_next kV__law_next dc__law_next pm__law_next cd__law_next ct__law_next oc__law_x kV__law_x dc__law_x pm__law_x cd__law_x ct__law_x oc__law_steps kV__law_steps dc__law_steps pm__law_steps cd__law_steps ct__law_steps oc__law_every kV__law_every dc__law_every pm__law_every cd__law_every ct__law_every oc__law_twos kV__law_twos dc__law_twos pm__law_twos cd__law_twos ct__law_twos oc__law_found kV__law_found dc__law_found pm__law_found cd__law_found ct__law_found oc__law_is_right kV__law_is_right dc__law_is_right pm__law_is_right cd__law_is_right ct__law_is_right oc_law kV_law dc_law pm_law cd_law ct_law : Value} {rs_Linear_state rs_Leaping_every rs_Leaping_period rs_Leaping_state : List Value} {tk_MOST_STEPS tk_DIGITS tk_MODULUS tk_MULTIPLIER tk_ADDEND : Tok} (X : K.In h) (G : h.Ns mainGlobals mg)
    (a_NoRow___init__ : PySem.W.findIn K (.ref C_NoRow) "__init__" = some (some (.ref f_NoRow___init__)))
    (ti_NoRow___init__ : PySem.W.typeIn K (.ref f_NoRow___init__) = some (.type "function"))
    (l_NoRow___init__ : K.lookup f_NoRow___init__ = some ⟨oc_NoRow___init__, od_NoRow___init__, .func (PySem.W.fnOf "__init__" "NoRow.__init__" (C8.fnArgs s_NoRow___init__) (C8.fnBody s_NoRow___init__) (C8.fnScope s_NoRow___init__) .none kV_NoRow___init__ dc_NoRow___init__ pm_NoRow___init__ an_NoRow___init__ cd_NoRow___init__ ct_NoRow___init__), sl_NoRow___init__⟩)
    (c_NoRow___init__ : PySem.W.codeIn K cd_NoRow___init__ "NoRow.__init__" = true)
    (a_is_integer : PySem.W.nsIn K mainGlobals "is_integer" = some (some (.ref f_is_integer)))
    (l_is_integer : K.lookup f_is_integer = some ⟨oc_is_integer, od_is_integer, .func (PySem.W.fnOf "is_integer" "is_integer" (C8.fnArgs s_is_integer) (C8.fnBody s_is_integer) (C8.fnScope s_is_integer) .none kV_is_integer dc_is_integer pm_is_integer an_is_integer cd_is_integer ct_is_integer), sl_is_integer⟩)
    (c_is_integer : PySem.W.codeIn K cd_is_integer "is_integer" = true)
    (k_is_integer : PySem.W.keepIn K (.ref f_is_integer) = true)
    (a_need_steps : PySem.W.nsIn K mainGlobals "need_steps" = some (some (.ref f_need_steps)))
    (l_need_steps : K.lookup f_need_steps = some ⟨oc_need_steps, od_need_steps, .func (PySem.W.fnOf "need_steps" "need_steps" (C8.fnArgs s_need_steps) (C8.fnBody s_need_steps) (C8.fnScope s_need_steps) .none kV_need_steps dc_need_steps pm_need_steps an_need_steps cd_need_steps ct_need_steps), sl_need_steps⟩)
    (c_need_steps : PySem.W.codeIn K cd_need_steps "need_steps" = true)
    (k_need_steps : PySem.W.keepIn K (.ref f_need_steps) = true)
    (a_s2_is_number : PySem.W.nsIn K mainGlobals "s2_is_number" = some (some (.ref f_s2_is_number)))
    (l_s2_is_number : K.lookup f_s2_is_number = some ⟨oc_s2_is_number, od_s2_is_number, .func (PySem.W.fnOf "s2_is_number" "s2_is_number" (C8.fnArgs s_s2_is_number) (C8.fnBody s_s2_is_number) (C8.fnScope s_s2_is_number) .none kV_s2_is_number dc_s2_is_number pm_s2_is_number an_s2_is_number cd_s2_is_number ct_s2_is_number), sl_s2_is_number⟩)
    (c_s2_is_number : PySem.W.codeIn K cd_s2_is_number "s2_is_number" = true)
    (k_s2_is_number : PySem.W.keepIn K (.ref f_s2_is_number) = true)
    (a_s2_need_start : PySem.W.nsIn K mainGlobals "s2_need_start" = some (some (.ref f_s2_need_start)))
    (l_s2_need_start : K.lookup f_s2_need_start = some ⟨oc_s2_need_start, od_s2_need_start, .func (PySem.W.fnOf "s2_need_start" "s2_need_start" (C8.fnArgs s_s2_need_start) (C8.fnBody s_s2_need_start) (C8.fnScope s_s2_need_start) .none kV_s2_need_start dc_s2_need_start pm_s2_need_start an_s2_need_start cd_s2_need_start ct_s2_need_start), sl_s2_need_start⟩)
    (c_s2_need_start : PySem.W.codeIn K cd_s2_need_start "s2_need_start" = true)
    (k_s2_need_start : PySem.W.keepIn K (.ref f_s2_need_start) = true)
    (a_s2_joined : PySem.W.nsIn K mainGlobals "s2_joined" = some (some (.ref f_s2_joined)))
    (l_s2_joined : K.lookup f_s2_joined = some ⟨oc_s2_joined, od_s2_joined, .func (PySem.W.fnOf "s2_joined" "s2_joined" (C8.fnArgs s_s2_joined) (C8.fnBody s_s2_joined) (C8.fnScope s_s2_joined) .none kV_s2_joined dc_s2_joined pm_s2_joined an_s2_joined cd_s2_joined ct_s2_joined), sl_s2_joined⟩)
    (c_s2_joined : PySem.W.codeIn K cd_s2_joined "s2_joined" = true)
    (k_s2_joined : PySem.W.keepIn K (.ref f_s2_joined) = true)
    (a_s2_step_map : PySem.W.nsIn K mainGlobals "s2_step_map" = some (some (.ref f_s2_step_map)))
    (l_s2_step_map : K.lookup f_s2_step_map = some ⟨oc_s2_step_map, od_s2_step_map, .func (PySem.W.fnOf "s2_step_map" "s2_step_map" (C8.fnArgs s_s2_step_map) (C8.fnBody s_s2_step_map) (C8.fnScope s_s2_step_map) .none kV_s2_step_map dc_s2_step_map pm_s2_step_map an_s2_step_map cd_s2_step_map ct_s2_step_map), sl_s2_step_map⟩)
    (c_s2_step_map : PySem.W.codeIn K cd_s2_step_map "s2_step_map" = true)
    (k_s2_step_map : PySem.W.keepIn K (.ref f_s2_step_map) = true)
    (a_s2_mapped : PySem.W.nsIn K mainGlobals "s2_mapped" = some (some (.ref f_s2_mapped)))
    (l_s2_mapped : K.lookup f_s2_mapped = some ⟨oc_s2_mapped, od_s2_mapped, .func (PySem.W.fnOf "s2_mapped" "s2_mapped" (C8.fnArgs s_s2_mapped) (C8.fnBody s_s2_mapped) (C8.fnScope s_s2_mapped) .none kV_s2_mapped dc_s2_mapped pm_s2_mapped an_s2_mapped cd_s2_mapped ct_s2_mapped), sl_s2_mapped⟩)
    (c_s2_mapped : PySem.W.codeIn K cd_s2_mapped "s2_mapped" = true)
    (k_s2_mapped : PySem.W.keepIn K (.ref f_s2_mapped) = true)
    (a_s2_moved : PySem.W.nsIn K mainGlobals "s2_moved" = some (some (.ref f_s2_moved)))
    (l_s2_moved : K.lookup f_s2_moved = some ⟨oc_s2_moved, od_s2_moved, .func (PySem.W.fnOf "s2_moved" "s2_moved" (C8.fnArgs s_s2_moved) (C8.fnBody s_s2_moved) (C8.fnScope s_s2_moved) .none kV_s2_moved dc_s2_moved pm_s2_moved an_s2_moved cd_s2_moved ct_s2_moved), sl_s2_moved⟩)
    (c_s2_moved : PySem.W.codeIn K cd_s2_moved "s2_moved" = true)
    (k_s2_moved : PySem.W.keepIn K (.ref f_s2_moved) = true)
    (a_s2_distance : PySem.W.nsIn K mainGlobals "s2_distance" = some (some (.ref f_s2_distance)))
    (l_s2_distance : K.lookup f_s2_distance = some ⟨oc_s2_distance, od_s2_distance, .func (PySem.W.fnOf "s2_distance" "s2_distance" (C8.fnArgs s_s2_distance) (C8.fnBody s_s2_distance) (C8.fnScope s_s2_distance) .none kV_s2_distance dc_s2_distance pm_s2_distance an_s2_distance cd_s2_distance ct_s2_distance), sl_s2_distance⟩)
    (c_s2_distance : PySem.W.codeIn K cd_s2_distance "s2_distance" = true)
    (k_s2_distance : PySem.W.keepIn K (.ref f_s2_distance) = true)
    (a_Linear___init__ : PySem.W.findIn K (.ref C_Linear) "__init__" = some (some (.ref f_Linear___init__)))
    (i_Linear___init__ : PySem.W.isFn K (.ref f_Linear___init__) = true)
    (l_Linear___init__ : K.lookup f_Linear___init__ = some ⟨oc_Linear___init__, od_Linear___init__, .func (PySem.W.fnOf "__init__" "Linear.__init__" (C8.fnArgs s_Linear___init__) (C8.fnBody s_Linear___init__) (C8.fnScope s_Linear___init__) .none kV_Linear___init__ dc_Linear___init__ pm_Linear___init__ an_Linear___init__ cd_Linear___init__ ct_Linear___init__), sl_Linear___init__⟩)
    (c_Linear___init__ : PySem.W.codeIn K cd_Linear___init__ "Linear.__init__" = true)
    (k_Linear___init__ : PySem.W.keepIn K (.ref f_Linear___init__) = true)
    (mk_Linear___init__ : PySem.W.makesIn K C_Linear = true)
    (kc_Linear___init__ : PySem.W.keepIn K (.ref C_Linear) = true)
    (a_Linear_state : PySem.W.findIn K (.ref C_Linear) "state" = some (some (.ref p_Linear_state)))
    (g_Linear_state : PySem.W.specialIn K (.ref p_Linear_state) "__get__" = some (some (.builtin "property.__get__")))
    (t_Linear_state : PySem.W.takesIn K (.ref p_Linear_state) = some true)
    (r_Linear_state : PySem.W.recIn K p_Linear_state "property" = some (.ref f_Linear_state :: rs_Linear_state))
    (l_Linear_state : K.lookup f_Linear_state = some ⟨oc_Linear_state, od_Linear_state, .func (PySem.W.fnOf "state" "Linear.state" (C8.fnArgs s_Linear_state) (C8.fnBody s_Linear_state) (C8.fnScope s_Linear_state) .none kV_Linear_state dc_Linear_state pm_Linear_state an_Linear_state cd_Linear_state ct_Linear_state), sl_Linear_state⟩)
    (c_Linear_state : PySem.W.codeIn K cd_Linear_state "Linear.state" = true)
    (k_Linear_state : PySem.W.keepIn K (.ref f_Linear_state) = true)
    (a_Linear_ahead : PySem.W.findIn K (.ref C_Linear) "ahead" = some (some (.ref f_Linear_ahead)))
    (i_Linear_ahead : PySem.W.isFn K (.ref f_Linear_ahead) = true)
    (l_Linear_ahead : K.lookup f_Linear_ahead = some ⟨oc_Linear_ahead, od_Linear_ahead, .func (PySem.W.fnOf "ahead" "Linear.ahead" (C8.fnArgs s_Linear_ahead) (C8.fnBody s_Linear_ahead) (C8.fnScope s_Linear_ahead) .none kV_Linear_ahead dc_Linear_ahead pm_Linear_ahead an_Linear_ahead cd_Linear_ahead ct_Linear_ahead), sl_Linear_ahead⟩)
    (c_Linear_ahead : PySem.W.codeIn K cd_Linear_ahead "Linear.ahead" = true)
    (k_Linear_ahead : PySem.W.keepIn K (.ref f_Linear_ahead) = true)
    (a_s2_need_linear : PySem.W.nsIn K mainGlobals "s2_need_linear" = some (some (.ref f_s2_need_linear)))
    (l_s2_need_linear : K.lookup f_s2_need_linear = some ⟨oc_s2_need_linear, od_s2_need_linear, .func (PySem.W.fnOf "s2_need_linear" "s2_need_linear" (C8.fnArgs s_s2_need_linear) (C8.fnBody s_s2_need_linear) (C8.fnScope s_s2_need_linear) .none kV_s2_need_linear dc_s2_need_linear pm_s2_need_linear an_s2_need_linear cd_s2_need_linear ct_s2_need_linear), sl_s2_need_linear⟩)
    (c_s2_need_linear : PySem.W.codeIn K cd_s2_need_linear "s2_need_linear" = true)
    (k_s2_need_linear : PySem.W.keepIn K (.ref f_s2_need_linear) = true)
    (a_distance : PySem.W.nsIn K mainGlobals "distance" = some (some (.ref f_distance)))
    (l_distance : K.lookup f_distance = some ⟨oc_distance, od_distance, .func (PySem.W.fnOf "distance" "distance" (C8.fnArgs s_distance) (C8.fnBody s_distance) (C8.fnScope s_distance) .none kV_distance dc_distance pm_distance an_distance cd_distance ct_distance), sl_distance⟩)
    (c_distance : PySem.W.codeIn K cd_distance "distance" = true)
    (k_distance : PySem.W.keepIn K (.ref f_distance) = true)
    (a_s2_is_every : PySem.W.nsIn K mainGlobals "s2_is_every" = some (some (.ref f_s2_is_every)))
    (l_s2_is_every : K.lookup f_s2_is_every = some ⟨oc_s2_is_every, od_s2_is_every, .func (PySem.W.fnOf "s2_is_every" "s2_is_every" (C8.fnArgs s_s2_is_every) (C8.fnBody s_s2_is_every) (C8.fnScope s_s2_is_every) .none kV_s2_is_every dc_s2_is_every pm_s2_is_every an_s2_is_every cd_s2_is_every ct_s2_is_every), sl_s2_is_every⟩)
    (c_s2_is_every : PySem.W.codeIn K cd_s2_is_every "s2_is_every" = true)
    (k_s2_is_every : PySem.W.keepIn K (.ref f_s2_is_every) = true)
    (a_s2_need_every : PySem.W.nsIn K mainGlobals "s2_need_every" = some (some (.ref f_s2_need_every)))
    (l_s2_need_every : K.lookup f_s2_need_every = some ⟨oc_s2_need_every, od_s2_need_every, .func (PySem.W.fnOf "s2_need_every" "s2_need_every" (C8.fnArgs s_s2_need_every) (C8.fnBody s_s2_need_every) (C8.fnScope s_s2_need_every) .none kV_s2_need_every dc_s2_need_every pm_s2_need_every an_s2_need_every cd_s2_need_every ct_s2_need_every), sl_s2_need_every⟩)
    (c_s2_need_every : PySem.W.codeIn K cd_s2_need_every "s2_need_every" = true)
    (k_s2_need_every : PySem.W.keepIn K (.ref f_s2_need_every) = true)
    (a_s2_twos : PySem.W.nsIn K mainGlobals "s2_twos" = some (some (.ref f_s2_twos)))
    (l_s2_twos : K.lookup f_s2_twos = some ⟨oc_s2_twos, od_s2_twos, .func (PySem.W.fnOf "s2_twos" "s2_twos" (C8.fnArgs s_s2_twos) (C8.fnBody s_s2_twos) (C8.fnScope s_s2_twos) .none kV_s2_twos dc_s2_twos pm_s2_twos an_s2_twos cd_s2_twos ct_s2_twos), sl_s2_twos⟩)
    (c_s2_twos : PySem.W.codeIn K cd_s2_twos "s2_twos" = true)
    (k_s2_twos : PySem.W.keepIn K (.ref f_s2_twos) = true)
    (a_Leaping___init__ : PySem.W.findIn K (.ref C_Leaping) "__init__" = some (some (.ref f_Leaping___init__)))
    (i_Leaping___init__ : PySem.W.isFn K (.ref f_Leaping___init__) = true)
    (l_Leaping___init__ : K.lookup f_Leaping___init__ = some ⟨oc_Leaping___init__, od_Leaping___init__, .func (PySem.W.fnOf "__init__" "Leaping.__init__" (C8.fnArgs s_Leaping___init__) (C8.fnBody s_Leaping___init__) (C8.fnScope s_Leaping___init__) .none kV_Leaping___init__ dc_Leaping___init__ pm_Leaping___init__ an_Leaping___init__ cd_Leaping___init__ ct_Leaping___init__), sl_Leaping___init__⟩)
    (c_Leaping___init__ : PySem.W.codeIn K cd_Leaping___init__ "Leaping.__init__" = true)
    (k_Leaping___init__ : PySem.W.keepIn K (.ref f_Leaping___init__) = true)
    (mk_Leaping___init__ : PySem.W.makesIn K C_Leaping = true)
    (kc_Leaping___init__ : PySem.W.keepIn K (.ref C_Leaping) = true)
    (a_Leaping_every : PySem.W.findIn K (.ref C_Leaping) "every" = some (some (.ref p_Leaping_every)))
    (g_Leaping_every : PySem.W.specialIn K (.ref p_Leaping_every) "__get__" = some (some (.builtin "property.__get__")))
    (t_Leaping_every : PySem.W.takesIn K (.ref p_Leaping_every) = some true)
    (r_Leaping_every : PySem.W.recIn K p_Leaping_every "property" = some (.ref f_Leaping_every :: rs_Leaping_every))
    (l_Leaping_every : K.lookup f_Leaping_every = some ⟨oc_Leaping_every, od_Leaping_every, .func (PySem.W.fnOf "every" "Leaping.every" (C8.fnArgs s_Leaping_every) (C8.fnBody s_Leaping_every) (C8.fnScope s_Leaping_every) .none kV_Leaping_every dc_Leaping_every pm_Leaping_every an_Leaping_every cd_Leaping_every ct_Leaping_every), sl_Leaping_every⟩)
    (c_Leaping_every : PySem.W.codeIn K cd_Leaping_every "Leaping.every" = true)
    (k_Leaping_every : PySem.W.keepIn K (.ref f_Leaping_every) = true)
    (a_Leaping_period : PySem.W.findIn K (.ref C_Leaping) "period" = some (some (.ref p_Leaping_period)))
    (g_Leaping_period : PySem.W.specialIn K (.ref p_Leaping_period) "__get__" = some (some (.builtin "property.__get__")))
    (t_Leaping_period : PySem.W.takesIn K (.ref p_Leaping_period) = some true)
    (r_Leaping_period : PySem.W.recIn K p_Leaping_period "property" = some (.ref f_Leaping_period :: rs_Leaping_period))
    (l_Leaping_period : K.lookup f_Leaping_period = some ⟨oc_Leaping_period, od_Leaping_period, .func (PySem.W.fnOf "period" "Leaping.period" (C8.fnArgs s_Leaping_period) (C8.fnBody s_Leaping_period) (C8.fnScope s_Leaping_period) .none kV_Leaping_period dc_Leaping_period pm_Leaping_period an_Leaping_period cd_Leaping_period ct_Leaping_period), sl_Leaping_period⟩)
    (c_Leaping_period : PySem.W.codeIn K cd_Leaping_period "Leaping.period" = true)
    (k_Leaping_period : PySem.W.keepIn K (.ref f_Leaping_period) = true)
    (a_Leaping_s2_after : PySem.W.findIn K (.ref C_Leaping) "s2_after" = some (some (.ref f_Leaping_s2_after)))
    (i_Leaping_s2_after : PySem.W.isFn K (.ref f_Leaping_s2_after) = true)
    (l_Leaping_s2_after : K.lookup f_Leaping_s2_after = some ⟨oc_Leaping_s2_after, od_Leaping_s2_after, .func (PySem.W.fnOf "s2_after" "Leaping.s2_after" (C8.fnArgs s_Leaping_s2_after) (C8.fnBody s_Leaping_s2_after) (C8.fnScope s_Leaping_s2_after) .none kV_Leaping_s2_after dc_Leaping_s2_after pm_Leaping_s2_after an_Leaping_s2_after cd_Leaping_s2_after ct_Leaping_s2_after), sl_Leaping_s2_after⟩)
    (c_Leaping_s2_after : PySem.W.codeIn K cd_Leaping_s2_after "Leaping.s2_after" = true)
    (k_Leaping_s2_after : PySem.W.keepIn K (.ref f_Leaping_s2_after) = true)
    (a_Leaping_state : PySem.W.findIn K (.ref C_Leaping) "state" = some (some (.ref p_Leaping_state)))
    (g_Leaping_state : PySem.W.specialIn K (.ref p_Leaping_state) "__get__" = some (some (.builtin "property.__get__")))
    (t_Leaping_state : PySem.W.takesIn K (.ref p_Leaping_state) = some true)
    (r_Leaping_state : PySem.W.recIn K p_Leaping_state "property" = some (.ref f_Leaping_state :: rs_Leaping_state))
    (l_Leaping_state : K.lookup f_Leaping_state = some ⟨oc_Leaping_state, od_Leaping_state, .func (PySem.W.fnOf "state" "Leaping.state" (C8.fnArgs s_Leaping_state) (C8.fnBody s_Leaping_state) (C8.fnScope s_Leaping_state) .none kV_Leaping_state dc_Leaping_state pm_Leaping_state an_Leaping_state cd_Leaping_state ct_Leaping_state), sl_Leaping_state⟩)
    (c_Leaping_state : PySem.W.codeIn K cd_Leaping_state "Leaping.state" = true)
    (k_Leaping_state : PySem.W.keepIn K (.ref f_Leaping_state) = true)
    (a_Leaping_ahead : PySem.W.findIn K (.ref C_Leaping) "ahead" = some (some (.ref f_Leaping_ahead)))
    (i_Leaping_ahead : PySem.W.isFn K (.ref f_Leaping_ahead) = true)
    (l_Leaping_ahead : K.lookup f_Leaping_ahead = some ⟨oc_Leaping_ahead, od_Leaping_ahead, .func (PySem.W.fnOf "ahead" "Leaping.ahead" (C8.fnArgs s_Leaping_ahead) (C8.fnBody s_Leaping_ahead) (C8.fnScope s_Leaping_ahead) .none kV_Leaping_ahead dc_Leaping_ahead pm_Leaping_ahead an_Leaping_ahead cd_Leaping_ahead ct_Leaping_ahead), sl_Leaping_ahead⟩)
    (c_Leaping_ahead : PySem.W.codeIn K cd_Leaping_ahead "Leaping.ahead" = true)
    (k_Leaping_ahead : PySem.W.keepIn K (.ref f_Leaping_ahead) = true)
    (a_s2_x_of : PySem.W.nsIn K mainGlobals "s2_x_of" = some (some (.ref f_s2_x_of)))
    (l_s2_x_of : K.lookup f_s2_x_of = some ⟨oc_s2_x_of, od_s2_x_of, .func (PySem.W.fnOf "s2_x_of" "s2_x_of" (C8.fnArgs s_s2_x_of) (C8.fnBody s_s2_x_of) (C8.fnScope s_s2_x_of) .none kV_s2_x_of dc_s2_x_of pm_s2_x_of an_s2_x_of cd_s2_x_of ct_s2_x_of), sl_s2_x_of⟩)
    (c_s2_x_of : PySem.W.codeIn K cd_s2_x_of "s2_x_of" = true)
    (k_s2_x_of : PySem.W.keepIn K (.ref f_s2_x_of) = true)
    (a_leaps : PySem.W.nsIn K mainGlobals "leaps" = some (some (.ref f_leaps)))
    (l_leaps : K.lookup f_leaps = some ⟨oc_leaps, od_leaps, .func (PySem.W.fnOf "leaps" "leaps" (C8.fnArgs s_leaps) (C8.fnBody s_leaps) (C8.fnScope s_leaps) .none kV_leaps dc_leaps pm_leaps an_leaps cd_leaps ct_leaps), sl_leaps⟩)
    (c_leaps : PySem.W.codeIn K cd_leaps "leaps" = true)
    (k_leaps : PySem.W.keepIn K (.ref f_leaps) = true)
    (a__law_begun : PySem.W.nsIn K mainGlobals "_law_begun" = some (some (.ref f__law_begun)))
    (l__law_begun : K.lookup f__law_begun = some ⟨oc__law_begun, od__law_begun, .func (PySem.W.fnOf "_law_begun" "_law_begun" (C8.fnArgs s__law_begun) (C8.fnBody s__law_begun) (C8.fnScope s__law_begun) .none kV__law_begun dc__law_begun pm__law_begun an__law_begun cd__law_begun ct__law_begun), sl__law_begun⟩)
    (c__law_begun : PySem.W.codeIn K cd__law_begun "_law_begun" = true)
    (k__law_begun : PySem.W.keepIn K (.ref f__law_begun) = true)
    (a__law_next : PySem.W.nsIn K mainGlobals "_law_next" = some (some (.ref f__law_next)))
    (l__law_next : K.lookup f__law_next = some ⟨oc__law_next, od__law_next, .func (PySem.W.fnOf "_law_next" "_law_next" (C8.fnArgs s__law_next) (C8.fnBody s__law_next) (C8.fnScope s__law_next) .none kV__law_next dc__law_next pm__law_next an__law_next cd__law_next ct__law_next), sl__law_next⟩)
    (c__law_next : PySem.W.codeIn K cd__law_next "_law_next" = true)
    (k__law_next : PySem.W.keepIn K (.ref f__law_next) = true)
    (a__law_x : PySem.W.nsIn K mainGlobals "_law_x" = some (some (.ref f__law_x)))
    (l__law_x : K.lookup f__law_x = some ⟨oc__law_x, od__law_x, .func (PySem.W.fnOf "_law_x" "_law_x" (C8.fnArgs s__law_x) (C8.fnBody s__law_x) (C8.fnScope s__law_x) .none kV__law_x dc__law_x pm__law_x an__law_x cd__law_x ct__law_x), sl__law_x⟩)
    (c__law_x : PySem.W.codeIn K cd__law_x "_law_x" = true)
    (k__law_x : PySem.W.keepIn K (.ref f__law_x) = true)
    (a__law_steps : PySem.W.nsIn K mainGlobals "_law_steps" = some (some (.ref f__law_steps)))
    (l__law_steps : K.lookup f__law_steps = some ⟨oc__law_steps, od__law_steps, .func (PySem.W.fnOf "_law_steps" "_law_steps" (C8.fnArgs s__law_steps) (C8.fnBody s__law_steps) (C8.fnScope s__law_steps) .none kV__law_steps dc__law_steps pm__law_steps an__law_steps cd__law_steps ct__law_steps), sl__law_steps⟩)
    (c__law_steps : PySem.W.codeIn K cd__law_steps "_law_steps" = true)
    (k__law_steps : PySem.W.keepIn K (.ref f__law_steps) = true)
    (a__law_every : PySem.W.nsIn K mainGlobals "_law_every" = some (some (.ref f__law_every)))
    (l__law_every : K.lookup f__law_every = some ⟨oc__law_every, od__law_every, .func (PySem.W.fnOf "_law_every" "_law_every" (C8.fnArgs s__law_every) (C8.fnBody s__law_every) (C8.fnScope s__law_every) .none kV__law_every dc__law_every pm__law_every an__law_every cd__law_every ct__law_every), sl__law_every⟩)
    (c__law_every : PySem.W.codeIn K cd__law_every "_law_every" = true)
    (k__law_every : PySem.W.keepIn K (.ref f__law_every) = true)
    (a__law_twos : PySem.W.nsIn K mainGlobals "_law_twos" = some (some (.ref f__law_twos)))
    (l__law_twos : K.lookup f__law_twos = some ⟨oc__law_twos, od__law_twos, .func (PySem.W.fnOf "_law_twos" "_law_twos" (C8.fnArgs s__law_twos) (C8.fnBody s__law_twos) (C8.fnScope s__law_twos) .none kV__law_twos dc__law_twos pm__law_twos an__law_twos cd__law_twos ct__law_twos), sl__law_twos⟩)
    (c__law_twos : PySem.W.codeIn K cd__law_twos "_law_twos" = true)
    (k__law_twos : PySem.W.keepIn K (.ref f__law_twos) = true)
    (a__law_found : PySem.W.nsIn K mainGlobals "_law_found" = some (some (.ref f__law_found)))
    (l__law_found : K.lookup f__law_found = some ⟨oc__law_found, od__law_found, .func (PySem.W.fnOf "_law_found" "_law_found" (C8.fnArgs s__law_found) (C8.fnBody s__law_found) (C8.fnScope s__law_found) .none kV__law_found dc__law_found pm__law_found an__law_found cd__law_found ct__law_found), sl__law_found⟩)
    (c__law_found : PySem.W.codeIn K cd__law_found "_law_found" = true)
    (k__law_found : PySem.W.keepIn K (.ref f__law_found) = true)
    (a__law_is_right : PySem.W.nsIn K mainGlobals "_law_is_right" = some (some (.ref f__law_is_right)))
    (l__law_is_right : K.lookup f__law_is_right = some ⟨oc__law_is_right, od__law_is_right, .func (PySem.W.fnOf "_law_is_right" "_law_is_right" (C8.fnArgs s__law_is_right) (C8.fnBody s__law_is_right) (C8.fnScope s__law_is_right) .none kV__law_is_right dc__law_is_right pm__law_is_right an__law_is_right cd__law_is_right ct__law_is_right), sl__law_is_right⟩)
    (c__law_is_right : PySem.W.codeIn K cd__law_is_right "_law_is_right" = true)
    (k__law_is_right : PySem.W.keepIn K (.ref f__law_is_right) = true)
    (a_law : PySem.W.nsIn K mainGlobals "law" = some (some (.ref f_law)))
    (l_law : K.lookup f_law = some ⟨oc_law, od_law, .func (PySem.W.fnOf "law" "law" (C8.fnArgs s_law) (C8.fnBody s_law) (C8.fnScope s_law) .none kV_law dc_law pm_law an_law cd_law ct_law), sl_law⟩)
    (c_law : PySem.W.codeIn K cd_law "law" = true)
    (k_law : PySem.W.keepIn K (.ref f_law) = true)
    (e_MOST_STEPS : PySem.W.nsIn K mainGlobals "MOST_STEPS" = some (some (.int 18446744073709551616 tk_MOST_STEPS)))
    (e_DIGITS : PySem.W.nsIn K mainGlobals "DIGITS" = some (some (.int 48 tk_DIGITS)))
    (e_MODULUS : PySem.W.nsIn K mainGlobals "MODULUS" = some (some (.int 281474976710656 tk_MODULUS)))
    (e_MULTIPLIER : PySem.W.nsIn K mainGlobals "MULTIPLIER" = some (some (.int 205891132094649 tk_MULTIPLIER)))
    (e_ADDEND : PySem.W.nsIn K mainGlobals "ADDEND" = some (some (.int 11 tk_ADDEND)))
    (q_Linear : PySem.W.nsIn K mainGlobals "Linear" = some (some (.ref C_Linear)))
    (pg_Linear : PySem.W.plainGet K C_Linear Str.empty = true)
    (hd_Linear : PySem.W.hasDictIn K C_Linear = true)
    (po_Linear : PySem.W.plainOver K C_Linear = true)
    (sa_Linear : PySem.W.findIn K (.ref C_Linear) "__setattr__" = some (some (.builtin "object.__setattr__")))
    (ha_Linear : PySem.W.findIn K (.ref C_Linear) "__class__" = some (some (.builtin "object.__class__")))
    (hn_Linear : PySem.W.specialIn K (.builtin "object.__class__") "__get__" = some (some (.builtin "getset_descriptor.__get__")))
    (ht_Linear : PySem.W.takesIn K (.builtin "object.__class__") = some true)
    (hm_Linear : PySem.W.mroIn K C_Linear (.type "object") = some true)
    (na_Linear_s2_x : PySem.W.findIn K (.ref C_Linear) "s2_x" = some none)
    (q_Leaping : PySem.W.nsIn K mainGlobals "Leaping" = some (some (.ref C_Leaping)))
    (pg_Leaping : PySem.W.plainGet K C_Leaping Str.empty = true)
    (hd_Leaping : PySem.W.hasDictIn K C_Leaping = true)
    (po_Leaping : PySem.W.plainOver K C_Leaping = true)
    (sa_Leaping : PySem.W.findIn K (.ref C_Leaping) "__setattr__" = some (some (.builtin "object.__setattr__")))
    (ha_Leaping : PySem.W.findIn K (.ref C_Leaping) "__class__" = some (some (.builtin "object.__class__")))
    (hn_Leaping : PySem.W.specialIn K (.builtin "object.__class__") "__get__" = some (some (.builtin "getset_descriptor.__get__")))
    (ht_Leaping : PySem.W.takesIn K (.builtin "object.__class__") = some true)
    (hm_Leaping : PySem.W.mroIn K C_Leaping (.type "object") = some true)
    (na_Leaping_s2_leap_x : PySem.W.findIn K (.ref C_Leaping) "s2_leap_x" = some none)
    (na_Leaping_s2_every : PySem.W.findIn K (.ref C_Leaping) "s2_every" = some none)
    (ob_Linear_Leaping : PySem.W.kitOne K (.ref C_Linear) (.ref C_Leaping) = some false)
    (ob_Leaping_Linear : PySem.W.kitOne K (.ref C_Leaping) (.ref C_Linear) = some false)
    (q_Shortage : PySem.W.nsIn K mainGlobals "Shortage" = some (some (.ref C_Shortage)))
    (rd_Shortage : PySem.W.readsIn K C_Shortage (.type "type") = true)
    (rg_Shortage : PySem.W.specialIn K (.ref C_Shortage) "__getattribute__" = some (some (.builtin "type.__getattribute__")))
    (fi_Shortage : PySem.W.findCls K (.ref C_Shortage) (.type "type") "__init__" = some (.val (.builtin "LookupError.__init__")))
    (q_NoRow : PySem.W.nsIn K mainGlobals "NoRow" = some (some (.ref C_NoRow)))
    (in_NoRow : PySem.W.excInitIn K C_NoRow [.type "LookupError", .type "Exception", .type "BaseException", .type "object"] "LookupError.__new__" = true)
    (ov_NoRow : PySem.W.excOver K C_NoRow [.type "LookupError", .type "Exception", .type "BaseException", .type "object"] = true)
    (hd_NoRow : PySem.W.hasDictIn K C_NoRow = true)
    (sa_NoRow : PySem.W.findIn K (.ref C_NoRow) "__setattr__" = some (some (.builtin "object.__setattr__")))
    (ex_NoRow : PySem.W.subIn K (.ref C_NoRow) (.type "BaseException") = some true)
    (ty_NoRow : PySem.W.typeIn K (.ref C_NoRow) = some (.type "type"))
    (kc_NoRow : PySem.W.keepIn K (.ref C_NoRow) = true)
    (ga_NoRow : PySem.W.findIn K (.ref C_NoRow) "__getattribute__" = some (some (.builtin "BaseException.__getattribute__")))
    (gg_NoRow : PySem.W.findIn K (.ref C_NoRow) "__getattr__" = some none)
    (na_NoRow : PySem.W.findIn K (.ref C_NoRow) "given" = some none)
    (tk_NoRow : PySem.W.takerIn K C_NoRow "given" = some none)
    (sb_NoRow : PySem.W.subIn K (.ref C_NoRow) (.ref C_NoRow) = some true)
    (z_bool : PySem.W.nsIn K mainGlobals "bool" = some none)
    (z_enumerate : PySem.W.nsIn K mainGlobals "enumerate" = some none)
    (z_int : PySem.W.nsIn K mainGlobals "int" = some none)
    (z_isinstance : PySem.W.nsIn K mainGlobals "isinstance" = some none)
    (z_len : PySem.W.nsIn K mainGlobals "len" = some none)
    (z_list : PySem.W.nsIn K mainGlobals "list" = some none)
    (z_max : PySem.W.nsIn K mainGlobals "max" = some none)
    (z_min : PySem.W.nsIn K mainGlobals "min" = some none)
    (z_range : PySem.W.nsIn K mainGlobals "range" = some none)
    : Txt K mg C_Linear C_Leaping C_Shortage C_NoRow :=
  { d_NoRow___init__ := ⟨f_NoRow___init__, _, a_NoRow___init__, ti_NoRow___init__, ⟨⟨oc_NoRow___init__, od_NoRow___init__, .none, kV_NoRow___init__, dc_NoRow___init__, pm_NoRow___init__, an_NoRow___init__, cd_NoRow___init__, ct_NoRow___init__, sl_NoRow___init__, rfl, l_NoRow___init__, c_NoRow___init__⟩⟩, C8.Fun.binds (x := "__init__") (qual := "NoRow.__init__") (st := s_NoRow___init__) (f := f_NoRow___init__) ⟨⟨oc_NoRow___init__, od_NoRow___init__, .none, kV_NoRow___init__, dc_NoRow___init__, pm_NoRow___init__, an_NoRow___init__, cd_NoRow___init__, ct_NoRow___init__, sl_NoRow___init__, rfl, l_NoRow___init__, c_NoRow___init__⟩⟩ rfl (fun _ _ _ _ _ _ us hl => match us, hl with | [_, _], _ => rfl)⟩,
    d_is_integer := ⟨f_is_integer, _, ⟨⟨⟨oc_is_integer, od_is_integer, .none, kV_is_integer, dc_is_integer, pm_is_integer, an_is_integer, cd_is_integer, ct_is_integer, sl_is_integer, rfl, l_is_integer, c_is_integer⟩⟩, PySem.W.mg_of X G a_is_integer, k_is_integer⟩, C8.Fun.binds (x := "is_integer") (qual := "is_integer") (st := s_is_integer) (f := f_is_integer) ⟨⟨oc_is_integer, od_is_integer, .none, kV_is_integer, dc_is_integer, pm_is_integer, an_is_integer, cd_is_integer, ct_is_integer, sl_is_integer, rfl, l_is_integer, c_is_integer⟩⟩ rfl (fun _ _ _ _ _ _ us hl => match us, hl with | [_], _ => rfl)⟩,
    d_need_steps := ⟨f_need_steps, _, ⟨⟨⟨oc_need_steps, od_need_steps, .none, kV_need_steps, dc_need_steps, pm_need_steps, an_need_steps, cd_need_steps, ct_need_steps, sl_need_steps, rfl, l_need_steps, c_need_steps⟩⟩, PySem.W.mg_of X G a_need_steps, k_need_steps⟩, C8.Fun.binds (x := "need_steps") (qual := "need_steps") (st := s_need_steps) (f := f_need_steps) ⟨⟨oc_need_steps, od_need_steps, .none, kV_need_steps, dc_need_steps, pm_need_steps, an_need_steps, cd_need_steps, ct_need_steps, sl_need_steps, rfl, l_need_steps, c_need_steps⟩⟩ rfl (fun _ _ _ _ _ _ us hl => match us, hl with | [_], _ => rfl)⟩,
    d_s2_is_number := ⟨f_s2_is_number, _, ⟨⟨⟨oc_s2_is_number, od_s2_is_number, .none, kV_s2_is_number, dc_s2_is_number, pm_s2_is_number, an_s2_is_number, cd_s2_is_number, ct_s2_is_number, sl_s2_is_number, rfl, l_s2_is_number, c_s2_is_number⟩⟩, PySem.W.mg_of X G a_s2_is_number, k_s2_is_number⟩, C8.Fun.binds (x := "s2_is_number") (qual := "s2_is_number") (st := s_s2_is_number) (f := f_s2_is_number) ⟨⟨oc_s2_is_number, od_s2_is_number, .none, kV_s2_is_number, dc_s2_is_number, pm_s2_is_number, an_s2_is_number, cd_s2_is_number, ct_s2_is_number, sl_s2_is_number, rfl, l_s2_is_number, c_s2_is_number⟩⟩ rfl (fun _ _ _ _ _ _ us hl => match us, hl with | [_], _ => rfl)⟩,
    d_s2_need_start := ⟨f_s2_need_start, _, ⟨⟨⟨oc_s2_need_start, od_s2_need_start, .none, kV_s2_need_start, dc_s2_need_start, pm_s2_need_start, an_s2_need_start, cd_s2_need_start, ct_s2_need_start, sl_s2_need_start, rfl, l_s2_need_start, c_s2_need_start⟩⟩, PySem.W.mg_of X G a_s2_need_start, k_s2_need_start⟩, C8.Fun.binds (x := "s2_need_start") (qual := "s2_need_start") (st := s_s2_need_start) (f := f_s2_need_start) ⟨⟨oc_s2_need_start, od_s2_need_start, .none, kV_s2_need_start, dc_s2_need_start, pm_s2_need_start, an_s2_need_start, cd_s2_need_start, ct_s2_need_start, sl_s2_need_start, rfl, l_s2_need_start, c_s2_need_start⟩⟩ rfl (fun _ _ _ _ _ _ us hl => match us, hl with | [_], _ => rfl)⟩,
    d_s2_joined := ⟨f_s2_joined, _, ⟨⟨⟨oc_s2_joined, od_s2_joined, .none, kV_s2_joined, dc_s2_joined, pm_s2_joined, an_s2_joined, cd_s2_joined, ct_s2_joined, sl_s2_joined, rfl, l_s2_joined, c_s2_joined⟩⟩, PySem.W.mg_of X G a_s2_joined, k_s2_joined⟩, C8.Fun.binds (x := "s2_joined") (qual := "s2_joined") (st := s_s2_joined) (f := f_s2_joined) ⟨⟨oc_s2_joined, od_s2_joined, .none, kV_s2_joined, dc_s2_joined, pm_s2_joined, an_s2_joined, cd_s2_joined, ct_s2_joined, sl_s2_joined, rfl, l_s2_joined, c_s2_joined⟩⟩ rfl (fun _ _ _ _ _ _ us hl => match us, hl with | [_, _], _ => rfl)⟩,
    d_s2_step_map := ⟨f_s2_step_map, _, ⟨⟨⟨oc_s2_step_map, od_s2_step_map, .none, kV_s2_step_map, dc_s2_step_map, pm_s2_step_map, an_s2_step_map, cd_s2_step_map, ct_s2_step_map, sl_s2_step_map, rfl, l_s2_step_map, c_s2_step_map⟩⟩, PySem.W.mg_of X G a_s2_step_map, k_s2_step_map⟩, C8.Fun.binds (x := "s2_step_map") (qual := "s2_step_map") (st := s_s2_step_map) (f := f_s2_step_map) ⟨⟨oc_s2_step_map, od_s2_step_map, .none, kV_s2_step_map, dc_s2_step_map, pm_s2_step_map, an_s2_step_map, cd_s2_step_map, ct_s2_step_map, sl_s2_step_map, rfl, l_s2_step_map, c_s2_step_map⟩⟩ rfl (fun _ _ _ _ _ _ us hl => match us, hl with | [_], _ => rfl)⟩,
    d_s2_mapped := ⟨f_s2_mapped, _, ⟨⟨⟨oc_s2_mapped, od_s2_mapped, .none, kV_s2_mapped, dc_s2_mapped, pm_s2_mapped, an_s2_mapped, cd_s2_mapped, ct_s2_mapped, sl_s2_mapped, rfl, l_s2_mapped, c_s2_mapped⟩⟩, PySem.W.mg_of X G a_s2_mapped, k_s2_mapped⟩, C8.Fun.binds (x := "s2_mapped") (qual := "s2_mapped") (st := s_s2_mapped) (f := f_s2_mapped) ⟨⟨oc_s2_mapped, od_s2_mapped, .none, kV_s2_mapped, dc_s2_mapped, pm_s2_mapped, an_s2_mapped, cd_s2_mapped, ct_s2_mapped, sl_s2_mapped, rfl, l_s2_mapped, c_s2_mapped⟩⟩ rfl (fun _ _ _ _ _ _ us hl => match us, hl with | [_, _], _ => rfl)⟩,
    d_s2_moved := ⟨f_s2_moved, _, ⟨⟨⟨oc_s2_moved, od_s2_moved, .none, kV_s2_moved, dc_s2_moved, pm_s2_moved, an_s2_moved, cd_s2_moved, ct_s2_moved, sl_s2_moved, rfl, l_s2_moved, c_s2_moved⟩⟩, PySem.W.mg_of X G a_s2_moved, k_s2_moved⟩, C8.Fun.binds (x := "s2_moved") (qual := "s2_moved") (st := s_s2_moved) (f := f_s2_moved) ⟨⟨oc_s2_moved, od_s2_moved, .none, kV_s2_moved, dc_s2_moved, pm_s2_moved, an_s2_moved, cd_s2_moved, ct_s2_moved, sl_s2_moved, rfl, l_s2_moved, c_s2_moved⟩⟩ rfl (fun _ _ _ _ _ _ us hl => match us, hl with | [_, _], _ => rfl)⟩,
    d_s2_distance := ⟨f_s2_distance, _, ⟨⟨⟨oc_s2_distance, od_s2_distance, .none, kV_s2_distance, dc_s2_distance, pm_s2_distance, an_s2_distance, cd_s2_distance, ct_s2_distance, sl_s2_distance, rfl, l_s2_distance, c_s2_distance⟩⟩, PySem.W.mg_of X G a_s2_distance, k_s2_distance⟩, C8.Fun.binds (x := "s2_distance") (qual := "s2_distance") (st := s_s2_distance) (f := f_s2_distance) ⟨⟨oc_s2_distance, od_s2_distance, .none, kV_s2_distance, dc_s2_distance, pm_s2_distance, an_s2_distance, cd_s2_distance, ct_s2_distance, sl_s2_distance, rfl, l_s2_distance, c_s2_distance⟩⟩ rfl (fun _ _ _ _ _ _ us hl => match us, hl with | [_, _], _ => rfl)⟩,
    d_Linear___init__ := ⟨f_Linear___init__, _, ⟨mk_Linear___init__, a_Linear___init__, i_Linear___init__, kc_Linear___init__⟩, ⟨⟨oc_Linear___init__, od_Linear___init__, .none, kV_Linear___init__, dc_Linear___init__, pm_Linear___init__, an_Linear___init__, cd_Linear___init__, ct_Linear___init__, sl_Linear___init__, rfl, l_Linear___init__, c_Linear___init__⟩⟩, C8.Fun.binds (x := "__init__") (qual := "Linear.__init__") (st := s_Linear___init__) (f := f_Linear___init__) ⟨⟨oc_Linear___init__, od_Linear___init__, .none, kV_Linear___init__, dc_Linear___init__, pm_Linear___init__, an_Linear___init__, cd_Linear___init__, ct_Linear___init__, sl_Linear___init__, rfl, l_Linear___init__, c_Linear___init__⟩⟩ rfl (fun _ _ _ _ _ _ us hl => match us, hl with | [_, _], _ => rfl)⟩,
    d_Linear_state := ⟨p_Linear_state, f_Linear_state, _, ⟨a_Linear_state, g_Linear_state, t_Linear_state, _, r_Linear_state⟩, ⟨⟨oc_Linear_state, od_Linear_state, .none, kV_Linear_state, dc_Linear_state, pm_Linear_state, an_Linear_state, cd_Linear_state, ct_Linear_state, sl_Linear_state, rfl, l_Linear_state, c_Linear_state⟩⟩, C8.Fun.binds (x := "state") (qual := "Linear.state") (st := s_Linear_state) (f := f_Linear_state) ⟨⟨oc_Linear_state, od_Linear_state, .none, kV_Linear_state, dc_Linear_state, pm_Linear_state, an_Linear_state, cd_Linear_state, ct_Linear_state, sl_Linear_state, rfl, l_Linear_state, c_Linear_state⟩⟩ rfl (fun _ _ _ _ _ _ us hl => match us, hl with | [_], _ => rfl)⟩,
    d_Linear_ahead := ⟨f_Linear_ahead, _, ⟨a_Linear_ahead, i_Linear_ahead, k_Linear_ahead⟩, ⟨⟨oc_Linear_ahead, od_Linear_ahead, .none, kV_Linear_ahead, dc_Linear_ahead, pm_Linear_ahead, an_Linear_ahead, cd_Linear_ahead, ct_Linear_ahead, sl_Linear_ahead, rfl, l_Linear_ahead, c_Linear_ahead⟩⟩, C8.Fun.binds (x := "ahead") (qual := "Linear.ahead") (st := s_Linear_ahead) (f := f_Linear_ahead) ⟨⟨oc_Linear_ahead, od_Linear_ahead, .none, kV_Linear_ahead, dc_Linear_ahead, pm_Linear_ahead, an_Linear_ahead, cd_Linear_ahead, ct_Linear_ahead, sl_Linear_ahead, rfl, l_Linear_ahead, c_Linear_ahead⟩⟩ rfl (fun _ _ _ _ _ _ us hl => match us, hl with | [_, _], _ => rfl)⟩,
    d_s2_need_linear := ⟨f_s2_need_linear, _, ⟨⟨⟨oc_s2_need_linear, od_s2_need_linear, .none, kV_s2_need_linear, dc_s2_need_linear, pm_s2_need_linear, an_s2_need_linear, cd_s2_need_linear, ct_s2_need_linear, sl_s2_need_linear, rfl, l_s2_need_linear, c_s2_need_linear⟩⟩, PySem.W.mg_of X G a_s2_need_linear, k_s2_need_linear⟩, C8.Fun.binds (x := "s2_need_linear") (qual := "s2_need_linear") (st := s_s2_need_linear) (f := f_s2_need_linear) ⟨⟨oc_s2_need_linear, od_s2_need_linear, .none, kV_s2_need_linear, dc_s2_need_linear, pm_s2_need_linear, an_s2_need_linear, cd_s2_need_linear, ct_s2_need_linear, sl_s2_need_linear, rfl, l_s2_need_linear, c_s2_need_linear⟩⟩ rfl (fun _ _ _ _ _ _ us hl => match us, hl with | [_], _ => rfl)⟩,
    d_distance := ⟨f_distance, _, ⟨⟨⟨oc_distance, od_distance, .none, kV_distance, dc_distance, pm_distance, an_distance, cd_distance, ct_distance, sl_distance, rfl, l_distance, c_distance⟩⟩, PySem.W.mg_of X G a_distance, k_distance⟩, C8.Fun.binds (x := "distance") (qual := "distance") (st := s_distance) (f := f_distance) ⟨⟨oc_distance, od_distance, .none, kV_distance, dc_distance, pm_distance, an_distance, cd_distance, ct_distance, sl_distance, rfl, l_distance, c_distance⟩⟩ rfl (fun _ _ _ _ _ _ us hl => match us, hl with | [_, _], _ => rfl)⟩,
    d_s2_is_every := ⟨f_s2_is_every, _, ⟨⟨⟨oc_s2_is_every, od_s2_is_every, .none, kV_s2_is_every, dc_s2_is_every, pm_s2_is_every, an_s2_is_every, cd_s2_is_every, ct_s2_is_every, sl_s2_is_every, rfl, l_s2_is_every, c_s2_is_every⟩⟩, PySem.W.mg_of X G a_s2_is_every, k_s2_is_every⟩, C8.Fun.binds (x := "s2_is_every") (qual := "s2_is_every") (st := s_s2_is_every) (f := f_s2_is_every) ⟨⟨oc_s2_is_every, od_s2_is_every, .none, kV_s2_is_every, dc_s2_is_every, pm_s2_is_every, an_s2_is_every, cd_s2_is_every, ct_s2_is_every, sl_s2_is_every, rfl, l_s2_is_every, c_s2_is_every⟩⟩ rfl (fun _ _ _ _ _ _ us hl => match us, hl with | [_], _ => rfl)⟩,
    d_s2_need_every := ⟨f_s2_need_every, _, ⟨⟨⟨oc_s2_need_every, od_s2_need_every, .none, kV_s2_need_every, dc_s2_need_every, pm_s2_need_every, an_s2_need_every, cd_s2_need_every, ct_s2_need_every, sl_s2_need_every, rfl, l_s2_need_every, c_s2_need_every⟩⟩, PySem.W.mg_of X G a_s2_need_every, k_s2_need_every⟩, C8.Fun.binds (x := "s2_need_every") (qual := "s2_need_every") (st := s_s2_need_every) (f := f_s2_need_every) ⟨⟨oc_s2_need_every, od_s2_need_every, .none, kV_s2_need_every, dc_s2_need_every, pm_s2_need_every, an_s2_need_every, cd_s2_need_every, ct_s2_need_every, sl_s2_need_every, rfl, l_s2_need_every, c_s2_need_every⟩⟩ rfl (fun _ _ _ _ _ _ us hl => match us, hl with | [_], _ => rfl)⟩,
    d_s2_twos := ⟨f_s2_twos, _, ⟨⟨⟨oc_s2_twos, od_s2_twos, .none, kV_s2_twos, dc_s2_twos, pm_s2_twos, an_s2_twos, cd_s2_twos, ct_s2_twos, sl_s2_twos, rfl, l_s2_twos, c_s2_twos⟩⟩, PySem.W.mg_of X G a_s2_twos, k_s2_twos⟩, C8.Fun.binds (x := "s2_twos") (qual := "s2_twos") (st := s_s2_twos) (f := f_s2_twos) ⟨⟨oc_s2_twos, od_s2_twos, .none, kV_s2_twos, dc_s2_twos, pm_s2_twos, an_s2_twos, cd_s2_twos, ct_s2_twos, sl_s2_twos, rfl, l_s2_twos, c_s2_twos⟩⟩ rfl (fun _ _ _ _ _ _ us hl => match us, hl with | [_], _ => rfl)⟩,
    d_Leaping___init__ := ⟨f_Leaping___init__, _, ⟨mk_Leaping___init__, a_Leaping___init__, i_Leaping___init__, kc_Leaping___init__⟩, ⟨⟨oc_Leaping___init__, od_Leaping___init__, .none, kV_Leaping___init__, dc_Leaping___init__, pm_Leaping___init__, an_Leaping___init__, cd_Leaping___init__, ct_Leaping___init__, sl_Leaping___init__, rfl, l_Leaping___init__, c_Leaping___init__⟩⟩, C8.Fun.binds (x := "__init__") (qual := "Leaping.__init__") (st := s_Leaping___init__) (f := f_Leaping___init__) ⟨⟨oc_Leaping___init__, od_Leaping___init__, .none, kV_Leaping___init__, dc_Leaping___init__, pm_Leaping___init__, an_Leaping___init__, cd_Leaping___init__, ct_Leaping___init__, sl_Leaping___init__, rfl, l_Leaping___init__, c_Leaping___init__⟩⟩ rfl (fun _ _ _ _ _ _ us hl => match us, hl with | [_, _, _], _ => rfl)⟩,
    d_Leaping_every := ⟨p_Leaping_every, f_Leaping_every, _, ⟨a_Leaping_every, g_Leaping_every, t_Leaping_every, _, r_Leaping_every⟩, ⟨⟨oc_Leaping_every, od_Leaping_every, .none, kV_Leaping_every, dc_Leaping_every, pm_Leaping_every, an_Leaping_every, cd_Leaping_every, ct_Leaping_every, sl_Leaping_every, rfl, l_Leaping_every, c_Leaping_every⟩⟩, C8.Fun.binds (x := "every") (qual := "Leaping.every") (st := s_Leaping_every) (f := f_Leaping_every) ⟨⟨oc_Leaping_every, od_Leaping_every, .none, kV_Leaping_every, dc_Leaping_every, pm_Leaping_every, an_Leaping_every, cd_Leaping_every, ct_Leaping_every, sl_Leaping_every, rfl, l_Leaping_every, c_Leaping_every⟩⟩ rfl (fun _ _ _ _ _ _ us hl => match us, hl with | [_], _ => rfl)⟩,
    d_Leaping_period := ⟨p_Leaping_period, f_Leaping_period, _, ⟨a_Leaping_period, g_Leaping_period, t_Leaping_period, _, r_Leaping_period⟩, ⟨⟨oc_Leaping_period, od_Leaping_period, .none, kV_Leaping_period, dc_Leaping_period, pm_Leaping_period, an_Leaping_period, cd_Leaping_period, ct_Leaping_period, sl_Leaping_period, rfl, l_Leaping_period, c_Leaping_period⟩⟩, C8.Fun.binds (x := "period") (qual := "Leaping.period") (st := s_Leaping_period) (f := f_Leaping_period) ⟨⟨oc_Leaping_period, od_Leaping_period, .none, kV_Leaping_period, dc_Leaping_period, pm_Leaping_period, an_Leaping_period, cd_Leaping_period, ct_Leaping_period, sl_Leaping_period, rfl, l_Leaping_period, c_Leaping_period⟩⟩ rfl (fun _ _ _ _ _ _ us hl => match us, hl with | [_], _ => rfl)⟩,
    d_Leaping_s2_after := ⟨f_Leaping_s2_after, _, ⟨a_Leaping_s2_after, i_Leaping_s2_after, k_Leaping_s2_after⟩, ⟨⟨oc_Leaping_s2_after, od_Leaping_s2_after, .none, kV_Leaping_s2_after, dc_Leaping_s2_after, pm_Leaping_s2_after, an_Leaping_s2_after, cd_Leaping_s2_after, ct_Leaping_s2_after, sl_Leaping_s2_after, rfl, l_Leaping_s2_after, c_Leaping_s2_after⟩⟩, C8.Fun.binds (x := "s2_after") (qual := "Leaping.s2_after") (st := s_Leaping_s2_after) (f := f_Leaping_s2_after) ⟨⟨oc_Leaping_s2_after, od_Leaping_s2_after, .none, kV_Leaping_s2_after, dc_Leaping_s2_after, pm_Leaping_s2_after, an_Leaping_s2_after, cd_Leaping_s2_after, ct_Leaping_s2_after, sl_Leaping_s2_after, rfl, l_Leaping_s2_after, c_Leaping_s2_after⟩⟩ rfl (fun _ _ _ _ _ _ us hl => match us, hl with | [_, _], _ => rfl)⟩,
    d_Leaping_state := ⟨p_Leaping_state, f_Leaping_state, _, ⟨a_Leaping_state, g_Leaping_state, t_Leaping_state, _, r_Leaping_state⟩, ⟨⟨oc_Leaping_state, od_Leaping_state, .none, kV_Leaping_state, dc_Leaping_state, pm_Leaping_state, an_Leaping_state, cd_Leaping_state, ct_Leaping_state, sl_Leaping_state, rfl, l_Leaping_state, c_Leaping_state⟩⟩, C8.Fun.binds (x := "state") (qual := "Leaping.state") (st := s_Leaping_state) (f := f_Leaping_state) ⟨⟨oc_Leaping_state, od_Leaping_state, .none, kV_Leaping_state, dc_Leaping_state, pm_Leaping_state, an_Leaping_state, cd_Leaping_state, ct_Leaping_state, sl_Leaping_state, rfl, l_Leaping_state, c_Leaping_state⟩⟩ rfl (fun _ _ _ _ _ _ us hl => match us, hl with | [_], _ => rfl)⟩,
    d_Leaping_ahead := ⟨f_Leaping_ahead, _, ⟨a_Leaping_ahead, i_Leaping_ahead, k_Leaping_ahead⟩, ⟨⟨oc_Leaping_ahead, od_Leaping_ahead, .none, kV_Leaping_ahead, dc_Leaping_ahead, pm_Leaping_ahead, an_Leaping_ahead, cd_Leaping_ahead, ct_Leaping_ahead, sl_Leaping_ahead, rfl, l_Leaping_ahead, c_Leaping_ahead⟩⟩, C8.Fun.binds (x := "ahead") (qual := "Leaping.ahead") (st := s_Leaping_ahead) (f := f_Leaping_ahead) ⟨⟨oc_Leaping_ahead, od_Leaping_ahead, .none, kV_Leaping_ahead, dc_Leaping_ahead, pm_Leaping_ahead, an_Leaping_ahead, cd_Leaping_ahead, ct_Leaping_ahead, sl_Leaping_ahead, rfl, l_Leaping_ahead, c_Leaping_ahead⟩⟩ rfl (fun _ _ _ _ _ _ us hl => match us, hl with | [_, _], _ => rfl)⟩,
    d_s2_x_of := ⟨f_s2_x_of, _, ⟨⟨⟨oc_s2_x_of, od_s2_x_of, .none, kV_s2_x_of, dc_s2_x_of, pm_s2_x_of, an_s2_x_of, cd_s2_x_of, ct_s2_x_of, sl_s2_x_of, rfl, l_s2_x_of, c_s2_x_of⟩⟩, PySem.W.mg_of X G a_s2_x_of, k_s2_x_of⟩, C8.Fun.binds (x := "s2_x_of") (qual := "s2_x_of") (st := s_s2_x_of) (f := f_s2_x_of) ⟨⟨oc_s2_x_of, od_s2_x_of, .none, kV_s2_x_of, dc_s2_x_of, pm_s2_x_of, an_s2_x_of, cd_s2_x_of, ct_s2_x_of, sl_s2_x_of, rfl, l_s2_x_of, c_s2_x_of⟩⟩ rfl (fun _ _ _ _ _ _ us hl => match us, hl with | [_], _ => rfl)⟩,
    d_leaps := ⟨f_leaps, _, ⟨⟨⟨oc_leaps, od_leaps, .none, kV_leaps, dc_leaps, pm_leaps, an_leaps, cd_leaps, ct_leaps, sl_leaps, rfl, l_leaps, c_leaps⟩⟩, PySem.W.mg_of X G a_leaps, k_leaps⟩, C8.Fun.binds (x := "leaps") (qual := "leaps") (st := s_leaps) (f := f_leaps) ⟨⟨oc_leaps, od_leaps, .none, kV_leaps, dc_leaps, pm_leaps, an_leaps, cd_leaps, ct_leaps, sl_leaps, rfl, l_leaps, c_leaps⟩⟩ rfl (fun _ _ _ _ _ _ us hl => match us, hl with | [_, _], _ => rfl)⟩,
    d__law_begun := ⟨f__law_begun, _, ⟨⟨⟨oc__law_begun, od__law_begun, .none, kV__law_begun, dc__law_begun, pm__law_begun, an__law_begun, cd__law_begun, ct__law_begun, sl__law_begun, rfl, l__law_begun, c__law_begun⟩⟩, PySem.W.mg_of X G a__law_begun, k__law_begun⟩, C8.Fun.binds (x := "_law_begun") (qual := "_law_begun") (st := s__law_begun) (f := f__law_begun) ⟨⟨oc__law_begun, od__law_begun, .none, kV__law_begun, dc__law_begun, pm__law_begun, an__law_begun, cd__law_begun, ct__law_begun, sl__law_begun, rfl, l__law_begun, c__law_begun⟩⟩ rfl (fun _ _ _ _ _ _ us hl => match us, hl with | [_], _ => rfl)⟩,
    d__law_next := ⟨f__law_next, _, ⟨⟨⟨oc__law_next, od__law_next, .none, kV__law_next, dc__law_next, pm__law_next, an__law_next, cd__law_next, ct__law_next, sl__law_next, rfl, l__law_next, c__law_next⟩⟩, PySem.W.mg_of X G a__law_next, k__law_next⟩, C8.Fun.binds (x := "_law_next") (qual := "_law_next") (st := s__law_next) (f := f__law_next) ⟨⟨oc__law_next, od__law_next, .none, kV__law_next, dc__law_next, pm__law_next, an__law_next, cd__law_next, ct__law_next, sl__law_next, rfl, l__law_next, c__law_next⟩⟩ rfl (fun _ _ _ _ _ _ us hl => match us, hl with | [_, _], _ => rfl)⟩,
    d__law_x := ⟨f__law_x, _, ⟨⟨⟨oc__law_x, od__law_x, .none, kV__law_x, dc__law_x, pm__law_x, an__law_x, cd__law_x, ct__law_x, sl__law_x, rfl, l__law_x, c__law_x⟩⟩, PySem.W.mg_of X G a__law_x, k__law_x⟩, C8.Fun.binds (x := "_law_x") (qual := "_law_x") (st := s__law_x) (f := f__law_x) ⟨⟨oc__law_x, od__law_x, .none, kV__law_x, dc__law_x, pm__law_x, an__law_x, cd__law_x, ct__law_x, sl__law_x, rfl, l__law_x, c__law_x⟩⟩ rfl (fun _ _ _ _ _ _ us hl => match us, hl with | [_], _ => rfl)⟩,
    d__law_steps := ⟨f__law_steps, _, ⟨⟨⟨oc__law_steps, od__law_steps, .none, kV__law_steps, dc__law_steps, pm__law_steps, an__law_steps, cd__law_steps, ct__law_steps, sl__law_steps, rfl, l__law_steps, c__law_steps⟩⟩, PySem.W.mg_of X G a__law_steps, k__law_steps⟩, C8.Fun.binds (x := "_law_steps") (qual := "_law_steps") (st := s__law_steps) (f := f__law_steps) ⟨⟨oc__law_steps, od__law_steps, .none, kV__law_steps, dc__law_steps, pm__law_steps, an__law_steps, cd__law_steps, ct__law_steps, sl__law_steps, rfl, l__law_steps, c__law_steps⟩⟩ rfl (fun _ _ _ _ _ _ us hl => match us, hl with | [_], _ => rfl)⟩,
    d__law_every := ⟨f__law_every, _, ⟨⟨⟨oc__law_every, od__law_every, .none, kV__law_every, dc__law_every, pm__law_every, an__law_every, cd__law_every, ct__law_every, sl__law_every, rfl, l__law_every, c__law_every⟩⟩, PySem.W.mg_of X G a__law_every, k__law_every⟩, C8.Fun.binds (x := "_law_every") (qual := "_law_every") (st := s__law_every) (f := f__law_every) ⟨⟨oc__law_every, od__law_every, .none, kV__law_every, dc__law_every, pm__law_every, an__law_every, cd__law_every, ct__law_every, sl__law_every, rfl, l__law_every, c__law_every⟩⟩ rfl (fun _ _ _ _ _ _ us hl => match us, hl with | [_], _ => rfl)⟩,
    d__law_twos := ⟨f__law_twos, _, ⟨⟨⟨oc__law_twos, od__law_twos, .none, kV__law_twos, dc__law_twos, pm__law_twos, an__law_twos, cd__law_twos, ct__law_twos, sl__law_twos, rfl, l__law_twos, c__law_twos⟩⟩, PySem.W.mg_of X G a__law_twos, k__law_twos⟩, C8.Fun.binds (x := "_law_twos") (qual := "_law_twos") (st := s__law_twos) (f := f__law_twos) ⟨⟨oc__law_twos, od__law_twos, .none, kV__law_twos, dc__law_twos, pm__law_twos, an__law_twos, cd__law_twos, ct__law_twos, sl__law_twos, rfl, l__law_twos, c__law_twos⟩⟩ rfl (fun _ _ _ _ _ _ us hl => match us, hl with | [_], _ => rfl)⟩,
    d__law_found := ⟨f__law_found, _, ⟨⟨⟨oc__law_found, od__law_found, .none, kV__law_found, dc__law_found, pm__law_found, an__law_found, cd__law_found, ct__law_found, sl__law_found, rfl, l__law_found, c__law_found⟩⟩, PySem.W.mg_of X G a__law_found, k__law_found⟩, C8.Fun.binds (x := "_law_found") (qual := "_law_found") (st := s__law_found) (f := f__law_found) ⟨⟨oc__law_found, od__law_found, .none, kV__law_found, dc__law_found, pm__law_found, an__law_found, cd__law_found, ct__law_found, sl__law_found, rfl, l__law_found, c__law_found⟩⟩ rfl (fun _ _ _ _ _ _ us hl => match us, hl with | [_, _], _ => rfl)⟩,
    d__law_is_right := ⟨f__law_is_right, _, ⟨⟨⟨oc__law_is_right, od__law_is_right, .none, kV__law_is_right, dc__law_is_right, pm__law_is_right, an__law_is_right, cd__law_is_right, ct__law_is_right, sl__law_is_right, rfl, l__law_is_right, c__law_is_right⟩⟩, PySem.W.mg_of X G a__law_is_right, k__law_is_right⟩, C8.Fun.binds (x := "_law_is_right") (qual := "_law_is_right") (st := s__law_is_right) (f := f__law_is_right) ⟨⟨oc__law_is_right, od__law_is_right, .none, kV__law_is_right, dc__law_is_right, pm__law_is_right, an__law_is_right, cd__law_is_right, ct__law_is_right, sl__law_is_right, rfl, l__law_is_right, c__law_is_right⟩⟩ rfl (fun _ _ _ _ _ _ us hl => match us, hl with | [_, _, _], _ => rfl)⟩,
    d_law := ⟨f_law, _, ⟨⟨⟨oc_law, od_law, .none, kV_law, dc_law, pm_law, an_law, cd_law, ct_law, sl_law, rfl, l_law, c_law⟩⟩, PySem.W.mg_of X G a_law, k_law⟩, C8.Fun.binds (x := "law") (qual := "law") (st := s_law) (f := f_law) ⟨⟨oc_law, od_law, .none, kV_law, dc_law, pm_law, an_law, cd_law, ct_law, sl_law, rfl, l_law, c_law⟩⟩ rfl (fun _ _ _ _ _ _ us hl => match us, hl with | [_], _ => rfl), fun s v => .of_eq rfl⟩,
    c_MOST_STEPS := ⟨_, PySem.W.mg_of X G e_MOST_STEPS, _, rfl⟩,
    c_DIGITS := ⟨_, PySem.W.mg_of X G e_DIGITS, _, rfl⟩,
    c_MODULUS := ⟨_, PySem.W.mg_of X G e_MODULUS, _, rfl⟩,
    c_MULTIPLIER := ⟨_, PySem.W.mg_of X G e_MULTIPLIER, _, rfl⟩,
    c_ADDEND := ⟨_, PySem.W.mg_of X G e_ADDEND, _, rfl⟩,
    k_Linear := ⟨_, PySem.W.mg_of X G q_Linear, rfl⟩,
    cl_Linear := ⟨pg_Linear, hd_Linear, po_Linear, sa_Linear⟩,
    is_Linear := ⟨⟨pg_Linear, hd_Linear, po_Linear, sa_Linear⟩, ha_Linear, hn_Linear, ht_Linear, hm_Linear, Rd.kit_self K C_Linear⟩,
    n_Linear_s2_x := na_Linear_s2_x,
    k_Leaping := ⟨_, PySem.W.mg_of X G q_Leaping, rfl⟩,
    cl_Leaping := ⟨pg_Leaping, hd_Leaping, po_Leaping, sa_Leaping⟩,
    is_Leaping := ⟨⟨pg_Leaping, hd_Leaping, po_Leaping, sa_Leaping⟩, ha_Leaping, hn_Leaping, ht_Leaping, hm_Leaping, Rd.kit_self K C_Leaping⟩,
    n_Leaping_s2_leap_x := na_Leaping_s2_leap_x,
    n_Leaping_s2_every := na_Leaping_s2_every,
    o_Linear_Leaping := ob_Linear_Leaping,
    o_Leaping_Linear := ob_Leaping_Linear,
    k_Shortage := ⟨_, PySem.W.mg_of X G q_Shortage, rfl⟩,
    g_Shortage := PySem.W.mg_of X G q_Shortage,
    r_Shortage := ⟨rd_Shortage, rg_Shortage⟩,
    i_Shortage := fi_Shortage,
    k_NoRow := ⟨_, PySem.W.mg_of X G q_NoRow, rfl⟩,
    g_NoRow := PySem.W.mg_of X G q_NoRow,
    y_NoRow := ⟨⟨"LookupError", "LookupError.__new__", _, PySem.F.excBase_LookupError, PySem.F.store_LookupError, in_NoRow, ov_NoRow⟩, hd_NoRow, sa_NoRow, ex_NoRow, ty_NoRow, kc_NoRow⟩,
    f_NoRow := ⟨ga_NoRow, gg_NoRow, ex_NoRow, hd_NoRow⟩,
    n_NoRow_given := na_NoRow,
    t_NoRow_given := tk_NoRow,
    m_NoRow := PySem.W.exm_ref ex_NoRow hd_NoRow ty_NoRow sb_NoRow,
    b_bool := PySem.W.mg_none_of X G z_bool,
    b_enumerate := PySem.W.mg_none_of X G z_enumerate,
    b_int := PySem.W.mg_none_of X G z_int,
    b_isinstance := PySem.W.mg_none_of X G z_isinstance,
    b_len := PySem.W.mg_none_of X G z_len,
    b_list := PySem.W.mg_none_of X G z_list,
    b_max := PySem.W.mg_none_of X G z_max,
    b_min := PySem.W.mg_none_of X G z_min,
    b_range := PySem.W.mg_none_of X G z_range }
end Pf
open PySem PySem.W PyProof.Rows
set_option maxRecDepth 100000 in
set_option maxHeartbeats 0 in
theorem PySem.Challenge.cw_drawstate_k16_whole_leaps_between_holds : PySem.Challenge.rw_drawstate_k16_whole_leaps_between.Holds := by
  w_on; o_law; k_head; (case hw => w_witness2)
  k_fill
  refine Gx.walkG (l := PySem.Challenge.rw_drawstate_k16_whole_leaps_between) (k := 11) (x := "_law_script") rfl rfl ⟨rfl, by decide, by decide⟩ (fun w h Y => PySem.W.kIn_of Y) ?F
  case F =>
    intro w mg fa h Y KX G hmg
    refine' Pf.law_mk hmg (Pf.txt_mk KX G ?a_NoRow___init__ ?ti_NoRow___init__ ?l_NoRow___init__ ?c_NoRow___init__ ?a_is_integer ?l_is_integer ?c_is_integer ?k_is_integer ?a_need_steps ?l_need_steps ?c_need_steps ?k_need_steps ?a_s2_is_number ?l_s2_is_number ?c_s2_is_number ?k_s2_is_number ?a_s2_need_start ?l_s2_need_start ?c_s2_need_start ?k_s2_need_start ?a_s2_joined ?l_s2_joined ?c_s2_joined ?k_s2_joined ?a_s2_step_map ?l_s2_step_map ?c_s2_step_map ?k_s2_step_map ?a_s2_mapped ?l_s2_mapped ?c_s2_mapped ?k_s2_mapped ?a_s2_moved ?l_s2_moved ?c_s2_moved ?k_s2_moved ?a_s2_distance ?l_s2_distance ?c_s2_distance ?k_s2_distance ?a_Linear___init__ ?i_Linear___init__ ?l_Linear___init__ ?c_Linear___init__ ?k_Linear___init__ ?mk_Linear___init__ ?kc_Linear___init__ ?a_Linear_state ?g_Linear_state ?t_Linear_state ?r_Linear_state ?l_Linear_state ?c_Linear_state ?k_Linear_state ?a_Linear_ahead ?i_Linear_ahead ?l_Linear_ahead ?c_Linear_ahead ?k_Linear_ahead ?a_s2_need_linear ?l_s2_need_linear ?c_s2_need_linear ?k_s2_need_linear ?a_distance ?l_distance ?c_distance ?k_distance ?a_s2_is_every ?l_s2_is_every ?c_s2_is_every ?k_s2_is_every ?a_s2_need_every ?l_s2_need_every ?c_s2_need_every ?k_s2_need_every ?a_s2_twos ?l_s2_twos ?c_s2_twos ?k_s2_twos ?a_Leaping___init__ ?i_Leaping___init__ ?l_Leaping___init__ ?c_Leaping___init__ ?k_Leaping___init__ ?mk_Leaping___init__ ?kc_Leaping___init__ ?a_Leaping_every ?g_Leaping_every ?t_Leaping_every ?r_Leaping_every ?l_Leaping_every ?c_Leaping_every ?k_Leaping_every ?a_Leaping_period ?g_Leaping_period ?t_Leaping_period ?r_Leaping_period ?l_Leaping_period ?c_Leaping_period ?k_Leaping_period ?a_Leaping_s2_after ?i_Leaping_s2_after ?l_Leaping_s2_after ?c_Leaping_s2_after ?k_Leaping_s2_after ?a_Leaping_state ?g_Leaping_state ?t_Leaping_state ?r_Leaping_state ?l_Leaping_state ?c_Leaping_state ?k_Leaping_state ?a_Leaping_ahead ?i_Leaping_ahead ?l_Leaping_ahead ?c_Leaping_ahead ?k_Leaping_ahead ?a_s2_x_of ?l_s2_x_of ?c_s2_x_of ?k_s2_x_of ?a_leaps ?l_leaps ?c_leaps ?k_leaps ?a__law_begun ?l__law_begun ?c__law_begun ?k__law_begun ?a__law_next ?l__law_next ?c__law_next ?k__law_next ?a__law_x ?l__law_x ?c__law_x ?k__law_x ?a__law_steps ?l__law_steps ?c__law_steps ?k__law_steps ?a__law_every ?l__law_every ?c__law_every ?k__law_every ?a__law_twos ?l__law_twos ?c__law_twos ?k__law_twos ?a__law_found ?l__law_found ?c__law_found ?k__law_found ?a__law_is_right ?l__law_is_right ?c__law_is_right ?k__law_is_right ?a_law ?l_law ?c_law ?k_law ?e_MOST_STEPS ?e_DIGITS ?e_MODULUS ?e_MULTIPLIER ?e_ADDEND ?q_Linear ?pg_Linear ?hd_Linear ?po_Linear ?sa_Linear ?ha_Linear ?hn_Linear ?ht_Linear ?hm_Linear ?na_Linear_s2_x ?q_Leaping ?pg_Leaping ?hd_Leaping ?po_Leaping ?sa_Leaping ?ha_Leaping ?hn_Leaping ?ht_Leaping ?hm_Leaping ?na_Leaping_s2_leap_x ?na_Leaping_s2_every ?ob_Linear_Leaping ?ob_Leaping_Linear ?q_Shortage ?rd_Shortage ?rg_Shortage ?fi_Shortage ?q_NoRow ?in_NoRow ?ov_NoRow ?hd_NoRow ?sa_NoRow ?ex_NoRow ?ty_NoRow ?kc_NoRow ?ga_NoRow ?gg_NoRow ?na_NoRow ?tk_NoRow ?sb_NoRow ?z_bool ?z_enumerate ?z_int ?z_isinstance ?z_len ?z_list ?z_max ?z_min ?z_range)
    (case q_Linear => k_is)
    (case q_Leaping => k_is)
    (case q_Shortage => k_is)
    (case q_NoRow => k_is)
    (case a_NoRow___init__ => k_is)
    (case ti_NoRow___init__ => k_is)
    (case l_NoRow___init__ => k_is)
    (case c_NoRow___init__ => k_is)
    (case a_is_integer => k_is)
    (case l_is_integer => k_is)
    (case c_is_integer => k_is)
    (case k_is_integer => k_is)
    (case a_need_steps => k_is)
    (case l_need_steps => k_is)
    (case c_need_steps => k_is)
    (case k_need_steps => k_is)
    (case a_s2_is_number => k_is)
    (case l_s2_is_number => k_is)
    (case c_s2_is_number => k_is)
    (case k_s2_is_number => k_is)
    (case a_s2_need_start => k_is)
    (case l_s2_need_start => k_is)
    (case c_s2_need_start => k_is)
    (case k_s2_need_start => k_is)
    (case a_s2_joined => k_is)
    (case l_s2_joined => k_is)
    (case c_s2_joined => k_is)
    (case k_s2_joined => k_is)
    (case a_s2_step_map => k_is)
    (case l_s2_step_map => k_is)
    (case c_s2_step_map => k_is)
    (case k_s2_step_map => k_is)
    (case a_s2_mapped => k_is)
    (case l_s2_mapped => k_is)
    (case c_s2_mapped => k_is)
    (case k_s2_mapped => k_is)
    (case a_s2_moved => k_is)
    (case l_s2_moved => k_is)
    (case c_s2_moved => k_is)
    (case k_s2_moved => k_is)
    (case a_s2_distance => k_is)
    (case l_s2_distance => k_is)
    (case c_s2_distance => k_is)
    (case k_s2_distance => k_is)
    (case a_Linear___init__ => k_is)
    (case i_Linear___init__ => k_is)
    (case l_Linear___init__ => k_is)
    (case c_Linear___init__ => k_is)
    (case k_Linear___init__ => k_is)
    (case mk_Linear___init__ => k_is)
    (case kc_Linear___init__ => k_is)
    (case a_Linear_state => k_is)
    (case g_Linear_state => k_is)
    (case t_Linear_state => k_is)
    (case r_Linear_state => k_is)
    (case l_Linear_state => k_is)
    (case c_Linear_state => k_is)
    (case k_Linear_state => k_is)
    (case a_Linear_ahead => k_is)
    (case i_Linear_ahead => k_is)
    (case l_Linear_ahead => k_is)
    (case c_Linear_ahead => k_is)
    (case k_Linear_ahead => k_is)
    (case a_s2_need_linear => k_is)
    (case l_s2_need_linear => k_is)
    (case c_s2_need_linear => k_is)
    (case k_s2_need_linear => k_is)
    (case a_distance => k_is)
    (case l_distance => k_is)
    (case c_distance => k_is)
    (case k_distance => k_is)
    (case a_s2_is_every => k_is)
    (case l_s2_is_every => k_is)
    (case c_s2_is_every => k_is)
    (case k_s2_is_every => k_is)
    (case a_s2_need_every => k_is)
    (case l_s2_need_every => k_is)
    (case c_s2_need_every => k_is)
    (case k_s2_need_every => k_is)
    (case a_s2_twos => k_is)
    (case l_s2_twos => k_is)
    (case c_s2_twos => k_is)
    (case k_s2_twos => k_is)
    (case a_Leaping___init__ => k_is)
    (case i_Leaping___init__ => k_is)
    (case l_Leaping___init__ => k_is)
    (case c_Leaping___init__ => k_is)
    (case k_Leaping___init__ => k_is)
    (case mk_Leaping___init__ => k_is)
    (case kc_Leaping___init__ => k_is)
    (case a_Leaping_every => k_is)
    (case g_Leaping_every => k_is)
    (case t_Leaping_every => k_is)
    (case r_Leaping_every => k_is)
    (case l_Leaping_every => k_is)
    (case c_Leaping_every => k_is)
    (case k_Leaping_every => k_is)
    (case a_Leaping_period => k_is)
    (case g_Leaping_period => k_is)
    (case t_Leaping_period => k_is)
    (case r_Leaping_period => k_is)
    (case l_Leaping_period => k_is)
    (case c_Leaping_period => k_is)
    (case k_Leaping_period => k_is)
    (case a_Leaping_s2_after => k_is)
    (case i_Leaping_s2_after => k_is)
    (case l_Leaping_s2_after => k_is)
    (case c_Leaping_s2_after => k_is)
    (case k_Leaping_s2_after => k_is)
    (case a_Leaping_state => k_is)
    (case g_Leaping_state => k_is)
    (case t_Leaping_state => k_is)
    (case r_Leaping_state => k_is)
    (case l_Leaping_state => k_is)
    (case c_Leaping_state => k_is)
    (case k_Leaping_state => k_is)
    (case a_Leaping_ahead => k_is)
    (case i_Leaping_ahead => k_is)
    (case l_Leaping_ahead => k_is)
    (case c_Leaping_ahead => k_is)
    (case k_Leaping_ahead => k_is)
    (case a_s2_x_of => k_is)
    (case l_s2_x_of => k_is)
    (case c_s2_x_of => k_is)
    (case k_s2_x_of => k_is)
    (case a_leaps => k_is)
    (case l_leaps => k_is)
    (case c_leaps => k_is)
    (case k_leaps => k_is)
    (case a__law_begun => k_is)
    (case l__law_begun => k_is)
    (case c__law_begun => k_is)
    (case k__law_begun => k_is)
    (case a__law_next => k_is)
    (case l__law_next => k_is)
    (case c__law_next => k_is)
    (case k__law_next => k_is)
    (case a__law_x => k_is)
    (case l__law_x => k_is)
    (case c__law_x => k_is)
    (case k__law_x => k_is)
    (case a__law_steps => k_is)
    (case l__law_steps => k_is)
    (case c__law_steps => k_is)
    (case k__law_steps => k_is)
    (case a__law_every => k_is)
    (case l__law_every => k_is)
    (case c__law_every => k_is)
    (case k__law_every => k_is)
    (case a__law_twos => k_is)
    (case l__law_twos => k_is)
    (case c__law_twos => k_is)
    (case k__law_twos => k_is)
    (case a__law_found => k_is)
    (case l__law_found => k_is)
    (case c__law_found => k_is)
    (case k__law_found => k_is)
    (case a__law_is_right => k_is)
    (case l__law_is_right => k_is)
    (case c__law_is_right => k_is)
    (case k__law_is_right => k_is)
    (case a_law => k_is)
    (case l_law => k_is)
    (case c_law => k_is)
    (case k_law => k_is)
    (case e_MOST_STEPS => k_is)
    (case e_DIGITS => k_is)
    (case e_MODULUS => k_is)
    (case e_MULTIPLIER => k_is)
    (case e_ADDEND => k_is)
    (case pg_Linear => k_is)
    (case hd_Linear => k_is)
    (case po_Linear => k_is)
    (case sa_Linear => k_is)
    (case ha_Linear => k_is)
    (case hn_Linear => k_is)
    (case ht_Linear => k_is)
    (case hm_Linear => k_is)
    (case na_Linear_s2_x => k_is)
    (case pg_Leaping => k_is)
    (case hd_Leaping => k_is)
    (case po_Leaping => k_is)
    (case sa_Leaping => k_is)
    (case ha_Leaping => k_is)
    (case hn_Leaping => k_is)
    (case ht_Leaping => k_is)
    (case hm_Leaping => k_is)
    (case na_Leaping_s2_leap_x => k_is)
    (case na_Leaping_s2_every => k_is)
    (case ob_Linear_Leaping => kernel_rfl)
    (case ob_Leaping_Linear => kernel_rfl)
    (case rd_Shortage => k_is)
    (case rg_Shortage => k_is)
    (case fi_Shortage => k_is)
    (case in_NoRow => kernel_rfl)
    (case ov_NoRow => kernel_rfl)
    (case hd_NoRow => k_is)
    (case sa_NoRow => k_is)
    (case ex_NoRow => k_is)
    (case ty_NoRow => k_is)
    (case kc_NoRow => k_is)
    (case ga_NoRow => k_is)
    (case gg_NoRow => k_is)
    (case na_NoRow => k_is)
    (case tk_NoRow => k_is)
    (case sb_NoRow => k_is)
    (case z_bool => k_is)
    (case z_enumerate => k_is)
    (case z_int => k_is)
    (case z_isinstance => k_is)
    (case z_len => k_is)
    (case z_list => k_is)
    (case z_max => k_is)
    (case z_min => k_is)
    (case z_range => k_is)
#print axioms PySem.Challenge.cw_drawstate_k16_whole_leaps_between_holds
