import PyProof.Rows.All
import Wide.All
import OpenK.AllK
import Wide.FinOn
import HandS.ForMost
import HandS.Exc
import HandS.Codes
import HandS.Wide
import HandS.WideBits
import HandS.IsInst
import HandS.Property
import HandS.Style
import HandS.Flow
import HandS.Small
import HandS.Lambda
import HandS.EndTab
import HandS.GenCall
import HandS.GenList
import KE.KOpsOwn
import HandS.ClsMeth
import HandS.TupAny
import HandS.ExcInit
import HandS.ExcField
import HandS.ExcIs
import HandS.Walk
import KE.KExcInit
import HandS.CallSlots
import HandS.Defaults
import HandS.TryMany
import HandS.Zip
import HandS.HotCalls
import KE.KTryMore
import PyProof.StrLawsRepr
import KE.KDflt
import PySem.Challenge.RW_drawstate_k12_maps_of_steps
set_option Elab.async false
set_option linter.all false
set_option maxRecDepth 100000
set_option maxHeartbeats 4000000
namespace Gx
open PySem PySem.Spec PyProof.Rows L2
/-! ### repr of data: where no repr is under way -/
mutual
theorem dpNoDict {K : PySem.W.Frag} {H : Hp} : ∀ (d : PyData) (x : V), Dp K H x d → d.hasDict = false
  | .none, _, _ => by simp only [PyData.hasDict]
  | .bool _, _, _ => by simp only [PyData.hasDict]
  | .int _, _, _ => by simp only [PyData.hasDict]
  | .str _, _, _ => by simp only [PyData.hasDict]
  | .list ds, _, h => by
    cases h with
    | lst _ ha =>
      simp only [PyData.hasDict]
      exact dpNoDictAll ds _ ha
  | .tuple ds, _, h => by
    cases h with
    | tup _ ha =>
      simp only [PyData.hasDict]
      exact dpNoDictAll ds _ ha
  | .dict _, _, h => nomatch h
theorem dpNoDictAll {K : PySem.W.Frag} {H : Hp} : ∀ (ds : List PyData) (xs : List V), DpAll K H xs ds → PyData.hasDictAll ds = false
  | [], _, _ => by simp only [PyData.hasDictAll]
  | d :: ds, _, h => by
    cases h with
    | cons h1 h2 =>
      simp only [PyData.hasDictAll, Bool.or_eq_false_iff]
      exact ⟨dpNoDict d _ h1, dpNoDictAll ds _ h2⟩
end
def rRepr (K : PySem.W.Frag) : List V → Hp → VK → Prop := fun xs H Q => ∃ (x : V) (d : PyData), xs = [x] ∧ Dp K H x d ∧ d.showable = true ∧ d.depth ≤ 60 ∧ d.shown.length ≤ sizeLine ∧ Q (.str d.shown) H
theorem call_repr {X : Cx} (hg : X.A.guards = some []) (hu : X.A.units + 64 < cLine) : CallR X (.builtin "repr") (rRepr X.K) := by
  intro pins s σ H xs us Q I r h
  obtain ⟨x, d, rfl, hd, hs, hdep, hsz, q⟩ := h
  obtain ⟨u, rfl, ru⟩ := vals1 r
  obtain ⟨as, rd⟩ := Dp.reads I d x u hd ru
  have nd := dpNoDict d x hd
  cases hd with
  | non =>
    cases ru
    exact PySem.P.repr_of_none ⟨.str _, H, I.tok _, ⟨_, rfl⟩, q⟩
  | bl b =>
    cases ru
    exact PySem.P.repr_of_bool ⟨.str _, H, I.tok _, ⟨_, rfl⟩, q⟩
  | int i =>
    obtain ⟨t, rfl⟩ := ru
    exact PySem.P.repr_of_int (of_decide_eq_true (by simpa [PyData.showable] using hs)) ⟨.str _, H, I.tok _, ⟨_, rfl⟩, q⟩
  | str z =>
    obtain ⟨t, rfl⟩ := ru
    exact PySem.P.repr_of_str (hsz := hsz) ⟨.str _, H, I.tok _, ⟨_, rfl⟩, q⟩
  | lst h1 h2 =>
    cases ru
    exact repr_of_reads' rd hs (PyData.noDict_hsm nd) hg (by omega) (fun _ _ e => e) (fun h' t tk hk => ⟨.str _, H, I.kept hk, ⟨_, rfl⟩, q⟩) hsz
  | tup h1 h2 =>
    cases ru
    exact repr_of_reads' rd hs (PyData.noDict_hsm nd) hg (by omega) (fun _ _ e => e) (fun h' t tk hk => ⟨.str _, H, I.kept hk, ⟨_, rfl⟩, q⟩) hsz
/-! ### a def whose promise is kept where no repr is under way -/
structure FnG (P : Program) (w : World) (K : PySem.W.Frag) (mg : Str → Option Value) (base : Heap) (k : Nat) (f : Addr) (fd : FuncData) (ps : List Str) (sp : Sp) : Prop where
  len : ∀ vs H Q E, sp vs H Q E → vs.length = ps.length
  run : ∀ (A : Around) (outer : List Env) (s : Shared) (H : Hp) (args : Args) (us : List Value) (vs : List V) (Q : VK), A.guards = some [] → Room k A → Env0 P w K mg base A outer s H →
    BindsTo s fd args (ps.zip us) → Vals vs us → sp vs H Q C8.E0 → codeAny (model P w) A (.call (.ref f) args) (CR C8.CX0 outer P w H s Q C8.E0) s
structure CalG (P : Program) (w : World) (K : PySem.W.Frag) (mg : Str → Option Value) (base : Heap) (k : Nat) (x : Str) (sp : Sp) : Prop where
  ex : ∃ (f : Addr) (fd : FuncData) (ps : List Str), FnG P w K mg base k f fd ps sp ∧ mg x = some (.ref f) ∧ PySem.W.keepIn K (.ref f) = true ∧ Binds K fd ps []
section
variable {P : Program} {w : World} {K : PySem.W.Frag} {mg : Str → Option Value} {base : Heap}
theorem fnG_of {x qual : Str} {st : Stmt} {f : Addr} {fd : FuncData} {N ps : List Str} {k : Nat} {sp : Sp} (F : C8.Fun K x qual st f fd) (S : FnScope N ps (C8.fnScope st)) (len : ∀ vs H Q E, sp vs H Q E → vs.length = ps.length)
    (hbody : ∀ (cdv : Value) (A : Around) (outer : List Env) (s : Shared) (H : Hp) (vs : List V) (Q : VK), A.guards = some [] → Room k (A.deeper (envOfC qual (C8.fnScope st) s.heap.objs.size f cdv)) → sp vs H Q C8.E0 →
      ∃ t, PSs (cxOf C8.CX0 P w K mg base N qual (C8.fnScope st) f cdv A outer s H C8.E0).nox (C8.fnBody st) t ∧ t { nx := fun _ H' => Q .non H', rt := Q } (start N vs) H) : FnG P w K mg base (k + 1) f fd ps sp := by
  obtain ⟨oc, od, dV, kV, doc, pm, an, cdv, ct, osl, rfl, lk, hcd⟩ := F.ex
  refine ⟨len, fun A outer s H args us vs Q hg hr e0 hb r hsp => ?_⟩
  refine LamX.run_ofS (CX := C8.CX0) (E := C8.E0) lk hcd S hr e0 hb r (len _ _ _ _ hsp) fun hr' => ?_
  obtain ⟨t, h, q⟩ := hbody cdv A outer s H vs Q hg hr' hsp
  exact ⟨t, h.nox, q⟩
theorem calG {x : Str} {st : Stmt} {f : Addr} {fd : FuncData} {N ps : List Str} {k : Nat} {sp : Sp} (F : C8.Def K mg x st f fd) (b : Binds K fd ps []) (S : FnScope N ps (C8.fnScope st)) (len : ∀ vs H Q E, sp vs H Q E → vs.length = ps.length)
    (hbody : ∀ (cdv : Value) (A : Around) (outer : List Env) (s : Shared) (H : Hp) (vs : List V) (Q : VK), A.guards = some [] → Room k (A.deeper (envOfC x (C8.fnScope st) s.heap.objs.size f cdv)) → sp vs H Q C8.E0 →
      ∃ t, PSs (cxOf C8.CX0 P w K mg base N x (C8.fnScope st) f cdv A outer s H C8.E0).nox (C8.fnBody st) t ∧ t { nx := fun _ H' => Q .non H', rt := Q } (start N vs) H) : CalG P w K mg base (k + 1) x sp :=
  ⟨f, fd, ps, fnG_of F.fn S len hbody, F.mgf, F.kp, b⟩
end
section
variable {X : Cx} {k j : Nat} {x : Str} {sp : Sp} {p pos : Pos} {e : Expr} {es : List Expr} {t : TA}
theorem runG {f : Addr} {fd : FuncData} {ps : List Str} {pins : List (Addr × Obj)} {σ : L2.St} {H : Hp} {s : Shared} {Q : VK} {us : List Value} {vs : List V} (F : FnG X.prog X.w X.K X.mg X.base k f fd ps sp) (gd : X.A.guards = some []) (hr : Room k X.A) (hb : Binds X.K fd ps [])
    (I : Inv X pins σ H s) (r : Vals vs us) (h : sp vs H Q C8.E0) : wpAny (model X.prog X.w) X.A (call (.ref f) us) (EP X pins σ Q) X.xe s := by
  have hl : us.length = ps.length := r.length.symm.trans (F.len _ _ _ _ h)
  have hbt : BindsTo s fd ⟨us, []⟩ (ps.zip us) := by
    have z := hb s us I.kIn (by rw [List.append_nil]; exact hl)
    rw [List.append_nil] at z
    exact z
  have go := F.run X.A X.stack s H ⟨us, []⟩ us vs Q gd hr I.env0 hbt r h
  refine wpAny_call (codeAny_mono go fun res s2 hres => ?_)
  match res, hres with
  | .ok (.ret u), hq => exact I.after hq
  | .ok .next, hq => exact hq.elim
  | .ok .brk, hq => exact hq.elim
  | .ok .cont, hq => exact hq.elim
  | .error er, hq => exact (show False from hq).elim
theorem pe_g (c : CalG X.prog X.w X.K X.mg X.base k x sp) (gd : X.A.guards = some []) (hr : Room j X.A) (hk : k ≤ j) (hgl : Gl X x) (ha : PA X (e :: es) t)
    (hdb : (x == ("__debug__" : Str)) = false := by decide) (hst : starEach (e :: es) X.env = (false, eval e X.env) :: starEach es X.env := by rfl)
    (hpl : (backTo pos (starEach es X.env)).any (·.1) = false := by rfl) : PE X (.Call (.Name x p) (e :: es) [] pos) (tCall sp [] C8.E0 t) := by
  obtain ⟨f, fd, ps, F, hm, kp, b⟩ := c.ex
  constructor
  intro pins s σ H Q I h
  refine wpAny_Call_Name_kw (ld_glob I hgl hm ?_ hdb)
  refine PySem.W.callWith_K (h₀ := X.base) I.ok.mod.kin kp ?_ hst hpl
  refine thn (ha.run pos pins s σ H _ I h) fun us s1 got => ?_
  obtain ⟨vs, H1, I1, r, q⟩ := got
  refine ⟨I1.kIn, runG F gd (hr.mono hk) b I1 r ?_⟩
  have z : sp (vs ++ []) H1 Q C8.E0 := q
  rw [List.append_nil] at z
  exact z
end
end Gx

set_option Elab.async false
set_option linter.all false
set_option maxRecDepth 100000
set_option maxHeartbeats 4000000
namespace Gx
open PySem PySem.Spec PyProof.Rows L2
/-! ### a property by its getter's promise -/
structure PrpC (P : Program) (w : World) (K : PySem.W.Frag) (mg : Str → Option Value) (base : Heap) (k : Nat) (C : Addr) (nm : Str) (sp : Sp) : Prop where
  ex : ∃ (p f : Addr) (fd : FuncData) (ps : List Str), Cls K C ∧ PropOf K C nm p f ∧ FnOk P w K mg base C8.CX0 k f fd ps sp ∧ Binds K fd ps []
theorem prp0 {P : Program} {w : World} {K : PySem.W.Frag} {mg : Str → Option Value} {base : Heap} {nm qual : Str} {C p : Addr} {st : Stmt} {f : Addr} {fd : FuncData} {N ps : List Str} {k : Nat} {sp : Sp} (c : Cls K C) (pr : PropOf K C nm p f) (F : C8.Fun K nm qual st f fd) (b : Binds K fd ps [])
    (S : FnScope N ps (C8.fnScope st)) (len : ∀ vs H Q E, sp vs H Q E → vs.length = ps.length)
    (hbody : ∀ (cdv : Value) (A : Around) (outer : List Env) (s : Shared) (H : Hp) (vs : List V) (Q : VK) (E : XK), Room k (A.deeper (envOfC qual (C8.fnScope st) s.heap.objs.size f cdv)) → sp vs H Q E →
      ∃ t, PSs (cxOf C8.CX0 P w K mg base N qual (C8.fnScope st) f cdv A outer s H E).nox (C8.fnBody st) t ∧ t { nx := fun _ H' => Q .non H', rt := Q } (start N vs) H) : PrpC P w K mg base (k + 1) C nm sp :=
  ⟨p, f, fd, ps, c, pr, C8.fn0 F S len hbody, b⟩
theorem pe_propC {X : Cx} {k j : Nat} {C : Addr} {nm : Str} {sp : Sp} {e : Expr} {ta : TE} {pos : Pos} (he : PE X e ta) (c : PrpC X.prog X.w X.K X.mg X.base k C nm sp) (hr : Room j X.A) (hk : k + 1 ≤ j) (hab : attributeBase e nm X.env (eval e X.env) = eval e X.env) :
    PE X (.Attribute e nm pos) (tProp C sp [] C8.E0 ta) := by
  obtain ⟨p, f, fd, ps, cl, pr, F, b⟩ := c.ex
  exact pe_prop he cl pr F (hr.mono hk) b .nil C8.pass0 hab
/-! ### the end of a law: its def is called where no repr is under way; cs: the code objects that make lambdas, with their tables -/
section
variable {P : Program} {w : World} {K : PySem.W.Frag} {mg mb : Str → Option Value} {k : Nat} {fa a : Addr} {cs : List (Addr × Addr)} {fd : FuncData} {x : Str} {sp : Sp} {t : Shared} {vs : List Value} {ns : List Int}
/-- the abstract heap at the law's call: the script and the tables -/
structure Hp0 (P : Program) (w : World) (K : PySem.W.Frag) (cs : List (Addr × Addr)) (a : Addr) (ns : List Int) (h : Heap) (H : Hp) : Prop where
  tab : ∀ p ∈ cs, H p.2 = some (.tbl #[])
  only : ∀ b, H b = none ∨ b ∈ cs.map (·.2) ∨ ∃ o xs, H b = some (.frz o (.lst xs))
  seq : SqL K H a (ns.map V.int)
  ok : HOk P w H h
  dom : ∀ b, H b ≠ none → b = a ∨ b ∈ cs.map (·.2)
  scr : H a ≠ none → K.lookup a = none
theorem hp0 (KX : K.In t.heap) (hT : ∀ p ∈ cs, t.heap.get? p.2 = some { cls := .none, data := .fields #[] }) (ha : t.heap.get? a = some { cls := .type "list", data := .seq vs.toArray }) (hi : IntsAre vs ns) (hl : ns.length ≤ sizeLine) :
    ∃ H, Hp0 P w K cs a ns t.heap H := by
  have rv := vals_ints hi
  have isT : ∀ b ∈ cs.map (·.2), t.heap.get? b = some { cls := .none, data := .fields #[] } := fun b hb => by
    obtain ⟨p, hp, rfl⟩ := List.mem_map.mp hb
    exact hT p hp
  have aT : a ∉ cs.map (·.2) := fun z => by
    have q := isT a z
    rw [ha] at q
    cases congrArg Obj.data (Option.some.inj q)
  have mem : ∀ p ∈ cs, p.2 ∈ cs.map (·.2) := fun p hp => List.mem_map.mpr ⟨p, hp, rfl⟩
  cases hk : K.lookup a with
  | some o =>
    have e := KX a o hk
    rw [ha] at e
    cases e
    refine ⟨fun b => if b ∈ cs.map (·.2) then some (.tbl #[]) else none, fun p hp => if_pos (mem p hp), fun b => ?_,
      .inr ⟨_, vs.toArray, _, hk, rfl, rfl, rfl, by rw [List.size_toArray, hi.length]; exact hl, by simpa using rv⟩, fun b u z => ?_, fun b z => ?_, fun z => absurd (if_neg aT) z⟩
    · by_cases hb : b ∈ cs.map (·.2)
      · exact .inr (.inl hb)
      · exact .inl (if_neg hb)
    · by_cases hb : b ∈ cs.map (·.2)
      · cases (if_pos hb).symm.trans z
        exact isT b hb
      · cases (if_neg hb).symm.trans z
    · by_cases hb : b ∈ cs.map (·.2)
      · exact .inr hb
      · exact absurd (if_neg hb) z
  | none =>
    refine ⟨fun b => if b = a then some (.frz { cls := .type "list", data := .seq vs.toArray } (.lst (ns.map V.int))) else if b ∈ cs.map (·.2) then some (.tbl #[]) else none,
      fun p hp => ?_, fun b => ?_, .inl (.inr ⟨{ cls := .type "list", data := .seq vs.toArray }, if_pos rfl⟩), fun b u z => ?_, fun b z => ?_, fun _ => hk⟩
    · have np : ¬ p.2 = a := fun z => aT (z ▸ mem p hp)
      exact (if_neg np).trans (if_pos (mem p hp))
    · by_cases hb : b = a
      · exact .inr (.inr ⟨_, _, if_pos hb⟩)
      · by_cases hc : b ∈ cs.map (·.2)
        · exact .inr (.inl hc)
        · exact .inl ((if_neg hb).trans (if_neg hc))
    · by_cases hb : b = a
      · cases (if_pos hb).symm.trans z
        subst hb
        exact ⟨ha, by rw [List.length_map]; exact hl, vs, _, rv, ha⟩
      · have z1 := (if_neg hb).symm.trans z
        by_cases hc : b ∈ cs.map (·.2)
        · cases (if_pos hc).symm.trans z1
          exact isT b hc
        · cases (if_neg hc).symm.trans z1
    · by_cases hb : b = a
      · exact .inl hb
      · by_cases hc : b ∈ cs.map (·.2)
        · exact .inr hc
        · exact absurd ((if_neg hb).trans (if_neg hc)) z
theorem callG (KX : K.In t.heap) (hns : t.heap.Ns mainGlobals mg) (hb : t.heap.Ns builtinsNs mb) (hbb : ∀ x : Str, x ≠ "__name__" → mb x = bootBuiltins x) (hlim : t.heap.NoLimit) (hg : t.gens = #[])
    (hT : ∀ p ∈ cs, t.heap.get? p.2 = some { cls := .none, data := .fields #[] }) (nT : ∀ p ∈ cs, K.lookup p.2 = none) (C : ∀ p ∈ cs, PySem.W.CodeHd t.heap p.1 p.2)
    (hbm : ∃ (bm : Addr) (ob : Obj), mg "__builtins__" = some (.ref bm) ∧ bm ≠ builtinsNs ∧ t.heap.get? bm = some ob ∧ ob.cls = .type "module" ∧ ob.dict = some builtinsNs ∧ ob.data = .plain)
    (ha : t.heap.get? a = some { cls := .type "list", data := .seq vs.toArray }) (hi : IntsAre vs ns) (hl : ns.length ≤ sizeLine) (hr : Room k callerA)
    (F : ∀ base : Heap, K.In base → base.Ns mainGlobals mg → (∀ p ∈ cs, LamX.TabB base mg p.1 p.2) → FnG P w K mg base k fa fd [x] sp) (hbind : ∀ (s : Shared) (u : Value), BindsTo s fd ⟨[u], []⟩ [(x, u)])
    (hsp : ∀ H : Hp, (∀ p ∈ cs, H p.2 = some (.tbl #[])) → SqL K H a (ns.map V.int) → sp [.ref a] H (fun v _ => v = .bl true) C8.E0) :
    codeAny (model P w) callerA (.call (.ref fa) ⟨[.ref a], []⟩) (fun r s' => r = .ok (.ret (.bool true)) ∧ OldK t.heap s'.heap ∧ s'.os = t.os ∧ AllBare s'.gens) t := by
  obtain ⟨H, Z⟩ := hp0 (P := P) (w := w) KX hT ha hi hl
  have see : ∀ {b : Addr} {o : Obj}, t.heap.get? b = some o → H b = none → (hidT t.heap H).get? b = some o := fun e n => hidT_get e n
  -- what is neither a list nor a table is not tracked
  have off : ∀ {b : Addr} {o : Obj}, t.heap.get? b = some o → (∀ ws n, o.data ≠ .seq ws n) → o.data ≠ .fields #[] → H b = none := fun {b o} e h1 h2 => by
    cases q : H b with
    | none => rfl
    | some u =>
      rcases Z.dom b (by rw [q]; simp) with e1 | e1
      · rw [e1, ha] at e
        cases e
        exact (h1 _ _ rfl).elim
      · obtain ⟨p, hp, rfl⟩ := List.mem_map.mp e1
        rw [hT p hp] at e
        cases e
        exact (h2 rfl).elim
  have offD : ∀ {b : Addr} {o : Obj} {es : Array DictEntry} {ep : Nat}, t.heap.get? b = some o → o.data = .dict es ep → H b = none := fun {b o es ep} e d =>
    off e (fun ws n z => by rw [d] at z; cases z) (fun z => by rw [d] at z; cases z)
  have nsOk : ∀ {b : Addr} {m : Str → Option Value}, t.heap.Ns b m → (hidT t.heap H).Ns b m := fun {b m} hh => by
    obtain ⟨o, es, ep, e, d, r⟩ := hh
    exact ⟨o, es, ep, see e (offD e d), d, r⟩
  have kOk : K.In (hidT t.heap H) := fun b o e => by
    refine see (KX b o e) ?_
    cases q : H b with
    | none => rfl
    | some u =>
      rcases Z.dom b (by rw [q]; simp) with e1 | e1
      · subst e1
        rw [Z.scr (by rw [q]; simp)] at e
        cases e
      · obtain ⟨p, hp, rfl⟩ := List.mem_map.mp e1
        rw [nT p hp] at e
        cases e
  have lim : (hidT t.heap H).NoLimit := by
    obtain ⟨mc, h1, h2⟩ := hlim
    exact ⟨mc, nsOk h1, h2⟩
  have hM : L2.Mod K mg (hidT t.heap H) := ⟨kOk, nsOk hns, ⟨mb, nsOk hb, hbb⟩, lim⟩
  have TB : ∀ p ∈ cs, LamX.TabB (hidT t.heap H) mg p.1 p.2 := fun p hp => by
    have hp2 := hT p hp
    refine ⟨?_, ?_, fun z => ?_⟩
    · obtain ⟨o, us, file, tf, flags, tg, inF, text, tt, e1, r1, r2, r3, r4, r5, r6, r7, r8, hne⟩ := C p hp
      refine ⟨o, us, file, tf, flags, tg, inF, text, tt, see e1 (off e1 (fun ws n z => ?_) fun z => ?_), r1, r2, r3, r4, r5, r6, r7, r8, hne⟩
      · rw [r2] at z; cases z
      · rw [r2] at z; cases z; simp at r3
    · obtain ⟨bm, ob, b1, b2, b3, b4, b5, b6⟩ := hbm
      refine ⟨bm, ob, b1, b2, fun q => ?_, fun q => ?_, see b3 (off b3 (fun ws n z => ?_) fun z => ?_), b4, b5, b6⟩
      · obtain ⟨o, es, ep, e, hd, _⟩ := hns
        rw [q, e] at b3; cases b3; rw [hd] at b6; cases b6
      · rw [q, hp2] at b3; cases b3; cases b6
      · rw [b6] at z; cases z
      · rw [b6] at z; cases z
    · obtain ⟨o, es, ep, e, hd, _⟩ := hns
      rw [z, hp2] at e; cases e; cases hd
  have nil : ∀ b : Addr, b ∉ ([] : List Addr) := fun b z => by simp at z
  have e0 : Env0 P w K mg (hidT t.heap H) callerA [] t H := ⟨rfl, hM, fun b o e => of_hidT e, Nat.le_of_eq (hidT_size _ _), trivial, fun b z => absurd z (nil b), Z.ok, .of_eq hg⟩
  have go := (F _ kOk (nsOk hns) TB).run callerA [] t H ⟨[.ref a], []⟩ [.ref a] [.ref a] _ rfl hr e0 (hbind t (.ref a)) (.cons rfl .nil) (hsp H Z.tab Z.seq)
  refine codeAny_mono go fun res s2 hres => ?_
  match res, hres with
  | .ok .next, h => exact h.elim
  | .ok .brk, h => exact h.elim
  | .ok .cont, h => exact h.elim
  | .error e, h => exact (show False from h).elim
  | .ok (.ret u), h =>
    obtain ⟨v, H', os, bare, un, ok2, r', q⟩ := h
    obtain rfl : v = .bl true := q
    obtain rfl : u = Value.bool true := r'
    have same : ∀ b o, b ∉ cs.map (·.2) → t.heap.get? b = some o → s2.heap.get? b = some o := fun b o nb e => by
      rcases Z.only b with z | z | ⟨ob, xs, z⟩
      · exact un.keep b o e z (nil b) (nil b)
      · exact absurd z nb
      · obtain ⟨e1, _⟩ := Z.ok b _ z
        obtain ⟨e2, _⟩ := ok2 b _ (un.frzs b ob _ z)
        rw [e] at e1
        cases e1
        exact e2
    have grown : ∀ p ∈ cs, ∃ more : Array Value, s2.heap.get? p.2 = some { cls := .none, data := .fields more } := fun p hp => by
      obtain ⟨more, z⟩ := un.tbls p.2 #[] (Z.tab p hp)
      exact ⟨_, ok2 p.2 _ z⟩
    refine ⟨rfl, ⟨fun b o e => ?_, fun b o e => ?_⟩, os, bare⟩
    · by_cases hb : b ∈ cs.map (·.2)
      · obtain ⟨p, hp, rfl⟩ := List.mem_map.mp hb
        obtain ⟨more, hm⟩ := grown p hp
        rw [hT p hp] at e
        cases e
        exact .inr (.inl ⟨((C p hp).tab (hT p hp)).isCodeTable, rfl, #[], more, rfl, by rw [Array.empty_append]; exact hm⟩)
      · exact .inl (same b o hb e)
    · by_cases hb : b ∈ cs.map (·.2)
      · obtain ⟨p, hp, rfl⟩ := List.mem_map.mp hb
        obtain ⟨more, hm⟩ := grown p hp
        exact ⟨_, hm⟩
      · exact ⟨o, same b o hb e⟩
end
/-- what is known of the law's promise -/
def LawG (l : PySem.W.OpenLaw) (w : World) (K : PySem.W.Frag) (k : Nat) (x : Str) (mg : Str → Option Value) (fa : Addr) (h : Heap) : Prop :=
  ∃ (fd : FuncData) (cs : List (Addr × Addr)) (sp : Sp), (∀ p ∈ cs, h.get? p.2 = some { cls := .none, data := .fields #[] }) ∧ (∀ p ∈ cs, K.lookup p.2 = none) ∧ (∀ p ∈ cs, PySem.W.CodeHd h p.1 p.2) ∧
    (∀ (s : Shared) (u : Value), BindsTo s fd ⟨[u], []⟩ [(x, u)]) ∧
    (∀ (H : Hp) (a : Addr) (ns : List Int), ns.length ≤ 63 → (∀ z ∈ ns, Builtin.Int.intBits z ≤ 1048576) → (∀ p ∈ cs, H p.2 = some (.tbl #[])) → SqL K H a (ns.map V.int) → sp [.ref a] H (fun v _ => v = .bl true) C8.E0) ∧
    ∀ base : Heap, K.In base → base.Ns mainGlobals mg → (∀ p ∈ cs, LamX.TabB base mg p.1 p.2) → FnG l.prog w K mg base k fa fd [x] sp
theorem walkG {l : PySem.W.OpenLaw} {k : Nat} {q : Program} {loose : List Str} {XP : (Str → Option Value) → Heap → Prop} {YP : World → Heap → Prop} {d : DefRec} {K : Params → PySem.W.Frag} {x : Str}
    (hn : l.most = some 63) (hdf : d.params.defaults = []) (hr : Room k callerA) (hY : ∀ (w : World) (h : Heap), YP w h → (K w.params).In h)
    (F : ∀ (w : World) (mg : Str → Option Value) (fa : Addr) (h : Heap), YP w h → (K w.params).In h → h.Ns mainGlobals mg → mg d.name = some (.ref fa) → LawG l w (K w.params) k x mg fa h) :
    PySem.W.WalkO q loose XP YP l.row.toRowW d [] (fun f vs => PySem.call f vs) := by
  refine Att.attach_callB hn hdf ?_
  intro w s0 t mg mb fa o pm cd doc a vs ns G Y ho hd hcd hmg hobj hints hlen hbits hg
  have KX := hY w _ Y
  obtain ⟨fd, cs, sp, hT, nT, C, hb, hsp, hF⟩ := F w mg fa _ Y KX G.T.g hmg
  exact callG KX G.T.g G.T.b G.T.builtins G.T.nolimit hg hT nT C G.T.bmain hobj hints (Nat.le_trans hlen (by decide)) hr hF hb fun H hH hS => hsp H a ns hlen hbits hH hS
end Gx

set_option Elab.async false
set_option linter.all false
set_option maxRecDepth 100000
set_option maxHeartbeats 4000000
namespace Rd
open PySem PySem.Spec PyProof.Rows L2
/-! ### readings, step by step: each row takes one reading apart -/
section
variable {D : Ends} {σ : L2.St} {H H1 : Hp} {Q : VK} {QB : Bool → Hp → Prop} {QA : List V → Hp → Prop} {t1 t2 : TS} {te ta tb tc : TE} {t u : TT} {i j : Nat} {v x y : V} {m n : Int} {r r2 : R2} {K : PySem.W.Frag} {A B : Prop} {b : Bool} {p : Prop}
theorem seq (h : t1 { D with nx := t2 D } σ H) : tSeq t1 t2 D σ H := h
theorem next (h : D.nx σ H) : tNext D σ H := h
theorem asg {g : TG} (h : te σ H fun x H1 => g x σ H1 D.nx) : tAsg te g D σ H := h
theorem nm {Qs : L2.St → Hp → Prop} (h : Qs (σ.set i (some v)) H) : gName i v σ H Qs := h
theorem ret (h : te σ H D.rt) : tRet te D σ H := h
theorem drop (h : te σ H fun _ H1 => D.nx σ H1) : tDrop te D σ H := h
theorem ifs (h : t σ H fun b H1 => if b = true then t1 D σ H1 else t2 D σ H1) : tIfS t t1 t2 D σ H := h
theorem par {ta : TA} (h : ta σ H fun vs H1 => ∃ v w, vs = [v, w] ∧ D.nx ((σ.set i (some v)).set j (some w)) H1) : tPar i j ta D σ H := h
theorem par3 {l : Nat} {ta : TA} (h : ta σ H fun vs H1 => ∃ u v w, vs = [u, v, w] ∧ D.nx (((σ.set i (some u)).set j (some v)).set l (some w)) H1) : tPar3 i j l ta D σ H := h
theorem var (h : σ[i]? = some (some v)) (k : Q v H) : tVar i σ H Q := ⟨v, h, k⟩
theorem cst (k : Q v H) : tC v σ H Q := k
theorem op (h : ta σ H fun x H1 => tb σ H1 fun y H2 => r x y H2 Q) : tOp r ta tb σ H Q := h
theorem un {g : V → Hp → VK → Prop} (h : ta σ H fun x H1 => g x H1 Q) : tUn g ta σ H Q := h
theorem ung {g : Int → V} (h : Q (g m) H) : rU g (.int m) H Q := ⟨m, rfl, h⟩
theorem i0 {g : Int → Int → V} (h : Q (g m n) H) : rI0 g (.int m) (.int n) H Q := ⟨m, n, rfl, rfl, h⟩
theorem iC {C : Int → Int → Prop} {g : Int → Int → V} (hc : C m n) (h : Q (g m n) H) : rI C g (.int m) (.int n) H Q := ⟨m, n, rfl, rfl, hc, h⟩
theorem eqI (h : Q (.bl (decide (m = n))) H) : rEq (.int m) (.int n) H Q := ⟨rfl, by
  have e : decide (V.int m = V.int n) = decide (m = n) := by
    by_cases z : m = n
    · subst z; simp
    · rw [decide_eq_false z, decide_eq_false (fun q => z (V.int.inj q))]
  rw [e]; exact h⟩
theorem neI (h : Q (.bl (!decide (m = n))) H) : rNe (.int m) (.int n) H Q := ⟨rfl, by
  have e : decide (V.int m = V.int n) = decide (m = n) := by
    by_cases z : m = n
    · subst z; simp
    · rw [decide_eq_false z, decide_eq_false (fun q => z (V.int.inj q))]
  rw [e]; exact h⟩
theorem eqS {a c : Str} (h : Q (.bl (decide (a = c))) H) : rEq (.str a) (.str c) H Q := ⟨rfl, by
  have e : decide (V.str a = V.str c) = decide (a = c) := by
    by_cases z : a = c
    · subst z; simp
    · rw [decide_eq_false z, decide_eq_false (fun q => z (V.str.inj q))]
  rw [e]; exact h⟩
theorem neS {a c : Str} (h : Q (.bl (!decide (a = c))) H) : rNe (.str a) (.str c) H Q := ⟨rfl, by
  have e : decide (V.str a = V.str c) = decide (a = c) := by
    by_cases z : a = c
    · subst z; simp
    · rw [decide_eq_false z, decide_eq_false (fun q => z (V.str.inj q))]
  rw [e]; exact h⟩
theorem test (h : te σ H fun x H' => ∃ k, x = .bl k ∧ QB k H') : tTest te σ H QB := h
theorem tstB (h : te σ H fun x H' => ∃ k, x = .bl k ∧ QB k H') : tB te σ H QB := h
theorem isB {QC : Bool → Prop} (h : QC b) : ∃ k, V.bl b = .bl k ∧ QC k := ⟨b, rfl, h⟩
theorem nxp {f g c d} (h : f σ H) : (Ends.mk f g c d).nx σ H := h
theorem rtp {f g c d} (h : g v H) : (Ends.mk f g c d).rt v H := h
theorem bkp {f g c d} (h : c σ H) : (Ends.mk f g c d).bk σ H := h
theorem ctp {f g c d} (h : d σ H) : (Ends.mk f g c d).ct σ H := h
theorem not (h : t σ H fun c H1 => QB (!c) H1) : tNot t σ H QB := h
theorem andT (h : t σ H fun c H1 => if c = true then u σ H1 QB else QB false H1) : tAnd t u σ H QB := h
theorem orT (h : t σ H fun c H1 => if c = true then QB true H1 else u σ H1 QB) : tOr t u σ H QB := h
theorem andV (h : ta σ H fun x H1 => ∃ c, x = .bl c ∧ if c = true then tb σ H1 Q else Q (.bl false) H1) : tAndV ta tb σ H Q := h
theorem orV (h : ta σ H fun x H1 => ∃ c, x = .bl c ∧ if c = true then Q (.bl true) H1 else tb σ H1 Q) : tOrV ta tb σ H Q := h
theorem notV (h : ta σ H fun x H1 => ∃ c, x = .bl c ∧ Q (.bl (!c)) H1) : tNotV ta σ H Q := h
theorem ifE (h : t σ H fun c H1 => if c = true then ta σ H1 Q else tb σ H1 Q) : tIf t ta tb σ H Q := h
theorem chain (h : ta σ H fun x H1 => tb σ H1 fun y H2 => r x y H2 fun z H3 => ∃ k, z = .bl k ∧ (if k = true then tc σ H3 fun w' H4 => r2 y w' H4 Q else Q (.bl false) H3)) : tChain r r2 ta tb tc σ H Q := h
theorem nil (h : QA [] H) : tNil σ H QA := h
theorem cons {tr : TA} (h : ta σ H fun x H1 => tr σ H1 fun xs H2 => QA (x :: xs) H2) : tCons ta tr σ H QA := h
theorem call {sp : Sp} {E : XK} {tr : TA} (h : tr σ H fun vs H1 => sp (vs ++ []) H1 Q E) : tCall sp [] E tr σ H Q := h
theorem cb {g : List V → Hp → VK → Prop} {tr : TA} (h : tr σ H fun vs H1 => g vs H1 Q) : tCB g tr σ H Q := h
theorem tup {tr : TA} (h : tr σ H fun xs H1 => xs.length ≤ sizeLine ∧ ∀ p, H1 p = none → Q (.ref p) (upd H1 p (.tup xs))) : tTup tr σ H Q := h
theorem lst {tr : TA} (h : tr σ H fun xs H1 => xs.length ≤ sizeLine ∧ ∀ p, H1 p = none → Q (.ref p) (upd H1 p (.lst xs))) : tLst tr σ H Q := h
theorem yes (c : p) [Decidable p] (h : A) : if decide p = true then A else B := by
  rw [decide_eq_true c, if_pos rfl]
  exact h
theorem no (c : ¬ p) [Decidable p] (h : B) : if decide p = true then A else B := by
  rw [decide_eq_false c, if_neg Bool.false_ne_true]
  exact h
theorem yesN (c : ¬ p) [Decidable p] (h : A) : if (!decide p) = true then A else B := by
  rw [decide_eq_false c]
  exact iteT h
theorem noN (c : p) [Decidable p] (h : B) : if (!decide p) = true then A else B := by
  rw [decide_eq_true c]
  exact iteF h
theorem both [Decidable p] (h1 : p → A) (h2 : ¬ p → B) : if decide p = true then A else B := by
  by_cases c : p
  · exact yes c (h1 c)
  · exact no c (h2 c)
theorem bothN [Decidable p] (h1 : ¬ p → A) (h2 : p → B) : if (!decide p) = true then A else B := by
  by_cases c : p
  · exact noN c (h2 c)
  · exact yesN c (h1 c)
end
theorem iteNT {A B : Prop} (h : B) : if (!true) = true then A else B := iteF h
theorem iteNF {A B : Prop} (h : A) : if (!false) = true then A else B := iteT h
theorem yesNN {A B p : Prop} [Decidable p] (c : p) (h : A) : if (!(!decide p)) = true then A else B := by
  rw [decide_eq_true c]
  exact iteT h
theorem noNN {A B p : Prop} [Decidable p] (c : ¬ p) (h : B) : if (!(!decide p)) = true then A else B := by
  rw [decide_eq_false c]
  exact iteF h
/-! ### readings with a name -/
def rAndM : R2 := fun x y H Q => ∃ (i : Int) (k : Nat), x = .int i ∧ y = .int (2 ^ k - 1) ∧ Q (.int (i % 2 ^ k)) H
theorem op_andM {X : Cx} : OpR X (binaryOp .BitAnd) rAndM := L2.op_andM
theorem andM {i m : Int} {H : Hp} {Q : VK} (k : Nat) (e : m = 2 ^ k - 1) (h : Q (.int (i % 2 ^ k)) H) : rAndM (.int i) (.int m) H Q := ⟨i, k, rfl, congrArg V.int e, h⟩
theorem and48 {i : Int} {H : Hp} {Q : VK} (h : Q (.int (i % 281474976710656)) H) : rAndM (.int i) (.int (281474976710656 - 1)) H Q := andM 48 (by decide) h
theorem and32 {i : Int} {H : Hp} {Q : VK} (h : Q (.int (i % 4294967296)) H) : rAndM (.int i) (.int (4294967296 - 1)) H Q := andM 32 (by decide) h
theorem and64 {i : Int} {H : Hp} {Q : VK} (h : Q (.int (i % 18446744073709551616)) H) : rAndM (.int i) (.int (18446744073709551616 - 1)) H Q := andM 64 (by decide) h
theorem and65 {i : Int} {H : Hp} {Q : VK} (h : Q (.int (i % 36893488147419103232)) H) : rAndM (.int i) (.int (36893488147419103232 - 1)) H Q := andM 65 (by decide) h
theorem and1 {i : Int} {H : Hp} {Q : VK} (h : Q (.int (i % 2)) H) : rAndM (.int i) (.int 1) H Q := andM 1 (by decide) h
def rShl1 : R2 := fun x y H Q => ∃ k : Nat, x = .int 1 ∧ y = .int (k : Int) ∧ k ≤ 134217727 ∧ Q (.int (2 ^ k)) H
theorem op_oneShl {X : Cx} : OpR X (binaryOp .LShift) rShl1 := L2.op_oneShl
theorem shl1 {k : Nat} {H : Hp} {Q : VK} (hk : k ≤ 134217727) (h : Q (.int (2 ^ k)) H) : rShl1 (.int 1) (.int (k : Int)) H Q := ⟨k, rfl, rfl, hk, h⟩
def rLenQ (K : PySem.W.Frag) : List V → Hp → VK → Prop := fun xs H Q => ∃ p ys, xs = [.ref p] ∧ (SqL K H p ys ∨ SqT K H p ys) ∧ Q (.int ys.length) H
theorem call_lenQ {X : Cx} : CallR X (.builtin "len") (rLenQ X.K) := call_len_seq
theorem lenL {K : PySem.W.Frag} {p : Addr} {ys : List V} {H : Hp} {Q : VK} (h : SqL K H p ys) (q : Q (.int ys.length) H) : rLenQ K [.ref p] H Q := ⟨p, ys, rfl, .inl h, q⟩
theorem lenT {K : PySem.W.Frag} {p : Addr} {ys : List V} {H : Hp} {Q : VK} (h : SqT K H p ys) (q : Q (.int ys.length) H) : rLenQ K [.ref p] H Q := ⟨p, ys, rfl, .inr h, q⟩
def rMax2 : List V → Hp → VK → Prop := fun xs H Q => ∃ i j, xs = [.int i, .int j] ∧ Q (.int (if j > i then j else i)) H
theorem call_mx2 {X : Cx} (hc : X.calm = true) : CallR X (.builtin "max") rMax2 := call_max2 hc
theorem mx2 {i j : Int} {H : Hp} {Q : VK} (q : Q (.int (if j > i then j else i)) H) : rMax2 [.int i, .int j] H Q := ⟨i, j, rfl, q⟩
def rMin2 : List V → Hp → VK → Prop := fun xs H Q => ∃ i j, xs = [.int i, .int j] ∧ Q (.int (if j < i then j else i)) H
theorem call_mn2 {X : Cx} (hc : X.calm = true) : CallR X (.builtin "min") rMin2 := call_min2 hc
theorem mn2 {i j : Int} {H : Hp} {Q : VK} (q : Q (.int (if j < i then j else i)) H) : rMin2 [.int i, .int j] H Q := ⟨i, j, rfl, q⟩
/-! ### isinstance of an int -/
theorem kit_int_int (K : PySem.W.Frag) : PySem.W.kitOne K (.type "int") (.type "int") = some true := by first | rfl | decide +kernel | kernel_rfl
theorem kit_int_bool (K : PySem.W.Frag) : PySem.W.kitOne K (.type "int") (.type "bool") = some false := by first | rfl | decide +kernel | kernel_rfl
theorem kit_self (K : PySem.W.Frag) (C : Addr) : PySem.W.kitOne K (.ref C) (.ref C) = some true := by
  unfold PySem.W.kitOne
  simp
theorem isInt {K : PySem.W.Frag} {n : Int} {H : Hp} {Q : VK} (q : Q (.bl true) H) : rIsi K [.int n, .ty "int"] H Q := ⟨_, _, .type "int", _, true, rfl, .ty _, .base (.int n), kit_int_int K, q⟩
theorem isBool {K : PySem.W.Frag} {n : Int} {H : Hp} {Q : VK} (q : Q (.bl false) H) : rIsi K [.int n, .ty "bool"] H Q := ⟨_, _, .type "int", _, false, rfl, .ty _, .base (.int n), kit_int_bool K, q⟩
theorem isOwn {K : PySem.W.Frag} {C a dx : Addr} {fs : List (Str × V)} {H : Hp} {Q : VK} (c : C8.InsC K C) (h : H a = some (.ins C dx fs)) (q : Q (.bl true) H) : rIsi K [.ref a, .ref C] H Q :=
  ⟨_, _, .ref C, .ref C, true, rfl, .own C, .base (.ins h c.cl c.ha c.hn c.htk c.hm), c.me, q⟩
/-! ### tuples, lists, fields -/
theorem sqt {K : PySem.W.Frag} {H : Hp} {a : Addr} {xs : List V} (h : H a = some (.tup xs)) : SqT K H a xs := .inl (.inl h)
theorem ixT {K : PySem.W.Frag} {p : Addr} {xs : List V} {i : Int} {v : V} {H : Hp} {Q : VK} (h : SqT K H p xs) (a : atI xs i = some v) (q : Q v H) : rIxT K (.ref p) (.int i) H Q := ⟨p, xs, i, v, rfl, rfl, h, a, q⟩
theorem ixL {K : PySem.W.Frag} {p : Addr} {xs : List V} {i : Int} {v : V} {H : Hp} {Q : VK} (h : SqL K H p xs) (a : atI xs i = some v) (q : Q v H) : rIxL K (.ref p) (.int i) H Q := ⟨p, xs, i, v, rfl, rfl, h, a, q⟩
theorem fld {K : PySem.W.Frag} {ta : TE} {f : Str} {σ : L2.St} {H : Hp} {Q : VK} (h : ta σ H fun x H1 => ∃ a C dx fs v, x = .ref a ∧ H1 a = some (.ins C dx fs) ∧ Cls K C ∧ NoAttr K C f ∧ fs.lookup f = some v ∧ Q v H1) : tFld K ta f σ H Q := h
theorem sql {K : PySem.W.Frag} {H : Hp} {a : Addr} {xs : List V} (h : H a = some (.lst xs)) : SqL K H a xs := .inl (.inl h)
theorem lk1 {f : Str} {v : V} : [(f, v)].lookup f = some v := by simp [List.lookup]
theorem lk_ne {f g : Str} {v : V} (h : ¬ g = f) : [(f, v)].lookup g = none := by
  have e : (g == f) = false := by simpa using h
  simp [List.lookup, e]
theorem fld1 {K : PySem.W.Frag} {f : Str} {H : Hp} {Q : V → Prop} {a C dx : Addr} {fs : List (Str × V)} {v : V} (h : H a = some (.ins C dx fs)) (c : Cls K C) (n : NoAttr K C f) (l : fs.lookup f = some v) (q : Q v) :
    ∃ a' C' dx' fs' v', V.ref a = .ref a' ∧ H a' = some (.ins C' dx' fs') ∧ Cls K C' ∧ NoAttr K C' f ∧ fs'.lookup f = some v' ∧ Q v' := ⟨a, C, dx, fs, v, rfl, h, c, n, l, q⟩
theorem meth {C : Addr} {m : Str} {sp : Sp} {E : XK} {ta : TE} {t : TA} {σ : L2.St} {H : Hp} {Q : VK} (h : ta σ H fun x H1 => ∃ a dx fs, x = .ref a ∧ H1 a = some (.ins C dx fs) ∧ fs.lookup m = none ∧ t σ H1 fun vs H2 => sp (x :: (vs ++ [])) H2 Q E) : tMeth C m sp [] E ta t σ H Q := h
theorem make {C : Addr} {sp : Sp} {E : XK} {t : TA} {σ : L2.St} {H : Hp} {Q : VK} (h : t σ H fun vs H1 => ∀ x dx, H1 x = none → H1 dx = none → dx ≠ x →
  sp (.ref x :: (vs ++ [])) (upd (upd H1 dx (.own x)) x (.ins C dx [])) (fun v H2 => v = .non ∧ Q (.ref x) H2) E) : tMake C sp [] E t σ H Q := h
theorem prop {C : Addr} {sp : Sp} {E : XK} {ta : TE} {σ : L2.St} {H : Hp} {Q : VK} (h : ta σ H fun x H1 => ∃ a dx fs, x = .ref a ∧ H1 a = some (.ins C dx fs) ∧ sp (.ref a :: []) H1 Q E) : tProp C sp [] E ta σ H Q := h
theorem gtup {K : PySem.W.Frag} {n : Nat} {t : TGs} {a : Addr} {xs : List V} {σ : L2.St} {H : Hp} {Q : L2.St → Hp → Prop} (h : SqT K H a xs) (hl : xs.length = n) (q : t xs σ H Q) : gTup K n t (.ref a) σ H Q := ⟨a, xs, rfl, h, hl, q⟩
theorem gcons {t : TG} {u : TGs} {v : V} {r : List V} {σ : L2.St} {H : Hp} {Q : L2.St → Hp → Prop} (h : t v σ H fun σ' H' => u r σ' H' Q) : gCons t u (v :: r) σ H Q := ⟨v, r, rfl, h⟩
theorem gnil {σ : L2.St} {H : Hp} {Q : L2.St → Hp → Prop} (h : Q σ H) : gNil [] σ H Q := ⟨rfl, h⟩
theorem gsub {to ti : TE} {t : TSet} {v : V} {σ : L2.St} {H : Hp} {Q : L2.St → Hp → Prop} (h : to σ H fun o H1 => ti σ H1 fun i H2 => t o i v H2 fun H3 => Q σ H3) : gSub to ti t v σ H Q := h
theorem setD {o i v : V} {H : Hp} {Q : Hp → Prop} (h : ∃ a H', o = .ref a ∧ DPut H a i v H' ∧ Q H') : rSetD o i v H Q := h
theorem setL {p : Addr} {xs : List V} {k : Int} {j : Nat} {v : V} {H : Hp} {Q : Hp → Prop} (h : H p = some (.lst xs)) (hj : ixN xs.length k = some j) (q : Q (upd H p (.lst (xs.set j v)))) : rSetL (.ref p) (.int k) v H Q := ⟨p, xs, k, j, rfl, rfl, h, hj, q⟩
theorem tupNew {K : PySem.W.Frag} {n : Nat} {t : TGs} {p : Addr} {xs : List V} {σ : L2.St} {H : Hp} {Q : L2.St → Hp → Prop} (hl : xs.length = n) (q : t xs σ (upd H p (.tup xs)) Q) : gTup K n t (.ref p) σ (upd H p (.tup xs)) Q := gtup (sqt upd_same) hl q
theorem cut {t u : TS} {D : Ends} {σ : L2.St} {H : Hp} (Mid : L2.St → Hp → Prop) (h1 : t { D with nx := Mid } σ H) (h2 : ∀ σ' H', Mid σ' H' → u D σ' H') : C8.tCut t u D σ H := ⟨Mid, h1, h2⟩
theorem bm {K : PySem.W.Frag} {T : String} {r : V → List V → Hp → VK → Prop} {to : TE} {t : TA} {σ : L2.St} {H : Hp} {Q : VK} (h : to σ H fun x H1 => tyV K T x H1 ∧ t σ H1 fun xs H2 => r x xs H2 Q) : tBM K T r to t σ H Q := h
theorem tyL {K : PySem.W.Frag} {H : Hp} {p : Addr} {xs : List V} (h : H p = some (.lst xs)) : tyV K "list" (.ref p) H := Or.inl ⟨rfl, _, Or.inl (Or.inl h)⟩
theorem app {H : Hp} {Q : VK} {l : Addr} {xs : List V} {y : V} (h : H l = some (.lst xs)) (hl : xs.length < 100000) (q : Q .non (upd H l (.lst (xs ++ [y])))) : rAppend (.ref l) [y] H Q := ⟨l, xs, y, rfl, rfl, h, Nat.lt_of_lt_of_le hl (by decide), q⟩
theorem revL {K : PySem.W.Frag} {te : TE} {σ : L2.St} {H : Hp} {Q : VK} (h : te σ H fun x H1 => ∃ a xs, x = .ref a ∧ SqL K H1 a xs ∧ ∀ p, H1 p = none → Q (.ref p) (upd H1 p (.lst xs.reverse))) : tRevL K te σ H Q := h
theorem frl {K : PySem.W.Frag} {tl : TE} {g : TG} {tb : TS} {D : Ends} {σ : L2.St} {H : Hp} (h : tl σ H fun x H1 => ∃ a, x = .ref a ∧ (∃ xs, SqL K H1 a xs) ∧ ∃ W : Nat → Nat → L2.St → Hp → Prop, (∃ m, W 0 m σ H1) ∧ ∀ i m σ H, W i m σ H →
    ((Itl K a).stop i H ∧ D.nx σ H) ∨ ((Itl K a).go i H ∧ ∃ N : L2.St → Hp → Prop, (∀ σ' H', N σ' H' → ∃ m', m' < m ∧ W (i + 1) m' σ' H') ∧ ∀ x H', (Itl K a).yld i H x H' → g x σ H' fun σ2 H2 => tb { D with nx := N, ct := N, bk := D.nx } σ2 H2)) :
    tFor (iList K tl) g tb D σ H := h
theorem frt {K : PySem.W.Frag} {tl : TE} {g : TG} {tb : TS} {D : Ends} {σ : L2.St} {H : Hp} (h : tl σ H fun x H1 => ∃ a, x = .ref a ∧ (∃ xs, SqT K H1 a xs) ∧ ∃ W : Nat → Nat → L2.St → Hp → Prop, (∃ m, W 0 m σ H1) ∧ ∀ i m σ H, W i m σ H →
    ((Itt K a).stop i H ∧ D.nx σ H) ∨ ((Itt K a).go i H ∧ ∃ N : L2.St → Hp → Prop, (∀ σ' H', N σ' H' → ∃ m', m' < m ∧ W (i + 1) m' σ' H') ∧ ∀ x H', (Itt K a).yld i H x H' → g x σ H' fun σ2 H2 => tb { D with nx := N, ct := N, bk := D.nx } σ2 H2)) :
    tFor (iTup K tl) g tb D σ H := h
theorem fre {K : PySem.W.Frag} {ta : TA} {g : TG} {tb : TS} {D : Ends} {σ : L2.St} {H : Hp} (h : ta σ H fun vs H1 => ∃ a xs, vs = [.ref a] ∧ SqL K H1 a xs ∧ ∃ W : Nat → Nat → L2.St → Hp → Prop, (∃ m, W 0 m σ H1) ∧ ∀ i m σ H, W i m σ H →
    ((Ite K a).stop i H ∧ D.nx σ H) ∨ ((Ite K a).go i H ∧ ∃ N : L2.St → Hp → Prop, (∀ σ' H', N σ' H' → ∃ m', m' < m ∧ W (i + 1) m' σ' H') ∧ ∀ x H', (Ite K a).yld i H x H' → g x σ H' fun σ2 H2 => tb { D with nx := N, ct := N, bk := D.nx } σ2 H2)) :
    tFor (iEnum K ta) g tb D σ H := h
theorem disp {trs : List (TE × TE)} {σ : L2.St} {H : Hp} {Q : VK} (h : ∀ p, H p = none → tPairs trs σ (upd H p (.dK [])) fun ps H2 => H2 p = some (.dK []) ∧ ∃ kvs : List (Key × V), ps = kvs.map (fun kv => (kV kv.1, kv.2)) ∧ kvs.length ≤ 15 ∧ Q (.ref p) (upd H2 p (.dK (mergeK [] kvs)))) : tDisp trs σ H Q := h
theorem pnil {σ : L2.St} {H : Hp} {Q : List (V × V) → Hp → Prop} (h : Q [] H) : tPairs [] σ H Q := h
theorem pcons {tk tv : TE} {r : List (TE × TE)} {σ : L2.St} {H : Hp} {Q : List (V × V) → Hp → Prop} (h : tk σ H fun x H1 => tv σ H1 fun y H2 => tPairs r σ H2 fun ps H3 => Q ((x, y) :: ps) H3) : tPairs ((tk, tv) :: r) σ H Q := h
/-! ### loops -/
theorem whl {c : TT} {tb : TS} {D : Ends} {σ : L2.St} {H : Hp} (W : Nat → L2.St → Hp → Prop) (m : Nat) (w0 : W m σ H) (hs : ∀ m σ H, W m σ H → c σ H fun b H1 => if b = true then ∃ N : L2.St → Hp → Prop, (∀ σ' H', N σ' H' → ∃ m', m' < m ∧ W m' σ' H') ∧
    tb { D with nx := N, ct := N, bk := D.nx } σ H1 else D.nx σ H1) : tWhile c tb D σ H := ⟨W, ⟨m, w0⟩, hs⟩
theorem fr1 {ta : TA} {g : TG} {tb : TS} {D : Ends} {σ : L2.St} {H : Hp} (h : ta σ H fun vs H1 => ∃ j : Int, vs = [.int j] ∧ -(2 ^ 62) ≤ j ∧ j < 2 ^ 62 ∧ ∃ W : Nat → Nat → L2.St → Hp → Prop, (∃ m, W 0 m σ H1) ∧ ∀ i m σ H, W i m σ H →
    ((Itr 0 j.toNat).stop i H ∧ D.nx σ H) ∨ ((Itr 0 j.toNat).go i H ∧ ∃ N : L2.St → Hp → Prop, (∀ σ' H', N σ' H' → ∃ m', m' < m ∧ W (i + 1) m' σ' H') ∧ ∀ x H', (Itr 0 j.toNat).yld i H x H' → g x σ H' fun σ2 H2 => tb { D with nx := N, ct := N, bk := D.nx } σ2 H2)) :
    tFor (iRng1 ta) g tb D σ H := h
/-- range(n), the turn told as a number -/
theorem frN {n : Nat} {k : Int} {g : TG} {tb : TS} {D : Ends} {σ : L2.St} {H : Hp} (hk : k = (n : Int)) (hn : n ≤ 1000000) (Pv : Nat → L2.St → Hp → Prop) (h0 : Pv 0 σ H)
    (hs : ∀ i σ H, i < n → Pv i σ H → g (.int (i : Int)) σ H fun σ2 H2 => tb { D with nx := Pv (i + 1), ct := Pv (i + 1), bk := D.nx } σ2 H2) (hd : ∀ σ H, Pv n σ H → D.nx σ H) :
    ∃ j : Int, [V.int k] = [.int j] ∧ -(2 ^ 62) ≤ j ∧ j < 2 ^ 62 ∧ ∃ W : Nat → Nat → L2.St → Hp → Prop, (∃ m, W 0 m σ H) ∧ ∀ i m σ H, W i m σ H →
    ((Itr 0 j.toNat).stop i H ∧ D.nx σ H) ∨ ((Itr 0 j.toNat).go i H ∧ ∃ N : L2.St → Hp → Prop, (∀ σ' H', N σ' H' → ∃ m', m' < m ∧ W (i + 1) m' σ' H') ∧ ∀ x H', (Itr 0 j.toNat).yld i H x H' → g x σ H' fun σ2 H2 => tb { D with nx := N, ct := N, bk := D.nx } σ2 H2) := by
  subst hk
  refine ⟨(n : Int), rfl, by omega, by omega, ?_⟩
  rw [Int.toNat_natCast]
  refine for_range (n := n) Pv h0 (fun i σ H hi hp => ?_) hd
  have e := hs i σ H hi hp
  rw [Int.zero_add]
  exact e
/-- all that was tracked stands -/
abbrev Ex := L2.Same
theorem ex_new {H : Hp} {p : Addr} {o : HO} (h : H p = none) : Ex H (upd H p o) := fun b z e => by
  rw [upd_ne (ne_of_none e h)]
  exact e
theorem ex_mut {H H' : Hp} {p : Addr} {o : HO} (e : Ex H H') (h : H p = none) : Ex H (upd H' p o) := fun b z q => by
  rw [upd_ne (ne_of_none q h)]
  exact e b z q
theorem ex_t {K : PySem.W.Frag} {H H' : Hp} {a : Addr} {xs : List V} (e : Ex H H') (h : SqT K H a xs) : SqT K H' a xs := by
  rcases h with (h | ⟨o, h⟩) | h
  · exact .inl (.inl (e _ _ h))
  · exact .inl (.inr ⟨o, e _ _ h⟩)
  · exact .inr h
theorem ex_l {K : PySem.W.Frag} {H H' : Hp} {a : Addr} {xs : List V} (e : Ex H H') (h : SqL K H a xs) : SqL K H' a xs := e.seq h
end Rd

set_option Elab.async false
set_option linter.all false
set_option maxRecDepth 100000
set_option maxHeartbeats 1000000
/-! a for loop in a generator's body -/
namespace Gx
open PySem PySem.Spec PyProof.Rows L2 GenW
def hX (env : Env) (x : Value) : Sem PySem.Fin := (do noteFrame x env; theTreesLotGoes x : Sem Unit).wrap (fun _ => .raise x) .raise id id
theorem seg_forLoop {prog : Program} {w : World} {A : Around} {R : GenEnd} {Y : Protocol} {n : Nat} {s₀ s : Shared} {fs : List Frame} {env : Env} {tg : Expr} {it : Value} {body : List Stmt}
    (h : wpAny (model prog w) (A.over (.forLoop tg it body [] env) fs) (pyNext it) (fun r s1 => match r with
      | none => Seg (model prog w) A R Y n s₀ (.forLoop tg it body [] env) (.pure (.again (.block [] env))) fs s1
      | some v => wpAny (model prog w) (A.over (.forLoop tg it body [] env) fs) (letOwnedTupleGo tg it v) (fun _ s2 =>
          wpAny (model prog w) (A.over (.forLoop tg it body [] env) fs) (assign tg env v) (fun _ s3 =>
            Seg (model prog w) A R Y n s₀ (.forLoop tg it body [] env) ((execs body env).wrap (fun f => match f with
              | .next | .cont => .pure (.again (.forLoop tg it body [] env))
              | .brk => .pure (.done .next)
              | .ret v => .pure (.done (.ret v))) (hX env) id id) fs s3)
            (fun x s' => Seg (model prog w) A R Y n s₀ (.forLoop tg it body [] env) (hX env x) fs s') s2)
          (fun x s' => Seg (model prog w) A R Y n s₀ (.forLoop tg it body [] env) (hX env x) fs s') s1)
      (fun x s' => Seg (model prog w) A R Y n s₀ (.forLoop tg it body [] env) (hX env x) fs s') s) :
    Seg (model prog w) A R Y n s₀ (.forLoop tg it body [] env) ((model prog w).den (.forLoop tg it body [] env)) fs s := by
  have hh : ∀ e, (do noteFrame e env; theTreesLotGoes e : Sem Unit).bind (fun _ => (.raise e : Sem PySem.Fin)) = hX env e := fun e => Sem.bind_eq_wrap _ _
  show Seg _ A R Y n s₀ _ ((forTurn tg it body [] env).onRaise (fun x => do noteFrame x env; theTreesLotGoes x)) fs s
  unfold forTurn
  rw [Sem.onRaise_eq_wrap]
  refine seg_bind_wrap (wpAny_standAt ?_)
  refine seg_bind_wrap (wpAny_onRaise (wpAny_mono h (fun r s1 h1 => ?_) fun x s' hx => wpAny_standAt ?_))
  · cases r with
    | none => exact h1
    | some v =>
      refine seg_bind_wrap (wpAny_mono h1 (fun _ s2 h2 => ?_) fun x s' hx => ?_)
      · refine seg_bind_wrap (wpAny_mono h2 (fun _ s3 h3 => ?_) fun x s' hx => ?_)
        · rw [Sem.bind_eq_wrap', Sem.wrap_wrap]
          rw [Sem.wrap_congr (execs body env) _ _ (K' := fun f => match f with
              | .next | .cont => .pure (.again (.forLoop tg it body [] env))
              | .brk => .pure (.done .next)
              | .ret v => .pure (.done (.ret v))) (H' := hX env) (fun f => by cases f <;> rfl) (fun e => by exact hh e)]
          exact h3
        · rw [← hh] at hx; exact hx
      · rw [← hh] at hx; exact hx
  · rw [← hh] at hx; exact hx
def tGFor (wi : TI) (g : TG) (tb : TGn) : TGn := fun D ys σ H => wi σ H fun J H1 => ∃ W : Nat → Nat → List V → L2.St → Hp → Prop, (∃ m, W 0 m ys σ H1) ∧ ∀ i m ys σ H, W i m ys σ H →
  (J.stop i H ∧ D.nx ys σ H) ∨ (J.go i H ∧ ∃ N : List V → L2.St → Hp → Prop, (∀ ys' σ' H', N ys' σ' H' → ∃ m', m' < m ∧ W (i + 1) m' ys' σ' H') ∧
    ∀ x H', J.yld i H x H' → g x σ H' fun σ2 H2 => tb { D with nx := N, ct := N, bk := D.nx } ys σ2 H2)
section
variable {X : Cx}
theorem gs_for {tg iter : Expr} {body : List Stmt} {pos : Pos} {wi : TI} {g : TG} {tb : TGn} (hp : PassesOwn (model X.prog X.w) X.A X.env X.xe) (hc : X.calm = true) (hi : PI X tg iter wi) (hg : PG X tg g) (hb : GSs X body tb)
    (hs : ∀ x, foldedSetIterable iter X.env x = pure x := by intro _; rfl) : GS X (.For tg iter body [] pos) (tGFor wi g tb) := by
  refine ⟨fun A S ip R n ys s₀ c fs K J gd lv s σ H D gc hn k hI ht => ?_⟩
  obtain ⟨acc0, cc0, r0, I0⟩ := hI
  rw [exec_For]
  refine seg_bind_wrap (wpAny_standAt ?_)
  refine seg_bind_wrap ?_
  rw [gc.over]
  refine wpAny_mono (hi.run _ s σ H _ I0 ht) (fun v s1 h1 => ?_) fun x s' hx => k.exc n s₀ x s' hx
  refine seg_bind_wrap (wpAny_of_eq (hs v) ?_)
  refine seg_bind_wrap (wpAny_standAt ?_)
  refine seg_bind_wrap (wpAny_holding ?_)
  rw [gc.over]
  refine wpAny_mono h1 (fun itv s2 h2 => ?_) fun x s' hx => k.exc n s₀ x s' hx
  obtain ⟨it, fp, tn, JJ, H2, e, I2, T, st2, f2, W, ⟨m0, w0⟩, turn⟩ := h2
  subst e
  refine seg_call fun p => ?_
  have gl := fun (kk : Result → Sem PySem.Fin) => gc_loop (k := kk) (c' := .forLoop tg (.ref it) body [] X.env) (l := lv []) (kp := []) (p := p) gc rfl rfl
  have glb := fun (kk : Result → Sem PySem.Fin) => gc_loop (k := kk) (c' := .block [] X.env) (l := lv []) (kp := []) (p := p) gc rfl rfl
  -- the objects of the iterator
  have stat : ∀ {acc : Array Value} {cc : Nat} {H' : Hp}, (∀ b ∈ fp, H' b = none) → ∀ b ∈ fp, FpOk X ((S, lstObj acc cc) :: ip) H' b := fun {acc cc H'} hn b hb => by
    obtain ⟨_, q1, q2, q3, q4, q5⟩ := f2 b hb
    refine ⟨hn b hb, q1, q2, q3, q4, fun p hp => ?_⟩
    rcases List.mem_append.mp hp with z | z
    · exact q5 p (List.mem_append_left _ z)
    · rcases List.mem_cons.mp z with z | z
      · rw [z]; exact q5 (S, lstObj acc0 cc0) (List.mem_append_right _ List.mem_cons_self)
      · exact q5 p (List.mem_append_right _ (List.mem_cons_of_mem _ z))
  have fpS : ∀ b ∈ fp, b ≠ S := fun b hb z => (f2 b hb).2.2.2.2.2 (S, lstObj acc0 cc0) (List.mem_append_right _ List.mem_cons_self) z.symm
  have loop : ∀ (m n : Nat) (i : Nat) (ys : List V) (s₀ s : Shared) (σ : L2.St) (H : Hp), n + ys.length = sizeLine → W i m ys σ H → GI X S ip ys σ H s → tn i s.heap → (∀ b ∈ fp, H b = none) →
      Seg (model X.prog X.w) A R (GY X S) n s₀ (.forLoop tg (.ref it) body [] X.env) ((model X.prog X.w).den (.forLoop tg (.ref it) body [] X.env))
        (.ret (fun r => ((match r with | .ok f => (.pure f : Sem Flow) | .error e => .raise e).onRaise (cameBack X.env)).wrap K J gd lv) none (gd false) (lv []) c p [] :: fs) s := by
    intro m
    induction m using Nat.strongRecOn with
    | ind m ih =>
      intro n i ys s₀ s σ H hn w hI hst hfr
      have ee : ∀ (n : Nat) (s₀ : Shared) (x : Value) (s' : Shared), X.xe x s' → Seg (model X.prog X.w) A R (GY X S) n s₀ (.forLoop tg (.ref it) body [] X.env) (hX X.env x)
          (.ret (fun r => ((match r with | .ok f => (.pure f : Sem Flow) | .error e => .raise e).onRaise (cameBack X.env)).wrap K J gd lv) none (gd false) (lv []) c p [] :: fs) s' := fun n s₀ x s' hx => by
        refine seg_wrap ?_
        rw [(gl _).over]
        refine wpAny_bind (wpAny_mono (hp x s' hx) (fun _ s'' hcb => wpAny_theTreesLotGoes ?_) fun y s'' hcb => ?_)
        · exact seg_leaf (.error x) (seg_cameBack gc k hcb)
        · exact seg_leaf (.error y) (seg_cameBack gc k hcb)
      refine seg_forLoop ?_
      rw [(gl _).over]
      obtain ⟨acc, cc, r, I⟩ := hI
      rcases turn i m ys σ H w with ⟨stop, qn⟩ | ⟨go, N, hN, step⟩
      · refine wpAny_mono (T.done X rfl rfl rfl hc i _ s σ H X.xe I (stat hfr) hst stop) (fun q s4 ⟨hr, I4⟩ => ?_) fun x s' hx => ee n s₀ x s' hx
        subst hr
        refine seg_again rfl ?_
        show Seg _ _ _ _ n s₀ (.block [] X.env) (((execs [] X.env).onRaise _) >>= fun f => pure (.done f)) _ s4
        exact seg_leaf (.ok .next) (k.ok n ys s₀ s4 .next hn ⟨σ, H, ⟨acc, cc, r, I4⟩, qn⟩)
      · refine wpAny_mono (T.item X rfl rfl rfl hc i _ s σ H X.xe I (stat hfr) hst go) (fun q s4 ⟨u, hr, h4⟩ => ?_) fun x s' hx => ee n s₀ x s' hx
        subst hr
        refine wpAny_mono h4 (fun _ s5 ⟨x, H5, I5, r5, y5, st5, fr5⟩ => ?_) fun x s' hx => ee n s₀ x s' hx
        have I5' := I5.pinned (stat fr5) (T.obj _ _ st5)
        refine wpAny_mono (hg.run _ s5 σ H5 x u _ I5' r5 (step x H5 y5)) (fun _ s6 ⟨σ6, H6, I6, q6⟩ => ?_) fun x s' hx => ee n s₀ x s' hx
        have gip : ∀ p ∈ ip ++ pinsAt fp s5.heap, p.1 ≠ S := fun p hp => by
          rcases List.mem_append.mp hp with z | z
          · exact gc.ip p z
          · exact fpS _ (of_pinsAt z).1
        have un : ∀ {ys' : List V} {σ' : L2.St} {H' : Hp} {s' : Shared}, GI X S (ip ++ pinsAt fp s5.heap) ys' σ' H' s' → GI X S ip ys' σ' H' s' ∧ tn (i + 1) s'.heap ∧ ∀ b ∈ fp, H' b = none := fun {ys' σ' H' s'} hI => by
          obtain ⟨acc, cc, r, I⟩ := hI
          have pn := fun b hb o e => I.pin (b, o) (List.mem_append_right _ (List.mem_cons_of_mem _ (List.mem_append_right _ (mem_pinsAt (fp := fp) (h := s5.heap) (b := b) (o := o) hb e))))
          refine ⟨⟨acc, cc, r, I.pins_of fun p hp => I.pin p (List.mem_append_right _ ?_)⟩, T.keep _ _ _ st5 fun b hb o e => (pn b hb o e).1, fun b hb => ?_⟩
          · rcases List.mem_cons.mp hp with z | z
            · exact z ▸ List.mem_cons_self
            · exact List.mem_cons_of_mem _ (List.mem_append_left _ z)
          · obtain ⟨o, e, d⟩ := T.obj _ _ st5 b hb
            exact (pn b hb o e).2.1
        refine hb.run A S (ip ++ pinsAt fp s5.heap) R n ys s₀ _ _ _ _ id id s6 σ6 H6 { D with nx := N, ct := N, bk := D.nx } ⟨gc.pn, gip, gc.apart, (gl _).over, (gl _).split, (gl _).guard, rfl⟩ hn ⟨fun n' ys' s₀' s7 f hn' hs => ?_, fun n' s₀' x s3 hx => ee n' s₀' x s3 hx⟩ ⟨acc, cc, r, I6⟩ q6
        cases f with
        | next =>
          obtain ⟨σ7, H7, I7, n7⟩ := hs
          obtain ⟨I8, st8, fr8⟩ := un I7
          obtain ⟨m', hm, w7⟩ := hN ys' σ7 H7 n7
          exact seg_again rfl (ih m' hm n' (i + 1) ys' s₀' s7 σ7 H7 hn' w7 I8 st8 fr8)
        | cont =>
          obtain ⟨σ7, H7, I7, n7⟩ := hs
          obtain ⟨I8, st8, fr8⟩ := un I7
          obtain ⟨m', hm, w7⟩ := hN ys' σ7 H7 n7
          exact seg_again rfl (ih m' hm n' (i + 1) ys' s₀' s7 σ7 H7 hn' w7 I8 st8 fr8)
        | brk =>
          obtain ⟨σ7, H7, I7, n7⟩ := hs
          exact seg_leaf (.ok .next) (k.ok n' ys' s₀' s7 .next hn' ⟨σ7, H7, (un I7).1, n7⟩)
        | ret v =>
          obtain ⟨x7, σ7, H7, I7, r7, n7⟩ := hs
          exact seg_leaf (.ok (.ret v)) (k.ok n' ys' s₀' s7 (.ret v) hn' ⟨x7, σ7, H7, (un I7).1, r7, n7⟩)
  exact loop m0 n 0 ys s₀ s2 σ H2 hn w0 ⟨acc0, cc0, r0, I2⟩ st2 fun b hb => (f2 b hb).1
/-- over a range -/
theorem gfor_range {lo : Int} {n : Nat} {g : TG} {tb : TGn} {D : GEnds} {ys : List V} {σ : L2.St} {H : Hp} (Pv : Nat → List V → L2.St → Hp → Prop) (h0 : Pv 0 ys σ H)
    (hs : ∀ i ys σ H, i < n → Pv i ys σ H → g (.int (lo + i)) σ H fun σ2 H2 => tb { D with nx := Pv (i + 1), ct := Pv (i + 1), bk := D.nx } ys σ2 H2) (hd : ∀ ys σ H, Pv n ys σ H → D.nx ys σ H) :
    ∃ W : Nat → Nat → List V → L2.St → Hp → Prop, (∃ m, W 0 m ys σ H) ∧ ∀ i m ys σ H, W i m ys σ H →
      ((Itr lo n).stop i H ∧ D.nx ys σ H) ∨ ((Itr lo n).go i H ∧ ∃ N : List V → L2.St → Hp → Prop, (∀ ys' σ' H', N ys' σ' H' → ∃ m', m' < m ∧ W (i + 1) m' ys' σ' H') ∧ ∀ x H', (Itr lo n).yld i H x H' → g x σ H' fun σ2 H2 => tb { D with nx := N, ct := N, bk := D.nx } ys σ2 H2) := by
  refine ⟨fun i m ys σ H => m = n - i ∧ i ≤ n ∧ Pv i ys σ H, ⟨n, by simp, Nat.zero_le _, h0⟩, ?_⟩
  rintro i m ys σ H ⟨rfl, hi, p⟩
  by_cases hlt : i < n
  · refine .inr ⟨hlt, Pv (i + 1), fun ys' σ' H' p' => ⟨n - (i + 1), by omega, rfl, hlt, p'⟩, fun x H' y => ?_⟩
    obtain ⟨rfl, rfl⟩ := y
    exact hs i ys σ _ hlt p
  · have e : i = n := by omega
    subst e
    exact .inl ⟨Nat.le_refl _, hd ys σ H p⟩
end
end Gx

set_option Elab.async false
set_option linter.all false
set_option maxRecDepth 100000
set_option maxHeartbeats 1000000
/-! an operator of one's own class, a static method, list() of a generator method -/
namespace Gx
open PySem PySem.Spec PyProof.Rows L2 GenW
/-! ### an own operator, the right side an int -/
structure OwnOp (K : PySem.W.Frag) (C : Addr) (nm : String) : Prop where
  sf : PySem.W.selfFirst K C = true
  r : PySem.W.findIn K (.ref C) (dunderR nm) = some none
  l1 : ∃ fo, PySem.W.findIn K (.type "int") (PySem.dunder nm) = some fo
  l2 : ∃ ro, PySem.W.findIn K (.type "int") (dunderR nm) = some ro
  sub : PySem.W.subIn K (.type "int") (.ref C) = some false
def rOwn (C : Addr) (sp : Sp) : V → V → Hp → VK → Prop := fun x y H Q => ∃ (a dx : Addr) (fs : List (Str × V)) (n : Int), x = .ref a ∧ y = .int n ∧ H a = some (.ins C dx fs) ∧ sp ([x, y] ++ []) H (fun v H' => (∃ b, v = .ref b) ∧ Q v H') C8.E0
section
variable {X : Cx} {k j : Nat} {C : Addr} {m : Str} {sp : Sp}
theorem op_own {op : Operator} (c : C8.Met X.prog X.w X.K X.mg X.base k C m sp []) (hr : Room j X.A) (hk : k ≤ j) (o : OwnOp X.K C op.info.2) (hm : PySem.dunder op.info.2 = m) : OpR X (binaryOp op) (rOwn C sp) := by
  intro pins s σ H x y v u Q I rx ry h
  obtain ⟨a, dx, fs, n, rfl, rfl, ha, q⟩ := h
  obtain rfl : v = Value.ref a := rx
  obtain ⟨f, fd, ps, ds, hc, me, F, b, d⟩ := c.ex
  obtain ⟨mA, O, rr, _, _, _⟩ := ins_get I.hok ha
  obtain ⟨od, J, hl⟩ := O.look
  obtain ⟨m0, fr⟩ := I.fr
  obtain ⟨fo, h1⟩ := o.l1
  obtain ⟨ro, h2⟩ := o.l2
  obtain ⟨t, rfl⟩ := id ry
  subst hm
  refine PySem.W.ksp_binT fr I.mod.kin J (T := "int") rfl o.sf me.at_ me.fn o.r (.inl rfl) h1 h2 o.sub ?_
  refine thn (run_fn (us := [.ref a, .int n t]) (vs := [.ref a, .int n]) F (hr.mono hk) b d C8.pass0 I (.cons rfl (.cons ry .nil)) q) fun v s1 hv => ?_
  obtain ⟨x, H1, I1, r1, ⟨b1, rfl⟩, q1⟩ := hv
  obtain rfl : v = Value.ref b1 := r1
  exact (⟨.ref b1, H1, I1, rfl, q1⟩ : EP X pins σ Q (.ref b1) s1)
end
/-! ### a static method of a class, by the class -/
structure SMet (P : Program) (w : World) (K : PySem.W.Frag) (mg : Str → Option Value) (base : Heap) (k : Nat) (C : Addr) (m : Str) (sp : Sp) : Prop where
  ex : ∃ (mc : Value) (p f : Addr) (fd : FuncData) (ps : List Str) (rest : List Value), ClX.CRead K C mc ∧ PySem.W.findCls K (.ref C) mc m = some (.get (.builtin "staticmethod.__get__") (.ref p) .none (.ref C)) ∧
    PySem.W.recIn K p "staticmethod" = some (.ref f :: rest) ∧ PySem.W.keepIn K (.ref f) = true ∧ FnOk P w K mg base C8.CX0 k f fd ps sp ∧ Binds K fd ps []
structure SAt (K : PySem.W.Frag) (C : Addr) (m : Str) (f : Addr) : Prop where
  ex : ∃ (mc : Value) (p : Addr) (rest : List Value), ClX.CRead K C mc ∧ PySem.W.findCls K (.ref C) mc m = some (.get (.builtin "staticmethod.__get__") (.ref p) .none (.ref C)) ∧ PySem.W.recIn K p "staticmethod" = some (.ref f :: rest) ∧ PySem.W.keepIn K (.ref f) = true
theorem smet0 {P : Program} {w : World} {K : PySem.W.Frag} {mg : Str → Option Value} {base : Heap} {m qual : Str} {C : Addr} {st : Stmt} {f : Addr} {fd : FuncData} {N ps : List Str} {k : Nat} {sp : Sp} (me : SAt K C m f) (F : C8.Fun K m qual st f fd) (b : Binds K fd ps []) (S : FnScope N ps (C8.fnScope st))
    (len : ∀ vs H Q E, sp vs H Q E → vs.length = ps.length)
    (hbody : ∀ (cdv : Value) (A : Around) (outer : List Env) (s : Shared) (H : Hp) (vs : List V) (Q : VK) (E : XK), Room k (A.deeper (envOfC qual (C8.fnScope st) s.heap.objs.size f cdv)) → sp vs H Q E →
      ∃ t, PSs (cxOf C8.CX0 P w K mg base N qual (C8.fnScope st) f cdv A outer s H E).nox (C8.fnBody st) t ∧ t { nx := fun _ H' => Q .non H', rt := Q } (start N vs) H) : SMet P w K mg base (k + 1) C m sp := by
  obtain ⟨mc, p, rest, r, a, b1, kp⟩ := me.ex
  exact ⟨mc, p, f, fd, ps, rest, r, a, b1, kp, C8.fn0 F S len hbody, b⟩
def tSMeth (C : Addr) (sp : Sp) (ta : TE) (t : TA) : TE := fun σ H Q => ta σ H fun x H1 => x = .ref C ∧ t σ H1 fun vs H2 => sp (vs ++ []) H2 Q C8.E0
section
variable {X : Cx} {k j : Nat} {C : Addr} {m : Str} {sp : Sp} {pos apos : Pos} {e o : Expr} {es : List Expr} {ta : TE} {t : TA} {pl : Sem Bool}
theorem pe_sm (c : SMet X.prog X.w X.K X.mg X.base k C m sp) (hr : Room j X.A) (hk : k ≤ j) (he : PE X o ta) (ha : PA X (e :: es) t)
    (hst : starEach (e :: es) X.env = (false, eval e X.env) :: starEach es X.env := by rfl) (hpl : (backTo pos (starEach es X.env)).any (·.1) = false := by rfl)
    (ht : eval (.Call (.Attribute o m apos) (e :: es) [] pos) X.env = (do
      let ov ← eval o X.env
      standAt apos.atName
      let (f, first) ← holding [ov] (getMethod ov m pl)
      callWith pos f first (backTo pos (starEach (e :: es) X.env)) (backToKw pos (keywordEach [] X.env))) := by rfl) :
    PE X (.Call (.Attribute o m apos) (e :: es) [] pos) (tSMeth C sp ta t) := by
  obtain ⟨mc, p, f, fd, ps, rest, r, a, b1, kp, F, b⟩ := c.ex
  refine ⟨fun pins s σ H Q I h => ?_⟩
  refine PySem.W.methodCall_KW (pl := pl) (thn (he.run pins s σ H _ I h) fun u s1 ⟨x, H1, I1, rx, ex, q⟩ => ?_) ht
  subst ex
  obtain rfl : u = Value.ref C := rx
  refine PySem.W.method_cls I1.kIn r.ga (PySem.W.cls_bind I1.kIn r.rd a (wpAny_call (PySem.W.sm_get (s := { s1 with toks := s1.toks + 1 }) I1.kIn b1 (PySem.W.handed_on rfl ?_))))
  have I2 : Inv X pins σ H1 { s1 with toks := s1.toks + 1 } := I1.tok _
  refine PySem.W.callWith_K (first := []) (h₀ := X.base) I.ok.mod.kin kp (thn (ha.run pos pins _ σ H1 _ I2 q) fun us s2 ⟨vs, H2, I3, rv, q2⟩ => ⟨I3.kIn, ?_⟩) hst hpl
  exact run_fn F (hr.mono hk) b .nil C8.pass0 I3 rv q2
end
/-! ### a generator method -/
structure GMet (P : Program) (w : World) (K : PySem.W.Frag) (mg : Str → Option Value) (base : Heap) (k : Nat) (C : Addr) (m : Str) (sp : SpG) : Prop where
  ex : ∃ (f : Addr) (fd : FuncData) (ps : List Str), Cls K C ∧ Meth K C m f ∧ GFn P w K mg base k f fd ps sp ∧ Binds K fd ps []
def gscC (N P : List Str) (sc : Scope) : Bool :=
  decide (sc.kind = .function) && !sc.isCoroutine && sc.isGenerator && decide N.Nodup && decide (N.take P.length = P) && P.all (fun x => decide (sc.names.lookup x = some .local) || decide (sc.names.lookup x = some .cell)) && sc.names.all (fun y => !decide (y.2 = .free))
theorem gscope_by {N P : List Str} {sc : Scope} (h : gscC N P sc = true) : GScope N P sc := by
  simp only [gscC, Bool.and_eq_true, decide_eq_true_eq, Bool.not_eq_true', List.all_eq_true, Bool.or_eq_true, decide_eq_false_iff_not] at h
  obtain ⟨⟨⟨⟨⟨⟨h1, h2⟩, h3⟩, h4⟩, h5⟩, h6⟩, h7⟩ := h
  exact ⟨h1, h2, h3, h4, h5, h6, h7⟩
theorem gmet0 {P : Program} {w : World} {K : PySem.W.Frag} {mg : Str → Option Value} {base : Heap} {m qual : Str} {C : Addr} {st : Stmt} {f : Addr} {fd : FuncData} {N ps : List Str} {k : Nat} {sp : SpG} (c : Cls K C) (me : Meth K C m f) (F : C8.Fun K m qual st f fd) (b : Binds K fd ps [])
    (S : GScope N ps (C8.fnScope st)) (len : ∀ vs H Q E, sp vs H Q E → vs.length = ps.length)
    (hbody : ∀ (cdv : Value) (A : Around) (outer : List Env) (s : Shared) (H : Hp) (vs : List V) (Q : List V → Hp → Prop) (E : XK) (pn : List (Addr × Obj)), Room k (A.deeper (envOfC qual (C8.fnScope st) s.heap.objs.size f cdv)) → sp vs H Q E →
      ∃ t, GSs (gcxOf P w K mg base N qual (C8.fnScope st) f cdv A outer s H E pn) (C8.fnBody st) t ∧ t { nx := fun ys _ H' => Q ys H', rt := fun ys v H' => v = .non ∧ Q ys H' } [] (start N vs) H) : GMet P w K mg base (k + 1) C m sp := by
  obtain ⟨oc, od, dV, kV, doc, pm, an, cdv, ct, osl, rfl, lk, hcd⟩ := F.ex
  exact ⟨f, _, ps, c, me, gfn_of lk hcd S len (hbody cdv), b⟩
theorem pass0G {X : Cx} : Passes (CX X.prog X.w) X C8.E0 := fun _ _ _ _ _ _ _ h => by
  obtain ⟨a, B, H', cls, d, _, _, _, _, _, _, _, z⟩ := h
  exact z.elim
section
variable {X : Cx} {k j : Nat} {C : Addr} {m : Str} {sp : SpG} {p pos pos' apos : Pos} {e o : Expr} {es : List Expr} {ta : TE} {t : TA} {pl : Sem Bool}
/-- list(o.m(..)) -/
theorem pe_listM (c : GMet X.prog X.w X.K X.mg X.base k C m sp) (hr : Room j X.A) (hk : k + 3 ≤ j) (he : PE X o ta) (ha : PA X (e :: es) t) (hg : Gl X "list") (hmg : X.mg "list" = none)
    (hst : starEach (e :: es) X.env = (false, eval e X.env) :: starEach es X.env := by rfl) (hpl : (backTo pos' (starEach es X.env)).any (·.1) = false := by rfl)
    (ht : eval (.Call (.Attribute o m apos) (e :: es) [] pos') X.env = (do
      let ov ← eval o X.env
      standAt apos.atName
      let (f, first) ← holding [ov] (getMethod ov m pl)
      callWith pos' f first (backTo pos' (starEach (e :: es) X.env)) (backToKw pos' (keywordEach [] X.env))) := by rfl)
    (hst2 : starEach [.Call (.Attribute o m apos) (e :: es) [] pos'] X.env = (false, eval (.Call (.Attribute o m apos) (e :: es) [] pos') X.env) :: starEach [] X.env := by rfl) :
    PE X (.Call (.Name "list" p) [.Call (.Attribute o m apos) (e :: es) [] pos'] [] pos) (tListG (tMethG C m sp [] C8.E0 ta t)) := by
  obtain ⟨f, fd, ps, hc, hm, F, b⟩ := c.ex
  exact pe_listG (pgen_meth (pl := pl) he hc hm F (hr.mono (by omega)) b .nil ha hst hpl ht) pass0G (fun _ _ _ z => z.elim) (hr.mono hk) hg hmg (by rfl) (by decide) (by decide) hst2
end
end Gx
namespace Gx
open PySem PySem.Spec PyProof.Rows L2 GenW
theorem isTup {K : PySem.W.Frag} {a : Addr} {xs : List V} {H : Hp} {Q : VK} (h : H a = some (.tup xs)) (q : Q (.bl true) H) : rIsi K [.ref a, .ty "tuple"] H Q :=
  ⟨_, _, .type "tuple", _, true, rfl, .ty _, .base (.tup h), by first | rfl | decide +kernel | kernel_rfl, q⟩
section
variable {t u : TGn} {tp : TS} {te : TE} {D : GEnds} {ys : List V} {σ : L2.St} {H : Hp}
theorem gthen (h : t { D with nx := fun ys' σ' H' => u D ys' σ' H' } ys σ H) : tGThen t u D ys σ H := h
theorem gplain (h : tp (D.at ys) σ H) : tPlain tp D ys σ H := h
theorem gat (h : D.nx ys σ H) : (D.at ys).nx σ H := h
theorem gnx {f g c d} (h : f ys σ H) : (GEnds.mk f g c d).nx ys σ H := h
theorem sfld {K : PySem.W.Frag} {to te : TE} {f : Str} {D : Ends} (h : te σ H fun y H1 => to σ H1 fun x H2 => ∃ a C dx fs, x = .ref a ∧ H2 a = some (.ins C dx fs) ∧ Cls K C ∧ NoAttr K C f ∧ fs.length < 1000 ∧ D.nx σ (upd H2 a (.ins C dx (putF f y fs)))) : sFld K to te f D σ H := h
theorem lg {tg : TGen} {Q : VK} (h : tg σ H fun out H2 => ∀ p, H2 p = none → Q (.ref p) (upd H2 p (.lst out))) : tListG tg σ H Q := h
theorem mg {C : Addr} {m : Str} {sp : SpG} {E : XK} {ta : TE} {t : TA} {cont : List V → Hp → Prop} (h : ta σ H fun x H1 => ∃ a dx fs, x = .ref a ∧ H1 a = some (.ins C dx fs) ∧ fs.lookup m = none ∧ t σ H1 fun vs H2 => sp (x :: (vs ++ [])) H2 cont E) : tMethG C m sp [] E ta t σ H cont := h
theorem sme {C : Addr} {sp : Sp} {ta : TE} {t : TA} {Q : VK} (h : ta σ H fun x H1 => x = .ref C ∧ t σ H1 fun vs H2 => sp (vs ++ []) H2 Q C8.E0) : tSMeth C sp ta t σ H Q := h
theorem gnil (h : D.nx ys σ H) : tG0 D ys σ H := h
theorem gy (hl : ys.length < sizeLine) (h : te σ H fun x H1 => D.nx (ys ++ [x]) σ H1) : tGYield te D ys σ H := ⟨hl, h⟩
theorem gfr {ta : TA} {g : TG} {tb : TGn} (h : ta σ H fun vs H1 => ∃ j : Int, vs = [.int j] ∧ -(2 ^ 62) ≤ j ∧ j < 2 ^ 62 ∧ ∃ W : Nat → Nat → List V → L2.St → Hp → Prop, (∃ m, W 0 m ys σ H1) ∧ ∀ i m ys σ H, W i m ys σ H →
  ((Itr 0 j.toNat).stop i H ∧ D.nx ys σ H) ∨ ((Itr 0 j.toNat).go i H ∧ ∃ N : List V → L2.St → Hp → Prop, (∀ ys' σ' H', N ys' σ' H' → ∃ m', m' < m ∧ W (i + 1) m' ys' σ' H') ∧
    ∀ x H', (Itr 0 j.toNat).yld i H x H' → g x σ H' fun σ2 H2 => tb { D with nx := N, ct := N, bk := D.nx } ys σ2 H2)) : tGFor (iRng1 ta) g tb D ys σ H := h
end
end Gx
namespace Gx
open PySem PySem.Spec PyProof.Rows L2 GenW
/-- a new object's heap by a name -/
theorem newo {H : Hp} {p : Addr} {o : HO} (hp : H p = none) : ∃ H1, H1 = upd H p o ∧ Rd.Ex H H1 ∧ H1 p = some o := ⟨_, rfl, Rd.ex_new hp, upd_same⟩
/-- f() -/
theorem pe_c0 {X : Cx} {k j : Nat} {x : Str} {sp : Sp} {p pos : Pos} (c : C8.Cal X.prog X.w X.K X.mg X.base k x sp []) (hr : Room j X.A) (hk : k ≤ j) (hg : Gl X x) (hdb : (x == ("__debug__" : Str)) = false := by decide) :
    PE X (.Call (.Name x p) [] [] pos) (tCall sp [] C8.E0 tNil) := by
  obtain ⟨f, fd, ps, ds, F, hm, kp, b, d⟩ := c.ex
  exact pe_call0 F (hr.mono hk) hg hm kp b d C8.pass0 hdb
end Gx

set_option Elab.async false
set_option linter.all false
set_option maxRecDepth 100000
set_option maxHeartbeats 1000000
/-! t[::-1] of a tuple of four -/
namespace Gx
open PySem PySem.Spec PyProof.Rows L2 GenW HT
section
variable {prog : Program} {w : World} {A : Around} {E : Value → Shared → Prop} {s : Shared}
theorem cutBack {sl : Addr} {x y z : Value} {Q : Int × Int × Nat → Shared → Prop} (hs : s.heap.IsSliceOf sl x y z) (px : IsPart x none) (py : IsPart y none) (pz : IsPart z (some (-1))) (h : Q (3, -1, 4) s) :
    wpAny (model prog w) A (Builtin.Slice.sliceApplied (.ref sl) (pure ((4 : Nat) : Int))) Q E s := by
  obtain ⟨ob, e1, _, e2⟩ := id hs
  unfold Builtin.Slice.sliceApplied Builtin.Slice.sliceFields
  refine wpAny_bind (wpAny_bind (wpAny_field e1 e2 (x := x) rfl (wpAny_bind (wpAny_field e1 e2 (x := y) rfl (wpAny_bind (wpAny_field e1 e2 (x := z) rfl (wpAny_pure ?_)))))))
  refine wpAny_bind (slicePart_ pz ?_)
  show wpAny _ _ (if ((-1 : Int) == 0) = true then _ else _) _ _ s
  rw [if_neg (show ¬ (((-1 : Int) == 0) = true) by decide)]
  exact wpAny_bind (slicePart_ px (wpAny_bind (slicePart_ py (wpAny_bind (wpAny_pure (wpAny_pure h))))))
theorem itemBack {t sl : Addr} {a b c d x y z : Value} {Q : Value → Shared → Prop} (ht : IsTup s.heap t #[a, b, c, d]) (hs : s.heap.IsSliceOf sl x y z) (px : IsPart x none) (py : IsPart y none) (pz : IsPart z (some (-1)))
    (h : Q (.ref s.heap.objs.size) { s with heap := s.heap.push { cls := .type "tuple", data := .seq #[d, c, b, a] } }) : wpAny (model prog w) A (getItem (.ref t) (.ref sl)) Q E s := by
  obtain ⟨ob, e1, e0, _⟩ := id hs
  have ty : s.TypeIs (.ref sl) "slice" := ⟨ob, e1, e0⟩
  unfold getItem
  try with_reducible refine wpAny_holding ?_
  first | refine wpAny_bind (wpAny_pure ?_) | skip
  refine wpAny_bind (wpAny_sequenceKey ht.typeIs (by decide) (wpAny_bind (wpAny_callSpecial?_slot (name := Str.ofString "__getitem__") ht.typeIs PyProof.Rows.slot_tuple_getitem
    (wpAny_call_entry PyProof.Rows.slot_tuple_getitem ht.typeIs entry_tuple_getitem ?_ (args_tuple_getitem _ _)))))
  show wpAny _ _ (Builtin.Tuple.tupleItemsOf (.ref t) >>= _) _ _ s
  refine wpAny_bind (tupleItemsOf_ ht (wpAny_bind (wpAny_typeOf ty ?_)))
  rw [if_pos (show (Value.type "slice" == Value.type "slice") = true by decide)]
  refine wpAny_bind (cutBack hs px py pz ?_)
  show wpAny _ _ (if ((3 : Int) == 0 && (-1 : Int) == 1 && (4 : Nat) == 4) = true then _ else _) _ _ s
  rw [if_neg (show ¬ (((3 : Int) == 0 && (-1 : Int) == 1 && (4 : Nat) == 4) = true) by decide)]
  have sz : sizeOk (.seq #[d, c, b, a]) := Nat.le_of_ble_eq_true rfl
  show wpAny _ _ (Builtin.Tuple.tupleExact #[d, c, b, a] >>= _) _ _ s
  first
    | exact wpAny_bind (m := Builtin.Tuple.tupleExact _) (wpAny_newObj_type (wpAny_pure ⟨_, rfl, wpAny_pure h⟩) sz)
    | exact wpAny_bind (m := Builtin.Tuple.tupleExact _) (wpAny_newObj_type (wpAny_bind (wpAny_pure (wpAny_pure ⟨_, rfl, wpAny_pure h⟩))) sz)
end
def tRevT (K : PySem.W.Frag) (te : TE) : TE := fun σ H Q => te σ H fun x H1 => ∃ a v1 v2 v3 v4, x = .ref a ∧ SqT K H1 a [v1, v2, v3, v4] ∧ ∀ p, H1 p = none → Q (.ref p) (upd H1 p (.tup [v4, v3, v2, v1]))
theorem pe_revT {X : Cx} {e : Expr} {te : TE} {k : Nat} {p1 p2 p3 pos : Pos} (he : PE X e te) : PE X (.Subscript e (.Slice none none (some (.UnaryOp .USub (.Constant (.int 1) k p1) p2)) p3) pos) (tRevT X.K te) := by
  refine ⟨fun pins s σ H Q I h => Subscript_ (thn (he.run pins s σ H _ I h) fun v s1 ⟨x, H1, I1, r1, a, v1, v2, v3, v4, ex, hx, q⟩ => ?_)⟩
  subst ex
  cases r1
  have neg1 : PO X (some (.UnaryOp .USub (.Constant (.int 1) k p1) p2)) (tPart (tUn (rU fun i => .int (-i)) (tC (.int 1)))) := po_some (pe_un un_neg pe_int)
  refine wpAny_Slice (thn (po_none.run pins s1 σ H1 (fun o H2 => o = none ∧ H2 = H1) I1 ⟨rfl, rfl⟩) fun y1 s2 ⟨o1, H2, I2, t1, c1, c2⟩ => ?_)
  subst c1 c2
  refine thn (po_none.run pins s2 σ H2 (fun o H3 => o = none ∧ H3 = H2) I2 ⟨rfl, rfl⟩) fun y2 s3 ⟨o2, H3, I3, t2, c1, c2⟩ => ?_
  subst c1 c2
  refine thn (neg1.run pins s3 σ H3 (fun o H4 => o = some (-1) ∧ H4 = H3) I3 ⟨1, rfl, -1, rfl, rfl, rfl⟩) fun y3 s4 ⟨o3, H4, I4, t3, c1, c2⟩ => ?_
  subst c1 c2
  have I5 : Inv X pins σ H4 { s4 with heap := s4.heap.push { cls := .type "slice", data := .fields #[y1, y2, y3] } } := I4.kept (t' := s4.toks) fun b ob z => Heap.get?_push_of_some _ z
  obtain ⟨its, r, ht, hz⟩ := I5.tuple hx
  cases r with
  | cons ra r => cases r with
    | cons rb r => cases r with
      | cons rc r => cases r with
        | cons rd r =>
          cases r
          show wpAny (model X.prog X.w) X.A (subscriptTail e _ (.ref a) (.ref s4.heap.objs.size)) (EP X pins σ Q) X.xe _
          refine tail_any (ops := [.ref a, .ref s4.heap.objs.size]) ht.typeIs PyProof.Rows.slot_tuple_getitem.lookup ?_ (by with_unfolding_all rfl)
          refine itemBack ht (Heap.IsSliceOf.new _ y1 y2 y3) t1 t2 t3 ?_
          refine ⟨.ref _, _, I5.laid (t' := s4.toks) (o := .tup [v4, v3, v2, v1]) (fun b ob z => Heap.get?_push_of_some _ z) (Nat.le_refl _) ?_, rfl, q _ (I5.hok.fresh (Nat.le_refl _))⟩
          exact ⟨Nat.le_of_ble_eq_true rfl, _, .cons rd (.cons rc (.cons rb (.cons ra .nil))), IsTup.new _ _⟩
theorem revT {K : PySem.W.Frag} {te : TE} {σ : L2.St} {H : Hp} {Q : VK} (h : te σ H fun x H1 => ∃ a v1 v2 v3 v4, x = .ref a ∧ SqT K H1 a [v1, v2, v3, v4] ∧ ∀ p, H1 p = none → Q (.ref p) (upd H1 p (.tup [v4, v3, v2, v1]))) : tRevT K te σ H Q := h
end Gx

set_option Elab.async false
set_option linter.all false
set_option maxRecDepth 100000
set_option maxHeartbeats 1000000
/-! own exceptions that call their base's __init__ by the base's name, and defs that may raise them -/
namespace Gx
open PySem PySem.Spec PyProof.Rows L2 GenW
section
variable {X : Cx} {x : Str} {e : Expr} {es : List Expr} {ta : TA} {p p1 p2 pos : Pos}
/-- B.__init__(self, ..), B an own class over ValueError without an __init__ of its own -/
theorem pe_binit {pl : Sem Bool} {B : Addr} {mc : Value} (hg : Gl X x) (hm : X.mg x = some (.ref B)) (r : ClX.CRead X.K B mc) (hv : PySem.W.findCls X.K (.ref B) mc "__init__" = some (.val (.builtin "ValueError.__init__"))) (ha : PA X (e :: es) ta)
    (hdb : (x == ("__debug__" : Str)) = false := by decide)
    (hc : eval (.Call (.Attribute (.Name x p1) "__init__" p2) (e :: es) [] pos) X.env = (do
      let ov ← eval (.Name x p1) X.env
      standAt p2.atName
      let (f, first) ← holding [ov] (getMethod ov "__init__" pl)
      callWith pos f first (backTo pos (starEach (e :: es) X.env)) (backToKw pos (keywordEach [] X.env))) := by rfl)
    (he : starEach (e :: es) X.env = (false, eval e X.env) :: starEach es X.env := by rfl) (hpl : (backTo pos (starEach es X.env)).any (·.1) = false := by rfl) :
    PE X (.Call (.Attribute (.Name x p1) "__init__" p2) (e :: es) [] pos) (tVeI X.K ta) := by
  refine ⟨fun pins s σ H Q I h => PySem.W.methodCall_KW (ld_glob I hg hm ?_ hdb) hc⟩
  refine PySem.W.method_cls I.kIn r.ga (PySem.W.cls_value I.kIn r.rd hv (by decide +kernel) ?_)
  refine PyProof.Rows.callWith_method1 (thn (ha.run pos pins _ σ H _ (I.tok _) h) fun us s1 ⟨vs, H1, I1, r1, a, C, ws, ev, hl, T, ea, q⟩ => ?_) he hpl
  subst ev
  cases r1 with
  | @cons _ u _ ur ra rr =>
    obtain rfl : u = Value.ref a := ra
    exact oinit_ok T I1 ea (by rw [← Paired.length rr, sizeLine_eq]; omega) fun s' J => ⟨.non, H1, J, rfl, q⟩
end
/-- the promise of such a class's __init__ -/
def spExc (C : Addr) (fl : Str) : Sp := fun vs H Q _ => ∃ (p : Addr) (v : V), vs = [.ref p, v] ∧ H p = some (exo p C none) ∧ ∀ dx, H dx = none → dx ≠ p → Q .non (upd (upd H dx (exd dx [(fl, v)])) p (exo p C (some dx)))
structure ExcMk (P : Program) (w : World) (K : PySem.W.Frag) (mg : Str → Option Value) (base : Heap) (k : Nat) (x : Str) (C : Addr) (fl : Str) : Prop where
  ex : ∃ (f : Addr) (fd : FuncData) (ps : List Str), OexC K C ∧ PySem.W.findIn K (.ref C) "__init__" = some (some (.ref f)) ∧ PySem.W.typeIn K (.ref f) = some (.type "function") ∧ FnOk P w K mg base C8.CX0 k f fd ps (spExc C fl) ∧ Binds K fd ps [] ∧ mg x = some (.ref C)
section
variable {X : Cx} {x : Str} {e : Expr} {ta : TA} {p pos : Pos} {k j : Nat} {C : Addr} {fl : Str}
theorem pmk_ex (c : ExcMk X.prog X.w X.K X.mg X.base k x C fl) (hr : Room j X.A) (hk : k + 1 ≤ j) (hg : Gl X x) (ha : PA X [e] ta) (hdb : (x == ("__debug__" : Str)) = false := by decide)
    (he : starEach [e] X.env = (false, eval e X.env) :: starEach [] X.env := by rfl) (hpl : (backTo pos (starEach [] X.env)).any (·.1) = false := by rfl) : PMk X (.Call (.Name x p) [e] [] pos) (tMkO C (spExc C fl) [] ta) := by
  obtain ⟨f, fd, ps, T, i, t, F, b, hm⟩ := c.ex
  exact pmk_oex T i t F (hr.mono hk) b .nil C8.pass0 hg hm ha hdb he hpl
end
/-- the exception is made: its dict holds the value -/
theorem mkO {C : Addr} {fl : Str} {v : V} {H : Hp} {Q : XK} (q : ∀ d H', H d = none → Rd.Ex H H' → H' d = some (.xd [(fl, v)]) → Q (.ref C) (some d) H') :
    [v].length ≤ 1000 ∧ ∀ a, H a = none → spExc C fl (.ref a :: ([v] ++ [])) (upd H a (exo a C none))
      (fun r H2 => r = .non ∧ ∃ (d : Addr) (fs : List (Str × V)), H2 a = some (exo a C (some d)) ∧ H2 d = some (exd d fs) ∧ H d = none ∧ Q (.ref C) (some d) (upd (del H2 a) d (.xd fs))) (fun _ _ _ => False) := by
  refine ⟨Nat.le_of_ble_eq_true rfl, fun a ha => ⟨a, v, rfl, upd_same, fun dx hd ne => ⟨rfl, dx, [(fl, v)], upd_same, ?_, ?_, ?_⟩⟩⟩
  · rw [upd_ne ne, upd_same]
  · rw [upd_ne ne] at hd; exact hd
  · have hd' : H dx = none := by rw [upd_ne ne] at hd; exact hd
    refine q dx _ hd' (fun c o h => ?_) upd_same
    have n1 : c ≠ a := ne_of_none h ha
    have n2 : c ≠ dx := ne_of_none h hd'
    rw [upd_ne n2, del_ne n1, upd_ne n1, upd_ne n2, upd_ne n1]
    exact h
/-! ### a def that may raise -/
structure CalX (P : Program) (w : World) (K : PySem.W.Frag) (mg : Str → Option Value) (base : Heap) (k : Nat) (x : Str) (sp : Sp) : Prop where
  ex : ∃ (f : Addr) (fd : FuncData) (ps : List Str), FnOk P w K mg base (CX P w) k f fd ps sp ∧ mg x = some (.ref f) ∧ PySem.W.keepIn K (.ref f) = true ∧ Binds K fd ps []
theorem takes_cx {P : Program} {w : World} {K : PySem.W.Frag} {mg : Str → Option Value} {base : Heap} {N : List Str} {qual : Str} {scope : Scope} {f : Addr} {cd : Value} {A : Around} {outer : List Env} {s : Shared} {H : Hp} {E : XK} :
    Takes (cxOf (CX P w) P w K mg base N qual scope f cd A outer s H E) (fun cls d _ H' => E cls d H') := takes_of rfl rfl rfl rfl
theorem calX {P : Program} {w : World} {K : PySem.W.Frag} {mg : Str → Option Value} {base : Heap} {x : Str} {st : Stmt} {f : Addr} {fd : FuncData} {N ps : List Str} {k : Nat} {sp : Sp} (F : C8.Def K mg x st f fd) (b : Binds K fd ps []) (S : FnScope N ps (C8.fnScope st)) (len : ∀ vs H Q E, sp vs H Q E → vs.length = ps.length)
    (hbody : ∀ (cdv : Value) (A : Around) (outer : List Env) (s : Shared) (H : Hp) (vs : List V) (Q : VK) (E : XK), Room k (A.deeper (envOfC x (C8.fnScope st) s.heap.objs.size f cdv)) → sp vs H Q E →
      ∃ t, PSs (cxOf (CX P w) P w K mg base N x (C8.fnScope st) f cdv A outer s H E) (C8.fnBody st) t ∧ t { nx := fun _ H' => Q .non H', rt := Q } (start N vs) H) : CalX P w K mg base (k + 1) x sp := by
  obtain ⟨oc, od, dV, kV, doc, pm, an, cdv, ct, osl, rfl, lk, hcd⟩ := F.fn.ex
  exact ⟨f, _, ps, fn_of lk hcd S len (hbody cdv), F.mgf, F.kp, b⟩
section
variable {X : Cx} {k j : Nat} {x : Str} {sp : Sp} {p pos : Pos} {e : Expr} {es : List Expr} {t : TA} {W : WX} {E : XK}
theorem pe_cx (c : CalX X.prog X.w X.K X.mg X.base k x sp) (tk : Takes X W) (hW : ∀ cls d σ H, E cls d H → W cls d σ H) (hr : Room j X.A) (hk : k ≤ j) (hg : Gl X x) (ha : PA X (e :: es) t)
    (hdb : (x == ("__debug__" : Str)) = false := by decide) (he : starEach (e :: es) X.env = (false, eval e X.env) :: starEach es X.env := by rfl) (hpl : (backTo pos (starEach es X.env)).any (·.1) = false := by rfl) :
    PE X (.Call (.Name x p) (e :: es) [] pos) (tCall sp [] E t) := by
  obtain ⟨f, fd, ps, F, hm, kp, b⟩ := c.ex
  exact pe_call F (hr.mono hk) hg hm kp b .nil (passes_call tk hW) ha hdb he hpl
end
end Gx

set_option Elab.async false
set_option linter.all false
set_option maxRecDepth 100000
set_option maxHeartbeats 1000000
/-! isinstance of a caught exception that has a dict -/
namespace Gx
open PySem PySem.Spec PySem.Calls PyProof.Rows PySem.W
section
variable {prog : Program} {w : World} {A : Around} {E : Value → Shared → Prop} {s : Shared} {K : Frag} {a D : Addr} {oa odict : Obj}
/-- e.__class__ -/
theorem cls_of_exc {Q : Option Value → Shared → Prop} (G : L2.ExcC K D) (KI : K.In s.heap) (J : InstAt s.heap a oa D (some odict)) (q : Q (some (.ref D)) { s with toks := s.toks + 1 }) : wpAny (model prog w) A (getAttr? (.ref a) "__class__") Q E s := by
  have some1 : (clsIn K D).isSome = true := by
    obtain ⟨_, e, _⟩ := any_some G.hd
    rw [e]; rfl
  have found := findObj_data (od := odict) some1 G.ha G.hn G.ht
  obtain ⟨hp, gs, dr, tk, oss⟩ := s
  have M1 : Looks (model prog w) hp (typeOf (.ref a)) (.ref D) := J.type
  have M2 := looks_findIn (M := model prog w) KI G.hg
  have M3 := looks_findIn (M := model prog w) KI G.hk
  have M4 := looks_find (M := model prog w) KI J found
  have M5 : Looks (model prog w) hp (isInstance (.ref a) (.type "BaseException")) true := M1.andThen (looks_subIn KI G.hs)
  have other : (Value.builtin "BaseException.__getattribute__" == Value.builtin "object.__getattribute__") = false := by decide +kernel
  have b1 : (onTheHeap (Value.ref D) && Value.builtin "BaseException.__getattribute__" == Value.builtin "object.__getattribute__") = false := by rw [other]; rfl
  unfold getAttr? getAttrBy? getAttrBy
  refine wpAny_bind (wpAny_mkText (wpAny_bind (wpAny_attempt (wpAny_holding (wpAny_bind (M1.at (wpAny_bind (M2.at ?a1))))))))
  case a1 =>
    show wpAny _ _ (if (onTheHeap (Value.ref D) && Value.builtin "BaseException.__getattribute__" == Value.builtin "object.__getattribute__") = true then _ else _) _ _ _
    rw [b1, if_neg Bool.false_ne_true]
    unfold getAttrByItsOwn hookBefore
    refine wpAny_bind ?a2
    case a2 =>
      rw [if_pos (show onTheHeap (Value.ref D) = true from rfl)]
      refine M3.at (wpAny_bind (wpAny_attempt (wpAny_holding ?a3)))
      case a3 =>
        unfold callGetattribute
        rw [show (false && onTheHeap (Value.builtin "BaseException.__getattribute__")) = false from rfl, if_neg Bool.false_ne_true]
        unfold boundAndCalled
        rw [PySem.F.excAttr_ValueError.ga.bind (.ref a)]
        refine wpAny_bind (wpAny_pure ?a4)
        case a4 =>
          show wpAny _ _ (call (.builtin "BaseException.__getattribute__") [.ref a, .str "__class__" tk]) _ _ _
          refine wpAny_call (codeAny_call_builtin PySem.F.excAttr_ValueError.ga.plain PySem.F.entry_bexc_ga (@check_slot (model prog w) _ _ ⟨hp, gs, dr, tk + 1, oss⟩ "BaseException.__getattribute__" "BaseException" "__getattribute__" (.ref a) [.str "__class__" tk] [] _
            (by decide +kernel) (by decide +kernel) M5 (PySem.F.args_bexc_ga (.ref a) (.str "__class__" tk)) ?a5))
          case a5 =>
            unfold Builtin.«object.__getattribute__»
            refine wpAny_bind (wpAny_of_eq (a := ((Value.ref a : Value), [Value.str "__class__" tk])) (by first | rfl | (simp only [slotArgs]; rfl)) (wpAny_bind (wpAny_pure (wpAny_bind (M1.at (wpAny_bind (M4.at ?a6)))))))
            case a6 =>
              show wpAny _ _ (holding [Value.builtin "object.__class__"] (call (.builtin "getset_descriptor.__get__") [.builtin "object.__class__", .ref a, .ref D]) >>= ret) _ _ _
              refine wpAny_bind (wpAny_holding (wpAny_call (class_get (s := ⟨hp, gs, dr, tk + 1, oss⟩) KI J G.hm (wpAny_pure ?a7))))
              case a7 =>
                show wpAny _ _ (handedOut (.ref D)) _ _ _
                rw [handedOut_of (v := .ref D) rfl]
                first
                  | exact wpAny_pure (wpAny_pure q)
                  | exact wpAny_pure q
                  | exact wpAny_pure (wpAny_bind (wpAny_pure (wpAny_pure q)))
theorem kit_exc (G : L2.ExcC K D) : KitX K (.ref a) (.ref D) (fun h => InstAt h a oa D (some odict)) := by
  have atK : ∃ c d cd sl, K.lookup D = some ⟨c, d, .cls cd, sl⟩ := by
    obtain ⟨_, e, _⟩ := any_some G.hd
    unfold clsIn at e
    split at e
    · exact ⟨_, _, _, _, by assumption⟩
    · cases e
  obtain ⟨c, d, cd, sl, eD⟩ := atK
  refine ⟨fun _ _ _ J => J.type, fun _ _ KI _ => ?_, fun h tp dd its n sl' KI e => ?_, fun KI J q => cls_of_exc G KI J q⟩
  · intro A' Q' E' s' k q
    unfold isType loadHead
    exact wpAny_bind (wpAny_loadPart (k _ _ (KI _ _ eD)) (wpAny_pure q))
  · refine Bool.eq_false_iff.mpr fun z => ?_
    obtain rfl : D = tp := Value.ref.inj (beq_iff_eq.mp z)
    cases (KI _ _ eD).symm.trans e
end
open L2
/-- isinstance(e, c), e the exception that the suite holds -/
theorem call_isX {X : Cx} {a D dd : Addr} {oe : Obj} {pn : List (Addr × Obj)} (G : ExcC X.K D) (hz : Zc (.ref D) (some dd) oe) (hf : ∃ vs, oe.data = .fields vs) :
    CallR (X.suite a ((a, oe) :: pn)) (.builtin "isinstance") (fun xs H Q => (∃ fs, H dd = some (.xd fs)) ∧ rIsE X.K D a xs H Q) := by
  intro pins s σ H xs us Q I r h
  obtain ⟨⟨fs, hd⟩, c, cv, b, rfl, hcv, e, q⟩ := h
  cases r with
  | cons rx rr =>
    cases rr with
    | cons rt rr =>
      cases rr
      cases rx
      obtain rfl := hcv _ rt
      obtain ⟨at_, _⟩ := I.pin (a, oe) (List.mem_append_left _ List.mem_cons_self)
      obtain ⟨vs, hv⟩ := hf
      obtain ⟨mA, ns, _⟩ := (show ObjOk X.prog X.w H s.heap dd (.xd fs) from I.hok dd _ hd)
      obtain ⟨od, ho, _⟩ := lookIn_ns ns
      have J : PySem.W.InstAt s.heap a oe D (some od) := ⟨at_, hz.1, by unfold PySem.W.notCls; rw [hv] <;> rfl, by rw [hz.2]; exact ho⟩
      exact PySem.W.kia_one (kit_exc G) I.kIn J e (fun z => nomatch z) fun tk => ⟨.bl b, H, I.kept (t' := tk) fun _ _ z => z, rfl, q⟩
end Gx

set_option Elab.async false
set_option linter.all false
set_option maxRecDepth 100000
set_option maxHeartbeats 1000000
/-! a def that makes lambdas: its code object is known -/
namespace Gx
open PySem PySem.Spec PyProof.Rows L2
structure LamDef (K : PySem.W.Frag) (mg : Str → Option Value) (x : Str) (st : Stmt) (f c : Addr) (fd : FuncData) : Prop where
  ex : ∃ (oc : Value) (od : Option Addr) (dV kV doc pm : Value) (an : Option Addr) (ct : Value) (osl : Array (Option Value)),
    fd = PySem.W.fnOf x x (C8.fnArgs st) (C8.fnBody st) (C8.fnScope st) dV kV doc pm an (.ref c) ct ∧ K.lookup f = some ⟨oc, od, .func fd, osl⟩ ∧ PySem.W.codeIn K (.ref c) x = true
  mgf : mg x = some (.ref f)
  kp : PySem.W.keepIn K (.ref f) = true
theorem calGc {P : Program} {w : World} {K : PySem.W.Frag} {mg : Str → Option Value} {base : Heap} {x : Str} {st : Stmt} {f c : Addr} {fd : FuncData} {N ps : List Str} {k : Nat} {sp : Sp} (F : LamDef K mg x st f c fd) (b : Binds K fd ps []) (S : FnScope N ps (C8.fnScope st))
    (len : ∀ vs H Q E, sp vs H Q E → vs.length = ps.length)
    (hbody : ∀ (A : Around) (outer : List Env) (s : Shared) (H : Hp) (vs : List V) (Q : VK), A.guards = some [] → Room k (A.deeper (envOfC x (C8.fnScope st) s.heap.objs.size f (.ref c))) → sp vs H Q C8.E0 →
      ∃ t, PSs (cxOf C8.CX0 P w K mg base N x (C8.fnScope st) f (.ref c) A outer s H C8.E0).nox (C8.fnBody st) t ∧ t { nx := fun _ H' => Q .non H', rt := Q } (start N vs) H) : CalG P w K mg base (k + 1) x sp := by
  obtain ⟨oc, od, dV, kV, doc, pm, an, ct, osl, rfl, lk, hcd⟩ := F.ex
  refine ⟨f, _, ps, ⟨len, fun A outer s H args us vs Q hg hr e0 hb r hsp => LamX.run_ofS (CX := C8.CX0) (E := C8.E0) lk hcd S hr e0 hb r (len _ _ _ _ hsp) fun hr' => ?_⟩, F.mgf, F.kp, b⟩
  obtain ⟨t, h, q⟩ := hbody A outer s H vs Q hg hr' hsp
  exact ⟨t, h.nox, q⟩
theorem takes_lam {X : Cx} {A : Around} {outer : List Env} {s : Shared} {H : Hp} {E : XK} {scope : Scope} {f c : Addr} : Takes (LamX.lamCx X A outer s H E scope f c) (fun cls d _ H' => E cls d H') := takes_of rfl rfl rfl rfl
/-- x(lambda: body), x a def that calls what it gets -/
theorem pe_lam {X : Cx} {T : List (Addr × Str)} {TT : (XK → Hp → VK → Prop) → Hp → VK → Prop} {x a : Str} {st : Stmt} {g c tb : Addr} {k j : Nat} {fd : FuncData} {Ng : List Str} {params : Arguments} {body : Expr} {scope : Scope} {t : XK → TE} {p lpos pos : Pos}
    (D : C8.Def X.K X.mg x st g fd) (b : Binds X.K fd [a] []) (Sg : FnScope Ng [a] (C8.fnScope st)) (hNg : Ng[0]? = some a) (hva : Vis (C8.fnScope st) a) (hG : ∀ cdg, LamX.GivesTo X Ng x (C8.fnScope st) g cdg (C8.fnBody st) a (X.env.qual ++ "<lambda>") TT)
    (TB : LamX.TabB X.base X.mg c tb) (hcode : X.env.code = .ref c) (hmT : (tb, X.env.qual ++ "<lambda>") ∈ T) (hu : ∀ p ∈ T, p.1 = tb → p.2 = X.env.qual ++ "<lambda>") (hr : Room j X.A) (hk : k + 2 ≤ j) (hg : Gl X x) (L : LamX.LamS X.env.scope scope)
    (hbody : ∀ (A : Around) (outer : List Env) (s : Shared) (H : Hp) (E : XK) (f c' : Addr), Room k (A.deeper (LamX.lamEnv X scope s.heap.objs.size f c')) → PE (LamX.lamCx X A outer s H E scope f c') body (t E))
    (hdef : defaultsOf params X.env = ([], []) := by rfl) (hbind : ∀ (q : Str) (cl : List (Str × Addr)) (pm cv ctv : Value), bindArgs (PySem.W.kla_fn "<lambda>" q params body scope cl pm cv ctv) ⟨[], []⟩ = pure [] := by intros; rfl)
    (hdb : (x == ("__debug__" : Str)) = false := by decide) (hd : (a == ("__debug__" : Str)) = false := by decide) (hcd : (a == ("__classdict__" : Str)) = false := by decide) :
    PE X (.Call (.Name x p) [.Lambda params body scope lpos] [] pos) (LamX.tLam T TT t) := by
  obtain ⟨oc, od, dV, kV, doc, pm, an, cdv, ct, osl, rfl, lk, hc⟩ := D.fn.ex
  exact LamX.pe_lamcall hg D.mgf D.kp lk hc b Sg hNg hva (hG cdv) TB hcode hmT hu (hr.mono hk) L hdef hbind hbody hdb hd hcd
end Gx

set_option Elab.async false
set_option linter.all false
set_option maxRecDepth 100000
set_option maxHeartbeats 1000000
/-! repr of data, or of the empty dict -/
namespace Gx
open PySem PySem.Spec PyProof.Rows L2
def rReprD (K : PySem.W.Frag) : List V → Hp → VK → Prop := fun xs H Q => rRepr K xs H Q ∨ ∃ a, xs = [.ref a] ∧ H a = some (.dK []) ∧ Q (.str "{}") H
theorem call_reprD {X : Cx} (hg : X.A.guards = some []) (hu : X.A.units + 64 < cLine) : CallR X (.builtin "repr") (rReprD X.K) := by
  intro pins s σ H xs us Q I r h
  rcases h with h | ⟨a, rfl, ha, q⟩
  · exact call_repr hg hu pins s σ H xs us Q I r h
  obtain ⟨u, rfl, ru⟩ := vals1 r
  cases ru
  obtain ⟨_, nsm, vs, kv, o, es, ep, h1, h2, h3, h4⟩ := (show ObjOk X.prog X.w H s.heap a (.dK []) from I.hok a _ ha)
  cases kv
  have e : es.toList = [] := by
    have z := h4.2.1
    generalize es.toList = l at z
    cases l with
    | nil => rfl
    | cons p l => cases z
  have rd : Reads s.heap (.ref a) (.dict []) (a :: [] ++ []) := .dict (kvs := []) h1 h2.1 h3 (by rw [e]; exact .nil) (by rw [e]; exact .nil)
  have nsm' : sysModules ∉ a :: [] ++ [] := fun z => by
    rcases List.mem_cons.mp z with z | z
    · rw [← z] at nsm; simp at nsm
    · cases z
  exact repr_of_reads' rd (by decide) (fun _ => nsm') hg (by show X.A.units + 2 < cLine; omega) (fun _ _ z => z) (fun h' t tk hk => ⟨.str "{}", H, I.kept hk, ⟨_, rfl⟩, q⟩) (by decide +kernel)
end Gx

set_option Elab.async false
set_option linter.all false
set_option maxRecDepth 100000
set_option maxHeartbeats 4000000
set_option exponentiation.threshold 2000
namespace Gx
open PySem PySem.Spec PyProof.Rows L2
/-! ### texts of data: how long they are -/
mutual
def Sml : PyData → Prop
  | .none => True
  | .bool _ => True
  | .int i => i.natAbs < 2 ^ 600
  | .str _ => False
  | .list xs => SmlAll xs
  | .tuple xs => SmlAll xs
  | .dict _ => False
def SmlAll : List PyData → Prop
  | [] => True
  | x :: xs => Sml x ∧ SmlAll xs
end
mutual
def nodes : PyData → Nat
  | .list xs => nodesAll xs + 1
  | .tuple xs => nodesAll xs + 1
  | .none => 1
  | .bool _ => 1
  | .int _ => 1
  | .str _ => 1
  | .dict _ => 1
def nodesAll : List PyData → Nat
  | [] => 0
  | x :: xs => nodes x + nodesAll xs
end
theorem log_lt {n k : Nat} (hk : 0 < k) (h : n < 2 ^ k) : n.log2 < k := PySem.Flt.log2_lt_of hk h
mutual
theorem sml_show : ∀ d : PyData, Sml d → d.showable = true
  | .none, _ => by simp only [PyData.showable]
  | .bool _, _ => by simp only [PyData.showable]
  | .int i, h => by
    simp only [PyData.showable, decide_eq_true_eq]
    exact Nat.lt_trans (log_lt (by decide) (show i.natAbs < 2 ^ 600 from by simpa only [Sml] using h)) (by decide)
  | .str _, h => by simp only [Sml] at h
  | .list xs, h => by
    simp only [PyData.showable]
    exact sml_showAll xs (by simpa only [Sml] using h)
  | .tuple xs, h => by
    simp only [PyData.showable]
    exact sml_showAll xs (by simpa only [Sml] using h)
  | .dict _, h => by simp only [Sml] at h
theorem sml_showAll : ∀ xs : List PyData, SmlAll xs → PyData.showableAll xs = true
  | [], _ => by simp only [PyData.showableAll]
  | x :: xs, h => by
    simp only [SmlAll] at h
    simp only [PyData.showableAll, Bool.and_eq_true]
    exact ⟨sml_show x h.1, sml_showAll xs h.2⟩
end
mutual
theorem sml_len : ∀ d : PyData, Sml d → d.shown.length + 2 ≤ 612 * nodes d
  | .none, _ => by simp only [nodes, PyData.shown]; decide
  | .bool b, _ => by cases b <;> simp only [nodes, PyData.shown] <;> decide
  | .int i, h => by
    have z : (toString i).length ≤ 601 := int_text_length_le (by decide) (log_lt (by decide) (show i.natAbs < 2 ^ 600 from by simpa only [Sml] using h))
    have e : (PyData.shown (.int i)).length = (toString i).length := by simp only [PyData.shown]; exact PySem.ofString_length _
    rw [e]
    simp only [nodes]
    omega
  | .str _, h => by simp only [Sml] at h
  | .list xs, h => by
    simp only [PyData.shown, nodes]
    have a := listText_len_le (PyData.shownAll xs)
    have b := sml_lenAll xs (by simpa only [Sml] using h)
    omega
  | .tuple xs, h => by
    simp only [PyData.shown, nodes]
    have a := tupleText_len_le (PyData.shownAll xs)
    have b := sml_lenAll xs (by simpa only [Sml] using h)
    omega
  | .dict _, h => by simp only [Sml] at h
theorem sml_lenAll : ∀ xs : List PyData, SmlAll xs → ((PyData.shownAll xs).map (·.length)).sum + 2 * (PyData.shownAll xs).length ≤ 612 * nodesAll xs
  | [], _ => by simp [PyData.shownAll, nodesAll]
  | x :: xs, h => by
    simp only [SmlAll] at h
    have a := sml_len x h.1
    have b := sml_lenAll xs h.2
    simp only [PyData.shownAll, nodesAll, List.map_cons, List.sum_cons, List.length_cons]
    omega
end
/-- what repr asks of the data -/
structure Okd (d : PyData) : Prop where
  sh : d.showable = true
  dp : d.depth ≤ 60
  ln : d.shown.length ≤ sizeLine
theorem okd {d : PyData} (h : Sml d) (hd : d.depth ≤ 60) (hn : nodes d ≤ 20000) : Okd d := ⟨sml_show d h, hd, by
  have := sml_len d h
  have e : sizeLine = 16777216 := sizeLine_eq
  omega⟩
theorem rpr {K : PySem.W.Frag} {H : Hp} {Q : VK} {x : V} (d : PyData) (h : Dp K H x d) (o : Okd d) (q : Q (.str d.shown) H) : rRepr K [x] H Q := ⟨x, d, rfl, h, o.sh, o.dp, o.ln, q⟩
theorem okInt {i : Int} (h : i.natAbs < 2 ^ 600) : Okd (.int i) := okd (by simpa only [Sml] using h) (by simp only [PyData.depth]; omega) (by simp only [nodes]; omega)
/-! ### three pairs -/
section
variable {k1 k2 k3 : Key} {a b c v : V}
theorem val1 : valV [(k1, a), (k2, b), (k3, c)] k1 = some a := valV_pos rfl
theorem val2 (h : ¬ k1 = k2) : valV [(k1, a), (k2, b), (k3, c)] k2 = some b := (valV_neg (p := (k1, a)) h).trans (valV_pos rfl)
theorem val3 (h : ¬ k1 = k3) (h2 : ¬ k2 = k3) : valV [(k1, a), (k2, b), (k3, c)] k3 = some c := (valV_neg (p := (k1, a)) h).trans ((valV_neg (p := (k2, b)) h2).trans (valV_pos rfl))
theorem put1 (h : ¬ k2 = k1) (h3 : ¬ k3 = k1) : putK [(k1, a), (k2, b), (k3, c)] k1 v = [(k1, v), (k2, b), (k3, c)] := by simp [putK, h, h3]
theorem put2 (h : ¬ k1 = k2) (h3 : ¬ k3 = k2) : putK [(k1, a), (k2, b), (k3, c)] k2 v = [(k1, a), (k2, v), (k3, c)] := by simp [putK, h, h3]
theorem put3 (h : ¬ k1 = k3) (h3 : ¬ k2 = k3) : putK [(k1, a), (k2, b), (k3, c)] k3 v = [(k1, a), (k2, b), (k3, v)] := by simp [putK, h, h3]
theorem merge3 (h : ¬ k1 = k2) (h2 : ¬ k1 = k3) (h3 : ¬ k2 = k3) : mergeK [] [(k1, a), (k2, b), (k3, c)] = [(k1, a), (k2, b), (k3, c)] := by
  have e1 : putK [] k1 a = [(k1, a)] := by simp [putK]
  have e2 : putK [(k1, a)] k2 b = [(k1, a), (k2, b)] := by simp [putK, h]
  have e3 : putK [(k1, a), (k2, b)] k3 c = [(k1, a), (k2, b), (k3, c)] := by simp [putK, h2, h3]
  simp only [mergeK, List.foldl_cons, List.foldl_nil, e1, e2, e3]
end
/-! ### an item of a written list -/
theorem pick {l : List Int} {P : Int → Prop} (h : ∀ x ∈ l, P x) {i : Int} (h0 : 0 ≤ i) (h1 : i < (l.length : Int)) : ∃ x, P x ∧ atI (l.map V.int) i = some (.int x) := by
  obtain ⟨n, rfl⟩ := Int.eq_ofNat_of_zero_le h0
  have hl : n < l.length := by omega
  refine ⟨l[n], h _ (List.getElem_mem hl), ?_⟩
  refine atI_nat ?_
  rw [List.getElem?_map, List.getElem?_eq_getElem hl]
  rfl
theorem dpInts {K : PySem.W.Frag} {H : Hp} : ∀ ns : List Int, DpAll K H (ns.map V.int) (ns.map PyData.int)
  | [] => .nil
  | n :: ns => .cons (.int n) (dpInts ns)
theorem canInts : ∀ ns : List Int, PyData.canLayAll0 (ns.map PyData.int) = true
  | [] => rfl
  | n :: ns => by simp only [List.map_cons, PyData.canLayAll0, PyData.canLay0, canInts ns, Bool.and_self]
theorem depInts : ∀ ns : List Int, PyData.depthAll (ns.map PyData.int) = 0
  | [] => rfl
  | n :: ns => by simp only [List.map_cons, PyData.depthAll, PyData.depth, depInts ns]; omega
theorem shpInts (ns : List Int) : SeqAt.shaped (.list (ns.map PyData.int)) = true := by
  simp only [SeqAt.shaped, PyData.canLay0, canInts, PyData.depth, depInts]
  decide
theorem eqInts : ∀ ns ms : List Int, PyData.eqvAll (ns.map PyData.int) (ms.map PyData.int) = decide (ns = ms)
  | [], [] => rfl
  | [], _ :: _ => rfl
  | _ :: _, [] => rfl
  | n :: ns, m :: ms => by
    simp only [List.map_cons, PyData.eqvAll, PyData.eqv, eqInts ns ms]
    by_cases h : n = m
    · subst h; simp
    · simp [h]
/-- two lists of ints compared -/
theorem eqL {K : PySem.W.Frag} {H : Hp} {Q : VK} {p q : Addr} {ns ms : List Int} (h1 : SqL K H p (ns.map V.int)) (h2 : SqL K H q (ms.map V.int)) (k : Q (.bl (decide (ns = ms))) H) : rEqD K (.ref p) (.ref q) H Q :=
  ⟨_, _, .lst h1 (dpInts ns), .lst h2 (dpInts ms), shpInts ns, shpInts ms, by
    have e : PyData.eqv (.list (ns.map PyData.int)) (.list (ms.map PyData.int)) = decide (ns = ms) := by simp only [PyData.eqv, eqInts]
    rw [e]; exact k⟩
theorem neL {K : PySem.W.Frag} {H : Hp} {Q : VK} {p q : Addr} {ns ms : List Int} (h1 : SqL K H p (ns.map V.int)) (h2 : SqL K H q (ms.map V.int)) (k : Q (.bl (!decide (ns = ms))) H) : rNeD K (.ref p) (.ref q) H Q :=
  ⟨_, _, .lst h1 (dpInts ns), .lst h2 (dpInts ms), shpInts ns, shpInts ms, by
    have e : PyData.eqv (.list (ns.map PyData.int)) (.list (ms.map PyData.int)) = decide (ns = ms) := by simp only [PyData.eqv, eqInts]
    rw [e]; exact k⟩
end Gx

set_option Elab.async false
set_option linter.all false
set_option maxRecDepth 100000
set_option maxHeartbeats 4000000
/-! what a heap keeps: words for a search over the steps -/
namespace Au
open PySem PySem.Spec PyProof.Rows L2
def ExP (p : Addr) (H H' : Hp) : Prop := ∀ c o, H c = some o → c ≠ p → H' c = some o
theorem ExP.refl {p : Addr} (H : Hp) : ExP p H H := fun _ _ e _ => e
theorem ExP.of {p : Addr} {H H' : Hp} (e : Rd.Ex H H') : ExP p H H' := fun c o h _ => e c o h
theorem ExP.trans {p : Addr} {H H1 H2 : Hp} (a : ExP p H H1) (b : ExP p H1 H2) : ExP p H H2 := fun c o h n => b c o (a c o h n) n
section
variable {H H' : Hp} {p b c : Addr} {o o' z : HO}
theorem sm (e : Rd.Ex H H') (h : H b = some z) : H' b = some z := e _ _ h
theorem smp (e : ExP p H H') (h : H b = some z) (n : b ≠ p) : H' b = some z := e _ _ h n
theorem smn (e : LamX.ExtN H H') (h : H b = some z) (n : ∀ ps, z ≠ .tbl ps) : H' b = some z := e _ _ h n
/-- b was there when p was not -/
theorem nen (n : H p = none) (h : H b = some z) : b ≠ p := ne_of_none h n
theorem nen' (n : H p = none) (h : H b = some z) : p ≠ b := fun e => ne_of_none h n e.symm
theorem nek (h1 : H b = some o) (h2 : H p = some o') (n : o ≠ o') : b ≠ p := fun e => n (by rw [e, h2] at h1; exact (Option.some.inj h1).symm)
theorem nek2 (h2 : H p = some o') (h1 : H b = some o) (n : o ≠ o') : b ≠ p := nek h1 h2 n
theorem alloc {Q : VK} (q : ∀ p H', H p = none → Rd.Ex H H' → H' p = some o → Q (.ref p) H') : ∀ p, H p = none → Q (.ref p) (upd H p o) := fun p hp => q p _ hp (Rd.ex_new hp) upd_same
theorem mutd {Q : Hp → Prop} (q : ∀ H', ExP p H H' → H' p = some o → Q H') : Q (upd H p o) := q _ (fun c z h n => by rw [upd_ne n]; exact h) upd_same
end
/-! ### data -/
section
variable {K : PySem.W.Frag} {H : Hp} {Q : VK} {x y : V} {d e : PyData}
theorem eqD (h1 : Dp K H x d) (h2 : Dp K H y e) (s1 : SeqAt.shaped d = true) (s2 : SeqAt.shaped e = true) (q : Q (.bl (PyData.eqv d e)) H) : rEqD K x y H Q := ⟨d, e, h1, h2, s1, s2, q⟩
theorem neD (h1 : Dp K H x d) (h2 : Dp K H y e) (s1 : SeqAt.shaped d = true) (s2 : SeqAt.shaped e = true) (q : Q (.bl (!PyData.eqv d e)) H) : rNeD K x y H Q := ⟨d, e, h1, h2, s1, s2, q⟩
theorem eqDs (h1 : Dp K H x d) (h2 : Dp K H y d) (s1 : SeqAt.shaped d = true) (q : Q (.bl true) H) : rEqD K x y H Q := ⟨d, d, h1, h2, s1, s1, by
  rw [PySem.SeqAt.eqv_refl d (SeqAt.canLay_of_shaped s1)]; exact q⟩
theorem neDs (h1 : Dp K H x d) (h2 : Dp K H y d) (s1 : SeqAt.shaped d = true) (q : Q (.bl false) H) : rNeD K x y H Q := ⟨d, d, h1, h2, s1, s1, by
  rw [PySem.SeqAt.eqv_refl d (SeqAt.canLay_of_shaped s1)]; exact q⟩
end
theorem cat {H : Hp} {Q : VK} {l b : Addr} {xs zs : List V} (h1 : H l = some (.lst xs)) (h2 : H b = some (.lst zs)) (hl : xs.length + zs.length ≤ 1000) (q : ∀ p H', H p = none → Rd.Ex H H' → H' p = some (.lst (xs ++ zs)) → Q (.ref p) H') : rCat (.ref l) (.ref b) H Q :=
  ⟨l, b, xs, zs, rfl, rfl, h1, h2, Nat.le_trans hl (Nat.le_of_ble_eq_true rfl), fun p hp => q p _ hp (Rd.ex_new hp) upd_same⟩
theorem rep {H : Hp} {Q : VK} {l : Addr} {k : Int} {xs : List V} (h1 : H l = some (.lst xs)) (hk : 0 ≤ k ∧ k < 100) (hl : xs.length ≤ 10) (q : ∀ p H', H p = none → Rd.Ex H H' → H' p = some (.lst (List.replicate k.toNat xs).flatten) → Q (.ref p) H') : rRep (.ref l) (.int k) H Q :=
  ⟨l, k, xs, rfl, rfl, h1, by omega, by omega, Nat.le_trans (Nat.mul_le_mul hl (show k.toNat ≤ 100 by omega)) (Nat.le_of_ble_eq_true rfl), fun p hp => q p _ hp (Rd.ex_new hp) upd_same⟩
theorem app {H : Hp} {Q : VK} {l : Addr} {xs : List V} {y : V} (h : H l = some (.lst xs)) (hl : xs.length < 100000) (q : ∀ H', ExP l H H' → H' l = some (.lst (xs ++ [y])) → Q .non H') : rAppend (.ref l) [y] H Q := Rd.app h hl (q _ (fun c z h n => by rw [upd_ne n]; exact h) upd_same)
/-! ### readings with new objects told by a new heap -/
def NewO (H : Hp) (o : HO) (Q : VK) : Prop := ∀ p, H p = none → Q (.ref p) (upd H p o)
section
variable {σ : L2.St} {H : Hp} {Q : VK} {K : PySem.W.Frag} {tr : TA} {te ti : TE} {o : HO} {a C dx : Addr} {fs : List (Str × V)} {xs : List V} {v : V}
theorem new (q : ∀ p H', H p = none → Rd.Ex H H' → H' p = some o → Q (.ref p) H') : NewO H o Q := fun p hp => q p _ hp (Rd.ex_new hp) upd_same
theorem tup (h : tr σ H fun xs H1 => xs.length ≤ sizeLine ∧ NewO H1 (.tup xs) Q) : tTup tr σ H Q := h
theorem lst (h : tr σ H fun xs H1 => xs.length ≤ sizeLine ∧ NewO H1 (.lst xs) Q) : tLst tr σ H Q := h
theorem lenOk {n : Nat} {A : Prop} (h : Nat.ble n 1000 = true) (q : A) : n ≤ sizeLine ∧ A := ⟨Nat.le_trans (Nat.le_of_ble_eq_true h) (Nat.le_of_ble_eq_true rfl), q⟩
theorem revL (h : te σ H fun x H1 => ∃ a xs, x = .ref a ∧ SqL K H1 a xs ∧ NewO H1 (.lst xs.reverse) Q) : tRevL K te σ H Q := h
theorem nopart {Q : Option Int → Hp → Prop} (h : Q none H) : tNoPart σ H Q := h
theorem part {Q : Option Int → Hp → Prop} (h : te σ H fun x H1 => ∃ i, x = .int i ∧ Q (some i) H1) : tPart te σ H Q := h
theorem isI {n : Int} {QC : Int → Prop} (h : QC n) : ∃ i, V.int n = .int i ∧ QC i := ⟨n, rfl, h⟩
theorem sl {r : V → Option Int → Option Int → Hp → VK → Prop} {tl th : TO} (h : te σ H fun x H1 => tl σ H1 fun l H2 => th σ H2 fun u H3 => r x l u H3 Q) : L2.tSl r te tl th σ H Q := h
theorem slL {lo hi : Option Int} (h : SqL K H a xs) (q : NewO H (.lst (cutV xs lo hi)) Q) : rSlL K (.ref a) lo hi H Q := ⟨a, xs, rfl, h, q⟩
theorem sum {ns : List Int} (h : SqL K H a (ns.map V.int)) (q : Q (.int ns.sum) H) : rSum K [.ref a] H Q := ⟨a, ns, rfl, h, q⟩
theorem pr2 {x y : V} {A : V → V → Prop} (h : A x y) : ∃ v w, [x, y] = [v, w] ∧ A v w := ⟨x, y, rfl, h⟩
theorem pr3 {x y z : V} {A : V → V → V → Prop} (h : A x y z) : ∃ u v w, [x, y, z] = [u, v, w] ∧ A u v w := ⟨x, y, z, rfl, h⟩
theorem methO {C : Addr} {m : Str} {A : Prop} (h : H a = some (.ins C dx fs)) (l : fs.lookup m = none) (q : A) : ∃ a' dx' fs', V.ref a = .ref a' ∧ H a' = some (.ins C dx' fs') ∧ fs'.lookup m = none ∧ A := ⟨a, dx, fs, rfl, h, l, q⟩
theorem propO {C : Addr} {A : Addr → Prop} (h : H a = some (.ins C dx fs)) (q : A a) : ∃ a' dx' fs', V.ref a = .ref a' ∧ H a' = some (.ins C dx' fs') ∧ A a' := ⟨a, dx, fs, rfl, h, q⟩
end
theorem eqB {a c : Bool} {H : Hp} {Q : VK} (h : Q (.bl (decide (a = c))) H) : rEq (.bl a) (.bl c) H Q := ⟨rfl, by
  have e : decide (V.bl a = V.bl c) = decide (a = c) := by
    by_cases z : a = c
    · subst z; simp
    · rw [decide_eq_false z, decide_eq_false (fun q => z (V.bl.inj q))]
  rw [e]; exact h⟩
end Au

set_option maxRecDepth 100000
namespace ML
/-! ### the linear source: x to (A * x + 11) modulo M -/
def A : Int := 205891132094649
def M : Int := 281474976710656
def S : Nat → Int
  | 0 => 0
  | n + 1 => A * S n + 1
theorem pow_ge (n : Nat) : A ^ n = 1 + (A - 1) * S n := by
  induction n with
  | zero => simp [S]
  | succ n ih => rw [Int.pow_succ, ih]; simp only [S]; grind
theorem S_add (a b : Nat) : S (a + b) = A ^ b * S a + S b := by
  induction b with
  | zero => simp [S]
  | succ b ih => rw [← Nat.add_assoc]; simp only [S]; rw [ih, Int.pow_succ]; grind
/-- the state after n steps, as an integer -/
def raw (n : Nat) (x : Int) : Int := A ^ n * x + 11 * S n
theorem raw_add (a b : Nat) (x : Int) : raw (a + b) x = raw b (raw a x) := by
  unfold raw
  rw [S_add, Int.pow_add]
  grind
theorem raw_sub (n : Nat) (x : Int) : raw n x - x = S n * ((A - 1) * x + 11) := by
  unfold raw
  rw [pow_ge]
  grind
def mv (n : Nat) (x : Int) : Int := raw n x % 281474976710656
def m1 (n : Nat) : Int := A ^ n % 281474976710656
def m2 (n : Nat) : Int := 11 * S n % 281474976710656
theorem m1_rng (n : Nat) : 0 ≤ m1 n ∧ m1 n < 281474976710656 := by unfold m1; omega
theorem m2_rng (n : Nat) : 0 ≤ m2 n ∧ m2 n < 281474976710656 := by unfold m2; omega
theorem mv_rng (n : Nat) (x : Int) : 0 ≤ mv n x ∧ mv n x < 281474976710656 := by unfold mv; omega
theorem mul_add_mod (a b x m : Int) : ((a % m) * x + b % m) % m = (a * x + b) % m := by
  rw [Int.add_emod, Int.emod_emod_of_dvd _ (Int.dvd_refl m), Int.mul_emod, Int.emod_emod_of_dvd _ (Int.dvd_refl m), ← Int.mul_emod, ← Int.add_emod]
theorem mul_add_mod2 (a b x m : Int) : (a * (x % m) + b % m) % m = (a * x + b) % m := by
  rw [Int.mul_comm, mul_add_mod, Int.mul_comm]
theorem mul_mod2 (a x m : Int) : ((a % m) * (x % m)) % m = (a * x) % m := by rw [← Int.mul_emod]
theorem mapped (n : Nat) (x : Int) : (m1 n * x + m2 n) % 281474976710656 = mv n x := by
  unfold m1 m2 mv raw
  exact mul_add_mod _ _ _ _
theorem join1 (a b : Nat) : m1 a * m1 b % 281474976710656 = m1 (a + b) := by
  unfold m1
  rw [mul_mod2, Int.pow_add]
theorem join2 (a b : Nat) : (m2 a * m1 b + m2 b) % 281474976710656 = m2 (a + b) := by
  unfold m2 m1
  rw [mul_add_mod2, S_add, Int.add_emod, Int.mul_emod, Int.emod_emod_of_dvd _ (Int.dvd_refl _), ← Int.mul_emod, ← Int.add_emod]
  congr 1
  grind
theorem mv_add (a b : Nat) (x : Int) : mv b (mv a x) = mv (a + b) x := by
  unfold mv
  rw [raw_add]
  unfold raw
  rw [Int.add_emod, Int.mul_emod, Int.emod_emod_of_dvd _ (Int.dvd_refl _), ← Int.mul_emod, ← Int.add_emod]
theorem mv_zero {x : Int} (h0 : 0 ≤ x) (h1 : x < 281474976710656) : mv 0 x = x := by
  unfold mv raw S
  rw [Int.pow_zero]
  omega
theorem m_zero : m1 0 = 1 ∧ m2 0 = 0 := by
  constructor <;> rfl
theorem m_one : m1 1 = 205891132094649 ∧ m2 1 = 11 := by
  constructor <;> rfl
/-! ### digits and periods -/
theorem S_double (n : Nat) : S (2 * n) = S n * (2 * (1 + 102945566047324 * S n)) := by
  rw [Nat.two_mul, S_add, pow_ge]
  have e : A - 1 = 205891132094648 := by decide
  rw [e]
  grind
theorem S_odd (n : Nat) : S (2 * n + 1) % 2 = 1 := by
  show (A * S (2 * n) + 1) % 2 = 1
  rw [S_double]
  have : A * (S n * (2 * (1 + 102945566047324 * S n))) = 2 * (A * (S n * (1 + 102945566047324 * S n))) := by grind
  rw [this]
  omega
theorem dvd_odd {k : Nat} {a c : Int} (h : c % 2 = 1) : (2 ^ k : Int) ∣ a * c ↔ (2 ^ k : Int) ∣ a := by
  constructor
  · intro hd
    induction k with
    | zero => exact Int.one_dvd _
    | succ k ih =>
      have h1 : (2 ^ k : Int) ∣ a * c := Int.dvd_trans ⟨2, by rw [Int.pow_succ]⟩ hd
      obtain ⟨z, hz⟩ := ih h1
      obtain ⟨y, hy⟩ := hd
      have p : (0 : Int) < 2 ^ k := Int.pow_pos (by decide)
      have e : (2 : Int) ^ k * (z * c) = 2 ^ k * (2 * y) := by rw [Int.pow_succ] at hy; grind
      have e2 := Int.eq_of_mul_eq_mul_left (Int.ne_of_gt p) e
      have hz2 : z % 2 = 0 := by
        have h5 : (z * c) % 2 = 0 := by omega
        rw [Int.mul_emod, h] at h5
        omega
      exact ⟨z / 2, by rw [Int.pow_succ, hz]; have : z = 2 * (z / 2) := by omega
                       rw [Int.mul_assoc, ← this]⟩
  · intro hd
    obtain ⟨z, hz⟩ := hd
    exact ⟨z * c, by rw [hz, Int.mul_assoc]⟩
theorem S_dvd : ∀ (k n : Nat), (2 ^ k : Int) ∣ S n ↔ (2 ^ k : Nat) ∣ n
  | 0, n => ⟨fun _ => ⟨n, by simp⟩, fun _ => Int.one_dvd _⟩
  | k + 1, n => by
    rcases Nat.mod_two_eq_zero_or_one n with h | h
    · have e : n = 2 * (n / 2) := by omega
      rw [e, S_double]
      have ih := S_dvd k (n / 2)
      have od : (1 + 102945566047324 * S (n / 2)) % 2 = 1 := by omega
      constructor
      · intro hd
        have h2 : (2 ^ k : Int) ∣ S (n / 2) * (1 + 102945566047324 * S (n / 2)) := by
          obtain ⟨y, hy⟩ := hd
          exact ⟨y, by
            rw [Int.pow_succ] at hy
            have : (2 : Int) * (S (n / 2) * (1 + 102945566047324 * S (n / 2))) = 2 * (2 ^ k * y) := by grind
            exact Int.eq_of_mul_eq_mul_left (by decide) this⟩
        obtain ⟨z, hz⟩ := ih.mp ((dvd_odd od).mp h2)
        exact ⟨z, by rw [Nat.pow_succ, hz]; simp only [Nat.mul_comm, Nat.mul_left_comm]⟩
      · rintro ⟨z, hz⟩
        have h3 : (2 ^ k : Nat) ∣ n / 2 := ⟨z, by
          rw [Nat.pow_succ, Nat.mul_comm (2 ^ k) 2, Nat.mul_assoc] at hz
          omega⟩
        obtain ⟨y, hy⟩ := ih.mpr h3
        exact ⟨y * (1 + 102945566047324 * S (n / 2)), by rw [Int.pow_succ]; rw [hy]; grind⟩
    · have e : n = 2 * (n / 2) + 1 := by omega
      constructor
      · intro hd
        have h1 := S_odd (n / 2)
        rw [← e] at h1
        obtain ⟨y, hy⟩ := hd
        rw [Int.pow_succ, Int.mul_comm _ 2, Int.mul_assoc] at hy
        omega
      · rintro ⟨z, hz⟩
        rw [Nat.pow_succ, Nat.mul_comm (2 ^ k) 2, Nat.mul_assoc] at hz
        omega
/-- n steps leave the lowest k digits as they are exactly if 2 ^ k divides n -/
theorem low_iff (k n : Nat) (x : Int) : (2 ^ k : Int) ∣ raw n x - x ↔ (2 ^ k : Nat) ∣ n := by
  rw [raw_sub, dvd_odd (by have : A - 1 = 205891132094648 := by decide
                           rw [this]; omega)]
  exact S_dvd k n
theorem mv_low {k : Nat} (hk : k ≤ 48) (n : Nat) (x : Int) : (2 ^ k : Int) ∣ mv n x - x ↔ (2 ^ k : Nat) ∣ n := by
  rw [← low_iff k n x]
  have e : (2 ^ k : Int) ∣ raw n x - mv n x := by
    unfold mv
    have h1 : (281474976710656 : Int) ∣ raw n x - raw n x % 281474976710656 := ⟨raw n x / 281474976710656, by omega⟩
    have h2 : (2 ^ k : Int) ∣ 281474976710656 := ⟨2 ^ (48 - k), by rw [← Int.pow_add, show k + (48 - k) = 48 by omega]; decide⟩
    exact Int.dvd_trans h2 h1
  constructor
  · intro h
    have := Int.dvd_add e h
    rwa [show raw n x - mv n x + (mv n x - x) = raw n x - x by omega] at this
  · intro h
    have := Int.dvd_sub h e
    rwa [show raw n x - x - (raw n x - mv n x) = mv n x - x by omega] at this
/-- at most one number of steps leads from x to y -/
theorem mv_inj {a b : Nat} {x : Int} (h : mv a x = mv b x) : (a : Int) % 281474976710656 = (b : Int) % 281474976710656 := by
  have key : ∀ {a b : Nat}, a ≤ b → mv a x = mv b x → (281474976710656 : Nat) ∣ b - a := fun {a b} hab h => by
    have e : mv (b - a) (mv a x) = mv b x := by rw [mv_add]; congr 1; omega
    have d : (2 ^ 48 : Int) ∣ mv (b - a) (mv a x) - mv a x := by
      rw [e, ← h]
      exact ⟨0, by omega⟩
    exact (mv_low (Nat.le_refl 48) _ _).mp d
  rcases Nat.le_total a b with hab | hab
  · obtain ⟨z, hz⟩ := key hab h
    omega
  · obtain ⟨z, hz⟩ := key hab h.symm
    omega
theorem mv_period (n : Nat) {x : Int} (h0 : 0 ≤ x) (h1 : x < 281474976710656) : mv (281474976710656 * n) x = x := by
  have d : (2 ^ 48 : Int) ∣ mv (281474976710656 * n) x - x := (mv_low (Nat.le_refl 48) _ _).mpr ⟨n, by rfl⟩
  have r := mv_rng (281474976710656 * n) x
  obtain ⟨z, hz⟩ := d
  have : (2 ^ 48 : Int) = 281474976710656 := by decide
  rw [this] at hz
  omega
theorem mv_mod (n : Nat) (x : Int) : mv (n % 281474976710656) x = mv n x := by
  have e : n = 281474976710656 * (n / 281474976710656) + n % 281474976710656 := by omega
  have r := mv_rng (n % 281474976710656) x
  calc mv (n % 281474976710656) x = mv (281474976710656 * (n / 281474976710656)) (mv (n % 281474976710656) x) := (mv_period _ r.1 r.2).symm
    _ = mv (n % 281474976710656 + 281474976710656 * (n / 281474976710656)) x := mv_add _ _ _
    _ = mv n x := by congr 1; omega
end ML

namespace ML
/-- 2 ^ i steps lead from a number that is right up to digit i to one that is right up to the next -/
theorem flip {i : Nat} (hi : i < 48) {s y : Int} (h : (2 ^ i : Int) ∣ s - y) (hn : ¬ (2 ^ (i + 1) : Int) ∣ s - y) : (2 ^ (i + 1) : Int) ∣ mv (2 ^ i) s - y := by
  obtain ⟨u, hu⟩ := h
  obtain ⟨v, hv⟩ := (mv_low (by omega : i ≤ 48) (2 ^ i) s).mpr (Nat.dvd_refl _)
  have nv : ¬ (2 ^ (i + 1) : Int) ∣ mv (2 ^ i) s - s := fun z => by
    have d := (mv_low (by omega : i + 1 ≤ 48) (2 ^ i) s).mp z
    have := Nat.le_of_dvd (Nat.pow_pos (by decide)) d
    rw [Nat.pow_succ] at this
    have := Nat.pow_pos (n := i) (show 0 < 2 by decide)
    omega
  have od : ∀ {d z : Int}, d = 2 ^ i * z → ¬ (2 ^ (i + 1) : Int) ∣ d → z % 2 = 1 := fun {d z} e n => by
    rcases Int.emod_two_eq z with q | q
    · refine absurd ⟨z / 2, ?_⟩ n
      rw [e, Int.pow_succ, Int.mul_assoc, show 2 * (z / 2) = z by omega]
    · exact q
  have h1 := od hu hn
  have h2 := od hv nv
  refine ⟨(u + v) / 2, ?_⟩
  have e : mv (2 ^ i) s - y = 2 ^ i * (u + v) := by rw [Int.mul_add, ← hu, ← hv]; omega
  rw [e, Int.pow_succ, Int.mul_assoc, show 2 * ((u + v) / 2) = u + v by omega]
theorem mod_eq_iff {m a b : Nat} : a % m = b % m ↔ (m : Int) ∣ (a : Int) - b := by
  constructor
  · intro h
    refine ⟨(a / m : Nat) - (b / m : Nat), ?_⟩
    have e1 := Nat.div_add_mod a m
    have e2 := Nat.div_add_mod b m
    rw [h] at e1
    have e3 : ((m * (a / m) + b % m : Nat) : Int) - ((m * (b / m) + b % m : Nat) : Int) = (a : Int) - b := by rw [e1, e2]
    rw [← e3, Int.mul_sub]
    push_cast
    omega
  · intro h
    have h2 := Int.emod_eq_emod_iff_emod_sub_eq_zero.mpr (Int.emod_eq_zero_of_dvd h)
    have h3 : ((a % m : Nat) : Int) = ((b % m : Nat) : Int) := by rw [Int.natCast_emod, Int.natCast_emod]; exact h2
    exact Int.ofNat.inj h3
/-- the digit i of the exclusive or tells whether two numbers that are equal below it differ there -/
theorem bit_xor {i : Nat} {a b : Nat} (h : (2 ^ i : Int) ∣ (a : Int) - b) : (a ^^^ b) / 2 ^ i % 2 = 1 ↔ ¬ (2 ^ (i + 1) : Int) ∣ (a : Int) - b := by
  have hm : a % 2 ^ i = b % 2 ^ i := mod_eq_iff.mpr (by push_cast; exact h)
  have hx : ∀ x : Nat, x / 2 ^ i % 2 = (x.testBit i).toNat := fun x => by
    rw [Nat.testBit_eq_decide_div_mod_eq]
    rcases Nat.mod_two_eq_zero_or_one (x / 2 ^ i) with q | q <;> rw [q] <;> rfl
  have hs : (2 ^ (i + 1) : Int) ∣ (a : Int) - b ↔ a % 2 ^ (i + 1) = b % 2 ^ (i + 1) := by
    rw [mod_eq_iff]; push_cast; exact Iff.rfl
  rw [hs, Nat.mod_pow_succ, Nat.mod_pow_succ, hm, hx, hx, hx, Nat.testBit_xor]
  have p := Nat.pow_pos (n := i) (show 0 < 2 by decide)
  cases a.testBit i <;> cases b.testBit i <;> simp <;> omega
end ML
namespace ML
/-! ### digits from the lowest on -/
def lsb (n : Nat) : List Int := if n = 0 then [] else ((n % 2 : Nat) : Int) :: lsb (n / 2)
termination_by n
decreasing_by omega
theorem lsb_zero : lsb 0 = [] := by rw [lsb]; rfl
theorem lsb_pos {n : Nat} (h : 0 < n) : lsb n = ((n % 2 : Nat) : Int) :: lsb (n / 2) := by
  rw [lsb, if_neg (by omega)]
theorem lsb_len : ∀ (k n : Nat), n < 2 ^ k → (lsb n).length ≤ k
  | 0, n, h => by
    have : n = 0 := by simpa using h
    subst this
    rw [lsb_zero]
    exact Nat.le_refl _
  | k + 1, n, h => by
    by_cases hn : n = 0
    · subst hn; rw [lsb_zero]; exact Nat.zero_le _
    · rw [lsb_pos (by omega), List.length_cons]
      have := lsb_len k (n / 2) (by rw [Nat.pow_succ] at h; omega)
      omega
theorem lsb_bit : ∀ (k n : Nat), n < 2 ^ k → ∀ d ∈ lsb n, d = 0 ∨ d = 1
  | 0, n, h => by
    have : n = 0 := by simpa using h
    subst this
    rw [lsb_zero]
    intro d hd
    cases hd
  | k + 1, n, h => by
    by_cases hn : n = 0
    · subst hn; rw [lsb_zero]; intro d hd; cases hd
    · rw [lsb_pos (by omega)]
      intro d hd
      rcases List.mem_cons.mp hd with e | e
      · subst e; omega
      · exact lsb_bit k (n / 2) (by rw [Nat.pow_succ] at h; omega) d e
/-- the number that digits write, the highest first -/
def valD (l : List Int) : Nat := l.foldl (fun a d => 2 * a + d.toNat) 0
theorem valD_snoc (l : List Int) (d : Int) : valD (l ++ [d]) = 2 * valD l + d.toNat := by
  unfold valD
  rw [List.foldl_append]
  rfl
theorem val_lsb : ∀ (k n : Nat), n < 2 ^ k → valD (lsb n).reverse = n
  | 0, n, h => by
    have : n = 0 := by simpa using h
    subst this
    rw [lsb_zero]
    rfl
  | k + 1, n, h => by
    by_cases hn : n = 0
    · subst hn; rw [lsb_zero]; rfl
    · rw [lsb_pos (by omega), List.reverse_cons, valD_snoc, val_lsb k (n / 2) (by rw [Nat.pow_succ] at h; omega)]
      omega
theorem dbl1 (k : Nat) : m1 k * m1 k % 281474976710656 = m1 (2 * k) := by rw [join1, Nat.two_mul]
theorem dbl2 (k : Nat) : (m1 k + 1) * m2 k % 281474976710656 = m2 (2 * k) := by
  rw [Nat.two_mul, ← join2]
  congr 1
  grind
theorem inc1 (k : Nat) : 205891132094649 * m1 k % 281474976710656 = m1 (k + 1) := by
  rw [← join1, m_one.1, Int.mul_comm]
theorem inc2 (k : Nat) : (205891132094649 * m2 k + 11) % 281474976710656 = m2 (k + 1) := by
  rw [← join2, m_one.1, m_one.2, Int.mul_comm]
end ML

set_option linter.all false
/-! the mixing of words, in plain numbers -/
namespace MX
def xs (k n : Nat) : Nat := n ^^^ (n / 2 ^ k)
def F : Nat := 3486784401
def U : Nat := 3396732273
theorem FU : F * U % 4294967296 = 1 := by decide
def tmp (n : Nat) : Nat := xs 16 (xs 13 n * F % 4294967296)
def utm (n : Nat) : Nat := let y := xs 16 n * U % 4294967296; y ^^^ (y / 2 ^ 13) ^^^ (y / 2 ^ 26)
theorem div_xor (a b k : Nat) : (a ^^^ b) / 2 ^ k = (a / 2 ^ k) ^^^ (b / 2 ^ k) := by
  simp only [← Nat.shiftRight_eq_div_pow, Nat.shiftRight_xor_distrib]
theorem div_div (a j k : Nat) : a / 2 ^ j / 2 ^ k = a / 2 ^ (j + k) := by rw [Nat.div_div_eq_div_mul, ← Nat.pow_add]
theorem small {a k : Nat} (h : a < 2 ^ k) : a / 2 ^ k = 0 := Nat.div_eq_of_lt h
theorem xor_lt {a b : Nat} (ha : a < 2 ^ 32) (hb : b < 2 ^ 32) : a ^^^ b < 2 ^ 32 := Nat.xor_lt_two_pow ha hb
theorem div_lt {a k : Nat} (ha : a < 2 ^ 32) : a / 2 ^ k < 2 ^ 32 := Nat.lt_of_le_of_lt (Nat.div_le_self _ _) ha
theorem xs_lt {k n : Nat} (h : n < 2 ^ 32) : xs k n < 2 ^ 32 := xor_lt h (div_lt h)
theorem xx (a b : Nat) : a ^^^ b ^^^ b = a := by rw [Nat.xor_assoc, Nat.xor_self, Nat.xor_zero]
theorem xs16 {n : Nat} (h : n < 2 ^ 32) : xs 16 (xs 16 n) = n := by
  unfold xs
  rw [div_xor, div_div, small h, Nat.xor_zero, xx]
theorem lift13 {n : Nat} (h : n < 2 ^ 32) : xs 13 n ^^^ (xs 13 n / 2 ^ 13) ^^^ (xs 13 n / 2 ^ 26) = n := by
  have h39 : n / 2 ^ 39 = 0 := small (Nat.lt_of_lt_of_le h (by decide))
  unfold xs
  rw [div_xor, div_xor, div_div, div_div]
  show n ^^^ n / 2 ^ 13 ^^^ (n / 2 ^ 13 ^^^ n / 2 ^ 26) ^^^ (n / 2 ^ 26 ^^^ n / 2 ^ 39) = n
  rw [h39, Nat.xor_zero, ← Nat.xor_assoc (n ^^^ n / 2 ^ 13), xx, xx]
theorem drop13 {y : Nat} (h : y < 2 ^ 32) : xs 13 (y ^^^ (y / 2 ^ 13) ^^^ (y / 2 ^ 26)) = y := by
  have h39 : y / 2 ^ 39 = 0 := small (Nat.lt_of_lt_of_le h (by decide))
  unfold xs
  rw [div_xor, div_xor, div_div, div_div]
  show y ^^^ y / 2 ^ 13 ^^^ y / 2 ^ 26 ^^^ (y / 2 ^ 13 ^^^ y / 2 ^ 26 ^^^ y / 2 ^ 39) = y
  rw [h39, Nat.xor_zero, Nat.xor_assoc y, xx]
theorem mulFU {a : Nat} (h : a < 2 ^ 32) : a * F % 4294967296 * U % 4294967296 = a := by
  rw [Nat.mod_mul_mod, Nat.mul_assoc, ← Nat.mul_mod_mod, FU, Nat.mul_one, Nat.mod_eq_of_lt h]
theorem mulUF {a : Nat} (h : a < 2 ^ 32) : a * U % 4294967296 * F % 4294967296 = a := by
  rw [Nat.mod_mul_mod, Nat.mul_assoc, Nat.mul_comm U F, ← Nat.mul_mod_mod, FU, Nat.mul_one, Nat.mod_eq_of_lt h]
theorem mod_lt (a : Nat) : a % 4294967296 < 2 ^ 32 := Nat.mod_lt _ (by decide)
theorem tmp_lt (n : Nat) : tmp n < 2 ^ 32 := xs_lt (mod_lt _)
theorem utm_lt (n : Nat) : utm n < 2 ^ 32 := xor_lt (xor_lt (mod_lt _) (div_lt (mod_lt _))) (div_lt (mod_lt _))
theorem utm_tmp {n : Nat} (h : n < 2 ^ 32) : utm (tmp n) = n := by
  unfold utm tmp
  rw [xs16 (mod_lt _), mulFU (xs_lt h)]
  exact lift13 h
theorem tmp_utm {n : Nat} (h : n < 2 ^ 32) : tmp (utm n) = n := by
  unfold utm tmp
  rw [drop13 (mod_lt _), mulUF (xs_lt h), xs16 h]
/-- the rounds -/
def fe (s : Nat) (p : Nat × Nat) : Nat × Nat := (p.2, p.1 ^^^ tmp ((p.2 + 1000003 * s) % 4294967296))
def bk (s : Nat) (p : Nat × Nat) : Nat × Nat := (p.2 ^^^ tmp ((p.1 + 1000003 * s) % 4294967296), p.1)
theorem bk_fe (s : Nat) (p : Nat × Nat) : bk s (fe s p) = p := by simp [bk, fe, xx]
theorem fe_bk (s : Nat) (p : Nat × Nat) : fe s (bk s p) = p := by simp [bk, fe, xx]
def ok (p : Nat × Nat) : Prop := p.1 < 2 ^ 32 ∧ p.2 < 2 ^ 32
theorem ok_fe {s : Nat} {p : Nat × Nat} (h : ok p) : ok (fe s p) := ⟨h.2, xor_lt h.1 (tmp_lt _)⟩
theorem ok_bk {s : Nat} {p : Nat × Nat} (h : ok p) : ok (bk s p) := ⟨xor_lt h.2 (tmp_lt _), h.1⟩
def spl (n : Nat) : Nat × Nat := (n / 4294967296, n % 4294967296)
def cat (p : Nat × Nat) : Nat := p.1 * 4294967296 + p.2
theorem ok_spl {n : Nat} (h : n < 2 ^ 64) : ok (spl n) := ⟨by show n / 4294967296 < 2 ^ 32; omega, mod_lt n⟩
theorem cat_spl (n : Nat) : cat (spl n) = n := by unfold cat spl; show n / 4294967296 * 4294967296 + n % 4294967296 = n; omega
theorem spl_cat {p : Nat × Nat} (h : ok p) : spl (cat p) = p := by
  obtain ⟨a, b⟩ := p
  obtain ⟨h1, h2⟩ := h
  show ((a * 4294967296 + b) / 4294967296, (a * 4294967296 + b) % 4294967296) = (a, b)
  have : b < 4294967296 := h2
  rw [show (a * 4294967296 + b) / 4294967296 = a by omega, show (a * 4294967296 + b) % 4294967296 = b by omega]
theorem cat_lt {p : Nat × Nat} (h : ok p) : cat p < 2 ^ 64 := by
  obtain ⟨h1, h2⟩ := h
  unfold cat
  omega
def mix (n : Nat) : Nat := cat (fe 4 (fe 3 (fe 2 (fe 1 (spl n)))))
def unm (n : Nat) : Nat := cat (bk 1 (bk 2 (bk 3 (bk 4 (spl n)))))
theorem unm_mix {n : Nat} (h : n < 2 ^ 64) : unm (mix n) = n := by
  unfold unm mix
  rw [spl_cat (ok_fe (ok_fe (ok_fe (ok_fe (ok_spl h))))), bk_fe, bk_fe, bk_fe, bk_fe, cat_spl]
theorem mix_unm {n : Nat} (h : n < 2 ^ 64) : mix (unm n) = n := by
  unfold unm mix
  rw [spl_cat (ok_bk (ok_bk (ok_bk (ok_bk (ok_spl h))))), fe_bk, fe_bk, fe_bk, fe_bk, cat_spl]
theorem mix_lt {n : Nat} (h : n < 2 ^ 64) : mix n < 2 ^ 64 := cat_lt (ok_fe (ok_fe (ok_fe (ok_fe (ok_spl h)))))
theorem unm_lt {n : Nat} (h : n < 2 ^ 64) : unm n < 2 ^ 64 := cat_lt (ok_bk (ok_bk (ok_bk (ok_bk (ok_spl h)))))
/-- one bit more of an exclusive or -/
theorem xor_bit (a b i : Nat) : (a ^^^ b) % 2 ^ (i + 1) = (a ^^^ b) % 2 ^ i + (if a / 2 ^ i % 2 ≠ b / 2 ^ i % 2 then 2 ^ i else 0) := by
  have e : (a ^^^ b) / 2 ^ i % 2 = if a / 2 ^ i % 2 ≠ b / 2 ^ i % 2 then 1 else 0 := by
    rw [div_xor]
    generalize a / 2 ^ i = x
    generalize b / 2 ^ i = y
    have h1 : (x ^^^ y) % 2 = (x % 2) ^^^ (y % 2) := by
      have := Nat.xor_mod_two_pow (a := x) (b := y) (n := 1)
      simpa using this
    rw [h1]
    rcases Nat.mod_two_eq_zero_or_one x with hx | hx <;> rcases Nat.mod_two_eq_zero_or_one y with hy | hy <;> rw [hx, hy] <;> decide
  rw [Nat.pow_succ, Nat.mod_mul, e]
  split <;> omega
end MX

set_option Elab.async false
set_option linter.all false
set_option maxRecDepth 100000
set_option maxHeartbeats 4000000
set_option exponentiation.threshold 2000
/-! promises that no law's own text stands in -/
namespace Pr
open PySem PySem.Spec PyProof.Rows L2
/-! ### dicts, new objects, fields -/
section
variable {σ : L2.St} {H : Hp} {Q : VK} {K : PySem.W.Frag} {d a C dx : Addr} {kvs kvs' : List (Key × V)} {x : Str} {v : V} {fs : List (Str × V)} {D : Ends}
theorem u_get {Q : V → Prop} (h : H d = some (.dK kvs)) (e : valV kvs (Sum.inr x) = some v) (q : Q v) : ∃ a v', V.ref d = .ref a ∧ DGet H a (.str x) (some v') ∧ Q v' :=
  ⟨d, v, rfl, by rw [← e]; exact DGet.k (k := Sum.inr x) h, q⟩
theorem dget {td ty : TE} (h : td σ H fun x H1 => ty σ H1 fun y H2 => ∃ a v, x = .ref a ∧ DGet H2 a y (some v) ∧ Q v H2) : tDGet td ty σ H Q := h
theorem dput {td ty tv : TE} (h : tv σ H fun v H1 => td σ H1 fun x H2 => ty σ H2 fun y H3 => ∃ a H4, x = .ref a ∧ DPut H3 a y v H4 ∧ D.nx σ H4) : sDPut td ty tv D σ H := h
theorem u_put {Q : Hp → Prop} (h : H d = some (.dK kvs)) (hl : kvs.length < 1000) (e : putK kvs (Sum.inr x) v = kvs') (q : Q (upd H d (.dK kvs'))) : ∃ a H4, V.ref d = .ref a ∧ DPut H a (.str x) v H4 ∧ Q H4 :=
  ⟨d, _, rfl, DPut.k (k := Sum.inr x) h (small1000 (by omega)), by rw [e]; exact q⟩
/-- o.f = v -/
theorem stF {f : Str} {y : V} {fs' : List (Str × V)} (h : H a = some (.ins C dx fs)) (c : Cls K C) (n : NoAttr K C f) (l : Nat.ble fs.length 100 = true) (e : putF f y fs = fs') (q : ∀ H', Au.ExP a H H' → H' a = some (.ins C dx fs') → D.nx σ H') :
    ∃ a' C' dx' fs'', V.ref a = .ref a' ∧ H a' = some (.ins C' dx' fs'') ∧ Cls K C' ∧ NoAttr K C' f ∧ fs''.length < 1000 ∧ D.nx σ (upd H a' (.ins C' dx' (putF f y fs''))) :=
  ⟨a, C, dx, fs, rfl, h, c, n, Nat.lt_of_le_of_lt (Nat.le_of_ble_eq_true l) (by decide), by rw [e]; exact q _ (fun c z h n => by rw [upd_ne n]; exact h) upd_same⟩
theorem sfld {to te : TE} {f : Str} (h : te σ H fun y H1 => to σ H1 fun x H2 => ∃ a C dx fs, x = .ref a ∧ H2 a = some (.ins C dx fs) ∧ Cls K C ∧ NoAttr K C f ∧ fs.length < 1000 ∧ D.nx σ (upd H2 a (.ins C dx (putF f y fs)))) : sFld K to te f D σ H := h
end
/-- the heap in which an object is made -/
theorem ex_make {H : Hp} {x dx : Addr} {o o' : HO} (hx : H x = none) (hdx : H dx = none) : Rd.Ex H (upd (upd H dx o) x o') := fun b z e => by
  rw [upd_ne (ne_of_none e hx), upd_ne (ne_of_none e hdx)]
  exact e
theorem ex_made {H H' : Hp} {x dx : Addr} {o o' : HO} (hx : H x = none) (hdx : H dx = none) (m : Au.ExP x (upd (upd H dx o) x o') H') : Rd.Ex H H' := fun b z e => m b z (ex_make hx hdx b z e) (ne_of_none e hx)
/-! ### numbers -/
def NonInt (H : Hp) (v : V) : Prop := v = .non ∨ (∃ b, v = .bl b) ∨ (∃ s, v = .str s) ∨ (∃ a xs, v = .ref a ∧ H a = some (.tup xs)) ∨ (∃ a xs, v = .ref a ∧ H a = some (.lst xs)) ∨ ∃ a kvs, v = .ref a ∧ H a = some (.dK kvs)
theorem kit_t (K : PySem.W.Frag) : PySem.W.kitOne K (.type "NoneType") (.type "int") = some false ∧ PySem.W.kitOne K (.type "bool") (.type "int") = some true ∧ PySem.W.kitOne K (.type "bool") (.type "bool") = some true ∧ PySem.W.kitOne K (.type "str") (.type "int") = some false ∧
    PySem.W.kitOne K (.type "tuple") (.type "int") = some false ∧ PySem.W.kitOne K (.type "list") (.type "int") = some false ∧ PySem.W.kitOne K (.type "dict") (.type "int") = some false := by
  refine ⟨?_, ?_, ?_, ?_, ?_, ?_, ?_⟩ <;> first | rfl | decide +kernel | kernel_rfl
abbrev spIsInt : Sp := fun vs H Q _ => ∃ v, vs = [v] ∧ ((∃ n : Int, v = .int n ∧ Q (.bl true) H) ∨ (NonInt H v ∧ Q (.bl false) H))
theorem u_isInt {n : Int} {H : Hp} {Q : VK} {E : XK} (h : Q (.bl true) H) : spIsInt ([.int n] ++ []) H Q E := ⟨.int n, rfl, .inl ⟨n, rfl, h⟩⟩
theorem u_isNon {v : V} {H : Hp} {Q : VK} {E : XK} (n : NonInt H v) (h : Q (.bl false) H) : spIsInt ([v] ++ []) H Q E := ⟨v, rfl, .inr ⟨n, h⟩⟩
abbrev spNeed (lo hi : Int) : Sp := fun vs H Q _ => ∃ n : Int, vs = [.int n] ∧ lo ≤ n ∧ n ≤ hi ∧ Q .non H
theorem u_need {lo hi n : Int} {H : Hp} {Q : VK} {E : XK} (h1 : lo ≤ n) (h2 : n ≤ hi) (h : Q .non H) : spNeed lo hi ([.int n] ++ []) H Q E := ⟨n, rfl, h1, h2, h⟩
/-- is the value a number in its bounds -/
abbrev spIs (lo hi : Int) : Sp := fun vs H Q _ => ∃ v, vs = [v] ∧ ((∃ n : Int, v = .int n ∧ Q (.bl (decide (lo ≤ n ∧ n ≤ hi))) H) ∨ (NonInt H v ∧ Q (.bl false) H))
theorem u_isIn {lo hi n : Int} {H : Hp} {Q : VK} {E : XK} (h : lo ≤ n ∧ n ≤ hi) (q : Q (.bl true) H) : spIs lo hi ([.int n] ++ []) H Q E := ⟨_, rfl, .inl ⟨n, rfl, by rw [decide_eq_true h]; exact q⟩⟩
theorem u_isOut {lo hi n : Int} {H : Hp} {Q : VK} {E : XK} (h : ¬ (lo ≤ n ∧ n ≤ hi)) (q : Q (.bl false) H) : spIs lo hi ([.int n] ++ []) H Q E := ⟨_, rfl, .inl ⟨n, rfl, by rw [decide_eq_false h]; exact q⟩⟩
/-! ### linear sources -/
def MapAt (K : PySem.W.Frag) (H : Hp) (a : Addr) (n : Nat) : Prop := SqT K H a [.int (ML.m1 n), .int (ML.m2 n)]
theorem MapAt.ex {K : PySem.W.Frag} {H H' : Hp} {a : Addr} {n : Nat} (e : Rd.Ex H H') (h : MapAt K H a n) : MapAt K H' a n := Rd.ex_t e h
abbrev spJoined (K : PySem.W.Frag) : Sp := fun vs H Q _ => ∃ (a b : Addr) (n m : Nat), vs = [.ref a, .ref b] ∧ MapAt K H a n ∧ MapAt K H b m ∧
  ∀ t H', H t = none → Rd.Ex H H' → H' t = some (.tup [.int (ML.m1 (n + m)), .int (ML.m2 (n + m))]) → Q (.ref t) H'
abbrev spMapped (K : PySem.W.Frag) : Sp := fun vs H Q _ => ∃ (a : Addr) (n : Nat) (x : Int), vs = [.ref a, .int x] ∧ MapAt K H a n ∧ 0 ≤ x ∧ x < 281474976710656 ∧ Q (.int (ML.mv n x)) H
abbrev spMap (K : PySem.W.Frag) : Sp := fun vs H Q _ => ∃ n : Int, vs = [.int n] ∧ ∀ t H', Rd.Ex H H' → MapAt K H' t (n % 281474976710656).toNat → Q (.ref t) H'
abbrev spMoved : Sp := fun vs H Q _ => ∃ x n : Int, vs = [.int x, .int n] ∧ 0 ≤ x ∧ x < 281474976710656 ∧ ∀ H', Rd.Ex H H' → Q (.int (ML.mv (n % 281474976710656).toNat x)) H'
theorem u_moved {x n : Int} {H : Hp} {Q : VK} {E : XK} (h : 0 ≤ x ∧ x < 281474976710656) (q : ∀ H', Rd.Ex H H' → Q (.int (ML.mv (n % 281474976710656).toNat x)) H') : spMoved ([.int x, .int n] ++ []) H Q E := ⟨x, n, rfl, h.1, h.2, q⟩
abbrev spDist0 : Sp := fun vs H Q _ => ∃ x y : Int, vs = [.int x, .int y] ∧ (0 ≤ x ∧ x < 281474976710656 ∧ 0 ≤ y ∧ y < 281474976710656) ∧ ∀ (H' : Hp) (n : Nat), Rd.Ex H H' → n < 281474976710656 → ML.mv n x = y → Q (.int n) H'
theorem u_dist0 {x y : Int} {H : Hp} {Q : VK} {E : XK} (h : 0 ≤ x ∧ x < 281474976710656 ∧ 0 ≤ y ∧ y < 281474976710656) (q : ∀ (H' : Hp) (n : Nat), Rd.Ex H H' → n < 281474976710656 → ML.mv n x = y → Q (.int n) H') : spDist0 ([.int x, .int y] ++ []) H Q E := ⟨x, y, rfl, h, q⟩
abbrev LinO (C dx : Addr) (x : Int) : HO := .ins C dx [("s2_x", .int x)]
abbrev spInit1 (C : Addr) : Sp := fun vs H Q _ => ∃ (p dx : Addr) (x : Int), vs = [.ref p, .int x] ∧ (0 ≤ x ∧ x < 281474976710656) ∧ H p = some (.ins C dx []) ∧ ∀ H', Au.ExP p H H' → H' p = some (LinO C dx x) → Q .non H'
theorem u_lin {C : Addr} {H : Hp} {Q : Addr → Hp → Prop} {E : XK} {n : Int} (h1 : 0 ≤ n ∧ n < 281474976710656) (h : ∀ p dx H', H p = none → Rd.Ex H H' → H' p = some (LinO C dx n) → Q p H') :
    ∀ x dx, H x = none → H dx = none → dx ≠ x → spInit1 C (.ref x :: ([.int n] ++ [])) (upd (upd H dx (.own x)) x (.ins C dx [])) (fun v H2 => v = .non ∧ Q x H2) E := fun x dx hx hdx hne =>
  ⟨x, dx, n, rfl, h1, upd_same, fun H' m k => ⟨rfl, h x dx H' hx (ex_made hx hdx m) k⟩⟩
abbrev spState1 (C : Addr) : Sp := fun vs H Q _ => ∃ (p dx : Addr) (x : Int), vs = [.ref p] ∧ H p = some (LinO C dx x) ∧ ∀ t H', H t = none → Rd.Ex H H' → H' t = some (.tup [.int x]) → Q (.ref t) H'
theorem u_state1 {C p dx : Addr} {x : Int} {H : Hp} {Q : VK} {E : XK} (h : H p = some (LinO C dx x)) (q : ∀ t H', H t = none → Rd.Ex H H' → H' t = some (.tup [.int x]) → Q (.ref t) H') : spState1 C [.ref p] H Q E := ⟨p, dx, x, rfl, h, q⟩
abbrev spAhead1 (C : Addr) (g : Int → Int) : Sp := fun vs H Q _ => ∃ (p dx : Addr) (x n : Int), vs = [.ref p, .int n] ∧ H p = some (LinO C dx x) ∧ (0 ≤ x ∧ x < 281474976710656) ∧ (0 ≤ n ∧ n ≤ 18446744073709551616) ∧
  ∀ p' dx' H', H p' = none → Rd.Ex H H' → H' p' = some (LinO C dx' (ML.mv (g n % 281474976710656).toNat x)) → Q (.ref p') H'
theorem u_ahead1 {C p dx : Addr} {x n : Int} {g : Int → Int} {H : Hp} {Q : VK} {E : XK} (h : H p = some (LinO C dx x) ∧ (0 ≤ x ∧ x < 281474976710656) ∧ (0 ≤ n ∧ n ≤ 18446744073709551616))
    (q : ∀ p' dx' H', H p' = none → Rd.Ex H H' → H' p' = some (LinO C dx' (ML.mv (g n % 281474976710656).toNat x)) → Q (.ref p') H') : spAhead1 C g (.ref p :: ([.int n] ++ [])) H Q E := ⟨p, dx, x, n, rfl, h.1, h.2.1, h.2.2, q⟩
abbrev spDistance (C : Addr) : Sp := fun vs H Q _ => ∃ (p o dx dy : Addr) (x y : Int), vs = [.ref p, .ref o] ∧ (H p = some (LinO C dx x) ∧ H o = some (LinO C dy y) ∧ 0 ≤ x ∧ x < 281474976710656 ∧ 0 ≤ y ∧ y < 281474976710656) ∧
  ∀ (H' : Hp) (n : Nat), Rd.Ex H H' → n < 281474976710656 → ML.mv n x = y → Q (.int n) H'
theorem u_distance {C p o dx dy : Addr} {x y : Int} {H : Hp} {Q : VK} {E : XK} (h : H p = some (LinO C dx x) ∧ H o = some (LinO C dy y) ∧ 0 ≤ x ∧ x < 281474976710656 ∧ 0 ≤ y ∧ y < 281474976710656)
    (q : ∀ (H' : Hp) (n : Nat), Rd.Ex H H' → n < 281474976710656 → ML.mv n x = y → Q (.int n) H') : spDistance C ([.ref p, .ref o] ++ []) H Q E := ⟨p, o, dx, dy, x, y, rfl, h, q⟩
end Pr

set_option Elab.async false
set_option linter.all false
set_option maxRecDepth 100000
set_option maxHeartbeats 4000000
namespace Gx
open PySem PySem.Spec PyProof.Rows L2
/-! ### an attribute as a target among several -/
def gFld (K : PySem.W.Frag) (to : TE) (f : Str) : TG := fun v σ H Q => to σ H fun x H1 => ∃ a C dx fs, x = .ref a ∧ H1 a = some (.ins C dx fs) ∧ Cls K C ∧ NoAttr K C f ∧ fs.length < 1000 ∧ Q σ (upd H1 a (.ins C dx (putF f v fs)))
theorem pg_fld {X : Cx} {o : Expr} {to : TE} {f : Str} {pos : Pos} (ho : PE X o to) : PG X (.Attribute o f pos) (gFld X.K to f) := by
  refine ⟨fun pins s σ H v u Q I r h => ?_⟩
  rw [assign_Attribute]
  refine wpAny_bind (wpAny_holding (thn (ho.run pins s σ H _ I h) fun ov s1 ⟨x, H1, I1, r1, a, C, dx, fs, ex, ea, c, n, l, q⟩ => ?_))
  subst ex
  obtain rfl : ov = Value.ref a := r1
  refine wpAny_bind (wpAny_standAt (wpAny_bind (wpAny_holding (setattr_ok I1 ea c n l r fun s3 I3 => ?_))))
  exact wpAny_release ⟨σ, _, I3, q⟩
theorem gfld {K : PySem.W.Frag} {to : TE} {f : Str} {v : V} {σ : L2.St} {H : Hp} {Q : L2.St → Hp → Prop} (h : to σ H fun x H1 => ∃ a C dx fs, x = .ref a ∧ H1 a = some (.ins C dx fs) ∧ Cls K C ∧ NoAttr K C f ∧ fs.length < 1000 ∧ Q σ (upd H1 a (.ins C dx (putF f v fs)))) : gFld K to f v σ H Q := h
theorem stG {K : PySem.W.Frag} {H : Hp} {a C dx : Addr} {fs fs' : List (Str × V)} {f : Str} {y : V} {Q : Hp → Prop} (h : H a = some (.ins C dx fs)) (c : Cls K C) (n : NoAttr K C f) (l : Nat.ble fs.length 100 = true) (e : putF f y fs = fs') (q : ∀ H', Au.ExP a H H' → H' a = some (.ins C dx fs') → Q H') :
    ∃ a' C' dx' fs'', V.ref a = .ref a' ∧ H a' = some (.ins C' dx' fs'') ∧ Cls K C' ∧ NoAttr K C' f ∧ fs''.length < 1000 ∧ Q (upd H a' (.ins C' dx' (putF f y fs''))) :=
  ⟨a, C, dx, fs, rfl, h, c, n, Nat.lt_of_le_of_lt (Nat.le_of_ble_eq_true l) (by decide), by rw [e]; exact q _ (fun c z h n => by rw [upd_ne n]; exact h) upd_same⟩
theorem gfldV {K : PySem.W.Frag} {H : Hp} {a C dx : Addr} {fs fs' : List (Str × V)} {f : Str} {v : V} {σ : L2.St} {i : Nat} {Q : L2.St → Hp → Prop} (hv : σ[i]? = some (some (.ref a))) (h : H a = some (.ins C dx fs)) (c : Cls K C) (n : NoAttr K C f) (l : Nat.ble fs.length 100 = true) (e : putF f v fs = fs')
    (q : ∀ H', Au.ExP a H H' → H' a = some (.ins C dx fs') → Q σ H') : gFld K (tVar i) f v σ H Q :=
  ⟨_, hv, a, C, dx, fs, rfl, h, c, n, Nat.lt_of_le_of_lt (Nat.le_of_ble_eq_true l) (by decide), by rw [e]; exact q _ (fun c z h n => by rw [upd_ne n]; exact h) upd_same⟩
/-! ### isinstance with a tuple of own classes -/
theorem isTupYes {K : PySem.W.Frag} {C D a dx tp : Addr} {fs : List (Str × V)} {H : Hp} {Q : VK} {b : Bool} (c : C8.InsC K C) (ht : H tp = some (.tup [.ref D, .ref D'])) (h : H a = some (.ins C dx fs)) (k : PySem.W.kitAny K (.ref C) [.ref D, .ref D'] = some b) (q : Q (.bl b) H) : rIsiT K [.ref a, .ref tp] H Q :=
  ⟨_, tp, _, .ref C, _, b, rfl, ht, .cons (.own D) (.cons (.own D') .nil), .base (.ins h c.cl c.ha c.hn c.htk c.hm), k, q⟩
theorem isOwnB {K : PySem.W.Frag} {C D a dx : Addr} {fs : List (Str × V)} {H : Hp} {Q : VK} {b : Bool} (c : C8.InsC K C) (h : H a = some (.ins C dx fs)) (k : PySem.W.kitOne K (.ref C) (.ref D) = some b) (q : Q (.bl b) H) : rIsi K [.ref a, .ref D] H Q :=
  ⟨_, _, .ref C, .ref D, b, rfl, .own D, .base (.ins h c.cl c.ha c.hn c.htk c.hm), k, q⟩
end Gx

set_option Elab.async false
set_option linter.all false
set_option maxRecDepth 100000
set_option maxHeartbeats 1000000
/-! own exceptions over any built-in class (LookupError, RuntimeError, ..), made by an own __init__ of one field -/
namespace Gx
open PySem PySem.Spec PyProof.Rows L2 GenW Builtin Builtin.ObjectAttr
structure YexC (K : PySem.W.Frag) (C : Addr) (initId : String) : Prop where
  cls : ∃ (B newId : String) (bmB : List Value), ExcBaseFacts B newId initId bmB ∧ PySem.StoreFacts B bmB "object.__setattr__" "object" ∧ PySem.W.excInitIn K C bmB newId = true ∧ PySem.W.excOver K C bmB = true
  hd : PySem.W.hasDictIn K C = true
  sa : PySem.W.findIn K (.ref C) "__setattr__" = some (some (.builtin "object.__setattr__"))
  exC : PySem.W.subIn K (.ref C) (.type "BaseException") = some true
  tyC : PySem.W.typeIn K (.ref C) = some (.type "type")
  kC : PySem.W.keepIn K (.ref C) = true
section
variable {X : Cx} {pins : List (Addr × Obj)} {σ : L2.St} {H : Hp} {s : Shared} {a C dx : Addr} {f : Str} {y : V} {u : Value} {initId : String} {A : Around} {E : Value → Shared → Prop}
theorem ostY {Q : Unit → Shared → Prop} (T : YexC X.K C initId) (I : Inv X pins σ H s) (ea : H a = some (exo a C none)) (tf : PySem.W.takerIn X.K C f = some none) (ry : RelV y u)
    (next : ∀ dx s', H dx = none → dx ≠ a → Inv X pins σ (upd (upd H dx (exd dx [(f, y)])) a (exo a C (some dx))) s' → Q () s') : wpAny (model X.prog X.w) A (setAttr (.ref a) f u) Q E s := by
  obtain ⟨B, newId, bmB, FB, SF, hin, hov⟩ := T.cls
  obtain ⟨t1, ho⟩ := exo_at I.hok ea
  obtain ⟨cd, hcd, hdict⟩ := PySem.W.any_some T.hd
  have lcd : PySem.W.Looks (model X.prog X.w) s.heap (classData C) cd := PySem.W.looks_clsIn I.kIn hcd
  obtain ⟨hp, g, dr, t, os⟩ := s
  have inst : PySem.W.InstAt hp a ({ cls := .ref C, dict := none, data := .fields #[.ref t1, .none, .none, .none, .bool false, .none] } : Obj) C none := ⟨ho, rfl, rfl, trivial⟩
  refine PySem.W.set_plain I.kIn (od := none) inst T.sa (PySem.W.osa_openX SF I.kIn inst hov tf fun b => ?_)
  obtain ⟨c1, c2, c3, c4, c5, c6, c7, c8, c9, c10, c11⟩ := cd
  have c6t : c6 = true := hdict
  subst c6t
  have apart : a ≠ hp.objs.size := Nat.ne_of_lt (Heap.lt_size ho)
  show wpAny _ _ (storeInOwnDict _ _ _ _ _ _) _ _ _
  unfold storeInOwnDict ownDictForStores
  repeat (first | with_reducible refine PySem.HandSPX.store_in_new ?_ ?_ | with_reducible refine wpAny_loadPart_at ho ?_ | with_reducible refine lcd.at ?_ | wp_step)
  · exact ⟨_, #[], _, (Heap.get?_update_ne _ _ _ _ (Ne.symm apart)).trans (Heap.get?_push_at rfl rfl), rfl, fun en hen => absurd hen (by simp), fun _ => rfl⟩
  intro h' tk' ns' sb
  have free : H hp.objs.size = none := I.hok.fresh (Nat.le_refl _)
  have off : ∀ {b : Addr}, H b = none → b ≠ a := fun {b} hb z => by rw [z, ea] at hb; cases hb
  have low : ∀ {b : Addr} {o : Obj}, hp.get? b = some o → b ≠ hp.objs.size := fun {b o} hb => Nat.ne_of_lt (Heap.lt_size hb)
  have stays : ∀ b o, b ≠ a → hp.get? b = some o → h'.get? b = some o := fun b o hb ho => by
    rw [sb.2 b (low ho), Heap.get?_update_ne _ _ _ _ hb]
    exact Heap.get?_push_of_some _ ho
  have atA : h'.get? a = some ({ cls := .ref C, dict := some hp.objs.size, data := .fields #[.ref t1, .none, .none, .none, .bool false, .none] } : Obj) := by
    rw [sb.2 a apart]
    exact Heap.get?_update_self _ (Heap.get?_push_of_some _ ho) rfl
  have nTup : ∀ {b : Addr} {xs : List V}, H b = some (.tup xs) → b ≠ a := fun {b xs} hb z => by rw [z, ea] at hb; exact exo_tup (Option.some.inj hb)
  have nFrz : ∀ {b : Addr} {o : Obj} {v : HO}, H b = some (.frz o v) → b ≠ a := fun {b o v} hb z => by rw [z, ea] at hb; exact exo_frz (Option.some.inj hb)
  have nTbl : ∀ {b : Addr} {ps : Array Value}, H b = some (.tbl ps) → b ≠ a := fun {b ps} hb z => by rw [z, ea] at hb; exact exo_tbl (Option.some.inj hb)
  have nOwn : ∀ {b c : Addr}, H b = some (.own c) → b ≠ a := fun {b c} hb z => by rw [z, ea] at hb; exact exo_own (Option.some.inj hb)
  have both : ∀ {b : Addr} {o : HO}, H b = some o → b ≠ a → upd (upd H hp.objs.size (exd hp.objs.size [(f, y)])) a (exo a C (some hp.objs.size)) b = some o := fun {b o} hb n => by
    rw [upd_ne n, upd_ne (ne_of_none hb free)]
    exact hb
  have U : Un X.fs [] H (upd (upd H hp.objs.size (exd hp.objs.size [(f, y)])) a (exo a C (some hp.objs.size))) hp h' := by
    refine ⟨fun b o ho hb _ _ => stays b o (off hb) ho, fun b o ho hb _ _ => ⟨o.slots, stays b o (off hb) ho⟩, fun b o ho hb _ => ?_, fun b o ho _ => ?_, fun b xs hb => both hb (nTup hb), fun b o v hb => both hb (nFrz hb), fun b ps hb => ⟨#[], by rw [Array.append_empty]; exact both hb (nTbl hb)⟩⟩
    · rw [upd_ne (off hb), upd_ne (low ho)]; exact hb
    · by_cases z : b = a
      · exact ⟨_, z ▸ atA⟩
      · exact ⟨o, stays b o z ho⟩
  refine next hp.objs.size _ free (Ne.symm apart) (I.un (t' := tk') U fun b o hb => ?_)
  by_cases z : b = a
  · rw [z, upd_same] at hb
    cases hb
    rw [z]
    exact exo_ok atA
  rw [upd_ne z] at hb
  by_cases z2 : b = hp.objs.size
  · rw [z2, upd_same] at hb
    cases hb
    rw [z2]
    exact exd_ok ns' (relO_put (fs := []) ry fun _ => True.intro)
  rw [upd_ne z2] at hb
  refine (I.hok b o hb).stay (fun c v hc hv => stays c v ?_ hv) (fun c hc => both hc (nOwn hc)) fun c xs hc => both hc (nTup hc)
  rcases hc with hc | hc
  · exact hc ▸ z
  · exact nOwn hc
theorem initY {us : List Value} {Q : Value → Shared → Prop} (T : YexC X.K C initId) (I : Inv X pins σ H s) (ea : H a = some (exo a C none)) (hl : us.length ≤ sizeLine) (next : ∀ s', Inv X pins σ H s' → Q .none s') :
    wpAny (model X.prog X.w) A (call (.builtin initId) (.ref a :: us)) Q E s := by
  obtain ⟨B, newId, bmB, FB, SF, hin, hov⟩ := T.cls
  obtain ⟨nm, N, qn, bs, bm, hdct, sn, sub, ab, col, dd, k0, k1, k2, k3, k5, hC, hT⟩ := PySem.W.excInit_of I.kIn hin
  obtain ⟨t1, ho⟩ := exo_at I.hok ea
  obtain ⟨hp, g, dr, t, os⟩ := s
  refine wpAny_call (PySem.HandSPX.init_base FB hT hC ho hl fun h' t2 kept hx => ?_)
  have same : upd H a (exo a C none) = H := funext fun b => by
    by_cases z : b = a
    · rw [z, upd_same, ea]
    · rw [upd_ne z]
  have J := I.write (t' := t) (x := a) (e := a) (o := exo a C none) (by rw [ea]; trivial) (.inl rfl) kept ⟨_, hx⟩ (exo_ok hx)
  rw [same] at J
  exact next _ J
end
/-! ### readings -/
def tBI (K : PySem.W.Frag) (initId : String) (ta : TA) : TE := fun σ H Q => ta σ H fun vs H1 => ∃ (a C : Addr) (ws : List V), vs = .ref a :: ws ∧ ws.length ≤ 1000 ∧ YexC K C initId ∧ H1 a = some (exo a C none) ∧ Q .non H1
def tOstY (K : PySem.W.Frag) (initId : String) (f : Str) (to te : TE) : TS := fun D σ H => te σ H fun y H1 => to σ H1 fun x H2 => ∃ a C : Addr, x = .ref a ∧ YexC K C initId ∧ PySem.W.takerIn K C f = some none ∧
  H2 a = some (exo a C none) ∧ ∀ dx, H2 dx = none → dx ≠ a → D.nx σ (upd (upd H2 dx (exd dx [(f, y)])) a (exo a C (some dx)))
section
variable {X : Cx} {x f : Str} {e o : Expr} {es : List Expr} {ta : TA} {to te : TE} {p p' p1 p2 pos : Pos} {initId : String}
/-- B.__init__(self, ..), B an own class over a built-in one, without an __init__ of its own -/
theorem pe_bi {pl : Sem Bool} {B : Addr} {mc : Value} (hg : Gl X x) (hm : X.mg x = some (.ref B)) (r : ClX.CRead X.K B mc) (hv : PySem.W.findCls X.K (.ref B) mc "__init__" = some (.val (.builtin initId))) (hh : PySem.W.handedIn (.builtin initId) = true) (ha : PA X (e :: es) ta)
    (hdb : (x == ("__debug__" : Str)) = false := by decide)
    (hc : eval (.Call (.Attribute (.Name x p1) "__init__" p2) (e :: es) [] pos) X.env = (do
      let ov ← eval (.Name x p1) X.env
      standAt p2.atName
      let (f, first) ← holding [ov] (getMethod ov "__init__" pl)
      callWith pos f first (backTo pos (starEach (e :: es) X.env)) (backToKw pos (keywordEach [] X.env))) := by rfl)
    (he : starEach (e :: es) X.env = (false, eval e X.env) :: starEach es X.env := by rfl) (hpl : (backTo pos (starEach es X.env)).any (·.1) = false := by rfl) :
    PE X (.Call (.Attribute (.Name x p1) "__init__" p2) (e :: es) [] pos) (tBI X.K initId ta) := by
  refine ⟨fun pins s σ H Q I h => PySem.W.methodCall_KW (ld_glob I hg hm ?_ hdb) hc⟩
  refine PySem.W.method_cls I.kIn r.ga (PySem.W.cls_value I.kIn r.rd hv hh ?_)
  refine PyProof.Rows.callWith_method1 (thn (ha.run pos pins _ σ H _ (I.tok _) h) fun us s1 got => ?_) he hpl
  obtain ⟨vs, H1, I1, r1, a, C, ws, ev, hl, T, ea, q⟩ := got
  subst ev
  cases r1 with
  | @cons _ u _ ur ra rr =>
    obtain rfl : u = Value.ref a := ra
    exact initY T I1 ea (by rw [← Paired.length rr, sizeLine_eq]; omega) fun s' J => ⟨.non, H1, J, rfl, q⟩
theorem ps_ostY (ho : PE X o to) (he : PE X e te) (hs : swapsWith e (some (.Attribute o f p')) pos.line X.env = pure false := by rfl) : PS X (.Assign [.Attribute o f p'] e pos) (tOstY X.K initId f to te) := by
  refine ⟨fun pins s σ H D I h => plainObj_wpAny_Assign_Attribute (thn (he.run pins s σ H _ I h) fun v s1 got => ?_) hs⟩
  obtain ⟨y, H1, I1, r1, q1⟩ := got
  refine thn (ho.run pins s1 σ H1 _ I1 q1) fun u s2 got => ?_
  obtain ⟨z, H2, I2, r2, a, C, ez, T, tf, ea, q⟩ := got
  subst ez
  obtain rfl : u = Value.ref a := r2
  exact ostY T I2 ea tf r1 fun dx s' n ne J => ⟨σ, _, J, q dx n ne⟩
/-- C(e, ..), C's own __init__ keeping sp -/
theorem pmkY {CX : CXT} {C fI : Addr} {k : Nat} {fd : FuncData} {ps : List Str} {sp : Sp} (T : YexC X.K C initId) (iC : PySem.W.findIn X.K (.ref C) "__init__" = some (some (.ref fI))) (tI : PySem.W.typeIn X.K (.ref fI) = some (.type "function"))
    (F1 : FnOk X.prog X.w X.K X.mg X.base CX k fI fd ps sp) (hr : Room (k + 1) X.A) (hb : Binds X.K fd ps []) (hx : Passes CX X (fun _ _ _ => False)) (hg : Gl X x) (hm : X.mg x = some (.ref C)) (ha : PA X (e :: es) ta)
    (hdb : (x == ("__debug__" : Str)) = false := by decide) (he : starEach (e :: es) X.env = (false, eval e X.env) :: starEach es X.env := by rfl) (hpl : (backTo pos (starEach es X.env)).any (·.1) = false := by rfl) :
    PMk X (.Call (.Name x p) (e :: es) [] pos) (tMkO C sp [] ta) := by
  intro pins s σ H Q I h
  obtain ⟨B, newId, bmB, FB, SF, hin, hov⟩ := T.cls
  refine wpAny_Call_Name_kw (ld_glob I hg hm (PySem.W.callWith_K (h₀ := X.base) I.ok.mod.kin T.kC (thn (ha.run pos pins s σ H _ I h) fun us s1 got => ?_) he hpl) hdb)
  obtain ⟨vs, H1, I1, r1, hz, q1⟩ := got
  refine ⟨I1.kIn, ?_⟩
  obtain ⟨nm, N, qn, bs, bm, hdct, sn, sub, ab, col, dd, k0, k1, k2, k3, k5, hC, hT⟩ := PySem.W.excInit_of I1.kIn hin
  show wpAny _ _ (call (.ref C) us) _ _ _
  obtain ⟨hp, g, dr, tk, os⟩ := s1
  generalize hE : hp.objs.size + 1 = ex at *
  have above : hp.objs.size ≤ ex := by omega
  have fresh : H1 ex = none := I1.hok.fresh above
  have wish := q1 ex fresh
  have old : ∀ b o, hp.get? b = some o → ((hp.push (PySem.W.kdv_tup us)).push (PySem.HandSPX.excO C hp.objs.size)).get? b = some o := fun b o hb => Heap.get?_push_of_some _ (Heap.get?_push_of_some _ hb)
  have made : ((hp.push (PySem.W.kdv_tup us)).push (PySem.HandSPX.excO C hp.objs.size)).get? ex = some (PySem.HandSPX.excO C hp.objs.size) := by subst hE; heap_get
  have J : Inv X pins σ (upd H1 ex (exo ex C none)) ⟨(hp.push (PySem.W.kdv_tup us)).push (PySem.HandSPX.excO C hp.objs.size), g, dr, tk, os⟩ := I1.laid (t' := tk) old above (exo_ok made)
  have vals : Vals (V.ref ex :: (vs ++ [])) (Value.ref ex :: (us ++ [])) := .cons rfl (r1.append .nil)
  have len : (Value.ref ex :: us ++ []).length = ps.length := (F1.len _ _ _ _ wish ▸ vals.length).symm
  have lus : us.length ≤ sizeLine := by rw [← Paired.length r1, sizeLine_eq]; omega
  have go := F1.run _ X.stack _ _ ⟨Value.ref ex :: us, []⟩ (Value.ref ex :: (us ++ [])) _ _ (fun _ _ _ => False) (hr.make C us []) (J.env0.make C us []) (by rw [← List.cons_append]; exact hb _ (Value.ref ex :: us) J.kIn len) vals wish
  subst hE
  refine wpAny_call (PySem.HandSPX.call_own FB hT hC (PySem.W.looks_findIn I1.kIn iC) (fun self => PySem.W.bind_fn I1.kIn self tI) lus (codeAny_mono go fun r s' res => ?_))
  match r, res with
  | .error er, res => exact hx pins σ _ _ er s' J res
  | .ok (.ret u), res =>
    obtain ⟨v, H2, os2, bare2, un2, hok2, rv, ev, d, fs, e1, e2, e3, q2⟩ := res
    subst ev
    obtain ⟨h2, g2, d2, t2, os'⟩ := s'
    exact ⟨rv, mk_end (raises_own T.exC T.tyC) I1 above old un2 hok2 os2 bare2 e1 e2 e3 q2⟩
  | .ok .next, res => exact False.elim res
  | .ok .brk, res => exact False.elim res
  | .ok .cont, res => exact False.elim res
end
/-- an own exception class and what its __init__ promises -/
structure ExcMkY (P : Program) (w : World) (K : PySem.W.Frag) (mg : Str → Option Value) (base : Heap) (k : Nat) (x : Str) (C : Addr) (fl : Str) : Prop where
  ex : ∃ (f : Addr) (fd : FuncData) (ps : List Str) (initId : String), YexC K C initId ∧ PySem.W.findIn K (.ref C) "__init__" = some (some (.ref f)) ∧ PySem.W.typeIn K (.ref f) = some (.type "function") ∧ FnOk P w K mg base C8.CX0 k f fd ps (spExc C fl) ∧ Binds K fd ps [] ∧ mg x = some (.ref C)
theorem pmk_exY {X : Cx} {x : Str} {e : Expr} {ta : TA} {p pos : Pos} {k j : Nat} {C : Addr} {fl : Str} (c : ExcMkY X.prog X.w X.K X.mg X.base k x C fl) (hr : Room j X.A) (hk : k + 1 ≤ j) (hg : Gl X x) (ha : PA X [e] ta) (hdb : (x == ("__debug__" : Str)) = false := by decide)
    (he : starEach [e] X.env = (false, eval e X.env) :: starEach [] X.env := by rfl) (hpl : (backTo pos (starEach [] X.env)).any (·.1) = false := by rfl) : PMk X (.Call (.Name x p) [e] [] pos) (tMkO C (spExc C fl) [] ta) := by
  obtain ⟨f, fd, ps, initId, T, i, t, F, b, hm⟩ := c.ex
  exact pmkY T i t F (hr.mono hk) b C8.pass0 hg hm ha hdb he hpl
end Gx

set_option Elab.async false
set_option linter.all false
set_option maxRecDepth 100000
set_option maxHeartbeats 1000000
/-! defs and methods that may raise: called where it passes on, and within a try -/
namespace Gx
open PySem PySem.Spec PyProof.Rows L2 GenW
structure MetX (P : Program) (w : World) (K : PySem.W.Frag) (mg : Str → Option Value) (base : Heap) (k : Nat) (C : Addr) (m : Str) (sp : Sp) : Prop where
  ex : ∃ (f : Addr) (fd : FuncData) (ps : List Str), Cls K C ∧ Meth K C m f ∧ FnOk P w K mg base (CX P w) k f fd ps sp ∧ Binds K fd ps []
theorem metX {P : Program} {w : World} {K : PySem.W.Frag} {mg : Str → Option Value} {base : Heap} {m qual : Str} {C : Addr} {st : Stmt} {f : Addr} {fd : FuncData} {N ps : List Str} {k : Nat} {sp : Sp} (c : Cls K C) (me : Meth K C m f) (F : C8.Fun K m qual st f fd) (b : Binds K fd ps [])
    (S : FnScope N ps (C8.fnScope st)) (len : ∀ vs H Q E, sp vs H Q E → vs.length = ps.length)
    (hbody : ∀ (cdv : Value) (A : Around) (outer : List Env) (s : Shared) (H : Hp) (vs : List V) (Q : VK) (E : XK), Room k (A.deeper (envOfC qual (C8.fnScope st) s.heap.objs.size f cdv)) → sp vs H Q E →
      ∃ t, PSs (cxOf (CX P w) P w K mg base N qual (C8.fnScope st) f cdv A outer s H E) (C8.fnBody st) t ∧ t { nx := fun _ H' => Q .non H', rt := Q } (start N vs) H) : MetX P w K mg base (k + 1) C m sp := by
  obtain ⟨oc, od, dV, kV, doc, pm, an, cdv, ct, osl, rfl, lk, hcd⟩ := F.ex
  exact ⟨f, _, ps, c, me, fn_of lk hcd S len (hbody cdv), b⟩
section
variable {X : Cx} {k j : Nat} {C : Addr} {x m : Str} {sp : Sp} {p pos apos : Pos} {e o : Expr} {es : List Expr} {ta : TE} {t : TA} {W : WX} {E : XK} {pl : Sem Bool}
theorem pe_cx0 (c : CalX X.prog X.w X.K X.mg X.base k x sp) (tk : Takes X W) (hW : ∀ cls d σ H, E cls d H → W cls d σ H) (hr : Room j X.A) (hk : k ≤ j) (hg : Gl X x) (hdb : (x == ("__debug__" : Str)) = false := by decide) :
    PE X (.Call (.Name x p) [] [] pos) (tCall sp [] E tNil) := by
  obtain ⟨f, fd, ps, F, hm, kp, b⟩ := c.ex
  exact pe_call0 F (hr.mono hk) hg hm kp b .nil (passes_call tk hW) hdb
theorem pe_mx (c : MetX X.prog X.w X.K X.mg X.base k C m sp) (tk : Takes X W) (hW : ∀ cls d σ H, E cls d H → W cls d σ H) (hr : Room j X.A) (hk : k ≤ j) (he : PE X o ta) (ha : PA X (e :: es) t)
    (hst : starEach (e :: es) X.env = (false, eval e X.env) :: starEach es X.env := by rfl) (hpl : (backTo pos (starEach es X.env)).any (·.1) = false := by rfl)
    (ht : eval (.Call (.Attribute o m apos) (e :: es) [] pos) X.env = (do
      let ov ← eval o X.env
      standAt apos.atName
      let (f, first) ← holding [ov] (getMethod ov m pl)
      callWith pos f first (backTo pos (starEach (e :: es) X.env)) (backToKw pos (keywordEach [] X.env))) := by rfl) :
    PE X (.Call (.Attribute o m apos) (e :: es) [] pos) (tMeth C m sp [] E ta t) := by
  obtain ⟨f, fd, ps, hc, hm, F, b⟩ := c.ex
  exact pe_meth (pl := pl) he hc hm F (hr.mono hk) b .nil (passes_call tk hW) ha hst hpl ht
theorem pe_mx0 (c : MetX X.prog X.w X.K X.mg X.base k C m sp) (tk : Takes X W) (hW : ∀ cls d σ H, E cls d H → W cls d σ H) (hr : Room j X.A) (hk : k ≤ j) (he : PE X o ta)
    (ht : eval (.Call (.Attribute o m apos) [] [] pos) X.env = (do
      let ov ← eval o X.env
      standAt apos.atName
      let (f, first) ← holding [ov] (getMethod ov m pl)
      callWith pos f first (backTo pos (starEach [] X.env)) (backToKw pos (keywordEach [] X.env))) := by rfl) :
    PE X (.Call (.Attribute o m apos) [] [] pos) (tMeth C m sp [] E ta tNil) := by
  obtain ⟨f, fd, ps, hc, hm, F, b⟩ := c.ex
  exact pe_meth0 (pl := pl) he hc hm F (hr.mono hk) b .nil (passes_call tk hW) ht
/-- within a try: what is raised is wished for at the slots as they are -/
theorem pe_cs (c : CalX X.prog X.w X.K X.mg X.base k x sp) (tk : Takes X W) (hr : Room j X.A) (hk : k ≤ j) (hg : Gl X x) (ha : PA X (e :: es) t)
    (hdb : (x == ("__debug__" : Str)) = false := by decide) (he : starEach (e :: es) X.env = (false, eval e X.env) :: starEach es X.env := by rfl) (hpl : (backTo pos (starEach es X.env)).any (·.1) = false := by rfl) :
    PE X (.Call (.Name x p) (e :: es) [] pos) (tCallSD sp [] (WE W) t) := by
  obtain ⟨f, fd, ps, F, hm, kp, b⟩ := c.ex
  exact pe_callSD F (hr.mono hk) hg hm kp b .nil (fun σ => passAt tk σ) ha hdb he hpl
def tMethS (C : Addr) (m : Str) (sp : Sp) (E : L2.St → XK) (ta : TE) (t : TA) : TE := fun σ H Q => ta σ H fun x H1 => ∃ a dx fs, x = .ref a ∧ H1 a = some (.ins C dx fs) ∧ fs.lookup m = none ∧ t σ H1 fun vs H2 => sp (x :: (vs ++ [])) H2 Q (E σ)
theorem pe_ms (c : MetX X.prog X.w X.K X.mg X.base k C m sp) (tk : Takes X W) (hr : Room j X.A) (hk : k ≤ j) (he : PE X o ta) (ha : PA X (e :: es) t)
    (hst : starEach (e :: es) X.env = (false, eval e X.env) :: starEach es X.env := by rfl) (hpl : (backTo pos (starEach es X.env)).any (·.1) = false := by rfl)
    (ht : eval (.Call (.Attribute o m apos) (e :: es) [] pos) X.env = (do
      let ov ← eval o X.env
      standAt apos.atName
      let (f, first) ← holding [ov] (getMethod ov m pl)
      callWith pos f first (backTo pos (starEach (e :: es) X.env)) (backToKw pos (keywordEach [] X.env))) := by rfl) :
    PE X (.Call (.Attribute o m apos) (e :: es) [] pos) (tMethS C m sp (WE W) ta t) := by
  obtain ⟨f, fd, ps, hc, hm, F, b⟩ := c.ex
  refine ⟨fun pins s σ H Q I h => PySem.W.methodCall_KW (pl := pl) (thn (he.run pins s σ H _ I h) fun u s1 got => ?_) ht⟩
  obtain ⟨x, H1, I1, rx, a, dx, fs, ex, ea, l, q⟩ := got
  subst ex
  obtain rfl : u = Value.ref a := rx
  refine getmeth_ok I1 ea hc hm l (PySem.W.callWith_K (first := [.ref a]) (h₀ := X.base) I.ok.mod.kin hm.kp (thn (ha.run pos pins s1 σ H1 _ I1 q) fun us s2 got => ?_) hst hpl)
  obtain ⟨vs, H2, I2, r, q2⟩ := got
  exact ⟨I2.kIn, run_fnSD (us := .ref a :: us) (vs := .ref a :: vs) (E := WE W) F (hr.mono hk) b .nil (passAt tk σ) I2 (.cons rfl r) q2⟩
theorem pe_ms0 (c : MetX X.prog X.w X.K X.mg X.base k C m sp) (tk : Takes X W) (hr : Room j X.A) (hk : k ≤ j) (he : PE X o ta)
    (ht : eval (.Call (.Attribute o m apos) [] [] pos) X.env = (do
      let ov ← eval o X.env
      standAt apos.atName
      let (f, first) ← holding [ov] (getMethod ov m pl)
      callWith pos f first (backTo pos (starEach [] X.env)) (backToKw pos (keywordEach [] X.env))) := by rfl) :
    PE X (.Call (.Attribute o m apos) [] [] pos) (tMethS C m sp (WE W) ta tNil) := by
  obtain ⟨f, fd, ps, hc, hm, F, b⟩ := c.ex
  refine ⟨fun pins s σ H Q I h => PySem.W.methodCall_KW (pl := pl) (thn (he.run pins s σ H _ I h) fun u s1 got => ?_) ht⟩
  obtain ⟨x, H1, I1, rx, a, dx, fs, ex, ea, l, q⟩ := got
  subst ex
  obtain rfl : u = Value.ref a := rx
  exact getmeth_ok I1 ea hc hm l (PySem.W.callWith_K0 (first := [.ref a]) I1.kIn hm.kp (run_fnSD (us := [.ref a]) (vs := [.ref a]) (E := WE W) F (hr.mono hk) b .nil (passAt tk σ) I1 (.cons rfl .nil) q))
end
section
variable {σ : L2.St} {H : Hp} {Q : VK} {sp : Sp} {C : Addr} {m : Str} {ta : TE} {tr : TA} {E : L2.St → XK}
theorem callSD (h : tr σ H fun vs H1 => sp (vs ++ []) H1 Q (E σ)) : tCallSD sp [] E tr σ H Q := h
theorem methSD (h : ta σ H fun x H1 => ∃ a dx fs, x = .ref a ∧ H1 a = some (.ins C dx fs) ∧ fs.lookup m = none ∧ tr σ H1 fun vs H2 => sp (x :: (vs ++ [])) H2 Q (E σ)) : tMethS C m sp E ta tr σ H Q := h
/-- e.f in an except suite -/
theorem xf {a C dd : Addr} {cls : Value} {d : Option Addr} {f : Str} {te : TE} (h : te σ H fun x H1 => x = .ref a ∧ cls = .ref C ∧ ∃ (dd : Addr) (fs : List (Str × V)) (v : V), d = some dd ∧ H1 dd = some (.xd fs) ∧ fs.lookup f = some v ∧ Q v H1) : tXf a cls d C f te σ H Q := h
end
/-- what `except X as n` wishes, X the very class that is raised -/
theorem asYes {K : PySem.W.Frag} {C : Addr} {i : Nat} {ts : Addr → Value → Option Addr → TS} {Wout : WX} {D : Ends} {d : Option Addr} {σ : L2.St} {H : Hp} (m : PySem.W.exmOne K (.ref C) c = some true)
    (h : ∀ a, H a = none → ts a (.ref C) d { nx := fun σ' H' => D.nx (σ'.set i none) H', rt := D.rt, bk := fun σ' H' => D.bk (σ'.set i none) H', ct := fun σ' H' => D.ct (σ'.set i none) H' } (σ.set i (some (.ref a))) H) : wAs K c i ts Wout D (.ref C) d σ H :=
  ⟨true, m, fun _ => h, fun z => by cases z⟩
/-- a new exception of one field -/
theorem mkY {C : Addr} {fl : Str} {v : V} {H : Hp} {Q : XK} (q : ∀ d H', H d = none → Rd.Ex H H' → H' d = some (.xd [(fl, v)]) → Q (.ref C) (some d) H') :
    [v].length ≤ 1000 ∧ ∀ a, H a = none → spExc C fl (.ref a :: ([v] ++ [])) (upd H a (exo a C none))
      (fun r H2 => r = .non ∧ ∃ (d : Addr) (fs : List (Str × V)), H2 a = some (exo a C (some d)) ∧ H2 d = some (exd d fs) ∧ H d = none ∧ Q (.ref C) (some d) (upd (del H2 a) d (.xd fs))) (fun _ _ _ => False) := mkO q
end Gx

set_option Elab.async false
set_option linter.all false
set_option maxRecDepth 100000
set_option maxHeartbeats 1000000
/-! a class's constant read through an instance; readings -/
namespace Gx
open PySem PySem.Spec PyProof.Rows L2 GenW
structure IVal (K : PySem.W.Frag) (C : Addr) (f : Str) (v : V) : Prop where
  ex : ∃ u, PySem.W.findIn K (.ref C) f = some (some u) ∧ PySem.W.specialIn K u "__get__" = some none ∧ PySem.W.handedIn u = true ∧ RelV v u
  cp : PySem.W.copiedNames.contains f = false
def tIVal (K : PySem.W.Frag) (ta : TE) (f : Str) : TE := fun σ H Q => ta σ H fun x H1 => ∃ a C dx fs v, x = .ref a ∧ H1 a = some (.ins C dx fs) ∧ Cls K C ∧ IVal K C f v ∧ fs.lookup f = none ∧ Q v H1
theorem pe_ival {X : Cx} {e : Expr} {ta : TE} {f : Str} {pos : Pos} (he : PE X e ta) (hb : attributeBase e f X.env (eval e X.env) = eval e X.env := by rfl) : PE X (.Attribute e f pos) (tIVal X.K ta f) := by
  refine ⟨fun pins s σ H Q I h => attr_of hb (thn (he.run pins s σ H _ I h) fun u s1 got => ?_)⟩
  obtain ⟨x, H1, I1, rx, a, C, dx, fs, v, ex, ea, c, k, l, q⟩ := got
  subst ex
  obtain rfl : u = Value.ref a := rx
  obtain ⟨mA, O, rel, _, _, _⟩ := ins_get I1.hok ea
  obtain ⟨od, J, hl⟩ := O.look
  obtain ⟨w, h1, h2, h3, h4⟩ := k.ex
  have no : mA f = none := by
    have z := rel f
    rw [l] at z
    cases hm : mA f with
    | none => rfl
    | some y => rw [hm] at z; exact z.elim
  refine PySem.W.get_value I1.kIn J (PySem.W.plainGet_of (c.get f)).1 (PySem.W.findObj_cls c.hd h1 h2 h3 k.cp (by rw [hl f, no])) h3 ⟨v, H1, I1.tok _, h4, q⟩
theorem ival {K : PySem.W.Frag} {σ : L2.St} {H : Hp} {Q : VK} {ta : TE} {f : Str} (h : ta σ H fun x H1 => ∃ a C dx fs v, x = .ref a ∧ H1 a = some (.ins C dx fs) ∧ Cls K C ∧ IVal K C f v ∧ fs.lookup f = none ∧ Q v H1) : tIVal K ta f σ H Q := h
theorem ivalO {K : PySem.W.Frag} {H : Hp} {a C dx : Addr} {fs : List (Str × V)} {f : Str} {v : V} {Q : V → Prop} (h : H a = some (.ins C dx fs)) (c : Cls K C) (k : IVal K C f v) (l : fs.lookup f = none) (q : Q v) :
    ∃ a' C' dx' fs' v', V.ref a = .ref a' ∧ H a' = some (.ins C' dx' fs') ∧ Cls K C' ∧ IVal K C' f v' ∧ fs'.lookup f = none ∧ Q v' := ⟨a, C, dx, fs, v, rfl, h, c, k, l, q⟩
section
variable {σ : L2.St} {H : Hp} {Q : VK} {K : PySem.W.Frag} {D : Ends} {a C dx : Addr} {fs fs' : List (Str × V)} {f : Str} {ta tv : TE}
theorem sfaug {rd : V → V → Hp → VK → Prop} (h : ta σ H fun x H1 => ∃ a C dx fs v, x = .ref a ∧ H1 a = some (.ins C dx fs) ∧ Cls K C ∧ NoAttr K C f ∧ fs.lookup f = some v ∧
    tv σ H1 fun y H2 => rd v y H2 fun z H3 => ∃ dx' fs', H3 a = some (.ins C dx' fs') ∧ fs'.length < 1000 ∧ D.nx σ (upd H3 a (.ins C dx' (putF f z fs')))) : sFldAug K ta tv rd f D σ H := h
/-- o.f += n -/
theorem augI {i : Nat} {m n : Int} (hv : σ[i]? = some (some (.ref a))) (h : H a = some (.ins C dx fs)) (c : Cls K C) (n0 : NoAttr K C f) (l : fs.lookup f = some (.int m)) (z : Nat.ble fs.length 100 = true) (e : putF f (.int (m + n)) fs = fs')
    (q : ∀ H', Au.ExP a H H' → H' a = some (.ins C dx fs') → D.nx σ H') : sFldAug K (tVar i) (tC (.int n)) rAdd f D σ H :=
  ⟨_, hv, a, C, dx, fs, _, rfl, h, c, n0, l, m, n, rfl, rfl, dx, fs, h, Nat.lt_of_le_of_lt (Nat.le_of_ble_eq_true z) (by decide), by rw [e]; exact q _ (fun c z h n => by rw [upd_ne n]; exact h) upd_same⟩
theorem allL {bs : List Bool} (h : SqL K H a (bs.map V.bl)) (q : Q (.bl (bs.all id)) H) : rAll K [.ref a] H Q := ⟨a, bs, rfl, h, q⟩
end
def rTupOf (K : PySem.W.Frag) : List V → Hp → VK → Prop := fun xs H Q => ∃ p ys, xs = [.ref p] ∧ ((SqL K H p ys ∧ ∀ l, H l = none → Q (.ref l) (upd H l (.tup ys))) ∨ (SqT K H p ys ∧ Q (.ref p) H))
theorem call_tupOf {X : Cx} : CallR X (.type "tuple") (rTupOf X.K) := call_tuple_of
def rLstOf (K : PySem.W.Frag) : List V → Hp → VK → Prop := fun xs H Q => ∃ p ys, xs = [.ref p] ∧ (SqL K H p ys ∨ SqT K H p ys) ∧ ∀ l, H l = none → Q (.ref l) (upd H l (.lst ys))
theorem call_lstOf {X : Cx} : CallR X (.type "list") (rLstOf X.K) := call_list_of
section
variable {H : Hp} {Q : VK} {K : PySem.W.Frag} {a b : Addr} {xs zs : List V}
theorem tupOfL (h : SqL K H a xs) (q : Au.NewO H (.tup xs) Q) : rTupOf K [.ref a] H Q := ⟨a, xs, rfl, .inl ⟨h, q⟩⟩
theorem tupOfT (h : SqT K H a xs) (q : Q (.ref a) H) : rTupOf K [.ref a] H Q := ⟨a, xs, rfl, .inr ⟨h, q⟩⟩
theorem lstOfL (h : SqL K H a xs) (q : Au.NewO H (.lst xs) Q) : rLstOf K [.ref a] H Q := ⟨a, xs, rfl, .inl h, q⟩
theorem lstOfT (h : SqT K H a xs) (q : Au.NewO H (.lst xs) Q) : rLstOf K [.ref a] H Q := ⟨a, xs, rfl, .inr h, q⟩
theorem ext (h : H a = some (.lst xs)) (h2 : H b = some (.lst zs)) (hl : xs.length + zs.length ≤ 1000000) (q : ∀ H', Au.ExP a H H' → H' a = some (.lst (xs ++ zs)) → Q .non H') : rExtend (.ref a) [.ref b] H Q :=
  ⟨a, b, xs, zs, rfl, rfl, h, h2, Nat.le_trans hl (Nat.le_of_ble_eq_true rfl), q _ (fun c z h n => by rw [upd_ne n]; exact h) upd_same⟩
/-- a slice of a tuple: a new tuple, or the very one -/
theorem slT {lo hi : Option Int} (h : H a = some (.tup xs)) (q : ∀ p H', Rd.Ex H H' → H' p = some (.tup (cutV xs lo hi)) → Q (.ref p) H') : rSlA K (.ref a) lo hi H Q := by
  refine ⟨a, xs, rfl, Rd.sqt h, fun hw => q a H (Same.refl H) ?_, fun _ p hp => q p _ (Rd.ex_new hp) upd_same⟩
  have e : cutV xs lo hi = xs := by
    unfold cutV
    rw [hw.1, hw.2, List.drop_zero, Nat.sub_zero, List.take_length]
  rw [e]; exact h
theorem frz {ta : TA} {g : TG} {tb : TS} {D : Ends} {σ : L2.St} (h : ta σ H fun vs H1 => ∃ a b xs ys, vs = [.ref a, .ref b] ∧ SqL K H1 a xs ∧ SqL K H1 b ys ∧ ∃ W : Nat → Nat → L2.St → Hp → Prop, (∃ m, W 0 m σ H1) ∧ ∀ i m σ H, W i m σ H →
    ((Itz K a b).stop i H ∧ D.nx σ H) ∨ ((Itz K a b).go i H ∧ ∃ N : L2.St → Hp → Prop, (∀ σ' H', N σ' H' → ∃ m', m' < m ∧ W (i + 1) m' σ' H') ∧ ∀ x H', (Itz K a b).yld i H x H' → g x σ H' fun σ2 H2 => tb { D with nx := N, ct := N, bk := D.nx } σ2 H2)) :
    tFor (iZip K ta) g tb D σ H := h
end
end Gx

set_option Elab.async false
set_option linter.all false
set_option maxRecDepth 100000
set_option maxHeartbeats 1000000
/-! scripts and draws: promises -/
namespace Pr
open PySem PySem.Spec PyProof.Rows L2
/-- all but two objects stand -/
def ExQ (p r : Addr) (H H' : Hp) : Prop := ∀ c o, H c = some o → c ≠ p → c ≠ r → H' c = some o
theorem ExQ.refl {p r : Addr} (H : Hp) : ExQ p r H H := fun _ _ e _ _ => e
theorem smq {p r b : Addr} {H H' : Hp} {z : HO} (e : ExQ p r H H') (h : H b = some z) (n1 : b ≠ p) (n2 : b ≠ r) : H' b = some z := e _ _ h n1 n2
abbrev ScrO (C dx sa : Addr) (pl : Nat) : HO := .ins C dx [("s1_script", .ref sa), ("s1_place", .int (pl : Int))]
abbrev DrwO (C dx so : Addr) (n : Nat) : HO := .ins C dx [("s5_source", .ref so), ("s5_used", .int (n : Int))]
abbrev words (ws : List Nat) : List V := ws.map fun (w : Nat) => V.int (w : Int)
/-- is_script of a tuple of words; of no tuple -/
def spScript (K : PySem.W.Frag) : Sp := fun vs H Q _ => ∃ (a : Addr) (ws : List Nat), vs = [.ref a] ∧ (H a = some (.tup (words ws)) ∧ ws.length ≤ 10000 ∧ ∀ w ∈ ws, w < 4294967296) ∧ ∀ H', Rd.Ex H H' → Q (.bl true) H'
theorem u_script {K : PySem.W.Frag} {a : Addr} {ws : List Nat} {H : Hp} {Q : VK} {E : XK} (h : H a = some (.tup (words ws)) ∧ ws.length ≤ 10000 ∧ ∀ w ∈ ws, w < 4294967296) (q : ∀ H', Rd.Ex H H' → Q (.bl true) H') : spScript K ([.ref a] ++ []) H Q E := ⟨a, ws, rfl, h, q⟩
def spNeedSt (K : PySem.W.Frag) : Sp := fun vs H Q _ => ∃ (t a : Addr) (ws : List Nat) (pl : Nat), vs = [.ref t] ∧ (H t = some (.tup [.ref a, .int (pl : Int)]) ∧ H a = some (.tup (words ws)) ∧ ws.length ≤ 10000 ∧ (∀ w ∈ ws, w < 4294967296) ∧ pl ≤ ws.length) ∧ ∀ H', Rd.Ex H H' → Q .non H'
def spInitS (C : Addr) : Sp := fun vs H Q _ => ∃ (p dx a : Addr) (ws : List Nat) (pl : Nat), vs = [.ref p, .ref a, .int (pl : Int)] ∧ (H a = some (.tup (words ws)) ∧ ws.length ≤ 10000 ∧ (∀ w ∈ ws, w < 4294967296) ∧ pl ≤ ws.length) ∧ H p = some (.ins C dx []) ∧
  ∀ H', Au.ExP p H H' → H' p = some (ScrO C dx a pl) → Q .non H'
theorem u_scr0 {C a : Addr} {ws : List Nat} {H : Hp} {Q : Addr → Hp → Prop} {E : XK} (h1 : H a = some (.tup (words ws)) ∧ ws.length ≤ 10000 ∧ ∀ w ∈ ws, w < 4294967296) (h : ∀ p dx H', H p = none → Rd.Ex H H' → H' p = some (ScrO C dx a 0) → Q p H') :
    ∀ x dx, H x = none → H dx = none → dx ≠ x → spInitS C (.ref x :: ([.ref a] ++ [.int 0])) (upd (upd H dx (.own x)) x (.ins C dx [])) (fun v H2 => v = .non ∧ Q x H2) E := fun x dx hx hdx hne =>
  ⟨x, dx, a, ws, 0, rfl, ⟨ex_make hx hdx _ _ h1.1, h1.2.1, h1.2.2, Nat.zero_le _⟩, upd_same, fun H' m k => ⟨rfl, h x dx H' hx (ex_made hx hdx m) k⟩⟩
def spAfterS (K : PySem.W.Frag) (CE : Addr) : Sp := fun vs H Q E => ∃ (a : Addr) (ws : List Nat) (pl st : Nat), vs = [.ref a, .int (pl : Int), .int (st : Int)] ∧ H a = some (.tup (words ws)) ∧ (pl + st ≤ ws.length → Q (.int ((pl + st : Nat) : Int)) H) ∧
  (ws.length < pl + st → ∀ d H', H d = none → Rd.Ex H H' → H' d = some (.xd [("missing", .int ((pl + st : Nat) - ws.length : Int))]) → E (.ref CE) (some d) H')
/-- a script at its object -/
structure SAt (C : Addr) (H : Hp) (o dx a : Addr) (ws : List Nat) (pl : Nat) : Prop where
  obj : H o = some (ScrO C dx a pl)
  tup : H a = some (.tup (words ws))
  le : pl ≤ ws.length
def spWordS (C CE : Addr) : Sp := fun vs H Q E => ∃ (o dx a : Addr) (ws : List Nat) (pl : Nat), vs = [.ref o] ∧ SAt C H o dx a ws pl ∧ (∀ (w : Nat) (H' : Hp), ws[pl]? = some w → Au.ExP o H H' → H' o = some (ScrO C dx a (pl + 1)) → Q (.int (w : Int)) H') ∧
  (pl = ws.length → ∀ d H', H d = none → Rd.Ex H H' → H' d = some (.xd [("missing", .int 1)]) → E (.ref CE) (some d) H')
def spInitD (C S : Addr) : Sp := fun vs H Q _ => ∃ (p dx o dy a : Addr) (pl : Nat), vs = [.ref p, .ref o] ∧ H o = some (ScrO S dy a pl) ∧ H p = some (.ins C dx []) ∧ ∀ H', Au.ExP p H H' → H' p = some (DrwO C dx o 0) → Q .non H'
theorem u_drw {C S o dy a : Addr} {pl : Nat} {H : Hp} {Q : Addr → Hp → Prop} {E : XK} (h1 : H o = some (ScrO S dy a pl)) (h : ∀ p dx H', H p = none → Rd.Ex H H' → H' p = some (DrwO C dx o 0) → Q p H') :
    ∀ x dx, H x = none → H dx = none → dx ≠ x → spInitD C S (.ref x :: ([.ref o] ++ [])) (upd (upd H dx (.own x)) x (.ins C dx [])) (fun v H2 => v = .non ∧ Q x H2) E := fun x dx hx hdx hne =>
  ⟨x, dx, o, dy, a, pl, rfl, ex_make hx hdx _ _ h1, upd_same, fun H' m k => ⟨rfl, h x dx H' hx (ex_made hx hdx m) k⟩⟩
/-- draws over a script -/
structure DAt (C S : Addr) (H : Hp) (p dx o dy a : Addr) (ws : List Nat) (pl n : Nat) : Prop where
  drw : H p = some (DrwO C dx o n)
  scr : SAt S H o dy a ws pl
theorem DAt.ne {C S p dx o dy a : Addr} {H : Hp} {ws : List Nat} {pl n : Nat} (h : DAt C S H p dx o dy a ws pl n) : p ≠ o ∧ a ≠ p ∧ a ≠ o := by
  refine ⟨ne_of h.drw h.scr.obj (fun z => ?_), ne_of h.scr.tup h.drw (fun z => by cases z), ne_of h.scr.tup h.scr.obj (fun z => by cases z)⟩
  have e : ("s5_source" : Str) = "s1_script" := congrArg (fun o => match o with | HO.ins _ _ ((f, _) :: _) => f | _ => "") z
  exact absurd e (by decide +kernel)
def spWordD (C S CE : Addr) : Sp := fun vs H Q E => ∃ (p dx o dy a : Addr) (ws : List Nat) (pl n : Nat), vs = [.ref p] ∧ DAt C S H p dx o dy a ws pl n ∧ (∀ (w : Nat) (H' : Hp), ws[pl]? = some w → ExQ p o H H' → DAt C S H' p dx o dy a ws (pl + 1) (n + 1) → Q (.int (w : Int)) H') ∧
  (pl = ws.length → ∀ d H', H d = none → Rd.Ex H H' → H' d = some (.xd [("missing", .int 1)]) → E (.ref CE) (some d) H')
/-- the k bits of a row of words -/
def bitsN : List Nat → Nat → Nat
  | [], _ => 0
  | w :: r, k => if k < 32 then w / 2 ^ (32 - k) else w + 2 ^ 32 * bitsN r (k - 32)
/-- words for k bits -/
def need (k : Nat) : Nat := (k + 31) / 32
def spBits (C S CE : Addr) : Sp := fun vs H Q E => ∃ (p dx o dy a : Addr) (ws : List Nat) (pl n k : Nat), vs = [.ref p, .int (k : Int)] ∧ (DAt C S H p dx o dy a ws pl n ∧ k ≤ 512 ∧ ∀ w ∈ ws, w < 4294967296) ∧
  (pl + need k ≤ ws.length → ∀ H', ExQ p o H H' → DAt C S H' p dx o dy a ws (pl + need k) (n + need k) → Q (.int (if k = 0 then 0 else bitsN (ws.drop pl) k : Nat)) H') ∧
  (ws.length < pl + need k → ∀ d H', H d = none → ExQ p o H H' → DAt C S H' p dx o dy a ws ws.length (n + (ws.length - pl)) → H' d = some (.xd [("missing", .int 1)]) → E (.ref CE) (some d) H')
def spUsed (C : Addr) : Sp := fun vs H Q _ => ∃ (p dx o : Addr) (n : Nat), vs = [.ref p] ∧ H p = some (DrwO C dx o n) ∧ Q (.int (n : Int)) H
def spLeft (C : Addr) : Sp := fun vs H Q _ => ∃ (o dx a : Addr) (ws : List Nat) (pl : Nat), vs = [.ref o] ∧ H o = some (ScrO C dx a pl) ∧ H a = some (.tup (words ws)) ∧ Q (.int ((ws.length : Int) - pl)) H
end Pr

set_option Elab.async false
set_option linter.all false
set_option maxRecDepth 100000
set_option maxHeartbeats 1000000
/-! comprehensions, told turn by turn -/
namespace Gx
open PySem PySem.Spec PyProof.Rows L2 GenW
def LcB (J : It) (g : TG) (tt : TT) (te : TE) (vs : List Nat) (σ : L2.St) (H1 : Hp) (Q : VK) : Prop := ∀ D, H1 D = none → ∃ W : Nat → Nat → Hp → Prop, (∃ m, W 0 m (upd H1 D (.lst []))) ∧ ∀ i m H, W i m H →
  (J.stop i H ∧ Q (.ref D) H) ∨ (J.go i H ∧ ∃ Nx : Hp → Prop, (∀ H', Nx H' → ∃ m', m' < m ∧ W (i + 1) m' H') ∧ ∀ x H', J.yld i H x H' → g x (wipe σ vs) H' fun σ2 H2 => wipe σ2 vs = wipe σ vs ∧ tt σ2 H2 fun b H3 =>
    if b = true then te σ2 H3 fun y H4 => ∃ acc, H4 D = some (.lst acc) ∧ acc.length < sizeLine ∧ Nx (upd H4 D (.lst (acc ++ [y]))) else Nx H3)
section
variable {σ : L2.St} {H : Hp} {Q : VK} {K : PySem.W.Frag} {g : TG} {tt : TT} {te tl : TE} {ta : TA} {vs : List Nat} {j : Nat} {a : Addr} {xs : List V} {wi : TI} {R : It → Hp → Prop}
theorem lcO (h : wi σ H fun J H1 => LcB J g tt te vs σ H1 Q) : tLc wi g tt te vs σ H Q := h
theorem itupO (h : tl σ H fun x H1 => ∃ a, x = .ref a ∧ (∃ xs, SqT K H1 a xs) ∧ R (Itt K a) H1) : iTup K tl σ H R := h
theorem ilistO (h : tl σ H fun x H1 => ∃ a, x = .ref a ∧ (∃ xs, SqL K H1 a xs) ∧ R (Itl K a) H1) : iList K tl σ H R := h
theorem irng1O (h : ta σ H fun vs H1 => ∃ j : Int, vs = [.int j] ∧ -(2 ^ 62) ≤ j ∧ j < 2 ^ 62 ∧ R (Itr 0 j.toNat) H1) : iRng1 ta σ H R := h
theorem mkR {C : Addr} {sp : Sp} {Q : XK} (h : ta σ H fun vs H1 => vs.length ≤ 1000 ∧ ∀ a, H1 a = none → sp (.ref a :: (vs ++ [])) (upd H1 a (exo a C none))
  (fun v H2 => v = .non ∧ ∃ (d : Addr) (fs : List (Str × V)), H2 a = some (exo a C (some d)) ∧ H2 d = some (exd d fs) ∧ H1 d = none ∧ Q (.ref C) (some d) (upd (del H2 a) d (.xd fs))) (fun _ _ _ => False)) : tMkO C sp [] ta σ H Q := h
theorem makeD {C : Addr} {sp : Sp} {dvs : List V} {E : XK} (h : ta σ H fun vs H1 => ∀ x dx, H1 x = none → H1 dx = none → dx ≠ x →
  sp (.ref x :: (vs ++ dvs)) (upd (upd H1 dx (.own x)) x (.ins C dx [])) (fun v H2 => v = .non ∧ Q (.ref x) H2) E) : tMake C sp dvs E ta σ H Q := h
theorem small5 {n : Nat} (h : n ≤ 100000) : n < sizeLine := Nat.lt_of_le_of_lt h (show 100000 < 16777216 by decide)
/-- a turn's end: the item is put behind the others -/
def LcN (Pv : Addr → Nat → List V → Hp → Prop) (D : Addr) (k : Nat) : VK := fun y H4 => ∃ acc, H4 D = some (.lst acc) ∧ acc.length < sizeLine ∧ ∃ acc', acc'.length ≤ k + 1 ∧ upd H4 D (.lst (acc ++ [y])) D = some (.lst acc') ∧ Pv D (k + 1) acc' (upd H4 D (.lst (acc ++ [y])))
theorem lcN {Pv : Addr → Nat → List V → Hp → Prop} {D : Addr} {k : Nat} {acc : List V} {y : V} {H4 : Hp} (h : H4 D = some (.lst acc)) (hl : acc.length ≤ k) (hk : k ≤ 100000) (q : ∀ H5, Au.ExP D H4 H5 → H5 D = some (.lst (acc ++ [y])) → Pv D (k + 1) (acc ++ [y]) H5) : LcN Pv D k y H4 :=
  ⟨acc, h, small5 (by omega), acc ++ [y], by rw [List.length_append, List.length_singleton]; omega, upd_same, q _ (fun c z h n => by rw [upd_ne n]; exact h) upd_same⟩
theorem wip {σ : L2.St} {j : Nat} {x : V} : wipe ((wipe σ [j]).set j (some x)) [j] = wipe σ [j] := by
  show (List.set (List.set (List.set σ j none) j (some x)) j none) = List.set σ j none
  rw [List.set_set, List.set_set]
theorem lcTup (Pv : Addr → Nat → List V → Hp → Prop) (hlen : xs.length ≤ 100000) (h0 : ∀ D H1, H D = none → Rd.Ex H H1 → H1 D = some (.lst []) → Pv D 0 [] H1) (hl : ∀ D k acc H', H D = none → Pv D k acc H' → SqT K H' a xs)
    (hs : ∀ D k x acc H', H D = none → xs[k]? = some x → acc.length ≤ k → H' D = some (.lst acc) → Pv D k acc H' → te ((wipe σ [j]).set j (some x)) H' (LcN Pv D k))
    (hd : ∀ D acc H', H D = none → H' D = some (.lst acc) → Pv D xs.length acc H' → Q (.ref D) H') : LcB (Itt K a) (gName j) tYes te [j] σ H Q := fun D hD => by
  refine lc_tup (K := K) (a := a) (xs := xs) (fun i H' => ∃ acc, acc.length ≤ i ∧ H' D = some (.lst acc) ∧ Pv D i acc H') ⟨[], Nat.le_refl _, upd_same, h0 D _ hD (Rd.ex_new hD) upd_same⟩ (fun i H' _ z => ?_) (fun i x H' hx z => ?_) (fun H' z => ?_)
  · obtain ⟨acc, _, _, p⟩ := z
    exact hl D i acc H' hD p
  · obtain ⟨acc, l, k, p⟩ := z
    exact ⟨wip, hs D i x acc H' hD hx l k p⟩
  · obtain ⟨acc, _, k, p⟩ := z
    exact hd D acc H' hD k p
theorem lcLst (Pv : Addr → Nat → List V → Hp → Prop) (hlen : xs.length ≤ 100000) (h0 : ∀ D H1, H D = none → Rd.Ex H H1 → H1 D = some (.lst []) → Pv D 0 [] H1) (hl : ∀ D k acc H', H D = none → Pv D k acc H' → SqL K H' a xs)
    (hs : ∀ D k x acc H', H D = none → xs[k]? = some x → acc.length ≤ k → H' D = some (.lst acc) → Pv D k acc H' → te ((wipe σ [j]).set j (some x)) H' (LcN Pv D k))
    (hd : ∀ D acc H', H D = none → H' D = some (.lst acc) → Pv D xs.length acc H' → Q (.ref D) H') : LcB (Itl K a) (gName j) tYes te [j] σ H Q := fun D hD => by
  refine lc_list (K := K) (a := a) (xs := xs) (fun i H' => ∃ acc, acc.length ≤ i ∧ H' D = some (.lst acc) ∧ Pv D i acc H') ⟨[], Nat.le_refl _, upd_same, h0 D _ hD (Rd.ex_new hD) upd_same⟩ (fun i H' _ z => ?_) (fun i x H' hx z => ?_) (fun H' z => ?_)
  · obtain ⟨acc, _, _, p⟩ := z
    exact hl D i acc H' hD p
  · obtain ⟨acc, l, k, p⟩ := z
    exact ⟨wip, hs D i x acc H' hD hx l k p⟩
  · obtain ⟨acc, _, k, p⟩ := z
    exact hd D acc H' hD k p
theorem lcRng {n : Nat} (Pv : Addr → Nat → List V → Hp → Prop) (h0 : ∀ D H1, H D = none → Rd.Ex H H1 → H1 D = some (.lst []) → Pv D 0 [] H1)
    (hs : ∀ D k acc H', H D = none → k < n → acc.length ≤ k → H' D = some (.lst acc) → Pv D k acc H' → te ((wipe σ [j]).set j (some (.int (k : Int)))) H' (LcN Pv D k))
    (hd : ∀ D acc H', H D = none → H' D = some (.lst acc) → Pv D n acc H' → Q (.ref D) H') : LcB (Itr 0 n) (gName j) tYes te [j] σ H Q := fun D hD => by
  refine lc_range (lo := 0) (n := n) (fun i H' => ∃ acc, acc.length ≤ i ∧ H' D = some (.lst acc) ∧ Pv D i acc H') ⟨[], Nat.le_refl _, upd_same, h0 D _ hD (Rd.ex_new hD) upd_same⟩ (fun i H' hx z => ?_) (fun H' z => ?_)
  · obtain ⟨acc, l, k, p⟩ := z
    rw [Int.zero_add]
    exact ⟨wip, hs D i acc H' hD hx l k p⟩
  · obtain ⟨acc, _, k, p⟩ := z
    exact hd D acc H' hD k p
end
end Gx

set_option Elab.async false
set_option linter.all false
set_option maxRecDepth 100000
set_option maxHeartbeats 1000000
/-! texts: loops and comprehensions over their signs -/
namespace Gx
open PySem PySem.Spec PyProof.Rows L2
section
variable {σ : L2.St} {H : Hp} {Q : VK} {te : TE} {j : Nat} {z : Str}
theorem istrO {R : It → Hp → Prop} (h : te σ H fun v H1 => ∃ x, v = .str x ∧ R (Its x) H1) : iStr te σ H R := h
def rLenS : List V → Hp → VK → Prop := fun xs H Q => ∃ z, xs = [.str z] ∧ z.length ≤ sizeLine ∧ Q (.int (z.length : Nat)) H
theorem call_lenS {X : Cx} : CallR X (.builtin "len") rLenS := call_len_str
theorem lenS (h : z.cps.size ≤ 1000) (q : Q (.int (z.cps.size : Nat)) H) : rLenS [.str z] H Q := ⟨z, rfl, Nat.le_trans h (show 1000 ≤ sizeLine by decide), q⟩
def rOrd : List V → Hp → VK → Prop := fun xs H Q => ∃ x, xs = [.str x] ∧ x.length = 1 ∧ Q (.int (x.cps.getD 0 0 : Nat)) H
theorem call_ordQ {X : Cx} : CallR X (.builtin "ord") rOrd := call_ord
theorem ord1 {c : Nat} (q : Q (.int (c : Nat)) H) : rOrd [.str ⟨#[c]⟩] H Q := ⟨_, rfl, rfl, q⟩
theorem lcStr (Pv : Addr → Nat → List V → Hp → Prop) (h0 : ∀ D H1, H D = none → Rd.Ex H H1 → H1 D = some (.lst []) → Pv D 0 [] H1)
    (hs : ∀ D k c acc H', H D = none → z.cps[k]? = some c → acc.length ≤ k → H' D = some (.lst acc) → Pv D k acc H' → te ((wipe σ [j]).set j (some (.str ⟨#[c]⟩))) H' (LcN Pv D k))
    (hd : ∀ D acc H', H D = none → H' D = some (.lst acc) → Pv D z.cps.size acc H' → Q (.ref D) H') : LcB (Its z) (gName j) tYes te [j] σ H Q := fun D hD => by
  refine lc_it walk_str (fun i H' => ∃ acc, acc.length ≤ i ∧ H' D = some (.lst acc) ∧ Pv D i acc H') ⟨[], Nat.le_refl _, upd_same, h0 D _ hD (Rd.ex_new hD) upd_same⟩ (fun i H' _ z => trivial) (fun i x H1 H' hx p y => ?_) (fun H' p => ?_)
  · obtain ⟨acc, l, k, p⟩ := p
    obtain ⟨rfl, c, hc, rfl⟩ := y
    exact ⟨wip, hs D i c acc _ hD hc l k p⟩
  · obtain ⟨acc, _, k, p⟩ := p
    exact hd D acc H' hD k p
theorem frS {g : TG} {tb : TS} {D : Ends} (h : te σ H fun v H1 => ∃ x, v = .str x ∧ ∃ W : Nat → Nat → L2.St → Hp → Prop, (∃ m, W 0 m σ H1) ∧ ∀ k m σ H, W k m σ H →
    ((Its x).stop k H ∧ D.nx σ H) ∨ ((Its x).go k H ∧ ∃ N : L2.St → Hp → Prop, (∀ σ' H', N σ' H' → ∃ m', m' < m ∧ W (k + 1) m' σ' H') ∧ ∀ v H', (Its x).yld k H v H' → g v σ H' fun σ2 H2 => tb { D with nx := N, ct := N, bk := D.nx } σ2 H2)) : tFor (iStr te) g tb D σ H := h
theorem for_str {g : TG} {tb : TS} {D : Ends} (Pv : Nat → L2.St → Hp → Prop) (h0 : Pv 0 σ H) (hs : ∀ i c σ H, z.cps[i]? = some c → Pv i σ H → g (.str ⟨#[c]⟩) σ H fun σ2 H2 => tb { D with nx := Pv (i + 1), ct := Pv (i + 1), bk := D.nx } σ2 H2) (hd : ∀ σ H, Pv z.cps.size σ H → D.nx σ H) :
    ∃ W : Nat → Nat → L2.St → Hp → Prop, (∃ m, W 0 m σ H) ∧ ∀ i m σ H, W i m σ H →
      ((Its z).stop i H ∧ D.nx σ H) ∨ ((Its z).go i H ∧ ∃ N : L2.St → Hp → Prop, (∀ σ' H', N σ' H' → ∃ m', m' < m ∧ W (i + 1) m' σ' H') ∧ ∀ x H', (Its z).yld i H x H' → g x σ H' fun σ2 H2 => tb { D with nx := N, ct := N, bk := D.nx } σ2 H2) :=
  for_it walk_str Pv h0 (fun _ _ _ _ _ => trivial) (fun i x σ H H' hi p y => by
    obtain ⟨rfl, c, hc, rfl⟩ := y
    exact hs i c σ _ hc p) hd
end
/-- a conditional expression: one key for both arms -/
theorem pick_if {c : Prop} [Decidable c] {te1 te2 : TE} {σ : L2.St} {H : Hp} {Q : VK} (G : V → Hp → Prop) (key : ∀ x H', G x H' → Q x H') (h1 : c → (∀ x H', G x H' → Q x H') → te1 σ H Q) (h2 : ¬ c → (∀ x H', G x H' → Q x H') → te2 σ H Q) : if c then te1 σ H Q else te2 σ H Q := by
  split
  · exact h1 ‹_› key
  · exact h2 ‹_› key
/-- (2 ** 64) ** 4 -/
def CPowW (i j : Int) : Prop := i = 18446744073709551616 ∧ j = 4
theorem op_powW {X : Cx} : OpR X (binaryOp .Pow) (rI CPowW fun i j => .int (i ^ j.toNat)) := opI fun _ _ _ _ _ _ _ hc q => by
  obtain ⟨rfl, rfl⟩ := hc
  exact pow_int (by decide) (by decide) q
end Gx

set_option Elab.async false
set_option linter.all false
set_option maxRecDepth 100000
set_option maxHeartbeats 1000000
/-! a property read inside an except suite, whatever the handled exception's context is -/
namespace Gx
open PySem PySem.Spec PyProof.Rows L2 L2H
/-- a def's promise while any exception is handled -/
structure FnB (P : Program) (w : World) (K : PySem.W.Frag) (mg : Str → Option Value) (base : Heap) (k : Nat) (f : Addr) (fd : FuncData) (ps : List Str) (sp : Sp) : Prop where
  len : ∀ vs H Q E, sp vs H Q E → vs.length = ps.length
  run : ∀ (A : Around) (outer : List Env) (s : Shared) (H : Hp) (args : Args) (us : List Value) (vs : List V) (Q : VK) (E : XK) (p : Addr × Obj), RoomH k A → PinOk outer H s p → Env0 P w K mg base A outer s H → BindsTo s fd args (ps.zip us) → Vals vs us → sp vs H Q E →
    codeAny (model P w) A (.call (.ref f) args) (CR C8.CX0 outer P w H s Q E) s
theorem fnB {P : Program} {w : World} {K : PySem.W.Frag} {mg : Str → Option Value} {base : Heap} {x qual : Str} {st : Stmt} {f : Addr} {fd : FuncData} {N ps : List Str} {k : Nat} {sp : Sp} (F : C8.Fun K x qual st f fd) (S : FnScope N ps (C8.fnScope st)) (len : ∀ vs H Q E, sp vs H Q E → vs.length = ps.length)
    (hbody : ∀ (cdv : Value) (A : Around) (outer : List Env) (s : Shared) (H : Hp) (vs : List V) (Q : VK) (E : XK) (p : Addr × Obj), sp vs H Q E →
      ∃ t, PSs (cxH C8.CX0 P w K mg base N qual (C8.fnScope st) f cdv A outer s H E p) (C8.fnBody st) t ∧ t { nx := fun _ H' => Q .non H', rt := Q } (L2.start N vs) H) :
    FnB P w K mg base (k + 1) f fd ps sp := by
  obtain ⟨oc, od, dV, kV, doc, pm, an, cdv, ct, osl, rfl, lk, hcd⟩ := F.ex
  refine ⟨len, fun A outer s H args us vs Q E p hr hpin e0 hb r hsp => ?_⟩
  have KX : K.In s.heap := e0.mod.kin.keeps fun b o e => (e0.bs b o e).1
  have lim : s.heap.NoLimit := e0.mod.nolimit.keeps fun b o e => (e0.bs b o e).1
  have hkind : ∀ y ∈ ps.zip us, (C8.fnScope st).names.lookup y.1 = some .local ∨ ((C8.fnScope st).names.lookup y.1 = some .cell ∧ ((cellsFrom (s.heap.objs.size + 1) (C8.fnScope st).names []).lookup y.1).isSome = true) := fun ⟨n, v⟩ hy =>
    (S.par n (List.of_mem_zip hy).1).elim .inl fun q => .inr ⟨q, PySem.W.cellsFrom_some _ _ _ (.inl q)⟩
  refine codeAny_call_function hr.depth (KX _ _ lk) rfl S.co S.gen rfl (PySem.W.codeRec_of KX hcd) (hb _ _ _ _ (wpAny_newFunctionEnv_cells S.kind hkind fun env he s1 x => ?_))
  subst he
  refine ⟨lim.keeps x.toInCall.keep, codeAny_func ?_⟩
  obtain ⟨t, ht, hq⟩ := hbody cdv A outer s H vs Q E p hsp
  have I := inv_startH (E := E) (CX := C8.CX0) S hpin e0 (len _ _ _ _ hsp) r x
  refine wpAny_mono (ht.run [] s1 (L2.start N vs) H _ I hq) (fun fl s' hs => ?_) fun e s' hs => hs
  match fl, hs with
  | .ret u, ⟨v, _, H', J, rv, q⟩ => exact ⟨v, H', J.os, J.bare, J.base, J.hok, rv, q⟩
  | .next, ⟨_, H', J, q⟩ => exact ⟨.non, H', J.os, J.bare, J.base, J.hok, rfl, q⟩
  | .brk, ⟨_, _, _, q⟩ => exact False.elim q
  | .cont, ⟨_, _, _, q⟩ => exact False.elim q
theorem roomH_in1 {k : Nat} {A : Around} (r : RoomH (k + 1) A) : RoomH k A.in1 :=
  ⟨by have := r.dp; show A.depth + 3 * k + 5 < _; omega, by have := r.un; show A.units + 1 + 16 * k + 200 < _; omega⟩
theorem roomB {k : Nat} {A : Around} (r : Room k A) (h : Option Value) : RoomH k (A.mark h) := ⟨r.dp, r.un⟩
structure PrpB (P : Program) (w : World) (K : PySem.W.Frag) (mg : Str → Option Value) (base : Heap) (k : Nat) (C : Addr) (nm : Str) (sp : Sp) : Prop where
  ex : ∃ (p f : Addr) (fd : FuncData) (ps : List Str), Cls K C ∧ PropOf K C nm p f ∧ FnB P w K mg base k f fd ps sp ∧ Binds K fd ps []
theorem prpB {X : Cx} {k j : Nat} {C : Addr} {nm : Str} {sp : Sp} {e : Expr} {ta : TE} {pos : Pos} {p : Addr × Obj} (he : PE X e ta) (c : PrpB X.prog X.w X.K X.mg X.base k C nm sp) (hr : RoomH j X.A) (hp : p ∈ X.pn) (hk : k + 1 ≤ j) (hab : attributeBase e nm X.env (eval e X.env) = eval e X.env) :
    PE X (.Attribute e nm pos) (tProp C sp [] C8.E0 ta) := by
  obtain ⟨pp, g, fd, ps, c, hpr, F, hb⟩ := c.ex
  refine ⟨fun pins s σ H Q I h => attr_of hab (thn (he.run pins s σ H _ I h) fun u s1 ⟨x, H1, I1, rx, a, dx, fs, ex, ea, q⟩ => ?_)⟩
  subst ex
  obtain rfl : u = Value.ref a := rx
  obtain ⟨mA, O, _, _, _, _⟩ := ins_get I1.hok ea
  obtain ⟨od, J, _⟩ := O.look
  obtain ⟨rest, hrec⟩ := hpr.rec_
  have I2 := I1.tok (s1.toks + 1)
  have hl : ([Value.ref a] ++ []).length = ps.length := by rw [← F.len _ _ _ _ q]; rfl
  have hc : (PySem.W.clsIn X.K C).isSome = true := by
    obtain ⟨cd, hc, _⟩ := PySem.W.any_some c.hd
    rw [hc]
    rfl
  have P1 := I2.pin p (List.mem_append_left _ hp)
  have hpin : PinOk X.stack H1 { s1 with toks := s1.toks + 1 } p := ⟨P1.1, P1.2.1, fun hm => (List.mem_cons.mp (I2.stkSub p.1 hm)).elim P1.2.2.1 P1.2.2.2.1, P1.2.2.2.2⟩
  refine PySem.W.get_bind I1.kIn J (PySem.W.plainGet_of (c.get nm)).1 (PySem.W.findObj_data hc hpr.at_ hpr.get hpr.tak) (PySem.W.plainGet_of (c.get nm)).2 (wpAny_call (PySem.W.prop_get (s := { s1 with toks := s1.toks + 1 }) I1.kIn hrec ?_))
  refine codeAny_mono (F.run X.A.in1 X.stack { s1 with toks := s1.toks + 1 } H1 ⟨[.ref a], []⟩ [.ref a] [.ref a] Q C8.E0 p (roomH_in1 (k := k) ⟨by have := hr.dp; omega, by have := hr.un; omega⟩) hpin I2.env0.in1 (hb _ [.ref a] I2.kIn hl) (.cons rfl .nil) q) fun r s' hq => ?_
  match r, hq with
  | .error er, hq => 
    have hx : Passes C8.CX0 X.nox C8.E0 := C8.pass0
    exact False.elim (hx pins σ H1 { s1 with toks := s1.toks + 1 } er s' (I2.wish _) hq)
  | .ok (.ret u), hq =>
    obtain ⟨v, H', I3, rv, q3⟩ := I2.after hq
    show wpAny _ _ (handedOut u) _ _ _
    rw [PySem.W.handedOut_of (handed_of rv)]
    exact wpAny_pure ⟨v, H', I3, rv, q3⟩
  | .ok .next, hq => exact False.elim hq
  | .ok .brk, hq => exact False.elim hq
  | .ok .cont, hq => exact False.elim hq
end Gx

set_option Elab.async false
set_option linter.all false
set_option maxRecDepth 100000
set_option maxHeartbeats 1000000
/-! any number of except clauses, of one class or of a tuple of classes, with a name or without; a caught exception that is kept -/
namespace Gx
open PySem PySem.Spec PyProof.Rows L2
/-- an exception that is kept: at a, of the class cls, its dict at d -/
def xob (a : Addr) (cls : Value) (d : Option Addr) : HO := .ext fun h => ∃ (oe : Obj) (vs : Array Value), h.get? a = some oe ∧ oe.cls = cls ∧ oe.dict = d ∧ oe.data = .fields vs
section
variable {X : Cx} {pins : List (Addr × Obj)} {σ : L2.St} {H : Hp} {s : Shared}
/-- a new object of ours is tracked from now on -/
theorem inv_track {a : Addr} {oe : Obj} {vs : Array Value} {cls : Value} {d : Option Addr} (I : Inv X pins σ H s) (ho : s.heap.get? a = some oe) (hz : Zc cls d oe) (hd : oe.data = .fields vs) (na : H a = none) (h0 : X.s_0.heap.get? a = none) (nL : a ≠ X.env.locals)
    (np : ∀ p ∈ X.pn ++ pins, p.1 ≠ a) : Inv X pins σ (upd H a (xob a cls d)) s := by
  have ne : ∀ b o, H b = some o → b ≠ a := fun b o e => ne_of_none e na
  refine ⟨I.ok, I.os, I.bare, ⟨I.base.keep, I.base.slot, fun b o e n hx => ?_, I.base.there, fun b xs e => ?_, fun b o u e => ?_, fun b ps e => ?_⟩, I.loc, I.cell, ?_, fun x c e => ?_, fun p hp => ?_, fun b o e => ?_, I.len⟩
  · have : b ≠ a := fun z => by rw [z, h0] at e; cases e
    rw [upd_ne this]; exact I.base.free b o e n hx
  · have q := I.base.tups b xs e
    rw [upd_ne (ne _ _ q)]; exact q
  · have q := I.base.frzs b o u e
    rw [upd_ne (ne _ _ q)]; exact q
  · obtain ⟨m, q⟩ := I.base.tbls b ps e
    exact ⟨m, by rw [upd_ne (ne _ _ q)]; exact q⟩
  · rw [upd_ne (Ne.symm nL)]; exact I.free
  · have : c ≠ a := fun z => by
      obtain ⟨v, o, q1, q2⟩ := I.cell x c e
      rw [z, ho] at q1
      cases q1
      rw [hd] at q2
      cases q2
    rw [upd_ne this]; exact I.freeC x c e
  · obtain ⟨q1, q2, q3⟩ := I.pin p hp
    exact ⟨q1, by rw [upd_ne (np p hp)]; exact q2, q3⟩
  · by_cases hb : b = a
    · subst hb
      rw [upd_same] at e
      cases e
      exact ⟨⟨oe, vs, ho, hz.1, hz.2, hd⟩, ⟨oe, ho⟩, fun h1 h2 ⟨oe', vs', q1, q2⟩ k => ⟨oe', vs', k _ q1, q2⟩⟩
    · rw [upd_ne hb] at e
      exact (I.hok b o e).stay (fun _ _ _ q => q) (fun c q => by rw [upd_ne (ne _ _ q)]; exact q) fun c xs q => by rw [upd_ne (ne _ _ q)]; exact q
end
/-! ### the class that a clause names -/
/-- the clause's test: m tells of a class whether it is caught -/
def HTest (X : Cx) (t : Expr) (m : Value → Option Bool) : Prop := ∀ (a : Addr) (oe : Obj) (pn pins : List (Addr × Obj)) (σ : L2.St) (H : Hp) (s : Shared) (cls : Value) (b : Bool) (Q : Bool → Shared → Prop) (E : Value → Shared → Prop), Inv (X.suite a ((a, oe) :: pn)) pins σ H s → oe.cls = cls → m cls = some b →
  (∀ h', (∀ q o, s.heap.get? q = some o → h'.get? q = some o) → Q b { s with heap := h' }) → wpAny (model X.prog X.w) (X.A.mark (some (.ref a))) (eval t X.env) (fun c s₁ => wpAny (model X.prog X.w) (X.A.mark (some (.ref a))) (excMatches (.ref a) c) Q E s₁) E s
section
variable {X : Cx} {x x1 x2 x3 : Str} {c c1 c2 c3 : Value} {np p1 p2 p3 tpos : Pos} {kk : Nat}
theorem ht_ld {a : Addr} {oe : Obj} {pn pins : List (Addr × Obj)} {σ : L2.St} {H : Hp} {s : Shared} {Q : Value → Shared → Prop} {E : Value → Shared → Prop} (I : Inv (X.suite a ((a, oe) :: pn)) pins σ H s) (hc : Names X x c) (q : Q c s) :
    wpAny (model X.prog X.w) (X.A.mark (some (.ref a))) (eval (.Name x np) X.env) Q E s := by
  obtain ⟨hg, hdbg, hm | ⟨hm, hv, hnn⟩⟩ := hc
  · exact ld_glob (X := X.suite a ((a, oe) :: pn)) I hg hm q hdbg
  · exact ld_blt (X := X.suite a ((a, oe) :: pn)) I hg hm hv q hnn hdbg
theorem ht_type {a : Addr} {oe : Obj} {pn pins : List (Addr × Obj)} {σ : L2.St} {H : Hp} {s : Shared} {cls : Value} (I : Inv (X.suite a ((a, oe) :: pn)) pins σ H s) (e : oe.cls = cls) : PySem.W.Looks (model X.prog X.w) s.heap (typeOf (.ref a)) cls :=
  fun A Q E s' k q => wpAny_typeOf_ref (k _ _ (I.pin (a, oe) (List.mem_append_left _ List.mem_cons_self)).1) (by rw [e]; exact q)
theorem ht_name (hc : Names X x c) : HTest X (.Name x np) (fun cls => PySem.W.exmOne X.K cls c) := fun a oe pn pins σ H s cls b Q E I e m q => by
  refine ht_ld I hc ?_
  have LM := PySem.W.exm_one (M := model X.prog X.w) I.kIn (ht_type I e) m
  exact LM.here (q s.heap fun _ _ z => z)
theorem ht_tup2 (h1 : Names X x1 c1) (h2 : Names X x2 c2) : HTest X (.Tuple [.Name x1 p1, .Name x2 p2] kk tpos) (fun cls => PySem.W.exmAny X.K cls [c1, c2]) := fun a oe pn pins σ H s cls b Q E I e m q => by
  refine wpAny_Tuple ?_
  refine wpAny_items_cons (ht_ld I h1 ?_)
  refine wpAny_items_cons (ht_ld I h2 ?_)
  refine wpAny_items_nil ⟨by size_fits, ?_⟩
  have kp : ∀ q o, s.heap.get? q = some o → (s.heap.push { cls := .type "tuple", data := .seq [c1, c2].toArray }).get? q = some o := fun _ _ z => Heap.get?_push_of_some _ z
  exact (PySem.W.exm_tup2 (M := model X.prog X.w) (I.kIn.keeps kp) ((ht_type I e).keeps kp) (Heap.get?_push_size s.heap rfl) m).here (q _ kp)
theorem ht_tup3 (h1 : Names X x1 c1) (h2 : Names X x2 c2) (h3 : Names X x3 c3) : HTest X (.Tuple [.Name x1 p1, .Name x2 p2, .Name x3 p3] kk tpos) (fun cls => PySem.W.exmAny X.K cls [c1, c2, c3]) := fun a oe pn pins σ H s cls b Q E I e m q => by
  refine wpAny_Tuple ?_
  refine wpAny_items_cons (ht_ld I h1 ?_)
  refine wpAny_items_cons (ht_ld I h2 ?_)
  refine wpAny_items_cons (ht_ld I h3 ?_)
  refine wpAny_items_nil ⟨by size_fits, ?_⟩
  have kp : ∀ q o, s.heap.get? q = some o → (s.heap.push { cls := .type "tuple", data := .seq [c1, c2, c3].toArray }).get? q = some o := fun _ _ z => Heap.get?_push_of_some _ z
  exact (PySem.W.exm_tup3 (M := model X.prog X.w) (I.kIn.keeps kp) ((ht_type I e).keeps kp) (Heap.get?_push_size s.heap rfl) m).here (q _ kp)
end
/-! ### the clauses -/
abbrev HdT := (Value → Option Bool) × Option Nat × (Addr → Value → Option Addr → TS)
def wG (Wout : WX) (D : Ends) : List HdT → WX
  | [] => Wout
  | (m, none, ts) :: r => fun cls d σ H => ∃ b, m cls = some b ∧ (b = true → ∀ a, H a = none → ts a cls d D σ H) ∧ (b = false → wG Wout D r cls d σ H)
  | (m, some i, ts) :: r => fun cls d σ H => ∃ b, m cls = some b ∧ (b = true → ∀ a, H a = none → ts a cls d { nx := fun σ' H' => H' a = none → D.nx (σ'.set i none) (upd H' a (xob a cls d)), rt := D.rt, bk := fun σ' H' => H' a = none → D.bk (σ'.set i none) (upd H' a (xob a cls d)), ct := fun σ' H' => H' a = none → D.ct (σ'.set i none) (upd H' a (xob a cls d)) } (σ.set i (some (.ref a))) H) ∧ (b = false → wG Wout D r cls d σ H)
inductive HdsG (X : Cx) : List ExceptHandler → List HdT → Prop
  | nil : HdsG X [] []
  | one {t : Expr} {m : Value → Option Bool} {ts : Addr → Value → Option Addr → TS} {b₀ : Stmt} {suite : List Stmt} {pos' : Pos} {hds : List ExceptHandler} {l : List HdT} (ht : HTest X t m)
      (hsu : ∀ (a : Addr) (oe : Obj) (cls : Value) (d : Option Addr) (pn : List (Addr × Obj)), Zc cls d oe → (∃ vs, oe.data = .fields vs) → PSs (X.suite a ((a, oe) :: pn)) (b₀ :: suite) (ts a cls d)) (r : HdsG X hds l) :
      HdsG X (.ExceptHandler (some t) none (b₀ :: suite) pos' :: hds) ((m, none, ts) :: l)
  | as {t : Expr} {n : Str} {i : Nat} {m : Value → Option Bool} {ts : Addr → Value → Option Addr → TS} {b₀ : Stmt} {suite : List Stmt} {pos' : Pos} {hds : List ExceptHandler} {l : List HdT} (ht : HTest X t m) (hN : X.N.Nodup) (hi : X.N[i]? = some n) (hln : X.env.kindOf n = some .local)
      (hsu : ∀ (a : Addr) (oe : Obj) (cls : Value) (d : Option Addr) (pn : List (Addr × Obj)), Zc cls d oe → (∃ vs, oe.data = .fields vs) → PSs (X.suite a ((a, oe) :: pn)) (b₀ :: suite) (ts a cls d)) (r : HdsG X hds l) :
      HdsG X (.ExceptHandler (some t) (some n) (b₀ :: suite) pos' :: hds) ((m, some i, ts) :: l)
theorem fly_on {B h h' : Heap} {l : List Env} {a : Addr} {Z : Obj → Prop} (f : HandSPX.FlyingZ B l a Z h) (k : ∀ q o, h.get? q = some o → h'.get? q = some o) : HandSPX.FlyingZ B l a Z h' := by
  obtain ⟨f1, f2, f3, oe, vs, T, oT, ts, he, hz, hd, h1, hnT, hTe, hT, hdT, h3⟩ := f
  exact ⟨fun b o e => k b o (f1 b o e), f2, f3.of_keeps fun b o e _ => ⟨o, k b o e, rfl⟩, oe, vs, T, oT, ts, k _ _ he, hz, hd, h1, hnT, hTe, k _ _ hT, hdT, h3⟩
section
variable {X : Cx} {body : List Stmt} {h₀ : ExceptHandler} {hds : List ExceptHandler} {l : List HdT} {pos : Pos} {tb : WX → TS} {Wout : WX}
theorem ps_tryG (hs : X.stack = X.env :: X.outer) (hf : X.env.frame = some X.env.locals) (hex : X.ex = []) (tk : Takes X Wout)
    (hb : ∀ (W : WX) (pn : List (Addr × Obj)) (xe : Value → Shared → Prop), Takes (X.tr pn xe) W → PassesOwn (model X.prog X.w) X.A X.env xe → PSs (X.tr pn xe) body (tb W))
    (hh : HdsG X (h₀ :: hds) l) : PS X (.Try body (h₀ :: hds) [] [] pos) (fun D σ H => tb (wG Wout D l) D σ H) := by
  refine ⟨fun pins s σ H D I h => ?_⟩
  have ok := I.ok
  have hfr : X.A.frames = some (X.env :: X.outer) := by rw [ok.frames, hs]
  refine wpAny_Try_except ?_
  refine wpAny_mono ((hb (wG Wout D l) (X.pn ++ pins) (fun e s₁ => wpAny (model X.prog X.w) X.A (noteFrame e X.env) (fun _ s₂ => wpAny (model X.prog X.w) X.A (setFlight e none) (fun _ s₃ =>
    wpAny (model X.prog X.w) X.A (handleBy e X.env (h₀ :: hds)) (SP X pins D) X.xe s₃) X.xe s₂) X.xe s₁) (fun u s' xx => ?_) PassesOwn.looking).run [] s σ H D (I.toTry _) h) (fun f s1 hsp => ?_) (fun e s1 he => he)
  · obtain ⟨a, B, sI, pins', σ', H', cls, d, rfl, J', nb, up, sky, na, os, ag, w⟩ := xx
    have J : Inv X pins σ' H' sI := J'.ofTry ok
    have sky' : Sky B (X.env :: X.outer) a (Zc cls d) X.env.locals s'.heap := by rw [← hs]; exact sky
    show wpAny (model X.prog X.w) X.A (noteFrame (.ref a) X.env) _ _ _
    refine Sky.land Zc.steady hfr hf sky' fun h3 fl3 up3 => ?_
    have notFr : ∀ {h : Heap} {o : Obj} {vs : Array Value}, h.FunFrames B (X.env :: X.outer) → h.get? a = some o → o.data = .fields vs → a ∉ frs (X.env :: X.outer) := fun {h o vs} ff e dd hm => by
      obtain ⟨_, o', e', hnf⟩ := ff.mem hm
      rw [e] at e'; cases e'
      exact hnf _ dd
    obtain ⟨oe3, vs3, he3, hz3, hd3⟩ := fl3.there
    have nfr := notFr fl3.2.2.1 he3 hd3
    have nL : a ≠ X.env.locals := fun z => nfr (List.mem_filterMap.mpr ⟨X.env, List.mem_cons_self, by rw [hf, z]⟩)
    have nF : a ∉ X.fs := fun hm => by
      obtain ⟨e, he, q⟩ := List.mem_filterMap.mp hm
      exact nfr (List.mem_filterMap.mpr ⟨e, List.mem_cons_of_mem _ he, q⟩)
    have hB : B.get? a = none := fl3.2.1
    have hsI : sI.heap.get? a = none := by
      cases e : sI.heap.get? a with
      | none => rfl
      | some o =>
        have z := nb a o e (by rw [hs]; exact nfr)
        rw [hB] at z; cases z
    have h0 : X.s_0.heap.get? a = none := by
      cases e : X.s_0.heap.get? a with
      | none => rfl
      | some o =>
        obtain ⟨o', z⟩ := J.base.there a o e (by rw [hex]; simp)
        rw [hsI] at z; cases z
    have np : ∀ p ∈ X.pn ++ pins, p.1 ≠ a := fun p hp z => by
      have q := (J.pin p hp).1
      rw [z, hsI] at q; cases q
    have hup := up.trans up3
    clear up3 he3 hz3 hd3
    have go : ∀ {hds' : List ExceptHandler} {l' : List HdT}, HdsG X hds' l' → ∀ h3 : Heap, HandSPX.FlyingZ B (X.env :: X.outer) a (Zc cls d) h3 → sI.heap.UpToSlots h3 → wG Wout D l' cls d σ' H' →
        wpAny (model X.prog X.w) X.A (handleBy (.ref a) X.env hds') (SP X pins D) X.xe { s' with heap := h3 } := by
      intro hds' l' hk
      induction hk with
      | nil =>
        intro h3 fl3 hup w
        refine wpAny_handleBy_nil ?_
        obtain ⟨k1, k2, k3, oe, vs, T, oT, ts', he, hz, hd, h1, hr⟩ := id fl3
        unfold PySem.passOn
        refine wpAny_bind (wpAny_field he hd h1 ?_)
        rw [if_neg (show ¬ ((Value.ref T == Value.none) = true) from by simp)]
        have fin : wpAny (model X.prog X.w) X.A (setFlight (.ref a) X.env.frame) (fun _ s4 => wpAny (model X.prog X.w) X.A (throw (.ref a) : Sem Flow) (SP X pins D) X.xe s4) X.xe { s' with heap := h3 } := by
          rw [hf]
          refine HandSPX.setFlight_upZ fl3 fun h4 hh4 up4 => wpAny_throw (tk _ _ ?_)
          exact ⟨a, B, sI, pins, σ', H', cls, d, rfl, J, nb, hup.trans up4, .inr (.inr (by rw [hs]; exact hh4)), na, os, ag, w⟩
        first
          | exact wpAny_bind (wpAny_pure (wpAny_bind fin))
          | exact wpAny_bind fin
      | @one t m ts b₀ suite pos' hds2 l2 ht hsu r ih =>
        intro h3 fl3 hup w
        obtain ⟨b, hb1, hyes, hno⟩ := w
        refine wpAny_handleBy_cons (codeAny_handlers_test ?_) (by intro q; cases q)
        have J3 : Inv X pins σ' H' { s' with heap := h3 } := J.landed nb fl3.1 hup os ag
        obtain ⟨oe3, vs3, he3, hz3, hd3⟩ := fl3.there
        have S3 := J3.suite he3 hd3 na nL nF
        refine ht a oe3 _ _ _ _ _ cls b _ _ S3 hz3.1 hb1 fun h5 k5 => ?_
        have fl5 := fly_on fl3 k5
        have up5 : sI.heap.UpToSlots h5 := hup.trans (Heap.UpToSlots.of_keeps k5)
        cases b with
        | true =>
          refine codeAny_handlers_suite ?_
          refine HandSPX.lands_againZ fl5 fun h4 fl4 up4 => ?_
          have J4 : Inv X pins σ' H' { s' with heap := h4 } := J.landed nb fl4.1 (up5.trans up4) os ag
          obtain ⟨oe4, vs4, he4, hz4, hd4⟩ := fl4.there
          have S4 := J4.suite he4 hd4 na nL nF
          refine wpAny_mono ((hsu a oe4 cls d (X.pn ++ pins) hz4 ⟨_, hd4⟩).run [] _ _ H' _ S4 (hyes rfl a na)) (fun f s6 hsp => ?_) (fun _ _ z => False.elim z)
          cases f with
          | next =>
            obtain ⟨σ6, H6, S6, q6⟩ := hsp
            exact ⟨_, _, S6.unsuite ok, q6⟩
          | brk =>
            obtain ⟨σ6, H6, S6, q6⟩ := hsp
            exact ⟨_, _, S6.unsuite ok, q6⟩
          | cont =>
            obtain ⟨σ6, H6, S6, q6⟩ := hsp
            exact ⟨_, _, S6.unsuite ok, q6⟩
          | ret u =>
            obtain ⟨v6, σ6, H6, S6, r6, q6⟩ := hsp
            exact ⟨_, _, _, S6.unsuite ok, r6, q6⟩
        | false =>
          show wpAny _ X.A (handleBy (.ref a) X.env hds2) _ _ _
          exact ih h5 fl5 up5 (hno rfl)
      | @as t n i m ts b₀ suite pos' hds2 l2 ht hN hi hln hsu r ih =>
        intro h3 fl3 hup w
        obtain ⟨b, hb1, hyes, hno⟩ := w
        refine wpAny_handleBy_cons (codeAny_handlers_test ?_) (by intro q; cases q)
        have J3 : Inv X pins σ' H' { s' with heap := h3 } := J.landed nb fl3.1 hup os ag
        obtain ⟨oe3, vs3, he3, hz3, hd3⟩ := fl3.there
        have S3 := J3.suite he3 hd3 na nL nF
        refine ht a oe3 _ _ _ _ _ cls b _ _ S3 hz3.1 hb1 fun h5 k5 => ?_
        have fl5 := fly_on fl3 k5
        have up5 : sI.heap.UpToSlots h5 := hup.trans (Heap.UpToSlots.of_keeps k5)
        cases b with
        | true =>
          refine codeAny_handlers_suite_as ?_
          refine HandSPX.lands_againZ fl5 fun h4 fl4 up4 => ?_
          have J4 : Inv X pins σ' H' { s' with heap := h4 } := J.landed nb fl4.1 (up5.trans up4) os ag
          obtain ⟨oe4, vs4, he4, hz4, hd4⟩ := fl4.there
          have S4 := J4.suite he4 hd4 na nL nF
          refine store_ok (X := X.suite a ((a, oe4) :: (X.pn ++ pins))) (v := .ref a) S4 hN hi (.inl hln) rfl (fun s5 S5 => ?_) (.inr hln)
          refine wpAny_mono ((hsu a oe4 cls d (X.pn ++ pins) hz4 ⟨_, hd4⟩).run [] s5 _ H' _ S5 (hyes rfl a na)) (fun f s6 hsp => ?_) (fun _ _ z => False.elim z)
          have end_ : ∀ {σ6 : L2.St} {H6 : Hp} {Q : Shared → Prop}, Inv (X.suite a ((a, oe4) :: (X.pn ++ pins))) [] σ6 H6 s6 → (∀ s7, H6 a = none → Inv X pins (σ6.set i none) (upd H6 a (xob a cls d)) s7 → Inv X pins (σ6.set i none) H6 s7 → Q s7) →
              wpAny (model X.prog X.w) X.A (do bindName X.env n .none; unbindBehindTheSuite X.env n pos') (fun _ s7 => Q s7) X.xe s6 := fun {σ6 H6 Q} S6 hq => by
            have U : Inv X ((a, oe4) :: pins) σ6 H6 s6 := ⟨ok, S6.os, S6.bare, S6.base, S6.loc, S6.cell, S6.free, S6.freeC, fun p hp => S6.pin p (by
              refine List.mem_append_left _ ?_
              rcases List.mem_append.mp hp with z | z
              · exact List.mem_cons_of_mem _ (List.mem_append_left _ z)
              · rcases List.mem_cons.mp z with z | z
                · exact z ▸ List.mem_cons_self
                · exact List.mem_cons_of_mem _ (List.mem_append_right _ z)), S6.hok, S6.len⟩
            refine gone_ok U hN hi hln fun s7 J7 => ?_
            obtain ⟨q1, q2, q3, q4, q5⟩ := J7.pin (a, oe4) (List.mem_append_right _ List.mem_cons_self)
            have J8 : Inv X pins (σ6.set i none) H6 s7 := ⟨ok, J7.os, J7.bare, J7.base, J7.loc, J7.cell, J7.free, J7.freeC, fun p hp => J7.pin p (by
              rcases List.mem_append.mp hp with z | z
              · exact List.mem_append_left _ z
              · exact List.mem_append_right _ (List.mem_cons_of_mem _ z)), J7.hok, J7.len⟩
            exact hq s7 q2 (inv_track J8 q1 hz4 hd4 q2 h0 nL np) J8
          cases f with
          | next =>
            obtain ⟨σ6, H6, S6, q6⟩ := hsp
            exact end_ S6 fun s7 n7 J7 _ => ⟨_, _, J7, q6 n7⟩
          | brk =>
            obtain ⟨σ6, H6, S6, q6⟩ := hsp
            exact end_ S6 fun s7 n7 J7 _ => ⟨_, _, J7, q6 n7⟩
          | cont =>
            obtain ⟨σ6, H6, S6, q6⟩ := hsp
            exact end_ S6 fun s7 n7 J7 _ => ⟨_, _, J7, q6 n7⟩
          | ret u =>
            obtain ⟨v6, σ6, H6, S6, r6, q6⟩ := hsp
            exact end_ S6 fun s7 n7 _ J8 => ⟨_, _, _, J8, r6, q6⟩
        | false =>
          show wpAny _ X.A (handleBy (.ref a) X.env hds2) _ _ _
          exact ih h5 fl5 up5 (hno rfl)
    exact go hh _ fl3 hup w
  · cases f with
    | next =>
      obtain ⟨σ', H', J', q⟩ := hsp
      exact wpAny_execs_nil ⟨σ', H', J'.ofTry ok, q⟩
    | brk =>
      obtain ⟨σ', H', J', q⟩ := hsp
      exact ⟨σ', H', J'.ofTry ok, q⟩
    | cont =>
      obtain ⟨σ', H', J', q⟩ := hsp
      exact ⟨σ', H', J'.ofTry ok, q⟩
    | ret u =>
      obtain ⟨v, σ', H', J', r, q⟩ := hsp
      exact ⟨v, σ', H', J'.ofTry ok, r, q⟩
end
/-! ### what is asked of a kept exception -/
theorem xob_at {P : Program} {w : World} {H : Hp} {h : Heap} {a : Addr} {cls : Value} {d : Option Addr} (ok : HOk P w H h) (e : H a = some (xob a cls d)) : ∃ (oe : Obj) (vs : Array Value), h.get? a = some oe ∧ oe.cls = cls ∧ oe.dict = d ∧ oe.data = .fields vs := (ok a _ e).1
def rIsK (K : PySem.W.Frag) : List V → Hp → VK → Prop := fun xs H Q => ∃ (a D dd : Addr) (fs : List (Str × V)) (c : V) (cv : Value) (b : Bool), xs = [.ref a, c] ∧ ExcC K D ∧ H a = some (xob a (.ref D) (some dd)) ∧ H dd = some (.xd fs) ∧ (∀ u, RelV c u → u = cv) ∧ PySem.W.kitOne K (.ref D) cv = some b ∧ Q (.bl b) H
theorem call_isK {X : Cx} : CallR X (.builtin "isinstance") (rIsK X.K) := by
  intro pins s σ H xs us Q I r h
  obtain ⟨a, D, dd, fs, c, cv, b, rfl, G, ha, hd, hcv, e, q⟩ := h
  cases r with
  | cons rx rr =>
    cases rr with
    | cons rt rr =>
      cases rr
      cases rx
      obtain rfl := hcv _ rt
      obtain ⟨oe, vs, e1, e2, e3, e4⟩ := xob_at I.hok ha
      obtain ⟨mA, ns, _⟩ := (show ObjOk X.prog X.w H s.heap dd (.xd fs) from I.hok dd _ hd)
      obtain ⟨od, ho, _⟩ := lookIn_ns ns
      have J : PySem.W.InstAt s.heap a oe D (some od) := ⟨e1, e2, by unfold PySem.W.notCls; rw [e4] <;> rfl, by rw [e3]; exact ho⟩
      exact PySem.W.kia_one (kit_exc G) I.kIn J e (fun z => nomatch z) fun tk => ⟨.bl b, H, I.kept (t' := tk) fun _ _ z => z, rfl, q⟩
/-- e.f of a kept exception -/
def tXk (K : PySem.W.Frag) (f : Str) (te : TE) : TE := fun σ H Q => te σ H fun x H1 => ∃ (a C dd : Addr) (fs : List (Str × V)) (v : V), x = .ref a ∧ XfC K C ∧ PySem.W.findIn K (.ref C) f = some none ∧ H1 a = some (xob a (.ref C) (some dd)) ∧ H1 dd = some (.xd fs) ∧ fs.lookup f = some v ∧ Q v H1
theorem pe_xk {X : Cx} {e : Expr} {te : TE} {pos : Pos} {n : Str} (he : PE X e te) (hb : attributeBase e n X.env (eval e X.env) = eval e X.env := by rfl) : PE X (.Attribute e n pos) (tXk X.K n te) := by
  refine ⟨fun pins s σ H Q I h => attr_of hb (thn (he.run pins s σ H _ I h) fun u s1 hh => ?_)⟩
  obtain ⟨x, H1, I1, rx, a, C, dd, fs, v, rfl, T, hno, ha, ea, l, q⟩ := hh
  obtain rfl : u = Value.ref a := rx
  obtain ⟨oe, vs, e1, e2, e3, e4⟩ := xob_at I1.hok ha
  have hx : ObjOk X.prog X.w H1 s1.heap dd (.xd fs) := I1.hok dd _ ea
  obtain ⟨mA, hns, hr⟩ := hx
  obtain ⟨od, ho, hl⟩ := lookIn_ns hns
  obtain ⟨u, hu, ru⟩ := RelO.some_of (v := v) (o := mA n) (by rw [← l]; exact hr n)
  have J : PySem.W.InstAt s1.heap a oe C (some od) := ⟨e1, e2, by unfold PySem.W.notCls; rw [e4] <;> rfl, by rw [e3]; exact ho⟩
  exact HandSPX.exc_get I1.kIn J T.ga T.gg T.exC (PySem.W.findObj_own T.hdC hno rfl (by rw [hl, hu])) (handed_of ru) ⟨v, H1, I1.tok _, ru, q⟩
theorem xk {K : PySem.W.Frag} {σ : L2.St} {H : Hp} {Q : VK} {f : Str} {te : TE} (h : te σ H fun x H1 => ∃ (a C dd : Addr) (fs : List (Str × V)) (v : V), x = .ref a ∧ XfC K C ∧ PySem.W.findIn K (.ref C) f = some none ∧ H1 a = some (xob a (.ref C) (some dd)) ∧ H1 dd = some (.xd fs) ∧ fs.lookup f = some v ∧ Q v H1) : tXk K f te σ H Q := h
theorem ex_xob {H : Hp} {a : Addr} {cls : Value} {d : Option Addr} (h : H a = none) : Rd.Ex H (upd H a (xob a cls d)) := Rd.ex_new h
end Gx

set_option Elab.async false
set_option linter.all false
set_option maxRecDepth 100000
set_option maxHeartbeats 1000000
/-! texts of repr hold signs only -/
namespace Gx
open PySem PySem.Spec PyProof.Rows L2
theorem char_lt (c : Char) : c.toNat < 0x110000 := by
  have h := c.valid
  rcases h with h | ⟨_, h⟩
  · exact Nat.lt_trans h (by decide)
  · exact h
theorem ofString_ok (s : String) : PyData.strOk (Str.ofString s) = true := by
  unfold PyData.strOk
  simp only [Str.ofString, cpsOfBytes_string]
  rw [Array.all_eq_true']
  intro c hc
  rw [decide_eq_true_eq]
  obtain ⟨a, _, rfl⟩ := List.mem_map.mp (by simpa using hc)
  exact char_lt _
theorem intText_ok (i : Int) : PyData.strOk (PyData.shown (.int i)) = true := by
  simp only [PyData.shown]
  exact ofString_ok _
theorem hex_ok {w c : Nat} : ∀ x ∈ List.replicate (w - ((Nat.toDigits 16 c).map Char.toNat).length) 48 ++ (Nat.toDigits 16 c).map Char.toNat, x < 0x110000 := by
  intro x hx
  rcases List.mem_append.mp hx with h | h
  · rw [(List.mem_replicate.mp h).2]; decide
  · obtain ⟨a, _, rfl⟩ := List.mem_map.mp h
    exact char_lt a
theorem reprChar_ok (q c : Nat) (hc : c < 0x110000) : ∀ x ∈ Builtin.Str.reprChar q c, x < 0x110000 := by
  have h2 := @hex_ok 2 c
  have h4 := @hex_ok 4 c
  have h8 := @hex_ok 8 c
  unfold Builtin.Str.reprChar
  dsimp only
  intro x hx
  repeat' split at hx
  all_goals first
    | (simp only [List.mem_cons, List.not_mem_nil, or_false] at hx; omega)
    | (rcases List.mem_append.mp hx with h | h
       · simp only [List.mem_cons, List.not_mem_nil, or_false] at h; omega
       · first | exact h2 x h | exact h4 x h | exact h8 x h)
theorem reprText_ok {z : Str} (h : ∀ c ∈ z.cps.toList, c < 0x110000) : PyData.strOk (reprText z) = true := by
  have hq : reprQuote z < 0x110000 := by
    unfold reprQuote
    split <;> decide
  have key : ∀ (l : List Nat) (acc : Array Nat), (∀ c ∈ l, c < 0x110000) → (∀ c ∈ acc, c < 0x110000) → ∀ c ∈ l.foldl (fun out c => out ++ (Builtin.Str.reprChar (reprQuote z) c).toArray) acc, c < 0x110000 := by
    intro l
    induction l with
    | nil => intro acc _ ha; exact ha
    | cons a l ih =>
      intro acc hl ha
      refine ih _ (fun c hc => hl c (List.mem_cons_of_mem _ hc)) fun c hc => ?_
      rcases Array.mem_append.mp hc with h | h
      · exact ha c h
      · exact reprChar_ok _ a (hl a (List.mem_cons_self ..)) c (by simpa using h)
  unfold PyData.strOk reprText
  rw [Array.all_eq_true']
  intro c hc
  rw [decide_eq_true_eq]
  rcases Array.mem_push.mp hc with h' | h'
  · rw [← Array.foldl_toList] at h'
    refine key z.cps.toList _ h (fun c hc => ?_) c h'
    have : c = reprQuote z := by simpa using hc
    rw [this]; exact hq
  · rw [h']; exact hq
theorem strText_ok {z : Str} (h : ∀ c ∈ z.cps.toList, c < 0x110000) : PyData.strOk (PyData.shown (.str z)) = true := by
  simp only [PyData.shown]
  exact reprText_ok h
end Gx

set_option Elab.async false
set_option linter.all false
set_option maxRecDepth 100000
set_option maxHeartbeats 1000000
/-! numbers in bounds, or refused by an exception of one field -/
namespace Pr
open PySem PySem.Spec PyProof.Rows L2
/-- a value as a number in its bounds -/
inductive Nm (lo hi : Int) (H : Hp) : V → Option Int → Prop
  | int (n : Int) : Nm lo hi H (.int n) (if lo ≤ n ∧ n ≤ hi then some n else none)
  | non {v : V} (h : NonInt H v) : Nm lo hi H v none
theorem Nm.good {lo hi n : Int} {H : Hp} (h : lo ≤ n ∧ n ≤ hi) : Nm lo hi H (.int n) (some n) := by
  have z := Nm.int (lo := lo) (hi := hi) (H := H) n
  rwa [if_pos h] at z
theorem Nm.bad {lo hi n : Int} {H : Hp} (h : ¬ (lo ≤ n ∧ n ≤ hi)) : Nm lo hi H (.int n) none := by
  have z := Nm.int (lo := lo) (hi := hi) (H := H) n
  rwa [if_neg h] at z
/-- what is refused -/
abbrev Out (lo hi : Int) (H : Hp) (v : V) : Prop := Nm lo hi H v none
theorem NonInt.ex {H H' : Hp} {v : V} (e : Rd.Ex H H') (h : NonInt H v) : NonInt H' v := by
  rcases h with h | h | h | ⟨a, xs, h, k⟩ | ⟨a, xs, h, k⟩ | ⟨a, xs, h, k⟩
  · exact .inl h
  · exact .inr (.inl h)
  · exact .inr (.inr (.inl h))
  · exact .inr (.inr (.inr (.inl ⟨a, xs, h, e _ _ k⟩)))
  · exact .inr (.inr (.inr (.inr (.inl ⟨a, xs, h, e _ _ k⟩))))
  · exact .inr (.inr (.inr (.inr (.inr ⟨a, xs, h, e _ _ k⟩))))
theorem Nm.ex {lo hi : Int} {H H' : Hp} {v : V} {r : Option Int} (e : Rd.Ex H H') (h : Nm lo hi H v r) : Nm lo hi H' v r := by
  cases h with
  | int n => exact .int n
  | non h => exact .non (NonInt.ex e h)
theorem Nm.inv {lo hi : Int} {H : Hp} {v : V} {r : Option Int} (h : Nm lo hi H v r) : (∃ n, v = .int n ∧ r = some n ∧ lo ≤ n ∧ n ≤ hi) ∨ (∃ n, v = .int n ∧ r = none ∧ ¬ (lo ≤ n ∧ n ≤ hi)) ∨ (NonInt H v ∧ r = none) := by
  cases h with
  | int n =>
    by_cases c : lo ≤ n ∧ n ≤ hi
    · exact .inl ⟨n, rfl, if_pos c, c⟩
    · exact .inr (.inl ⟨n, rfl, if_neg c, c⟩)
  | non h => exact .inr (.inr ⟨h, rfl⟩)
/-- exception of the class CE with the value v in its field fl -/
def Xs (CE : Addr) (fl : Str) (v : V) (H : Hp) (E : XK) : Prop := ∀ d H', H d = none → Rd.Ex H H' → H' d = some (.xd [(fl, v)]) → E (.ref CE) (some d) H'
theorem ex_none {H H1 : Hp} {p : Addr} (e : Rd.Ex H H1) (h : H1 p = none) : H p = none := by
  cases hh : H p with
  | none => rfl
  | some o => rw [e p o hh] at h; cases h
theorem Xs.ex {CE : Addr} {fl : Str} {v : V} {H H' : Hp} {E : XK} (e : Rd.Ex H H') (h : Xs CE fl v H E) : Xs CE fl v H' E := fun d H2 hd e2 k => h d H2 (ex_none e hd) (e.trans e2) k
theorem Xs.mk {C : Addr} {fl : Str} {v : V} {H : Hp} {Q : XK} (h : Xs C fl v H Q) :
    [v].length ≤ 1000 ∧ ∀ a, H a = none → Gx.spExc C fl (.ref a :: ([v] ++ [])) (upd H a (exo a C none))
      (fun r H2 => r = .non ∧ ∃ (d : Addr) (fs : List (Str × V)), H2 a = some (exo a C (some d)) ∧ H2 d = some (exd d fs) ∧ H d = none ∧ Q (.ref C) (some d) (upd (del H2 a) d (.xd fs))) (fun _ _ _ => False) := Gx.mkO h
/-- need: None, or the exception -/
def spNeedX (CE : Addr) (lo hi : Int) : Sp := fun vs H Q E => ∃ v r, vs = [v] ∧ Nm lo hi H v r ∧ (∀ n, v = .int n → r = some n → lo ≤ n → n ≤ hi → Q .non H) ∧ (r = none → Xs CE "given" v H E)
theorem u_needX {CE : Addr} {lo hi n : Int} {H : Hp} {Q : VK} {E : XK} (h1 : lo ≤ n) (h2 : n ≤ hi) (q : Q .non H) : spNeedX CE lo hi ([.int n] ++ []) H Q E := ⟨.int n, some n, rfl, Nm.good ⟨h1, h2⟩, fun _ _ _ _ _ => q, fun z => by cases z⟩
theorem u_needB {CE : Addr} {lo hi : Int} {v : V} {H : Hp} {Q : VK} {E : XK} (h : Out lo hi H v) (q : Xs CE "given" v H E) : spNeedX CE lo hi ([v] ++ []) H Q E := ⟨v, none, rfl, h, fun n _ z => (by cases z), fun _ => q⟩
theorem Out.is {lo hi : Int} {H : Hp} {v : V} {Q : VK} {E : XK} (h : Out lo hi H v) (q : Q (.bl false) H) : spIs lo hi ([v] ++ []) H Q E := by
  refine ⟨v, rfl, ?_⟩
  rcases h.inv with ⟨n, _, z, _⟩ | ⟨n, rfl, _, c⟩ | ⟨h', _⟩
  · cases z
  · exact .inl ⟨n, rfl, by rw [decide_eq_false c]; exact q⟩
  · exact .inr ⟨h', q⟩
theorem Nm.is {lo hi : Int} {H : Hp} {v : V} {r : Option Int} {Q : VK} {E : XK} (h : Nm lo hi H v r) (q : Q (.bl r.isSome) H) : spIs lo hi ([v] ++ []) H Q E := by
  refine ⟨v, rfl, ?_⟩
  rcases h.inv with ⟨n, rfl, rfl, c⟩ | ⟨n, rfl, rfl, c⟩ | ⟨h', rfl⟩
  · exact .inl ⟨n, rfl, by rw [decide_eq_true c]; exact q⟩
  · exact .inl ⟨n, rfl, by rw [decide_eq_false c]; exact q⟩
  · exact .inr ⟨h', q⟩
/-- no tuple -/
def NonTup (H : Hp) (v : V) : Prop := v = .non ∨ (∃ b, v = .bl b) ∨ (∃ n, v = .int n) ∨ (∃ s, v = .str s) ∨ (∃ a xs, v = .ref a ∧ H a = some (.lst xs)) ∨ ∃ a kvs, v = .ref a ∧ H a = some (.dK kvs)
theorem kit_tp (K : PySem.W.Frag) : PySem.W.kitOne K (.type "NoneType") (.type "tuple") = some false ∧ PySem.W.kitOne K (.type "bool") (.type "tuple") = some false ∧ PySem.W.kitOne K (.type "int") (.type "tuple") = some false ∧ PySem.W.kitOne K (.type "str") (.type "tuple") = some false ∧
    PySem.W.kitOne K (.type "tuple") (.type "tuple") = some true ∧ PySem.W.kitOne K (.type "list") (.type "tuple") = some false ∧ PySem.W.kitOne K (.type "dict") (.type "tuple") = some false := by
  refine ⟨?_, ?_, ?_, ?_, ?_, ?_, ?_⟩ <;> first | rfl | decide +kernel | kernel_rfl
theorem isiB' {K : PySem.W.Frag} {H : Hp} {Q : VK} {v : V} {t : String} {T : Value} {r : Bool} (h : TyX K H v T) (k : PySem.W.kitOne K T (.type t) = some r) (q : Q (.bl r) H) : rIsi K [v, .ty t] H Q := ⟨_, _, T, _, r, rfl, .ty _, h, k, q⟩
theorem isNT {K : PySem.W.Frag} {H : Hp} {Q : VK} {v : V} (h : NonTup H v) (q : Q (.bl false) H) : rIsi K [v, .ty "tuple"] H Q := by
  obtain ⟨k1, k2, k3, k4, k5, k6, k7⟩ := kit_tp K
  rcases h with rfl | ⟨b, rfl⟩ | ⟨n, rfl⟩ | ⟨s, rfl⟩ | ⟨a, xs, rfl, ha⟩ | ⟨a, kvs, rfl, ha⟩
  · exact isiB' (.base .non) k1 q
  · exact isiB' (.base (.bl b)) k2 q
  · exact isiB' (.base (.int n)) k3 q
  · exact isiB' (.base (.str s)) k4 q
  · exact isiB' (.base (.lst ha)) k6 q
  · exact isiB' (.base (.dK ha)) k7 q
theorem isTT {K : PySem.W.Frag} {H : Hp} {Q : VK} {a : Addr} {xs : List V} (h : H a = some (.tup xs)) (q : Q (.bl true) H) : rIsi K [.ref a, .ty "tuple"] H Q := isiB' (.base (.tup h)) (kit_tp K).2.2.2.2.1 q
end Pr
namespace Gx
open PySem PySem.Spec PyProof.Rows L2
theorem exm3 {K : PySem.W.Frag} {cls c1 c2 c3 : Value} {b1 b2 b3 : Bool} (h1 : PySem.W.exmOne K cls c1 = some b1) (h2 : PySem.W.exmOne K cls c2 = some b2) (h3 : PySem.W.exmOne K cls c3 = some b3) : PySem.W.exmAny K cls [c1, c2, c3] = some (b1 || (b2 || (b3 || false))) := by
  simp only [PySem.W.exmAny, h1, h2, h3]
theorem exm2 {K : PySem.W.Frag} {cls c1 c2 : Value} {b1 b2 : Bool} (h1 : PySem.W.exmOne K cls c1 = some b1) (h2 : PySem.W.exmOne K cls c2 = some b2) : PySem.W.exmAny K cls [c1, c2] = some (b1 || (b2 || false)) := by
  simp only [PySem.W.exmAny, h1, h2]
/-- law itself makes lambdas -/
theorem fnGc {P : Program} {w : World} {K : PySem.W.Frag} {mg : Str → Option Value} {base : Heap} {x : Str} {st : Stmt} {f c : Addr} {fd : FuncData} {N ps : List Str} {k : Nat} {sp : Sp} (F : LamDef K mg x st f c fd) (S : FnScope N ps (C8.fnScope st))
    (len : ∀ vs H Q E, sp vs H Q E → vs.length = ps.length)
    (hbody : ∀ (A : Around) (outer : List Env) (s : Shared) (H : Hp) (vs : List V) (Q : VK), A.guards = some [] → Room k (A.deeper (envOfC x (C8.fnScope st) s.heap.objs.size f (.ref c))) → sp vs H Q C8.E0 →
      ∃ t, PSs (cxOf C8.CX0 P w K mg base N x (C8.fnScope st) f (.ref c) A outer s H C8.E0).nox (C8.fnBody st) t ∧ t { nx := fun _ H' => Q .non H', rt := Q } (start N vs) H) : FnG P w K mg base (k + 1) f fd ps sp := by
  obtain ⟨oc, od, dV, kV, doc, pm, an, ct, osl, rfl, lk, hcd⟩ := F.ex
  refine ⟨len, fun A outer s H args us vs Q hg hr e0 hb r hsp => LamX.run_ofS (CX := C8.CX0) (E := C8.E0) lk hcd S hr e0 hb r (len _ _ _ _ hsp) fun hr' => ?_⟩
  obtain ⟨t, h, q⟩ := hbody A outer s H vs Q hg hr' hsp
  exact ⟨t, h.nox, q⟩
theorem isBl {a b : Bool} {H : Hp} {Q : VK} (q : Q (.bl (decide (a = b))) H) : rIsB (.bl a) (.bl b) H Q := ⟨a, b, rfl, rfl, q⟩
theorem notBl {a b : Bool} {H : Hp} {Q : VK} (q : Q (.bl (!decide (a = b))) H) : rNotB (.bl a) (.bl b) H Q := ⟨a, b, rfl, rfl, q⟩
theorem isNn {v : V} {H : Hp} {Q : VK} (q : Q (.bl (decide (v = .non))) H) : V.non = .non ∧ Q (.bl (decide (v = .non))) H := ⟨rfl, q⟩
/-- written objects that stand -/
def Hold (L : List (Addr × HO)) (H : Hp) : Prop := ∀ x ∈ L, H x.1 = some x.2
def Plain (L : List (Addr × HO)) : Prop := ∀ x ∈ L, (∃ xs, x.2 = .tup xs) ∨ ∃ xs, x.2 = .lst xs
section
variable {L : List (Addr × HO)} {H H' : Hp}
theorem Hold.ex (h : Hold L H) (e : Rd.Ex H H') : Hold L H' := fun x hx => e _ _ (h x hx)
theorem Hold.extn (h : Hold L H) (p : Plain L) (e : LamX.ExtN H H') : Hold L H' := fun x hx => e _ _ (h x hx) fun ps z => by
  rcases p x hx with ⟨xs, y⟩ | ⟨xs, y⟩ <;> (rw [y] at z; cases z)
/-- all but one object, no tuple and no list, stand -/
theorem Hold.exp (h : Hold L H) (p : Plain L) {d : Addr} {o : HO} (hd : H d = some o) (n1 : ∀ xs, o ≠ .tup xs) (n2 : ∀ xs, o ≠ .lst xs) (e : Au.ExP d H H') : Hold L H' := fun x hx => e _ _ (h x hx) fun z => by
  have k := h x hx
  rw [z, hd] at k
  cases k
  rcases p x hx with ⟨xs, y⟩ | ⟨xs, y⟩
  · exact n1 xs y
  · exact n2 xs y
/-- an object that was not there then is changed -/
theorem Hold.new {H0 : Hp} (h : Hold L H) (h0 : Hold L H0) {d : Addr} (hd : H0 d = none) (e : Au.ExP d H H') : Hold L H' := fun x hx => e _ _ (h x hx) fun z => by
  have k := h0 x hx
  rw [z, hd] at k
  cases k
theorem Hold.cons {a : Addr} {o : HO} (h : Hold L H) (k : H a = some o) : Hold ((a, o) :: L) H := fun x hx => by
  rcases List.mem_cons.mp hx with rfl | hx
  · exact k
  · exact h x hx
theorem Hold.nil : Hold [] H := fun x hx => by cases hx
theorem Plain.nil : Plain [] := fun x hx => by cases hx
theorem Plain.tup {a : Addr} {xs : List V} (h : Plain L) : Plain ((a, .tup xs) :: L) := fun x hx => by
  rcases List.mem_cons.mp hx with rfl | hx
  · exact .inl ⟨_, rfl⟩
  · exact h x hx
theorem Plain.lst {a : Addr} {xs : List V} (h : Plain L) : Plain ((a, .lst xs) :: L) := fun x hx => by
  rcases List.mem_cons.mp hx with rfl | hx
  · exact .inr ⟨_, rfl⟩
  · exact h x hx
theorem Hold.at {a : Addr} {o : HO} (i : Nat) (h : Hold L H) (hi : L[i]? = some (a, o)) : H a = some o := h (a, o) (List.mem_of_getElem? hi)
end
end Gx

set_option Elab.async false
set_option linter.all false
set_option maxRecDepth 100000
set_option maxHeartbeats 1000000
/-! classes whose making may raise; static and class methods, operators that may raise; a class held by a variable -/
namespace Gx
open PySem PySem.Spec PyProof.Rows L2 GenW
structure MakX (P : Program) (w : World) (K : PySem.W.Frag) (mg : Str → Option Value) (base : Heap) (k : Nat) (x : Str) (C : Addr) (sp : Sp) (dvs : List V) : Prop where
  ex : ∃ (f : Addr) (fd : FuncData) (ps : List Str) (ds : List Value), Mk K C f ∧ FnOk P w K mg base (CX P w) k f fd ps sp ∧ mg x = some (.ref C) ∧ Binds K fd ps ds ∧ Vals dvs ds
section
variable {P : Program} {w : World} {K : PySem.W.Frag} {mg : Str → Option Value} {base : Heap}
theorem fnX {x qual : Str} {st : Stmt} {f : Addr} {fd : FuncData} {N ps : List Str} {k : Nat} {sp : Sp} (F : C8.Fun K x qual st f fd) (S : FnScope N ps (C8.fnScope st)) (len : ∀ vs H Q E, sp vs H Q E → vs.length = ps.length)
    (hbody : ∀ (cdv : Value) (A : Around) (outer : List Env) (s : Shared) (H : Hp) (vs : List V) (Q : VK) (E : XK), Room k (A.deeper (envOfC qual (C8.fnScope st) s.heap.objs.size f cdv)) → sp vs H Q E →
      ∃ t, PSs (cxOf (CX P w) P w K mg base N qual (C8.fnScope st) f cdv A outer s H E) (C8.fnBody st) t ∧ t { nx := fun _ H' => Q .non H', rt := Q } (start N vs) H) : FnOk P w K mg base (CX P w) (k + 1) f fd ps sp := by
  obtain ⟨oc, od, dV, kV, doc, pm, an, cdv, ct, osl, rfl, lk, hcd⟩ := F.ex
  exact fn_of lk hcd S len (hbody cdv)
theorem makX {x qual : Str} {C : Addr} {st : Stmt} {f : Addr} {fd : FuncData} {N ps : List Str} {k : Nat} {sp : Sp} (M : Mk K C f) (hm : mg x = some (.ref C)) (F : C8.Fun K "__init__" qual st f fd) (b : Binds K fd ps []) (S : FnScope N ps (C8.fnScope st)) (len : ∀ vs H Q E, sp vs H Q E → vs.length = ps.length)
    (hbody : ∀ (cdv : Value) (A : Around) (outer : List Env) (s : Shared) (H : Hp) (vs : List V) (Q : VK) (E : XK), Room k (A.deeper (envOfC qual (C8.fnScope st) s.heap.objs.size f cdv)) → sp vs H Q E →
      ∃ t, PSs (cxOf (CX P w) P w K mg base N qual (C8.fnScope st) f cdv A outer s H E) (C8.fnBody st) t ∧ t { nx := fun _ H' => Q .non H', rt := Q } (start N vs) H) : MakX P w K mg base (k + 1) x C sp [] :=
  ⟨f, fd, ps, [], M, fnX F S len hbody, hm, b, .nil⟩
end
section
variable {X : Cx} {k j i : Nat} {C : Addr} {x : Str} {sp : Sp} {dvs : List V} {p pos : Pos} {e : Expr} {es : List Expr} {t : TA} {W : WX} {E : XK}
theorem pe_mkx (c : MakX X.prog X.w X.K X.mg X.base k x C sp dvs) (tk : Takes X W) (hW : ∀ cls d σ H, E cls d H → W cls d σ H) (hr : Room j X.A) (hk : k + 1 ≤ j) (hg : Gl X x) (ha : PA X (e :: es) t)
    (hdb : (x == ("__debug__" : Str)) = false := by decide) (he : starEach (e :: es) X.env = (false, eval e X.env) :: starEach es X.env := by rfl) (hpl : (backTo pos (starEach es X.env)).any (·.1) = false := by rfl) :
    PE X (.Call (.Name x p) (e :: es) [] pos) (tMake C sp dvs E t) := by
  obtain ⟨f, fd, ps, ds, M, F, hm, b, d⟩ := c.ex
  exact pe_make M F (hr.mono hk) hg hm b d (passes_call tk hW) ha hdb he hpl
/-- cls(..): the class is held by the i-th slot -/
def tMakeV (i : Nat) (C : Addr) (sp : Sp) (dvs : List V) (E : XK) (t : TA) : TE := fun σ H Q => σ[i]? = some (some (.ref C)) ∧ tMake C sp dvs E t σ H Q
theorem pe_mkv {y : Str} (c : MakX X.prog X.w X.K X.mg X.base k x C sp dvs) (tk : Takes X W) (hW : ∀ cls d σ H, E cls d H → W cls d σ H) (hr : Room j X.A) (hk : k + 1 ≤ j) (hN : X.N[i]? = some y) (hv : Vis X.env.scope y) (ha : PA X (e :: es) t)
    (hdb : (y == ("__debug__" : Str)) = false := by decide) (hcd : (y == ("__classdict__" : Str)) = false := by decide) (he : starEach (e :: es) X.env = (false, eval e X.env) :: starEach es X.env := by rfl) (hpl : (backTo pos (starEach es X.env)).any (·.1) = false := by rfl) :
    PE X (.Call (.Name y p) (e :: es) [] pos) (tMakeV i C sp dvs E t) := by
  obtain ⟨f, fd, ps, ds, M, F, hm, b, d⟩ := c.ex
  refine ⟨fun pins s σ H Q I h => ?_⟩
  obtain ⟨hs, h⟩ := h
  refine wpAny_Call_Name_kw (thn ((pe_var (pos := p) (i := i) hN hv hdb hcd).run pins s σ H (fun v H1 => v = .ref C ∧ H1 = H) I ⟨.ref C, hs, rfl, rfl⟩) fun u s1 got => ?_)
  obtain ⟨v, H1, I1, r1, ev, eH⟩ := got
  subst ev
  rw [eH] at I1
  obtain rfl : u = Value.ref C := r1
  refine PySem.W.callWith_K (h₀ := X.base) I1.ok.mod.kin M.kp (thn (ha.run pos pins s1 σ H _ I1 h) fun us s2 got => ?_) he hpl
  obtain ⟨vs, H2, I2, r, q⟩ := got
  exact ⟨I2.kIn, run_make M F (hr.mono hk) b d (passes_call tk hW) I2 r q⟩
end
/-! ### a static method that may raise -/
structure SMetX (P : Program) (w : World) (K : PySem.W.Frag) (mg : Str → Option Value) (base : Heap) (k : Nat) (C : Addr) (m : Str) (sp : Sp) : Prop where
  ex : ∃ (f : Addr) (fd : FuncData) (ps : List Str), SAt K C m f ∧ FnOk P w K mg base (CX P w) k f fd ps sp ∧ Binds K fd ps []
theorem smetX {P : Program} {w : World} {K : PySem.W.Frag} {mg : Str → Option Value} {base : Heap} {m qual : Str} {C : Addr} {st : Stmt} {f : Addr} {fd : FuncData} {N ps : List Str} {k : Nat} {sp : Sp} (me : SAt K C m f) (F : C8.Fun K m qual st f fd) (b : Binds K fd ps []) (S : FnScope N ps (C8.fnScope st))
    (len : ∀ vs H Q E, sp vs H Q E → vs.length = ps.length)
    (hbody : ∀ (cdv : Value) (A : Around) (outer : List Env) (s : Shared) (H : Hp) (vs : List V) (Q : VK) (E : XK), Room k (A.deeper (envOfC qual (C8.fnScope st) s.heap.objs.size f cdv)) → sp vs H Q E →
      ∃ t, PSs (cxOf (CX P w) P w K mg base N qual (C8.fnScope st) f cdv A outer s H E) (C8.fnBody st) t ∧ t { nx := fun _ H' => Q .non H', rt := Q } (start N vs) H) : SMetX P w K mg base (k + 1) C m sp :=
  ⟨f, fd, ps, me, fnX F S len hbody, b⟩
def tSMethX (C : Addr) (sp : Sp) (E : XK) (ta : TE) (t : TA) : TE := fun σ H Q => ta σ H fun x H1 => x = .ref C ∧ t σ H1 fun vs H2 => sp (vs ++ []) H2 Q E
section
variable {X : Cx} {k j : Nat} {C : Addr} {m : Str} {sp : Sp} {pos apos : Pos} {e o : Expr} {es : List Expr} {ta : TE} {t : TA} {pl : Sem Bool} {W : WX} {E : XK}
theorem pe_smx (c : SMetX X.prog X.w X.K X.mg X.base k C m sp) (tk : Takes X W) (hW : ∀ cls d σ H, E cls d H → W cls d σ H) (hr : Room j X.A) (hk : k ≤ j) (he : PE X o ta) (ha : PA X (e :: es) t)
    (hst : starEach (e :: es) X.env = (false, eval e X.env) :: starEach es X.env := by rfl) (hpl : (backTo pos (starEach es X.env)).any (·.1) = false := by rfl)
    (ht : eval (.Call (.Attribute o m apos) (e :: es) [] pos) X.env = (do
      let ov ← eval o X.env
      standAt apos.atName
      let (f, first) ← holding [ov] (getMethod ov m pl)
      callWith pos f first (backTo pos (starEach (e :: es) X.env)) (backToKw pos (keywordEach [] X.env))) := by rfl) :
    PE X (.Call (.Attribute o m apos) (e :: es) [] pos) (tSMethX C sp E ta t) := by
  obtain ⟨f, fd, ps, ⟨mc, pp, rest, r, a, b1, kp⟩, F, b⟩ := c.ex
  refine ⟨fun pins s σ H Q I h => PySem.W.methodCall_KW (pl := pl) (thn (he.run pins s σ H _ I h) fun u s1 got => ?_) ht⟩
  obtain ⟨x, H1, I1, rx, ex, q⟩ := got
  subst ex
  obtain rfl : u = Value.ref C := rx
  refine PySem.W.method_cls I1.kIn r.ga (PySem.W.cls_bind I1.kIn r.rd a (wpAny_call (PySem.W.sm_get (s := { s1 with toks := s1.toks + 1 }) I1.kIn b1 (PySem.W.handed_on rfl ?_))))
  refine PySem.W.callWith_K (first := []) (h₀ := X.base) I.ok.mod.kin kp (thn (ha.run pos pins _ σ H1 _ (I1.tok (s1.toks + 1)) q) fun us s2 got => ?_) hst hpl
  obtain ⟨vs, H2, I3, rv, q2⟩ := got
  exact ⟨I3.kIn, run_fn F (hr.mono hk) b .nil (passes_call tk hW) I3 rv q2⟩
end
theorem smeX {C : Addr} {sp : Sp} {E : XK} {ta : TE} {t : TA} {σ : L2.St} {H : Hp} {Q : VK} (h : ta σ H fun x H1 => x = .ref C ∧ t σ H1 fun vs H2 => sp (vs ++ []) H2 Q E) : tSMethX C sp E ta t σ H Q := h
/-! ### a class method -/
structure CAt (K : PySem.W.Frag) (C : Addr) (m : Str) (f : Addr) : Prop where
  ex : ∃ (mc : Value) (p : Addr), ClX.CRead K C mc ∧ ClX.CMet K C mc m p f
structure CMetX (P : Program) (w : World) (K : PySem.W.Frag) (mg : Str → Option Value) (base : Heap) (k : Nat) (C : Addr) (m : Str) (sp : Sp) : Prop where
  ex : ∃ (f : Addr) (fd : FuncData) (ps : List Str), CAt K C m f ∧ FnOk P w K mg base (CX P w) k f fd ps sp ∧ Binds K fd ps []
theorem cmetX {P : Program} {w : World} {K : PySem.W.Frag} {mg : Str → Option Value} {base : Heap} {m qual : Str} {C : Addr} {st : Stmt} {f : Addr} {fd : FuncData} {N ps : List Str} {k : Nat} {sp : Sp} (me : CAt K C m f) (F : C8.Fun K m qual st f fd) (b : Binds K fd ps []) (S : FnScope N ps (C8.fnScope st))
    (len : ∀ vs H Q E, sp vs H Q E → vs.length = ps.length)
    (hbody : ∀ (cdv : Value) (A : Around) (outer : List Env) (s : Shared) (H : Hp) (vs : List V) (Q : VK) (E : XK), Room k (A.deeper (envOfC qual (C8.fnScope st) s.heap.objs.size f cdv)) → sp vs H Q E →
      ∃ t, PSs (cxOf (CX P w) P w K mg base N qual (C8.fnScope st) f cdv A outer s H E) (C8.fnBody st) t ∧ t { nx := fun _ H' => Q .non H', rt := Q } (start N vs) H) : CMetX P w K mg base (k + 1) C m sp :=
  ⟨f, fd, ps, me, fnX F S len hbody, b⟩
section
variable {X : Cx} {k j : Nat} {C : Addr} {m : Str} {sp : Sp} {pos apos : Pos} {e o : Expr} {es : List Expr} {ta : TE} {t : TA} {pl : Sem Bool} {W : WX} {E : XK}
theorem pe_cmx (c : CMetX X.prog X.w X.K X.mg X.base k C m sp) (tk : Takes X W) (hW : ∀ cls d σ H, E cls d H → W cls d σ H) (hr : Room j X.A) (hk : k ≤ j) (he : PE X o ta) (ha : PA X (e :: es) t)
    (hst : starEach (e :: es) X.env = (false, eval e X.env) :: starEach es X.env := by rfl) (hpl : (backTo pos (starEach es X.env)).any (·.1) = false := by rfl)
    (ht : eval (.Call (.Attribute o m apos) (e :: es) [] pos) X.env = (do
      let ov ← eval o X.env
      standAt apos.atName
      let (f, first) ← holding [ov] (getMethod ov m pl)
      callWith pos f first (backTo pos (starEach (e :: es) X.env)) (backToKw pos (keywordEach [] X.env))) := by rfl) :
    PE X (.Call (.Attribute o m apos) (e :: es) [] pos) (ClX.tCMeth C (fun vs H Q E => sp (vs ++ []) H Q E) E ta t) := by
  obtain ⟨f, fd, ps, ⟨mc, pp, r, cm⟩, F, b⟩ := c.ex
  exact ClX.pe_cmeth (pl := pl) he r cm (F.raw b .nil) (hr.mono hk) (passes_call tk hW) ha hst hpl ht
end
theorem cmX {C : Addr} {sp : Sp} {E : XK} {ta : TE} {t : TA} {σ : L2.St} {H : Hp} {Q : VK} (h : ta σ H fun x H1 => x = .ref C ∧ t σ H1 fun vs H2 => sp (.ref C :: (vs ++ [])) H2 Q E) : ClX.tCMeth C (fun vs H Q E => sp (vs ++ []) H Q E) E ta t σ H Q := h
/-! ### an own operator that may raise, whatever the right side is -/
structure OwnT (K : PySem.W.Frag) (C : Addr) (nm T : String) : Prop where
  l1 : ∃ fo, PySem.W.findIn K (.type T) (PySem.dunder nm) = some fo
  l2 : ∃ ro, PySem.W.findIn K (.type T) (dunderR nm) = some ro
  sub : PySem.W.subIn K (.type T) (.ref C) = some false
structure OwnL (K : PySem.W.Frag) (C : Addr) (nm : String) : Prop where
  sf : PySem.W.selfFirst K C = true
  r : PySem.W.findIn K (.ref C) (dunderR nm) = some none
open PySem.W in
theorem bin_right {prog : Program} {w : World} {A : Around} {E : Value → Shared → Prop} {s : Shared} {K : Frag} {x C L f : Addr} {h₀ : Heap} {m : Str → Option Value} {ox : Obj} {od : Option Obj} {T : String} {op : Operator} {b : Value} {fo ro : Option Value} {Q : Value → Shared → Prop}
    (F : Fr h₀ L s.heap m) (X₀ : K.In h₀) (I : InstAt s.heap x ox C od) (hb : Looks (model prog w) s.heap (typeOf b) (.type T)) (o : OwnL K C op.info.2) (hs : findIn K (.ref C) (PySem.dunder op.info.2) = some (some (.ref f))) (hf : isFn K (.ref f) = true)
    (h1 : findIn K (.type T) (PySem.dunder op.info.2) = some fo) (h2 : findIn K (.type T) (dunderR op.info.2) = some ro) (hsub : subIn K (.type T) (.ref C) = some false)
    (h : wpAny (model prog w) A (call (.ref f) [.ref x, b]) (PySem.W.CmpBack Q) E s) : wpAny (model prog w) A (binaryOp op (.ref x) b) Q E s := by
  have KI := X₀.keeps F.keep
  obtain ⟨cd, rest, hcd, hmro⟩ := ksp_first o.sf
  have orr := o.r
  rcases hi : op.info with ⟨sym, nm'⟩
  rw [hi] at hs orr h1 h2
  dsimp only at hs orr h1 h2
  have tried := ksp_try KI I hs hf h
  obtain ⟨hp, gg, dd, tk, oss⟩ := s
  have M1 : Looks (model prog w) hp (typeOf (.ref x)) (.ref C) := I.type
  have M3 : Looks (model prog w) hp (fillsNumberSlot (.ref C) nm') true := fills_K KI hcd hmro hs
  have M4 := ksp_fillsT (M := model prog w) KI h1 h2
  have M5 : Looks (model prog w) hp (isSubtype (.type T) (.ref C)) false := looks_subIn KI hsub
  have M6 : Looks (model prog w) hp (numberSlotInPython (.ref C) nm') true := ksp_inPy KI hs orr (.inl rfl)
  have M7 : Looks (model prog w) hp (numberSlotInPython (.type T) nm') false := Looks.of_pure rfl
  have M8 : Looks (model prog w) hp (typeLookup (.type T) (dunderR nm')) ro := looks_findIn KI h2
  generalize hq : ((fo.isSome && !isSeqSlot fo) || (ro.isSome && !isSeqSlot ro)) = rgt at M4
  have nTC : (Value.ref C == Value.type T) = false := Bool.eq_false_iff.mpr fun z => by cases beq_iff_eq.mp z
  simp only [binaryOp, hi]
  refine wpAny_holding (wpAny_bind ?w0)
  case w0 =>
    unfold binaryOp1
    refine wpAny_bind (M1.at (wpAny_bind (hb.at (wpAny_bind (M3.at ?w1)))))
    case w1 =>
      simp only [nTC, Bool.false_eq_true, if_false]
      cases rgt <;> (ksp_lk; refine wpAny_mono tried (fun r s' hr' => ?_) fun _ _ z => z; obtain ⟨v, rfl, hv⟩ := hr'; ksp_lk; exact hv)
def rOwnX (K : PySem.W.Frag) (C : Addr) (nm : String) (sp : Sp) (E : XK) : V → V → Hp → VK → Prop := fun x y H Q => ∃ (a dx : Addr) (fs : List (Str × V)) (T : String), x = .ref a ∧ TyX K H y (.type T) ∧ OwnT K C nm T ∧ H a = some (.ins C dx fs) ∧ sp ([x, y] ++ []) H (fun v H' => (∃ b, v = .ref b) ∧ Q v H') E
section
variable {X : Cx} {k j : Nat} {C : Addr} {m : Str} {sp : Sp} {W : WX} {E : XK}
theorem op_ownX {op : Operator} (c : MetX X.prog X.w X.K X.mg X.base k C m sp) (tk : Takes X W) (hW : ∀ cls d σ H, E cls d H → W cls d σ H) (hr : Room j X.A) (hk : k ≤ j) (o : OwnL X.K C op.info.2) (hm : PySem.dunder op.info.2 = m) : OpR X (binaryOp op) (rOwnX X.K C op.info.2 sp E) := by
  intro pins s σ H x y v u Q I rx ry h
  obtain ⟨a, dx, fs, T, rfl, ty, ot, ha, q⟩ := h
  obtain rfl : v = Value.ref a := rx
  obtain ⟨f, fd, ps, hc, me, F, b⟩ := c.ex
  obtain ⟨mA, O, rr, _, _, _⟩ := ins_get I.hok ha
  obtain ⟨od, J, hl⟩ := O.look
  obtain ⟨m0, fr⟩ := I.fr
  obtain ⟨fo, h1⟩ := ot.l1
  obtain ⟨ro, h2⟩ := ot.l2
  obtain ⟨Pt, KT, hP, _⟩ := kit_of I ry ty
  subst hm
  refine bin_right fr I.mod.kin J (KT.ty _ _ I.kIn hP) o me.at_ me.fn h1 h2 ot.sub ?_
  refine thn (run_fn (us := [.ref a, u]) (vs := [.ref a, y]) F (hr.mono hk) b .nil (passes_call tk hW) I (.cons rfl (.cons ry .nil)) q) fun v s1 hv => ?_
  obtain ⟨x, H1, I1, r1, ⟨b1, rfl⟩, q1⟩ := hv
  obtain rfl : v = Value.ref b1 := r1
  exact (⟨.ref b1, H1, I1, rfl, q1⟩ : EP X pins σ Q (.ref b1) s1)
end
/-- what never raises may be called as what may -/
theorem fnOf0 {P : Program} {w : World} {K : PySem.W.Frag} {mg : Str → Option Value} {base : Heap} {k : Nat} {f : Addr} {fd : FuncData} {ps : List Str} {sp : Sp} (F : FnOk P w K mg base C8.CX0 k f fd ps sp) : FnOk P w K mg base (CX P w) k f fd ps sp :=
  ⟨F.len, fun A outer s H args us vs Q E hr e0 hb r h => codeAny_mono (F.run A outer s H args us vs Q E hr e0 hb r h) fun res s' hq => by
    cases res with
    | error e => exact (show False from hq).elim
    | ok fl => cases fl <;> exact hq⟩
theorem MakX.of0 {P : Program} {w : World} {K : PySem.W.Frag} {mg : Str → Option Value} {base : Heap} {k : Nat} {x : Str} {C : Addr} {sp : Sp} {dvs : List V} (c : C8.Mak P w K mg base k x C sp dvs) : MakX P w K mg base k x C sp dvs := by
  obtain ⟨f, fd, ps, ds, M, F, hm, b, d⟩ := c.ex
  exact ⟨f, fd, ps, ds, M, fnOf0 F, hm, b, d⟩
theorem makeV {i : Nat} {C : Addr} {sp : Sp} {dvs : List V} {E : XK} {t : TA} {σ : L2.St} {H : Hp} {Q : VK} (hs : σ[i]? = some (some (.ref C))) (h : tMake C sp dvs E t σ H Q) : tMakeV i C sp dvs E t σ H Q := ⟨hs, h⟩
/-- a text times a number -/
def rMulS : R2 := fun x y H Q => ∃ (z : Str) (n : Int), x = .str z ∧ y = .int n ∧ PySem.MulOk z n ∧ Q (.str (Txt.mul z n)) H
theorem op_mulS {X : Cx} : OpR X (binaryOp .Mult) rMulS := by
  intro pins s σ H x y v u Q I rx ry h
  obtain ⟨z, n, rfl, rfl, ok, q⟩ := h
  obtain ⟨t, rfl⟩ := rx
  obtain ⟨t', rfl⟩ := ry
  exact PySem.SB.mul ok fun a k => ⟨.str _, H, I.tok _, ⟨_, rfl⟩, q⟩
/-- what is wished of an exception may lean on the number of slots -/
theorem takesL {X : Cx} {W : WX} (tk : Takes X W) : Takes X (fun cls d σ H => σ.length = X.N.length → W cls d σ H) := fun u s' z => by
  obtain ⟨a, B, sI, pins, σ, H, cls, d, e, I, r1, r2, r3, r4, r5, r6, w⟩ := z
  exact tk u s' ⟨a, B, sI, pins, σ, H, cls, d, e, I, r1, r2, r3, r4, r5, r6, w I.len⟩
end Gx

set_option Elab.async false
set_option linter.all false
set_option maxRecDepth 100000
set_option maxHeartbeats 4000000
set_option exponentiation.threshold 2000
/-! texts of data with short texts within -/
namespace Gx
open PySem PySem.Spec PyProof.Rows L2
mutual
def SmS : PyData → Prop
  | .none => True
  | .bool _ => True
  | .int i => i.natAbs < 2 ^ 600
  | .str z => (PyData.str z).showable = true ∧ (PyData.str z).shown.length + 2 ≤ 612
  | .list xs => SmSAll xs
  | .tuple xs => SmSAll xs
  | .dict _ => False
def SmSAll : List PyData → Prop
  | [] => True
  | x :: xs => SmS x ∧ SmSAll xs
end
mutual
theorem smS_show : ∀ d : PyData, SmS d → d.showable = true
  | .none, _ => by simp only [PyData.showable]
  | .bool _, _ => by simp only [PyData.showable]
  | .int i, h => by
    simp only [PyData.showable, decide_eq_true_eq]
    exact Nat.lt_trans (log_lt (by decide) (show i.natAbs < 2 ^ 600 from by simpa only [SmS] using h)) (by decide)
  | .str z, h => (show (PyData.str z).showable = true ∧ _ from by simpa only [SmS] using h).1
  | .list xs, h => by
    simp only [PyData.showable]
    exact smS_showAll xs (by simpa only [SmS] using h)
  | .tuple xs, h => by
    simp only [PyData.showable]
    exact smS_showAll xs (by simpa only [SmS] using h)
  | .dict _, h => by simp only [SmS] at h
theorem smS_showAll : ∀ xs : List PyData, SmSAll xs → PyData.showableAll xs = true
  | [], _ => by simp only [PyData.showableAll]
  | x :: xs, h => by
    simp only [SmSAll] at h
    simp only [PyData.showableAll, Bool.and_eq_true]
    exact ⟨smS_show x h.1, smS_showAll xs h.2⟩
end
mutual
theorem smS_len : ∀ d : PyData, SmS d → d.shown.length + 2 ≤ 612 * nodes d
  | .none, _ => by simp only [nodes, PyData.shown]; decide
  | .bool b, _ => by cases b <;> simp only [nodes, PyData.shown] <;> decide
  | .int i, h => by
    have z : (toString i).length ≤ 601 := int_text_length_le (by decide) (log_lt (by decide) (show i.natAbs < 2 ^ 600 from by simpa only [SmS] using h))
    have e : (PyData.shown (.int i)).length = (toString i).length := by simp only [PyData.shown]; exact PySem.ofString_length _
    rw [e]
    simp only [nodes]
    omega
  | .str z, h => by
    have h2 : (PyData.str z).shown.length + 2 ≤ 612 := (show _ ∧ _ from by simpa only [SmS] using h).2
    simp only [nodes]
    omega
  | .list xs, h => by
    simp only [PyData.shown, nodes]
    have a := listText_len_le (PyData.shownAll xs)
    have b := smS_lenAll xs (by simpa only [SmS] using h)
    omega
  | .tuple xs, h => by
    simp only [PyData.shown, nodes]
    have a := tupleText_len_le (PyData.shownAll xs)
    have b := smS_lenAll xs (by simpa only [SmS] using h)
    omega
  | .dict _, h => by simp only [SmS] at h
theorem smS_lenAll : ∀ xs : List PyData, SmSAll xs → ((PyData.shownAll xs).map (·.length)).sum + 2 * (PyData.shownAll xs).length ≤ 612 * nodesAll xs
  | [], _ => by simp [PyData.shownAll, nodesAll]
  | x :: xs, h => by
    simp only [SmSAll] at h
    have a := smS_len x h.1
    have b := smS_lenAll xs h.2
    simp only [PyData.shownAll, nodesAll, List.map_cons, List.sum_cons, List.length_cons]
    omega
end
theorem okdS {d : PyData} (h : SmS d) (hd : d.depth ≤ 60) (hn : nodes d ≤ 20000) : Okd d := ⟨smS_show d h, hd, by
  have := smS_len d h
  have e : sizeLine = 16777216 := sizeLine_eq
  omega⟩
end Gx

set_option Elab.async false
set_option linter.all false
set_option maxRecDepth 100000
set_option maxHeartbeats 1000000
/-! what stands in the heap, as one list: a walk over it -/
namespace Sx
open PySem PySem.Spec PyProof.Rows L2
/-- a thing that may be written -/
def Mo : HO → Prop
  | .lst _ => True
  | .ins _ _ _ => True
  | .dK _ => True
  | .dT _ => True
  | .set _ _ => True
  | .xd _ => True
  | _ => False
theorem Mo.tup {xs : List V} : ¬ Mo (.tup xs) := fun h => h
theorem Mo.tbl {ps} : ¬ Mo (.tbl ps) := fun h => h
theorem Mo.ext {ps} : ¬ Mo (.ext ps) := fun h => h
/-- tuples stay -/
def Kp (H H' : Hp) : Prop := ∀ c xs, H c = some (.tup xs) → H' c = some (.tup xs)
theorem Kp.ex {H H' : Hp} (e : Rd.Ex H H') : Kp H H' := fun c xs h => e c _ h
theorem Kp.exn {H H' : Hp} (e : LamX.ExtN H H') : Kp H H' := fun c xs h => e c _ h fun _ z => by cases z
theorem Kp.exp {H H' : Hp} {x : Addr} {o : HO} (e : Au.ExP x H H') (hx : H x = some o) (m : Mo o) : Kp H H' := fun c xs h => e c _ h fun z => by
  rw [z, hx] at h
  cases h
  exact m
/-- what is told of a thing -/
structure Cl where
  P : Hp → HO → Prop
  st : ∀ {H H' : Hp} {o : HO}, Kp H H' → P H o → P H' o
def Is (o : HO) : Cl := ⟨fun _ x => x = o, fun _ h => h⟩
/-- read only; new tuple; new and writable; to be written -/
inductive Fl where | ro | nt | nm | mu
def Fl.mut : Fl → Bool
  | .nm => true
  | .mu => true
  | _ => false
abbrev En := Addr × Cl × Fl
structure Bs where
  H0 : Hp
  M : List Addr
  T : List (Addr × Str)
/-- it was not there at the entry -/
def Fr (B : Bs) (a : Addr) : Prop := ∀ o, B.H0 a = some o → B.T ≠ [] ∧ ∃ ps, o = .tbl ps
def Fl.ok (B : Bs) (a : Addr) : Fl → Prop
  | .ro => True
  | .nt => Fr B a
  | .nm => Fr B a
  | .mu => a ∈ B.M
def Df (e e' : En) : Prop := (e.2.2.mut = false ∧ e'.2.2.mut = false) ∨ e.1 ≠ e'.1
theorem Df.symm {e e' : En} (h : Df e e') : Df e' e := h.elim (fun h => .inl ⟨h.2, h.1⟩) (fun h => .inr (Ne.symm h))
structure Hs (B : Bs) (L : List En) (H : Hp) : Prop where
  fr : ∀ c o, B.H0 c = some o → c ∉ B.M → (B.T ≠ [] → ∀ ps, o ≠ .tbl ps) → H c = some o
  mm : ∀ c ∈ B.M, ∃ o, H c = some o ∧ Mo o
  tb : LamX.Tabs B.T H
  df : L.Pairwise Df
  ok : ∀ e ∈ L, e.2.2.ok B e.1 ∧ ∃ o, H e.1 = some o ∧ e.2.1.P H o ∧ (e.2.2.mut = true → Mo o) ∧ ∀ ps, o ≠ .tbl ps
def W (B : Bs) (L : List En) (G : Hp → Prop) : Prop := ∀ H, Hs B L H → G H
theorem enter {B : Bs} {L : List En} {H : Hp} {G : Hp → Prop} (S : Hs B L H) (w : W B L G) : G H := w H S
section
variable {B : Bs} {L L' L1 L2 : List En} {H H' H1 : Hp} {p x a : Addr} {o : HO} {φ φ' : Cl} {f : Fl} {G G' : Hp → Prop}
theorem Hs.at (S : Hs B L H) (m : (a, Is o, f) ∈ L) : H a = some o := by
  obtain ⟨_, z, h1, h2, _⟩ := S.ok _ m
  cases h2
  exact h1
theorem Hs.atP (S : Hs B L H) (m : (a, φ, f) ∈ L) : ∃ o, H a = some o ∧ φ.P H o := by
  obtain ⟨_, z, h1, h2, _⟩ := S.ok _ m
  exact ⟨z, h1, h2⟩
theorem Hs.fresh (S : Hs B L H) (n : H p = none) : Fr B p := fun o h => by
  refine Classical.byContradiction fun nc => ?_
  by_cases hm : p ∈ B.M
  · obtain ⟨o', h', _⟩ := S.mm p hm
    rw [n] at h'; cases h'
  · have := S.fr p o h hm fun hT ps z => nc ⟨hT, ps, z⟩
    rw [n] at this; cases this
theorem Hs.ex (S : Hs B L H) (e : Rd.Ex H H') : Hs B L H' where
  fr := fun c o h n t => e _ _ (S.fr c o h n t)
  mm := fun c h => by
    obtain ⟨o, h1, h2⟩ := S.mm c h
    exact ⟨o, e _ _ h1, h2⟩
  tb := S.tb.ext e
  df := S.df
  ok := fun z hz => by
    obtain ⟨h0, o, h1, h2, h3⟩ := S.ok z hz
    exact ⟨h0, o, e _ _ h1, z.2.1.st (.ex e) h2, h3⟩
theorem Hs.exn (S : Hs B L H) (hT : B.T ≠ []) (e : LamX.ExtN H H') (t : LamX.Tabs B.T H') : Hs B L H' where
  fr := fun c o h n t => e _ _ (S.fr c o h n t) (t hT)
  mm := fun c h => by
    obtain ⟨o, h1, h2⟩ := S.mm c h
    exact ⟨o, e _ _ h1 (fun ps z => by subst z; exact h2), h2⟩
  tb := t
  df := S.df
  ok := fun z hz => by
    obtain ⟨h0, o, h1, h2, h3, h4⟩ := S.ok z hz
    exact ⟨h0, o, e _ _ h1 h4, z.2.1.st (.exn e) h2, h3, h4⟩
theorem Hs.ad (S : Hs B L H) (n : H p = none) (e : Rd.Ex H H') (k : H' p = some o) (c : φ.P H' o) (hf : f = .nt ∨ f = .nm ∧ Mo o) (nb : ∀ ps, o ≠ .tbl ps) : Hs B ((p, φ, f) :: L) H' where
  fr := (S.ex e).fr
  mm := (S.ex e).mm
  tb := (S.ex e).tb
  df := List.pairwise_cons.mpr ⟨fun z hz => .inr fun q => (by
    obtain ⟨_, o', h1, _⟩ := S.ok z hz
    simp only at q
    rw [← q, n] at h1
    cases h1), S.df⟩
  ok := fun z hz => by
    rcases List.mem_cons.mp hz with rfl | hz
    · refine ⟨?_, o, k, c, ?_, nb⟩
      · rcases hf with rfl | ⟨rfl, _⟩ <;> exact S.fresh n
      · rcases hf with rfl | ⟨rfl, h⟩
        · intro h; cases h
        · exact fun _ => h
    · exact (S.ex e).ok z hz
theorem Hs.nw (S : Hs B L H) (n : H p = none) (e : Rd.Ex H H') (k : H' p = some o) (hf : f = .nt ∨ f = .nm ∧ Mo o) (nb : ∀ ps, o ≠ .tbl ps) : Hs B ((p, Is o, f) :: L) H' := S.ad n e k rfl hf nb
/-- one thing's row is written anew -/
inductive Upd : List En → Addr → Cl → List En → Prop
  | hd {φ φ' : Cl} {f : Fl} {x : Addr} {L : List En} (h : f.mut = true) : Upd ((x, φ, f) :: L) x φ' ((x, φ', f) :: L)
  | tl {e : En} {L L' : List En} {x : Addr} {φ' : Cl} (h : Upd L x φ' L') : Upd (e :: L) x φ' (e :: L')
theorem Upd.mem {L L' : List En} {x : Addr} {φ' : Cl} (u : Upd L x φ' L') (d : L.Pairwise Df) : (∃ φ f, f.mut = true ∧ (x, φ, f) ∈ L) ∧ (∀ e ∈ L', (e.1 = x ∧ e.2.1 = φ' ∧ e.2.2.mut = true ∧ ∃ φ, (x, φ, e.2.2) ∈ L) ∨ (e ∈ L ∧ e.1 ≠ x)) ∧ L'.map (fun e => (e.1, e.2.2)) = L.map (fun e => (e.1, e.2.2)) := by
  induction u with
  | hd h =>
    refine ⟨⟨_, _, h, List.mem_cons_self⟩, fun e he => ?_, rfl⟩
    rcases List.mem_cons.mp he with rfl | he
    · exact .inl ⟨rfl, rfl, h, _, List.mem_cons_self⟩
    · refine .inr ⟨List.mem_cons_of_mem _ he, fun z => ?_⟩
      rcases (List.pairwise_cons.mp d).1 e he with q | q
      · rw [h] at q; cases q.1
      · exact q z.symm
  | @tl e L L' x φ' u ih =>
    obtain ⟨⟨φ, f, h1, h2⟩, h3, h4⟩ := ih (List.pairwise_cons.mp d).2
    refine ⟨⟨φ, f, h1, List.mem_cons_of_mem _ h2⟩, fun z hz => ?_, by simp only [List.map_cons, h4]⟩
    rcases List.mem_cons.mp hz with rfl | hz
    · refine .inr ⟨List.mem_cons_self, fun q => ?_⟩
      rcases (List.pairwise_cons.mp d).1 _ h2 with w | w
      · rw [h1] at w; cases w.2
      · exact w q
    · rcases h3 z hz with ⟨a, b, c, φ, d⟩ | ⟨a, b⟩
      · exact .inl ⟨a, b, c, φ, List.mem_cons_of_mem _ d⟩
      · exact .inr ⟨List.mem_cons_of_mem _ a, b⟩
theorem df_map {L L' : List En} (h : L'.map (fun e => (e.1, e.2.2)) = L.map (fun e => (e.1, e.2.2))) (d : L.Pairwise Df) : L'.Pairwise Df := by
  have e : ∀ K : List En, K.Pairwise Df ↔ (K.map (fun e => (e.1, e.2.2))).Pairwise (fun p q => (p.2.mut = false ∧ q.2.mut = false) ∨ p.1 ≠ q.1) := fun K => by
    rw [List.pairwise_map]; rfl
  rw [e, h, ← e]
  exact d
theorem Hs.set (S : Hs B L H) (u : Upd L x φ L') (e : Au.ExP x H H') (k : H' x = some o) (c : φ.P H' o) (mo : Mo o) : Hs B L' H' := by
  obtain ⟨⟨ψ, f, h1, h2⟩, h3, h4⟩ := u.mem S.df
  obtain ⟨s0, z, s1, s2, s3, s4⟩ := S.ok _ h2
  have mz := s3 h1
  have kp := Kp.exp e s1 mz
  have nb : ∀ ps, o ≠ .tbl ps := fun ps q => by subst q; exact mo
  refine ⟨fun c o' h n t => e _ _ (S.fr c o' h n t) fun q => ?_, fun c hc => ?_, fun q hq => ?_, df_map h4 S.df, fun v hv => ?_⟩
  · subst q
    cases f with
    | ro => cases h1
    | nt => cases h1
    | nm =>
      obtain ⟨hT, ps, q⟩ := s0 _ h
      exact t hT ps q
    | mu => exact n s0
  · by_cases q : c = x
    · exact ⟨o, q ▸ k, mo⟩
    · obtain ⟨o', h1, h2⟩ := S.mm c hc
      exact ⟨o', e _ _ h1 q, h2⟩
  · obtain ⟨ps, t1, t2, t3⟩ := S.tb q hq
    refine ⟨ps, e _ _ t1 (fun w => by rw [w, s1] at t1; cases t1; exact mz), t2, fun pos cv hcv => ?_⟩
    obtain ⟨c', rfl, hc'⟩ := t3 pos cv hcv
    exact ⟨c', rfl, e _ _ hc' (fun w => by rw [w, s1] at hc'; cases hc'; exact mz)⟩
  · rcases h3 v hv with ⟨rfl, rfl, q3, φ0, q4⟩ | ⟨q1, q2⟩
    · exact ⟨(S.ok _ q4).1, o, k, c, fun _ => mo, nb⟩
    · obtain ⟨w0, o', w1, w2, w3⟩ := S.ok v q1
      exact ⟨w0, o', e _ _ w1 q2, v.2.1.st kp w2, w3⟩
/-! ### what a callee gets -/
inductive Sel : List En → Addr → Cl → List En → Prop
  | hd {φ : Cl} {f : Fl} {x : Addr} {L : List En} (h : f.mut = true) : Sel ((x, φ, f) :: L) x φ L
  | tl {e : En} {L L' : List En} {x : Addr} {φ : Cl} (h : Sel L x φ L') : Sel (e :: L) x φ (e :: L')
inductive FindR : List En → List En → Prop
  | nil {L : List En} : FindR L []
  | cons {L ps : List En} {x : Addr} {φ : Cl} {f : Fl} (m : (x, φ, f) ∈ L) (h : FindR L ps) : FindR L ((x, φ, .ro) :: ps)
/-- first what is to be written, then what is read -/
inductive Find : List En → List En → Prop
  | ros {L ps : List En} (h : FindR L ps) : Find L ps
  | mu {L L1 ps : List En} {x : Addr} {φ : Cl} (m : Sel L x φ L1) (h : Find L1 ps) : Find L ((x, φ, .mu) :: ps)
theorem Sel.mem {L L' : List En} {x : Addr} {φ : Cl} (u : Sel L x φ L') (d : L.Pairwise Df) : (∃ f, f.mut = true ∧ (x, φ, f) ∈ L) ∧ (∀ e ∈ L', e ∈ L ∧ e.1 ≠ x) ∧ L'.Sublist L := by
  induction u with
  | hd h =>
    refine ⟨⟨_, h, List.mem_cons_self⟩, fun e he => ⟨List.mem_cons_of_mem _ he, fun z => ?_⟩, List.sublist_cons_self _ _⟩
    rcases (List.pairwise_cons.mp d).1 e he with q | q
    · rw [h] at q; cases q.1
    · exact q z.symm
  | @tl e L L' x φ u ih =>
    obtain ⟨⟨f, h1, h2⟩, h3, h4⟩ := ih (List.pairwise_cons.mp d).2
    refine ⟨⟨f, h1, List.mem_cons_of_mem _ h2⟩, fun z hz => ?_, h4.cons_cons _⟩
    rcases List.mem_cons.mp hz with rfl | hz
    · refine ⟨List.mem_cons_self, fun q => ?_⟩
      rcases (List.pairwise_cons.mp d).1 _ h2 with w | w
      · rw [h1] at w; cases w.2
      · exact w q
    · exact ⟨List.mem_cons_of_mem _ (h3 z hz).1, (h3 z hz).2⟩
def mus (L : List En) : List Addr := (L.filter fun e => match e.2.2 with | .mu => true | _ => false).map (·.1)
theorem mem_mus {L : List En} {x : Addr} : x ∈ mus L ↔ ∃ φ, (x, φ, Fl.mu) ∈ L := by
  unfold mus
  simp only [List.mem_map, List.mem_filter]
  constructor
  · rintro ⟨⟨y, φ, f⟩, ⟨h1, h2⟩, rfl⟩
    cases f with
    | mu => exact ⟨φ, h1⟩
    | ro => cases h2
    | nt => cases h2
    | nm => cases h2
  · rintro ⟨φ, h⟩
    exact ⟨_, ⟨h, rfl⟩, rfl⟩
theorem FindR.mem {L ps : List En} (u : FindR L ps) : (∀ e ∈ ps, e.2.2 = .ro ∧ ∃ f, (e.1, e.2.1, f) ∈ L) ∧ ps.Pairwise Df := by
  induction u with
  | nil => exact ⟨fun e h => (by cases h), .nil⟩
  | @cons ps x φ f m h ih =>
    refine ⟨fun e he => ?_, List.pairwise_cons.mpr ⟨fun e he => .inl ⟨rfl, by rw [(ih.1 e he).1]; rfl⟩, ih.2⟩⟩
    rcases List.mem_cons.mp he with rfl | he
    · exact ⟨rfl, f, m⟩
    · exact ih.1 e he
theorem Find.mem {L ps : List En} (u : Find L ps) (d : L.Pairwise Df) : (∀ e ∈ ps, ∃ f, (e.1, e.2.1, f) ∈ L ∧ (e.2.2 = .ro ∨ (e.2.2 = .mu ∧ f.mut = true))) ∧ ps.Pairwise Df := by
  induction u with
  | ros h =>
    refine ⟨fun e he => ?_, h.mem.2⟩
    obtain ⟨h1, f, h2⟩ := h.mem.1 e he
    exact ⟨f, h2, .inl h1⟩
  | @mu L L1 ps x φ m h ih =>
    obtain ⟨⟨f, m1, m2⟩, m3, m4⟩ := m.mem d
    obtain ⟨h1, h2⟩ := ih (d.sublist m4)
    refine ⟨fun e he => ?_, List.pairwise_cons.mpr ⟨fun e he => ?_, h2⟩⟩
    · rcases List.mem_cons.mp he with rfl | he
      · exact ⟨f, m2, .inr ⟨rfl, m1⟩⟩
      · obtain ⟨g, g1, g2⟩ := h1 e he
        exact ⟨g, (m3 _ g1).1, g2⟩
    · obtain ⟨g, g1, g2⟩ := h1 e he
      exact .inr fun z => (m3 _ g1).2 z.symm
/-- what a def is promised to find -/
def Pre (H : Hp) (T : List (Addr × Str)) (pre : List En) : Prop := Hs ⟨H, mus pre, T⟩ pre H
/-- what it leaves -/
def Post (H : Hp) (T : List (Addr × Str)) (pre post : List En) (G : Hp → Prop) : Prop := ∀ H', Hs ⟨H, mus pre, T⟩ post H' → G H'
theorem Hs.pre {ps : List En} {T : List (Addr × Str)} (S : Hs B L H) (u : Find L ps) (hT : T = [] ∨ T = B.T) : Pre H T ps where
  fr := fun c o h _ _ => h
  mm := fun c hc => by
    obtain ⟨φ, h⟩ := mem_mus.mp hc
    obtain ⟨f, h1, h2⟩ := (u.mem S.df).1 _ h
    rcases h2 with h2 | ⟨_, h2⟩
    · cases h2
    · obtain ⟨_, o, k1, _, k3, _⟩ := S.ok _ h1
      exact ⟨o, k1, k3 h2⟩
  tb := by
    rcases hT with rfl | rfl
    · exact fun p hp => by cases hp
    · exact S.tb
  df := (u.mem S.df).2
  ok := fun e he => by
    obtain ⟨f, h1, h2⟩ := (u.mem S.df).1 _ he
    obtain ⟨_, o, k1, k2, k3, k4⟩ := S.ok _ h1
    refine ⟨?_, o, k1, k2, ?_, k4⟩
    · rcases h2 with h2 | ⟨h2, _⟩
      · rw [h2]; exact trivial
      · rw [h2]
        show e.1 ∈ mus ps
        refine mem_mus.mpr ⟨e.2.1, ?_⟩
        rw [← h2]
        exact he
    · rcases h2 with h2 | ⟨h2, h3⟩
      · rw [h2]; intro z; cases z
      · exact fun _ => k3 h3
/-- the caller's list behind the call -/
inductive Rep : List En → List En → List En → Prop
  | nil {L : List En} : Rep L [] L
  | ro {L ps L' : List En} {x : Addr} {φ : Cl} (h : Rep L ps L') : Rep L ((x, φ, .ro) :: ps) L'
  | nt {L ps L' : List En} {x : Addr} {φ : Cl} (h : Rep L ps L') : Rep L ((x, φ, .nt) :: ps) ((x, φ, .nt) :: L')
  | nm {L ps L' : List En} {x : Addr} {φ : Cl} (h : Rep L ps L') : Rep L ((x, φ, .nm) :: ps) ((x, φ, .nm) :: L')
  | mu {L ps L' L1 : List En} {x : Addr} {φ : Cl} (u : Upd L x φ L1) (h : Rep L1 ps L') : Rep L ((x, φ, .mu) :: ps) L'
/-- new -/
def Fl.isN : Fl → Prop
  | .nt => True
  | .nm => True
  | _ => False
theorem Rep.mem {L ps L' : List En} (u : Rep L ps L') : L.Pairwise Df → ps.Pairwise Df → (∀ e ∈ ps, e.2.2.isN → ∀ z ∈ L, e.1 ≠ z.1) →
    (∀ e ∈ L', (e ∈ ps ∧ e.2.2.isN) ∨ (∃ φ, (e.1, φ, e.2.2) ∈ L ∧ (e.1, e.2.1, .mu) ∈ ps ∧ e.2.2.mut = true) ∨ (e ∈ L ∧ ∀ φ, (e.1, φ, .mu) ∉ ps)) ∧ L'.Pairwise Df := by
  induction u with
  | nil => exact fun d _ _ => ⟨fun e he => .inr (.inr ⟨he, fun φ h => (by cases h)⟩), d⟩
  | ro h ih =>
    intro d dp hn
    obtain ⟨h1, h2⟩ := ih d (List.pairwise_cons.mp dp).2 fun e he => hn e (List.mem_cons_of_mem _ he)
    refine ⟨fun e he => ?_, h2⟩
    rcases h1 e he with ⟨a, b⟩ | ⟨φ, a, b, c⟩ | ⟨a, b⟩
    · exact .inl ⟨List.mem_cons_of_mem _ a, b⟩
    · exact .inr (.inl ⟨φ, a, List.mem_cons_of_mem _ b, c⟩)
    · refine .inr (.inr ⟨a, fun φ z => ?_⟩)
      rcases List.mem_cons.mp z with z | z
      · cases z
      · exact b φ z
  | @nt L ps L' x φ h ih =>
    intro d dp hn
    obtain ⟨h1, h2⟩ := ih d (List.pairwise_cons.mp dp).2 fun e he => hn e (List.mem_cons_of_mem _ he)
    refine ⟨fun e he => ?_, List.pairwise_cons.mpr ⟨fun e he => ?_, h2⟩⟩
    · rcases List.mem_cons.mp he with rfl | he
      · exact .inl ⟨List.mem_cons_self, trivial⟩
      rcases h1 e he with ⟨a, b⟩ | ⟨φ, a, b, c⟩ | ⟨a, b⟩
      · exact .inl ⟨List.mem_cons_of_mem _ a, b⟩
      · exact .inr (.inl ⟨φ, a, List.mem_cons_of_mem _ b, c⟩)
      · refine .inr (.inr ⟨a, fun φ z => ?_⟩)
        rcases List.mem_cons.mp z with z | z
        · cases z
        · exact b φ z
    · rcases h1 e he with ⟨a, b⟩ | ⟨φ, a, b⟩ | ⟨a, b⟩
      · exact (List.pairwise_cons.mp dp).1 e a
      · exact .inr fun q => hn _ List.mem_cons_self trivial _ a q
      · exact .inr (hn _ List.mem_cons_self trivial _ a)
  | @nm L ps L' x φ h ih =>
    intro d dp hn
    obtain ⟨h1, h2⟩ := ih d (List.pairwise_cons.mp dp).2 fun e he => hn e (List.mem_cons_of_mem _ he)
    refine ⟨fun e he => ?_, List.pairwise_cons.mpr ⟨fun e he => ?_, h2⟩⟩
    · rcases List.mem_cons.mp he with rfl | he
      · exact .inl ⟨List.mem_cons_self, trivial⟩
      rcases h1 e he with ⟨a, b⟩ | ⟨φ, a, b, c⟩ | ⟨a, b⟩
      · exact .inl ⟨List.mem_cons_of_mem _ a, b⟩
      · exact .inr (.inl ⟨φ, a, List.mem_cons_of_mem _ b, c⟩)
      · refine .inr (.inr ⟨a, fun φ z => ?_⟩)
        rcases List.mem_cons.mp z with z | z
        · cases z
        · exact b φ z
    · rcases h1 e he with ⟨a, b⟩ | ⟨φ, a, b⟩ | ⟨a, b⟩
      · exact (List.pairwise_cons.mp dp).1 e a
      · exact .inr fun q => hn _ List.mem_cons_self trivial _ a q
      · exact .inr (hn _ List.mem_cons_self trivial _ a)
  | @mu L ps L' L1 x φ u h ih =>
    intro d dp hn
    obtain ⟨u1, u2, u3⟩ := u.mem d
    have ads : ∀ z ∈ L1, ∃ y ∈ L, y.1 = z.1 := fun z hz => by
      rcases u2 z hz with ⟨a, _, _, φ0, b⟩ | ⟨a, _⟩
      · exact ⟨_, b, a.symm⟩
      · exact ⟨_, a, rfl⟩
    obtain ⟨h1, h2⟩ := ih (df_map u3 d) (List.pairwise_cons.mp dp).2 fun e he hN z hz => by
      obtain ⟨y, y1, y2⟩ := ads z hz
      rw [← y2]
      exact hn e (List.mem_cons_of_mem _ he) hN y y1
    refine ⟨fun e he => ?_, h2⟩
    rcases h1 e he with ⟨a, b⟩ | ⟨φ', a, b, c⟩ | ⟨a, b⟩
    · exact .inl ⟨List.mem_cons_of_mem _ a, b⟩
    · rcases u2 _ a with ⟨w1, w2, _, φ0, w3⟩ | ⟨w1, w2⟩
      · simp only at w1 w2 w3
        refine .inr (.inl ⟨φ0, ?_, List.mem_cons_of_mem _ b, c⟩)
        rw [w1]
        exact w3
      · exact .inr (.inl ⟨φ', w1, List.mem_cons_of_mem _ b, c⟩)
    · rcases u2 _ a with ⟨w1, w2, w3, φ0, w4⟩ | ⟨w1, w2⟩
      · refine .inr (.inl ⟨φ0, by rw [w1]; exact w4, ?_, w3⟩)
        rw [w1, w2]
        exact List.mem_cons_self
      · refine .inr (.inr ⟨w1, fun ψ z => ?_⟩)
        rcases List.mem_cons.mp z with z | z
        · cases z
          exact w2 rfl
        · exact b ψ z
theorem Rep.mu_mem {L ps L' : List En} (u : Rep L ps L') : L.Pairwise Df → ∀ {c : Addr} {φ : Cl}, (c, φ, Fl.mu) ∈ ps → ∃ φ f, f.mut = true ∧ (c, φ, f) ∈ L := by
  induction u with
  | nil => exact fun _ _ _ h => by cases h
  | ro h ih =>
    intro d c φ m
    rcases List.mem_cons.mp m with z | z
    · cases z
    · exact ih d z
  | nt h ih =>
    intro d c φ m
    rcases List.mem_cons.mp m with z | z
    · cases z
    · exact ih d z
  | nm h ih =>
    intro d c φ m
    rcases List.mem_cons.mp m with z | z
    · cases z
    · exact ih d z
  | mu u h ih =>
    intro d c φ m
    obtain ⟨⟨ψ, f, u1, u2⟩, u3, u4⟩ := u.mem d
    rcases List.mem_cons.mp m with z | z
    · cases z
      exact ⟨ψ, f, u1, u2⟩
    · obtain ⟨φ', f', k1, k2⟩ := ih (df_map u4 d) z
      rcases u3 _ k2 with ⟨a, _, _, φ0, b⟩ | ⟨a, _⟩
      · simp only at a b
        exact ⟨φ0, f', k1, by rw [a]; exact b⟩
      · exact ⟨φ', f', k1, a⟩
theorem Hs.post {pre post : List En} {T : List (Addr × Str)} (S : Hs B L H) (hT : T = [] ∨ (T = B.T ∧ B.T ≠ [])) (S' : Hs ⟨H, mus pre, T⟩ post H') (r : Rep L post L') (cov : ∀ c ∈ mus pre, c ∈ mus post) : Hs B L' H' := by
  have mu_of : ∀ c ∈ mus pre, ∃ φ f, f.mut = true ∧ (c, φ, f) ∈ L := fun c hc => by
    obtain ⟨φ, h⟩ := mem_mus.mp (cov c hc)
    exact r.mu_mem S.df h
  have mmH : ∀ c ∈ mus pre, ∃ o, H c = some o ∧ Mo o := fun c hc => by
    obtain ⟨φ, f, h1, h2⟩ := mu_of c hc
    obtain ⟨_, o, k1, _, k3, _⟩ := S.ok _ h2
    exact ⟨o, k1, k3 h1⟩
  have keep : ∀ c o, H c = some o → c ∉ mus pre → (∀ ps, o ≠ .tbl ps) → H' c = some o := fun c o h1 h2 h3 => S'.fr c o h1 h2 fun _ => h3
  have kp : Kp H H' := fun c xs h => keep c _ h (fun z => by
    obtain ⟨o, h1, h2⟩ := mmH c z
    rw [h] at h1; cases h1; exact h2) fun ps z => by cases z
  have new : ∀ e ∈ post, e.2.2.isN → Fr ⟨H, mus pre, T⟩ e.1 := fun e he hN => by
    have := (S'.ok e he).1
    revert this hN
    cases e.2.2 <;> intro a b <;> first | exact a | exact a.elim | exact b
  have nil : ∀ e ∈ post, e.2.2.isN → ∀ z ∈ L, e.1 ≠ z.1 := fun e he hN z hz q => by
    obtain ⟨_, o, h1, _, _, h4⟩ := S.ok z hz
    rw [← q] at h1
    obtain ⟨_, ps, w⟩ := new e he hN o h1
    exact h4 ps w
  obtain ⟨r1, r2⟩ := r.mem S.df S'.df nil
  refine ⟨fun c o h n t => ?_, fun c hc => ?_, ?_, r2, fun e he => ?_⟩
  · have h1 := S.fr c o h n t
    refine S'.fr c o h1 (fun z => ?_) fun hT' => ?_
    · obtain ⟨φ, f, f1, f2⟩ := mu_of c z
      have := (S.ok _ f2).1
      cases f with
      | ro => cases f1
      | nt => cases f1
      | nm =>
        obtain ⟨hT, ps, q⟩ := this _ h
        exact t hT ps q
      | mu => exact n this
    · rcases hT with rfl | ⟨rfl, h⟩
      · exact absurd rfl hT'
      · exact t h
  · by_cases z : c ∈ mus pre
    · obtain ⟨o, h1, h2⟩ := S'.mm c z
      exact ⟨o, h1, h2⟩
    · obtain ⟨o, h1, h2⟩ := S.mm c hc
      exact ⟨o, keep c o h1 z fun ps q => by subst q; exact h2, h2⟩
  · rcases hT with rfl | ⟨rfl, h⟩
    · intro q hq
      obtain ⟨ps, t1, t2, t3⟩ := S.tb q hq
      have nz : ∀ c o, H c = some o → ¬ Mo o → c ∉ mus pre := fun c o h1 h2 h3 => by
        obtain ⟨o', k1, k2⟩ := mmH c h3
        rw [h1] at k1; cases k1; exact h2 k2
      refine ⟨ps, S'.fr _ _ t1 (nz _ _ t1 Mo.tbl) fun z => absurd rfl z, t2, fun pos cv hcv => ?_⟩
      obtain ⟨c', rfl, hc'⟩ := t3 pos cv hcv
      exact ⟨c', rfl, S'.fr _ _ hc' (nz _ _ hc' Mo.ext) fun z => absurd rfl z⟩
    · exact S'.tb
  · rcases r1 e he with ⟨a, b⟩ | ⟨φ, a, b, c⟩ | ⟨a, b⟩
    · obtain ⟨_, o, k1, k2, k3, k4⟩ := S'.ok e a
      refine ⟨?_, o, k1, k2, k3, k4⟩
      have fr : Fr B e.1 := fun o' h' => by
        refine Classical.byContradiction fun nc => ?_
        have w := new e a b
        by_cases hm : e.1 ∈ B.M
        · obtain ⟨o2, h2, m2⟩ := S.mm _ hm
          obtain ⟨_, ps, q⟩ := w o2 h2
          subst q
          exact m2
        · have h2 := S.fr _ _ h' hm fun hT ps z => nc ⟨hT, ps, z⟩
          obtain ⟨hT', ps, q⟩ := w _ h2
          rcases hT with rfl | ⟨rfl, h⟩
          · exact hT' rfl
          · exact nc ⟨h, ps, q⟩
      cases hf : e.2.2 <;> first | exact fr | (rw [hf] at b; exact b.elim)
    · obtain ⟨k0, _⟩ := S.ok _ a
      obtain ⟨_, o, k1, k2, k3, k4⟩ := S'.ok _ b
      exact ⟨k0, o, k1, k2, fun _ => k3 rfl, k4⟩
    · obtain ⟨k0, o, k1, k2, k3, k4⟩ := S.ok _ a
      refine ⟨k0, o, keep _ _ k1 (fun z => ?_) k4, e.2.1.st kp k2, k3, k4⟩
      obtain ⟨φ, q⟩ := mem_mus.mp (cov _ z)
      exact b φ q
/-! ### less of it -/
def Cl.le (φ ψ : Cl) : Prop := ∀ H o, φ.P H o → ψ.P H o
theorem Cl.le.rfl {φ : Cl} : Cl.le φ φ := fun _ _ h => h
/-- a row is taken out -/
inductive Rm : List En → Addr → Cl → Fl → List En → Prop
  | hd {φ : Cl} {f : Fl} {x : Addr} {L : List En} : Rm ((x, φ, f) :: L) x φ f L
  | tl {e : En} {L L' : List En} {x : Addr} {φ : Cl} {f : Fl} (h : Rm L x φ f L') : Rm (e :: L) x φ f (e :: L')
theorem Rm.ex {L L' : List En} {x : Addr} {φ : Cl} {f : Fl} (h : Rm L x φ f L') : ∃ L0 R0, L = L0 ++ (x, φ, f) :: R0 ∧ L' = L0 ++ R0 := by
  induction h with
  | hd => exact ⟨[], _, rfl, rfl⟩
  | @tl e L L' x φ f h ih =>
    obtain ⟨L0, R0, h1, h2⟩ := ih
    exact ⟨e :: L0, R0, by rw [h1]; rfl, by rw [h2]; rfl⟩
inductive Sub : List En → List En → Prop
  | nil {L : List En} : Sub [] L
  | rfl {L : List En} : Sub L L
  | cons {L L1 ps : List En} {x : Addr} {φ ψ : Cl} {f : Fl} (m : Rm L x φ f L1) (h : Cl.le φ ψ) (r : Sub ps L1) : Sub ((x, ψ, f) :: ps) L
theorem Sub.mem {L ps : List En} (u : Sub ps L) : L.Pairwise Df → (∀ e ∈ ps, ∃ φ, (e.1, φ, e.2.2) ∈ L ∧ Cl.le φ e.2.1) ∧ ps.Pairwise Df := by
  induction u with
  | nil => exact fun _ => ⟨fun e h => (by cases h), .nil⟩
  | rfl => exact fun d => ⟨fun e h => ⟨_, h, Cl.le.rfl⟩, d⟩
  | @cons L L1 ps x φ ψ f m h r ih =>
    intro d
    obtain ⟨L0, R0, rfl, rfl⟩ := m.ex
    have d' := (List.pairwise_append.mp d)
    have dm : ∀ e ∈ L0 ++ R0, Df (x, φ, f) e := fun e he => by
      rcases List.mem_append.mp he with he | he
      · exact (d'.2.2 e he _ List.mem_cons_self).symm
      · exact (List.pairwise_cons.mp d'.2.1).1 e he
    have sub : (L0 ++ R0).Sublist (L0 ++ (x, φ, f) :: R0) := (List.Sublist.refl L0).append (List.sublist_cons_self _ _)
    obtain ⟨h1, h2⟩ := ih (d.sublist sub)
    refine ⟨fun e he => ?_, List.pairwise_cons.mpr ⟨fun e he => ?_, h2⟩⟩
    · rcases List.mem_cons.mp he with rfl | he
      · exact ⟨φ, by simp, h⟩
      · obtain ⟨φ', a, b⟩ := h1 e he
        exact ⟨φ', sub.mem a, b⟩
    · obtain ⟨φ', a, _⟩ := h1 e he
      rcases dm _ a with q | q
      · exact .inl q
      · exact .inr q
theorem Hs.sub {ps : List En} (S : Hs B L H) (u : Sub ps L) : Hs B ps H where
  fr := S.fr
  mm := S.mm
  tb := S.tb
  df := (u.mem S.df).2
  ok := fun e he => by
    obtain ⟨φ, h1, h2⟩ := (u.mem S.df).1 e he
    obtain ⟨k0, o, k1, k2, k3⟩ := S.ok _ h1
    exact ⟨k0, o, k1, h2 _ _ k2, k3⟩
end
end Sx
namespace Sx
theorem lt600 {n : Int} (h : n.natAbs < 2 ^ 100) : n.natAbs < 2 ^ 600 := Nat.lt_of_lt_of_le h (Nat.pow_le_pow_right (by decide) (by decide))
end Sx
namespace Sx
open PySem PySem.Spec PyProof.Rows L2
theorem Upd.ap {L L' : List En} {x : Addr} {φ : Cl} : ∀ (F : List En), Upd L x φ L' → Upd (F ++ L) x φ (F ++ L')
  | [], h => h
  | e :: F, h => .tl (Upd.ap F h)
theorem Sel.ap {L L' : List En} {x : Addr} {φ : Cl} : ∀ (F : List En), Sel L x φ L' → Sel (F ++ L) x φ (F ++ L')
  | [], h => h
  | e :: F, h => .tl (Sel.ap F h)
theorem Rm.ap {L L' : List En} {x : Addr} {φ : Cl} {f : Fl} : ∀ (F : List En), Rm L x φ f L' → Rm (F ++ L) x φ f (F ++ L')
  | [], h => h
  | e :: F, h => .tl (Rm.ap F h)
/-- a whole part is kept -/
theorem Sub.ap {ps L : List En} : ∀ (F : List En), Sub ps L → Sub (F ++ ps) (F ++ L)
  | [], h => h
  | e :: F, h => .cons .hd Cl.le.rfl (Sub.ap F h)
theorem Sub.one (e : En) : ∀ (L : List En), Sub L (e :: L)
  | [] => .nil
  | (x, φ, f) :: L => .cons (.tl .hd) Cl.le.rfl (Sub.one e L)
theorem Sub.dr {ps L : List En} {e : En} (h : Sub ps L) : Sub ps (e :: L) := by
  induction h generalizing e with
  | nil => exact .nil
  | rfl => exact Sub.one e _
  | cons m h r ih => exact .cons (.tl m) h ih
end Sx

set_option Elab.async false
set_option linter.all false
set_option maxRecDepth 100000
set_option maxHeartbeats 1000000
/-! readings over one list of what stands -/
namespace Sx
open PySem PySem.Spec PyProof.Rows L2
/-- a promise is being read -/
def Do (p : Prop) : Prop := p
section
variable {B : Bs} {L L' L1 : List En} {D : Ends} {σ : L2.St} {Q : VK} {QB : Bool → Hp → Prop} {QA : List V → Hp → Prop} {t1 t2 : TS} {te ta tb tc : TE} {tr : TA} {t u : TT} {i j : Nat} {v x y : V} {m n : Int} {r r2 : R2} {K : PySem.W.Frag} {G G1 G2 : Hp → Prop} {b : Bool} {p : Prop} {C a dx : Addr} {fs : List (Str × V)} {f : Str} {fl : Fl} {sp : Sp} {E : XK} {g : TG} {xs : List V}
theorem l1 {G G' : Hp → Prop} (f : ∀ H, G H → G' H) (h : W B L G) : W B L G' := fun H S => f H (h H S)
theorem seq (h : W B L fun H => t1 { D with nx := t2 D } σ H) : W B L fun H => tSeq t1 t2 D σ H := h
theorem next (h : W B L fun H => D.nx σ H) : W B L fun H => tNext D σ H := h
theorem asg (h : W B L fun H => te σ H fun x H1 => g x σ H1 D.nx) : W B L fun H => tAsg te g D σ H := h
theorem nm {Qs : L2.St → Hp → Prop} (h : W B L fun H => Qs (σ.set i (some v)) H) : W B L fun H => gName i v σ H Qs := h
theorem ret (h : W B L fun H => te σ H D.rt) : W B L fun H => tRet te D σ H := h
theorem retN (h : W B L fun H => D.rt .non H) : W B L fun H => tRetN D σ H := h
theorem brk (h : W B L fun H => D.bk σ H) : W B L fun H => tBreak D σ H := h
theorem cnt (h : W B L fun H => D.ct σ H) : W B L fun H => tCont D σ H := h
theorem drop (h : W B L fun H => te σ H fun _ H1 => D.nx σ H1) : W B L fun H => tDrop te D σ H := h
theorem ifs (h : W B L fun H => t σ H fun b H1 => if b = true then t1 D σ H1 else t2 D σ H1) : W B L fun H => tIfS t t1 t2 D σ H := h
theorem par (h : W B L fun H => tr σ H fun vs H1 => ∃ v w, vs = [v, w] ∧ D.nx ((σ.set i (some v)).set j (some w)) H1) : W B L fun H => tPar i j tr D σ H := h
theorem par3 {l : Nat} (h : W B L fun H => tr σ H fun vs H1 => ∃ u v w, vs = [u, v, w] ∧ D.nx (((σ.set i (some u)).set j (some v)).set l (some w)) H1) : W B L fun H => tPar3 i j l tr D σ H := h
theorem pr2 {x y : V} {A : V → V → Hp → Prop} (h : W B L fun H => A x y H) : W B L fun H => ∃ v w, [x, y] = [v, w] ∧ A v w H := fun H S => ⟨x, y, rfl, h H S⟩
theorem pr3 {x y z : V} {A : V → V → V → Hp → Prop} (h : W B L fun H => A x y z H) : W B L fun H => ∃ u v w, [x, y, z] = [u, v, w] ∧ A u v w H := fun H S => ⟨x, y, z, rfl, h H S⟩
theorem var (hv : σ[i]? = some (some v)) (h : W B L fun H => Q v H) : W B L fun H => tVar i σ H Q := fun H S => ⟨v, hv, h H S⟩
theorem cst (h : W B L fun H => Q v H) : W B L fun H => tC v σ H Q := h
theorem op (h : W B L fun H => ta σ H fun x H1 => tb σ H1 fun y H2 => r x y H2 Q) : W B L fun H => tOp r ta tb σ H Q := h
theorem un {g : V → Hp → VK → Prop} (h : W B L fun H => ta σ H fun x H1 => g x H1 Q) : W B L fun H => tUn g ta σ H Q := h
theorem ung {g : Int → V} (h : W B L fun H => Q (g m) H) : W B L fun H => rU g (.int m) H Q := fun H S => Rd.ung (h H S)
theorem i0 {g : Int → Int → V} (h : W B L fun H => Q (g m n) H) : W B L fun H => rI0 g (.int m) (.int n) H Q := fun H S => Rd.i0 (h H S)
theorem iC {C : Int → Int → Prop} {g : Int → Int → V} (hc : C m n) (h : W B L fun H => Q (g m n) H) : W B L fun H => rI C g (.int m) (.int n) H Q := fun H S => Rd.iC hc (h H S)
theorem eqI (h : W B L fun H => Q (.bl (decide (m = n))) H) : W B L fun H => rEq (.int m) (.int n) H Q := fun H S => Rd.eqI (h H S)
theorem neI (h : W B L fun H => Q (.bl (!decide (m = n))) H) : W B L fun H => rNe (.int m) (.int n) H Q := fun H S => Rd.neI (h H S)
theorem eqS {a c : Str} (h : W B L fun H => Q (.bl (decide (a = c))) H) : W B L fun H => rEq (.str a) (.str c) H Q := fun H S => Rd.eqS (h H S)
theorem neS {a c : Str} (h : W B L fun H => Q (.bl (!decide (a = c))) H) : W B L fun H => rNe (.str a) (.str c) H Q := fun H S => Rd.neS (h H S)
theorem eqB {a c : Bool} (h : W B L fun H => Q (.bl (decide (a = c))) H) : W B L fun H => rEq (.bl a) (.bl c) H Q := fun H S => Au.eqB (h H S)
theorem isBl {a c : Bool} (h : W B L fun H => Q (.bl (decide (a = c))) H) : W B L fun H => rIsB (.bl a) (.bl c) H Q := fun H S => Gx.isBl (h H S)
theorem notBl {a c : Bool} (h : W B L fun H => Q (.bl (!decide (a = c))) H) : W B L fun H => rNotB (.bl a) (.bl c) H Q := fun H S => Gx.notBl (h H S)
/-- is None, is not None -/
theorem isN {G : V → Hp → Prop} (h : W B L fun H => G (.bl (decide (v = .non))) H) : W B L fun H => V.non = .non ∧ G (.bl (decide (v = .non))) H := fun H S => ⟨rfl, h H S⟩
theorem non1 {G : Hp → Prop} (h : W B L G) : W B L fun H => V.non = .non ∧ G H := fun H S => ⟨rfl, h H S⟩
theorem test (h : W B L fun H => te σ H fun x H' => ∃ k, x = .bl k ∧ QB k H') : W B L fun H => tTest te σ H QB := h
theorem tstB (h : W B L fun H => te σ H fun x H' => ∃ k, x = .bl k ∧ QB k H') : W B L fun H => tB te σ H QB := h
theorem isB {QC : Bool → Hp → Prop} (h : W B L fun H => QC b H) : W B L fun H => ∃ k, V.bl b = .bl k ∧ QC k H := fun H S => ⟨b, rfl, h H S⟩
theorem isI {n : Int} {QC : Int → Hp → Prop} (h : W B L fun H => QC n H) : W B L fun H => ∃ i, V.int n = .int i ∧ QC i H := fun H S => ⟨n, rfl, h H S⟩
theorem nxp {f : L2.St → Hp → Prop} {g c d} (h : W B L fun H => f σ H) : W B L fun H => (Ends.mk f g c d).nx σ H := h
theorem rtp {g : V → Hp → Prop} {f c d} (h : W B L fun H => g v H) : W B L fun H => (Ends.mk f g c d).rt v H := h
theorem bkp {c : L2.St → Hp → Prop} {f g d} (h : W B L fun H => c σ H) : W B L fun H => (Ends.mk f g c d).bk σ H := h
theorem ctp {d : L2.St → Hp → Prop} {f g c} (h : W B L fun H => d σ H) : W B L fun H => (Ends.mk f g c d).ct σ H := h
theorem not (h : W B L fun H => t σ H fun c H1 => QB (!c) H1) : W B L fun H => tNot t σ H QB := h
theorem andT (h : W B L fun H => t σ H fun c H1 => if c = true then u σ H1 QB else QB false H1) : W B L fun H => tAnd t u σ H QB := h
theorem orT (h : W B L fun H => t σ H fun c H1 => if c = true then QB true H1 else u σ H1 QB) : W B L fun H => tOr t u σ H QB := h
theorem andV (h : W B L fun H => ta σ H fun x H1 => ∃ c, x = .bl c ∧ if c = true then tb σ H1 Q else Q (.bl false) H1) : W B L fun H => tAndV ta tb σ H Q := h
theorem orV (h : W B L fun H => ta σ H fun x H1 => ∃ c, x = .bl c ∧ if c = true then Q (.bl true) H1 else tb σ H1 Q) : W B L fun H => tOrV ta tb σ H Q := h
theorem notV (h : W B L fun H => ta σ H fun x H1 => ∃ c, x = .bl c ∧ Q (.bl (!c)) H1) : W B L fun H => tNotV ta σ H Q := h
theorem ifE (h : W B L fun H => t σ H fun c H1 => if c = true then ta σ H1 Q else tb σ H1 Q) : W B L fun H => tIf t ta tb σ H Q := h
theorem chain (h : W B L fun H => ta σ H fun x H1 => tb σ H1 fun y H2 => r x y H2 fun z H3 => ∃ k, z = .bl k ∧ (if k = true then tc σ H3 fun w' H4 => r2 y w' H4 Q else Q (.bl false) H3)) : W B L fun H => tChain r r2 ta tb tc σ H Q := h
theorem nil (h : W B L fun H => QA [] H) : W B L fun H => tNil σ H QA := h
theorem cons (h : W B L fun H => ta σ H fun x H1 => tr σ H1 fun xs H2 => QA (x :: xs) H2) : W B L fun H => tCons ta tr σ H QA := h
theorem cb {g : List V → Hp → VK → Prop} (h : W B L fun H => tr σ H fun vs H1 => g vs H1 Q) : W B L fun H => tCB g tr σ H Q := h
theorem bm {T : String} {r : V → List V → Hp → VK → Prop} (h : W B L fun H => ta σ H fun x H1 => tyV K T x H1 ∧ tr σ H1 fun xs H2 => r x xs H2 Q) : W B L fun H => tBM K T r ta tr σ H Q := h
theorem yes [Decidable p] (c : p) (h : W B L G1) : W B L fun H => if decide p = true then G1 H else G2 H := fun H S => Rd.yes c (h H S)
theorem no [Decidable p] (c : ¬ p) (h : W B L G2) : W B L fun H => if decide p = true then G1 H else G2 H := fun H S => Rd.no c (h H S)
theorem yesN [Decidable p] (c : ¬ p) (h : W B L G1) : W B L fun H => if (!decide p) = true then G1 H else G2 H := fun H S => Rd.yesN c (h H S)
theorem noN [Decidable p] (c : p) (h : W B L G2) : W B L fun H => if (!decide p) = true then G1 H else G2 H := fun H S => Rd.noN c (h H S)
theorem both [Decidable p] (h1 : p → W B L G1) (h2 : ¬ p → W B L G2) : W B L fun H => if decide p = true then G1 H else G2 H := fun H S => Rd.both (fun c => h1 c H S) (fun c => h2 c H S)
theorem bothN [Decidable p] (h1 : ¬ p → W B L G1) (h2 : p → W B L G2) : W B L fun H => if (!decide p) = true then G1 H else G2 H := fun H S => Rd.bothN (fun c => h1 c H S) (fun c => h2 c H S)
theorem bothB (h1 : b = true → W B L G1) (h2 : b = false → W B L G2) : W B L fun H => if b = true then G1 H else G2 H := fun H S => by
  cases b with
  | true => exact iteT (h1 rfl H S)
  | false => exact iteF (h2 rfl H S)
theorem tT (h : W B L G1) : W B L fun H => if true = true then G1 H else G2 H := fun H S => iteT (h H S)
theorem tF (h : W B L G2) : W B L fun H => if false = true then G1 H else G2 H := fun H S => iteF (h H S)
theorem tNT (h : W B L G2) : W B L fun H => if (!true) = true then G1 H else G2 H := fun H S => Rd.iteNT (h H S)
theorem tNF (h : W B L G1) : W B L fun H => if (!false) = true then G1 H else G2 H := fun H S => Rd.iteNF (h H S)
theorem yesNN [Decidable p] (c : p) (h : W B L G1) : W B L fun H => if (!(!decide p)) = true then G1 H else G2 H := fun H S => Rd.yesNN c (h H S)
theorem noNN [Decidable p] (c : ¬ p) (h : W B L G2) : W B L fun H => if (!(!decide p)) = true then G1 H else G2 H := fun H S => Rd.noNN c (h H S)
/-! ### calls -/
theorem call {dvs : List V} (h : W B L fun H => tr σ H fun vs H1 => Do (sp (vs ++ dvs) H1 Q E)) : W B L fun H => tCall sp dvs E tr σ H Q := h
theorem meth (h : W B L fun H => ta σ H fun x H1 => ∃ a dx fs, x = .ref a ∧ H1 a = some (.ins C dx fs) ∧ fs.lookup f = none ∧ tr σ H1 fun vs H2 => Do (sp (x :: (vs ++ [])) H2 Q E)) : W B L fun H => tMeth C f sp [] E ta tr σ H Q := h
theorem prop (h : W B L fun H => ta σ H fun x H1 => ∃ a dx fs, x = .ref a ∧ H1 a = some (.ins C dx fs) ∧ Do (sp (.ref a :: []) H1 Q E)) : W B L fun H => tProp C sp [] E ta σ H Q := h
theorem sme (h : W B L fun H => ta σ H fun x H1 => x = .ref C ∧ tr σ H1 fun vs H2 => Do (sp (vs ++ []) H2 Q C8.E0)) : W B L fun H => Gx.tSMeth C sp ta tr σ H Q := h
theorem smeX (h : W B L fun H => ta σ H fun x H1 => x = .ref C ∧ tr σ H1 fun vs H2 => Do (sp (vs ++ []) H2 Q E)) : W B L fun H => Gx.tSMethX C sp E ta tr σ H Q := h
theorem cmX (h : W B L fun H => ta σ H fun x H1 => x = .ref C ∧ tr σ H1 fun vs H2 => Do (sp (.ref C :: (vs ++ [])) H2 Q E)) : W B L fun H => ClX.tCMeth C (fun vs H Q E => sp (vs ++ []) H Q E) E ta tr σ H Q := h
theorem callSD {ES : L2.St → XK} (h : W B L fun H => tr σ H fun vs H1 => Do (sp (vs ++ []) H1 Q (ES σ))) : W B L fun H => tCallSD sp [] ES tr σ H Q := h
theorem methSD {ES : L2.St → XK} (h : W B L fun H => ta σ H fun x H1 => ∃ a dx fs, x = .ref a ∧ H1 a = some (.ins C dx fs) ∧ fs.lookup f = none ∧ tr σ H1 fun vs H2 => Do (sp (x :: (vs ++ [])) H2 Q (ES σ))) : W B L fun H => Gx.tMethS C f sp ES ta tr σ H Q := h
theorem refl1 {α : Sort _} {a : α} {G : Hp → Prop} (h : W B L G) : W B L fun H => a = a ∧ G H := fun H S => ⟨rfl, h H S⟩
theorem methO {A : Hp → Prop} (m : (a, Is (.ins C dx fs), fl) ∈ L) (l : fs.lookup f = none) (q : W B L A) : W B L fun H => ∃ a' dx' fs', V.ref a = .ref a' ∧ H a' = some (.ins C dx' fs') ∧ fs'.lookup f = none ∧ A H := fun H S => ⟨a, dx, fs, rfl, S.at m, l, q H S⟩
theorem propO {A : Addr → Hp → Prop} (m : (a, Is (.ins C dx fs), fl) ∈ L) (q : W B L fun H => A a H) : W B L fun H => ∃ a' dx' fs', V.ref a = .ref a' ∧ H a' = some (.ins C dx' fs') ∧ A a' H := fun H S => ⟨a, dx, fs, rfl, S.at m, q H S⟩
theorem make {dvs : List V} (h : W B L fun H => tr σ H fun vs H1 => ∀ x dx, H1 x = none → H1 dx = none → dx ≠ x →
  Do (sp (.ref x :: (vs ++ dvs)) (upd (upd H1 dx (.own x)) x (.ins C dx [])) (fun v H2 => v = .non ∧ Q (.ref x) H2) E)) : W B L fun H => tMake C sp dvs E tr σ H Q := h
theorem makeV {dvs : List V} (hs : σ[i]? = some (some (.ref C))) (h : W B L fun H => tMake C sp dvs E tr σ H Q) : W B L fun H => Gx.tMakeV i C sp dvs E tr σ H Q := fun H S => ⟨hs, h H S⟩
/-- an instance is made -/
theorem mk1 {vs : List V} {Q : Addr → Hp → Prop} (h : ∀ x dx, W B ((x, Is (.ins C dx []), .nm) :: L) fun H => Do (sp (.ref x :: vs) H (fun v H2 => v = .non ∧ Q x H2) E)) :
    W B L fun H => ∀ x dx, H x = none → H dx = none → dx ≠ x → Do (sp (.ref x :: vs) (upd (upd H dx (.own x)) x (.ins C dx [])) (fun v H2 => v = .non ∧ Q x H2) E) :=
  fun H S x dx hx hdx _ => h x dx _ (S.nw hx (Pr.ex_make hx hdx) upd_same (.inr ⟨rfl, trivial⟩) fun ps z => by cases z)
/-! ### promises read -/
theorem do_ex {α : Sort _} {G : α → Hp → Prop} {x : α} (h : W B L fun H => Do (G x H)) : W B L fun H => Do (∃ x, G x H) := fun H S => ⟨x, h H S⟩
theorem do_eq {α : Sort _} {a c : α} (e : a = c) (h : W B L fun H => Do (G H)) : W B L fun H => Do (a = c ∧ G H) := fun H S => ⟨e, h H S⟩
theorem do_at {o : HO} (m : (a, Is o, fl) ∈ L) (h : W B L fun H => Do (G H)) : W B L fun H => Do (H a = some o ∧ G H) := fun H S => ⟨S.at m, h H S⟩
theorem do_sqt (m : (a, Is (.tup xs), fl) ∈ L) (h : W B L fun H => Do (G H)) : W B L fun H => Do (SqT K H a xs ∧ G H) := fun H S => ⟨Rd.sqt (S.at m), h H S⟩
theorem do_sql (m : (a, Is (.lst xs), fl) ∈ L) (h : W B L fun H => Do (G H)) : W B L fun H => Do (SqL K H a xs ∧ G H) := fun H S => ⟨Rd.sql (S.at m), h H S⟩
theorem do_and {P : Prop} (c : P) (h : W B L fun H => Do (G H)) : W B L fun H => Do (P ∧ G H) := fun H S => ⟨c, h H S⟩
theorem do_assoc {P1 P2 : Hp → Prop} (h : W B L fun H => Do (P1 H ∧ P2 H ∧ G H)) : W B L fun H => Do ((P1 H ∧ P2 H) ∧ G H) := fun H S => ⟨⟨(h H S).1, (h H S).2.1⟩, (h H S).2.2⟩
theorem do_two {P1 : Hp → Prop} (h1 : W B L fun H => Do (P1 H)) (h : W B L fun H => Do (G H)) : W B L fun H => Do (P1 H ∧ G H) := fun H S => ⟨h1 H S, h H S⟩
theorem do_side {P1 : Hp → Prop} (h1 : W B L P1) (h : W B L fun H => Do (G H)) : W B L fun H => Do (P1 H ∧ G H) := fun H S => ⟨h1 H S, h H S⟩
theorem do_all {α : Sort _} {G : α → Hp → Prop} (h : ∀ x, W B L fun H => Do (G x H)) : W B L fun H => Do (∀ x, G x H) := fun H S x => h x H S
theorem do_imp {P : Prop} (h : P → W B L fun H => Do (G H)) : W B L fun H => Do (P → G H) := fun H S c => h c H S
theorem do_rfl {α : Sort _} {a : α} (h : W B L fun H => Do (G H)) : W B L fun H => Do (a = a → G H) := fun H S _ => h H S
theorem do_vint {G : Int → Hp → Prop} (h : W B L fun H => Do (G m H)) : W B L fun H => Do (∀ n, V.int m = .int n → G n H) := fun H S n e => by cases e; exact h H S
theorem do_no {α : Type _} {z : α} : W B L fun H => Do (some z = none → G H) := fun H S e => by cases e
theorem do_exH {G : Hp → Prop} (h : W B L G) : W B L fun H => Do (∀ H', Rd.Ex H H' → G H') := fun H S H' e => h H' (S.ex e)
theorem do_newT {G : Addr → Hp → Prop} (h : ∀ t, W B ((t, Is (.tup xs), .nt) :: L) fun H => G t H) : W B L fun H => Do (∀ t H', H t = none → Rd.Ex H H' → H' t = some (.tup xs) → G t H') :=
  fun H S t H' a b c => h t H' (S.nw a b c (.inl rfl) fun ps z => by cases z)
theorem do_newL {G : Addr → Hp → Prop} (h : ∀ t, W B ((t, Is (.lst xs), .nm) :: L) fun H => G t H) : W B L fun H => Do (∀ t H', H t = none → Rd.Ex H H' → H' t = some (.lst xs) → G t H') :=
  fun H S t H' a b c => h t H' (S.nw a b c (.inr ⟨rfl, trivial⟩) fun ps z => by cases z)
theorem do_newI {F : Addr → List (Str × V)} {G : Addr → Addr → Hp → Prop} (h : ∀ t dx, W B ((t, Is (.ins C dx (F dx)), .nm) :: L) fun H => G t dx H) : W B L fun H => Do (∀ t dx H', H t = none → Rd.Ex H H' → H' t = some (.ins C dx (F dx)) → G t dx H') :=
  fun H S t dx H' a b c => h t dx H' (S.nw a b c (.inr ⟨rfl, trivial⟩) fun ps z => by cases z)
theorem do_set {o : HO} (u : Upd L a (Is o) L') (mo : Mo o) (h : W B L' G) : W B L fun H => Do (∀ H', Au.ExP a H H' → H' a = some o → G H') := fun H S H' e k => h H' (S.set u e k rfl mo)
theorem do_pre {ps : List En} {T : List (Addr × Str)} (u : Find L ps) (hT : T = [] ∨ T = B.T) (h : W B L fun H => Do (G H)) : W B L fun H => Do (Pre H T ps ∧ G H) := fun H S => ⟨S.pre u hT, h H S⟩
theorem do_post {pre post : List En} {T : List (Addr × Str)} (hT : T = [] ∨ (T = B.T ∧ B.T ≠ [])) (r : Rep L post L') (cov : ∀ c ∈ mus pre, c ∈ mus post) (h : W B L' G) : W B L fun H => Do (Post H T pre post G) := fun H S H' S' => h H' (S.post hT S' r cov)
theorem do_post0 {pre post : List En} (r : Rep L post L') (cov : ∀ c ∈ mus pre, c ∈ mus post) (h : W B L' G) : W B L fun H => Do (Post H [] pre post G) := do_post (.inl rfl) r cov h
theorem do_pre0 {ps : List En} (u : Find L ps) (h : W B L fun H => Do (G H)) : W B L fun H => Do (Pre H [] ps ∧ G H) := do_pre u (.inl rfl) h
theorem do_q (h : W B L G) : W B L fun H => Do (G H) := h
theorem do_xs {CE : Addr} {fl : Str} (h : ∀ d, W B ((d, Is (.xd [(fl, v)]), .nm) :: L) fun H => E (.ref CE) (some d) H) : W B L fun H => Do (Pr.Xs CE fl v H E) := fun H S d H' a b c => h d H' (S.nw a b c (.inr ⟨rfl, trivial⟩) fun ps z => by cases z)
theorem do_nm {lo hi : Int} (c : lo ≤ n ∧ n ≤ hi) (h : W B L fun H => Do (G H)) : W B L fun H => Do (Pr.Nm lo hi H (.int n) (some n) ∧ G H) := fun H S => ⟨.good c, h H S⟩
theorem do_nmb {lo hi : Int} {v : V} {r : Option Int} (c : W B L fun H => Pr.Nm lo hi H v r) (h : W B L fun H => Do (G H)) : W B L fun H => Do (Pr.Nm lo hi H v r ∧ G H) := fun H S => ⟨c H S, h H S⟩
theorem do_need {lo hi : Int} (h1 : lo ≤ n) (h2 : n ≤ hi) (h : W B L fun H => Q .non H) : W B L fun H => Do (Pr.spNeed lo hi ([.int n] ++ []) H Q E) := fun H S => Pr.u_need (E := E) h1 h2 (h H S)
theorem do_isInt (h : W B L fun H => Q (.bl true) H) : W B L fun H => Do (Pr.spIsInt ([.int n] ++ []) H Q E) := fun H S => Pr.u_isInt (E := E) (h H S)
theorem do_isIn {lo hi : Int} (c : lo ≤ n ∧ n ≤ hi) (h : W B L fun H => Q (.bl true) H) : W B L fun H => Do (Pr.spIs lo hi ([.int n] ++ []) H Q E) := fun H S => Pr.u_isIn (E := E) c (h H S)
theorem do_needX {CE : Addr} {lo hi : Int} (h1 : lo ≤ n) (h2 : n ≤ hi) (h : W B L fun H => Q .non H) : W B L fun H => Do (Pr.spNeedX CE lo hi ([.int n] ++ []) H Q E) := fun H S => Pr.u_needX (E := E) h1 h2 (h H S)
/-! ### new objects, fields, items -/
theorem tup (h : W B L fun H => tr σ H fun xs H1 => xs.length ≤ sizeLine ∧ Au.NewO H1 (.tup xs) Q) : W B L fun H => tTup tr σ H Q := h
theorem lst (h : W B L fun H => tr σ H fun xs H1 => xs.length ≤ sizeLine ∧ Au.NewO H1 (.lst xs) Q) : W B L fun H => tLst tr σ H Q := h
theorem lenOk {n : Nat} (c : Nat.ble n 1000 = true) (q : W B L G) : W B L fun H => n ≤ sizeLine ∧ G H := fun H S => Au.lenOk c (q H S)
theorem newT (h : ∀ t, W B ((t, Is (.tup xs), .nt) :: L) fun H => Q (.ref t) H) : W B L fun H => Au.NewO H (.tup xs) Q := fun H S p hp => h p _ (S.nw hp (Rd.ex_new hp) upd_same (.inl rfl) fun ps z => by cases z)
theorem newL (h : ∀ t, W B ((t, Is (.lst xs), .nm) :: L) fun H => Q (.ref t) H) : W B L fun H => Au.NewO H (.lst xs) Q := fun H S p hp => h p _ (S.nw hp (Rd.ex_new hp) upd_same (.inr ⟨rfl, trivial⟩) fun ps z => by cases z)
theorem nwT {G : Addr → Hp → Prop} (h : ∀ t, W B ((t, Is (.tup xs), .nt) :: L) fun H => G t H) : W B L fun H => ∀ p, H p = none → G p (upd H p (.tup xs)) := fun H S p hp => h p _ (S.nw hp (Rd.ex_new hp) upd_same (.inl rfl) fun ps z => by cases z)
theorem nwL {G : Addr → Hp → Prop} (h : ∀ t, W B ((t, Is (.lst xs), .nm) :: L) fun H => G t H) : W B L fun H => ∀ p, H p = none → G p (upd H p (.lst xs)) := fun H S p hp => h p _ (S.nw hp (Rd.ex_new hp) upd_same (.inr ⟨rfl, trivial⟩) fun ps z => by cases z)
theorem fld (h : W B L fun H => ta σ H fun x H1 => ∃ a C dx fs v, x = .ref a ∧ H1 a = some (.ins C dx fs) ∧ Cls K C ∧ NoAttr K C f ∧ fs.lookup f = some v ∧ Q v H1) : W B L fun H => tFld K ta f σ H Q := h
theorem fld1 {G : V → Hp → Prop} (m : (a, Is (.ins C dx fs), fl) ∈ L) (c : Cls K C) (n : NoAttr K C f) (l : fs.lookup f = some v) (q : W B L fun H => G v H) :
    W B L fun H => ∃ a' C' dx' fs' v', V.ref a = .ref a' ∧ H a' = some (.ins C' dx' fs') ∧ Cls K C' ∧ NoAttr K C' f ∧ fs'.lookup f = some v' ∧ G v' H := fun H S => ⟨a, C, dx, fs, v, rfl, S.at m, c, n, l, q H S⟩
theorem ival (h : W B L fun H => ta σ H fun x H1 => ∃ a C dx fs v, x = .ref a ∧ H1 a = some (.ins C dx fs) ∧ Cls K C ∧ Gx.IVal K C f v ∧ fs.lookup f = none ∧ Q v H1) : W B L fun H => Gx.tIVal K ta f σ H Q := h
theorem ivalO {G : V → Hp → Prop} (m : (a, Is (.ins C dx fs), fl) ∈ L) (c : Cls K C) (k : Gx.IVal K C f v) (l : fs.lookup f = none) (q : W B L fun H => G v H) :
    W B L fun H => ∃ a' C' dx' fs' v', V.ref a = .ref a' ∧ H a' = some (.ins C' dx' fs') ∧ Cls K C' ∧ Gx.IVal K C' f v' ∧ fs'.lookup f = none ∧ G v' H := fun H S => ⟨a, C, dx, fs, v, rfl, S.at m, c, k, l, q H S⟩
/-- what a field's writing makes of the fields -/
inductive PutF (f : Str) (y : V) : List (Str × V) → List (Str × V) → Prop
  | nil : PutF f y [] [(f, y)]
  | hd {v : V} {r : List (Str × V)} (n : ∀ q ∈ r, ¬ q.1 = f) : PutF f y ((f, v) :: r) ((f, y) :: r)
  | tl {g : Str} {v : V} {r r' : List (Str × V)} (n : ¬ g = f) (h : PutF f y r r') : PutF f y ((g, v) :: r) ((g, v) :: r')
theorem sfld {to te : TE} (h : W B L fun H => te σ H fun y H1 => to σ H1 fun x H2 => ∃ a C dx fs, x = .ref a ∧ H2 a = some (.ins C dx fs) ∧ Cls K C ∧ NoAttr K C f ∧ fs.length < 1000 ∧ D.nx σ (upd H2 a (.ins C dx (putF f y fs)))) : W B L fun H => sFld K to te f D σ H := h
theorem stF {fs' : List (Str × V)} {G : Hp → Prop} (m : (a, Is (.ins C dx fs), fl) ∈ L) (c : Cls K C) (n : NoAttr K C f) (l : Nat.ble fs.length 100 = true) (e : putF f y fs = fs') (u : Upd L a (Is (.ins C dx fs')) L') (q : W B L' G) :
    W B L fun H => ∃ a' C' dx' fs'', V.ref a = .ref a' ∧ H a' = some (.ins C' dx' fs'') ∧ Cls K C' ∧ NoAttr K C' f ∧ fs''.length < 1000 ∧ G (upd H a' (.ins C' dx' (putF f y fs''))) :=
  fun H S => ⟨a, C, dx, fs, rfl, S.at m, c, n, Nat.lt_of_le_of_lt (Nat.le_of_ble_eq_true l) (by decide), by rw [e]; exact q _ (S.set u (fun c z h n => by rw [upd_ne n]; exact h) upd_same rfl trivial)⟩
theorem ixT (m : (a, Is (.tup xs), fl) ∈ L) (h : atI xs n = some v) (q : W B L fun H => Q v H) : W B L fun H => rIxT K (.ref a) (.int n) H Q := fun H S => Rd.ixT (Rd.sqt (S.at m)) h (q H S)
theorem ixL (m : (a, Is (.lst xs), fl) ∈ L) (h : atI xs n = some v) (q : W B L fun H => Q v H) : W B L fun H => rIxL K (.ref a) (.int n) H Q := fun H S => Rd.ixL (Rd.sql (S.at m)) h (q H S)
theorem lenL (m : (a, Is (.lst xs), fl) ∈ L) (q : W B L fun H => Q (.int xs.length) H) : W B L fun H => Rd.rLenQ K [.ref a] H Q := fun H S => Rd.lenL (Rd.sql (S.at m)) (q H S)
theorem lenT (m : (a, Is (.tup xs), fl) ∈ L) (q : W B L fun H => Q (.int xs.length) H) : W B L fun H => Rd.rLenQ K [.ref a] H Q := fun H S => Rd.lenT (Rd.sqt (S.at m)) (q H S)
theorem tyL (m : (a, Is (.lst xs), fl) ∈ L) (q : W B L G) : W B L fun H => tyV K "list" (.ref a) H ∧ G H := fun H S => ⟨Rd.tyL (S.at m), q H S⟩
theorem app {l : List V} (m : (a, Is (.lst l), fl) ∈ L) (hl : Nat.ble l.length 90000 = true) (u : Upd L a (Is (.lst (l ++ [y]))) L') (q : W B L' fun H => Q .non H) : W B L fun H => rAppend (.ref a) [y] H Q :=
  fun H S => Au.app (S.at m) (Nat.lt_of_le_of_lt (Nat.le_of_ble_eq_true hl) (by decide)) fun H' e k => q H' (S.set u e k rfl trivial)
theorem cat {c : Addr} {xs ys : List V} {fl fl' : Fl} (m : (a, Is (.lst xs), fl) ∈ L) (m' : (c, Is (.lst ys), fl') ∈ L) (hl : xs.length + ys.length ≤ 1000) (q : ∀ t, W B ((t, Is (.lst (xs ++ ys)), .nm) :: L) fun H => Q (.ref t) H) : W B L fun H => rCat (.ref a) (.ref c) H Q :=
  fun H S => Au.cat (S.at m) (S.at m') hl fun p H' n e k => q p H' (S.nw n e k (.inr ⟨rfl, trivial⟩) fun ps z => by cases z)
theorem rep {xs : List V} {k : Int} {fl : Fl} (m : (a, Is (.lst xs), fl) ∈ L) (hk : 0 ≤ k ∧ k < 100) (hl : xs.length ≤ 10) (q : ∀ t, W B ((t, Is (.lst (List.replicate k.toNat xs).flatten), .nm) :: L) fun H => Q (.ref t) H) : W B L fun H => rRep (.ref a) (.int k) H Q :=
  fun H S => Au.rep (S.at m) hk hl fun p H' n e k => q p H' (S.nw n e k (.inr ⟨rfl, trivial⟩) fun ps z => by cases z)
theorem tupOfL (m : (a, Is (.lst xs), fl) ∈ L) (q : W B L fun H => Au.NewO H (.tup xs) Q) : W B L fun H => Gx.rTupOf K [.ref a] H Q := fun H S => Gx.tupOfL (Rd.sql (S.at m)) (q H S)
theorem lstOfL (m : (a, Is (.lst xs), fl) ∈ L) (q : W B L fun H => Au.NewO H (.lst xs) Q) : W B L fun H => Gx.rLstOf K [.ref a] H Q := fun H S => Gx.lstOfL (Rd.sql (S.at m)) (q H S)
theorem lstOfT (m : (a, Is (.tup xs), fl) ∈ L) (q : W B L fun H => Au.NewO H (.lst xs) Q) : W B L fun H => Gx.rLstOf K [.ref a] H Q := fun H S => Gx.lstOfT (Rd.sqt (S.at m)) (q H S)
theorem nopart {Q : Option Int → Hp → Prop} (h : W B L fun H => Q none H) : W B L fun H => tNoPart σ H Q := h
theorem part {Q : Option Int → Hp → Prop} (h : W B L fun H => te σ H fun x H1 => ∃ i, x = .int i ∧ Q (some i) H1) : W B L fun H => tPart te σ H Q := h
theorem sl {r : V → Option Int → Option Int → Hp → VK → Prop} {tl th : TO} (h : W B L fun H => te σ H fun x H1 => tl σ H1 fun l H2 => th σ H2 fun u H3 => r x l u H3 Q) : W B L fun H => L2.tSl r te tl th σ H Q := h
theorem slL {lo hi : Option Int} (m : (a, Is (.lst xs), fl) ∈ L) (q : W B L fun H => Au.NewO H (.lst (cutV xs lo hi)) Q) : W B L fun H => rSlL K (.ref a) lo hi H Q := fun H S => Au.slL (Rd.sql (S.at m)) (q H S)
theorem revL (h : W B L fun H => te σ H fun x H1 => ∃ a xs, x = .ref a ∧ SqL K H1 a xs ∧ Au.NewO H1 (.lst xs.reverse) Q) : W B L fun H => tRevL K te σ H Q := h
theorem gtup {n : Nat} {t : TGs} {Qs : L2.St → Hp → Prop} (m : (a, Is (.tup xs), fl) ∈ L) (hl : xs.length = n) (q : W B L fun H => t xs σ H Qs) : W B L fun H => gTup K n t (.ref a) σ H Qs := fun H S => Rd.gtup (Rd.sqt (S.at m)) hl (q H S)
theorem gcons {t : TG} {u : TGs} {r : List V} {Qs : L2.St → Hp → Prop} (h : W B L fun H => t v σ H fun σ' H' => u r σ' H' Qs) : W B L fun H => gCons t u (v :: r) σ H Qs := fun H S => Rd.gcons (h H S)
theorem gnil {Qs : L2.St → Hp → Prop} (h : W B L fun H => Qs σ H) : W B L fun H => gNil [] σ H Qs := fun H S => Rd.gnil (h H S)
theorem gsub {to ti : TE} {t : TSet} {Qs : L2.St → Hp → Prop} (h : W B L fun H => to σ H fun o H1 => ti σ H1 fun i H2 => t o i v H2 fun H3 => Qs σ H3) : W B L fun H => gSub to ti t v σ H Qs := h
theorem setL {k : Int} {jn : Nat} {G : Hp → Prop} (m : (a, Is (.lst xs), fl) ∈ L) (hj : ixN xs.length k = some jn) (u : Upd L a (Is (.lst (xs.set jn v))) L') (q : W B L' G) : W B L fun H => rSetL (.ref a) (.int k) v H G :=
  fun H S => Rd.setL (S.at m) hj (q _ (S.set u (fun c z h n => by rw [upd_ne n]; exact h) upd_same rfl trivial))
/-! ### numbers with a name -/
theorem and48 {i : Int} (h : W B L fun H => Q (.int (i % 281474976710656)) H) : W B L fun H => Rd.rAndM (.int i) (.int (281474976710656 - 1)) H Q := fun H S => Rd.and48 (h H S)
theorem and32 {i : Int} (h : W B L fun H => Q (.int (i % 4294967296)) H) : W B L fun H => Rd.rAndM (.int i) (.int (4294967296 - 1)) H Q := fun H S => Rd.and32 (h H S)
theorem and64 {i : Int} (h : W B L fun H => Q (.int (i % 18446744073709551616)) H) : W B L fun H => Rd.rAndM (.int i) (.int (18446744073709551616 - 1)) H Q := fun H S => Rd.and64 (h H S)
theorem and65 {i : Int} (h : W B L fun H => Q (.int (i % 36893488147419103232)) H) : W B L fun H => Rd.rAndM (.int i) (.int (36893488147419103232 - 1)) H Q := fun H S => Rd.and65 (h H S)
theorem and1 {i : Int} (h : W B L fun H => Q (.int (i % 2)) H) : W B L fun H => Rd.rAndM (.int i) (.int 1) H Q := fun H S => Rd.and1 (h H S)
theorem andM {i m : Int} (k : Nat) (e : m = 2 ^ k - 1) (h : W B L fun H => Q (.int (i % 2 ^ k)) H) : W B L fun H => Rd.rAndM (.int i) (.int m) H Q := fun H S => Rd.andM k e (h H S)
theorem shl1 {k : Nat} (hk : k ≤ 134217727) (h : W B L fun H => Q (.int (2 ^ k)) H) : W B L fun H => Rd.rShl1 (.int 1) (.int (k : Int)) H Q := fun H S => Rd.shl1 hk (h H S)
theorem isInt (q : W B L fun H => Q (.bl true) H) : W B L fun H => rIsi K [.int n, .ty "int"] H Q := fun H S => Rd.isInt (q H S)
theorem isBool (q : W B L fun H => Q (.bl false) H) : W B L fun H => rIsi K [.int n, .ty "bool"] H Q := fun H S => Rd.isBool (q H S)
theorem isOwn (c : C8.InsC K C) (m : (a, Is (.ins C dx fs), fl) ∈ L) (q : W B L fun H => Q (.bl true) H) : W B L fun H => rIsi K [.ref a, .ref C] H Q := fun H S => Rd.isOwn c (S.at m) (q H S)
theorem isTT (m : (a, Is (.tup xs), fl) ∈ L) (q : W B L fun H => Q (.bl true) H) : W B L fun H => rIsi K [.ref a, .ty "tuple"] H Q := fun H S => Pr.isTT (S.at m) (q H S)
theorem mx2 (q : W B L fun H => Q (.int (if n > m then n else m)) H) : W B L fun H => Rd.rMax2 [.int m, .int n] H Q := fun H S => Rd.mx2 (q H S)
theorem mn2 (q : W B L fun H => Q (.int (if n < m then n else m)) H) : W B L fun H => Rd.rMin2 [.int m, .int n] H Q := fun H S => Rd.mn2 (q H S)
/-! ### data -/
theorem dpI : W B L fun H => Dp K H (.int n) (.int n) := fun H S => .int _
theorem dpS {s : Str} : W B L fun H => Dp K H (.str s) (.str s) := fun H S => .str _
theorem dpB : W B L fun H => Dp K H (.bl b) (.bool b) := fun H S => .bl _
theorem dpN : W B L fun H => Dp K H .non .none := fun H S => .non
theorem dpT {ds : List PyData} (m : (a, Is (.tup xs), fl) ∈ L) (h : W B L fun H => DpAll K H xs ds) : W B L fun H => Dp K H (.ref a) (.tuple ds) := fun H S => .tup (Rd.sqt (S.at m)) (h H S)
theorem dpL {ds : List PyData} (m : (a, Is (.lst xs), fl) ∈ L) (h : W B L fun H => DpAll K H xs ds) : W B L fun H => Dp K H (.ref a) (.list ds) := fun H S => .lst (Rd.sql (S.at m)) (h H S)
theorem dpNil : W B L fun H => DpAll K H [] [] := fun H S => .nil
theorem dpCons {d : PyData} {ds : List PyData} (h1 : W B L fun H => Dp K H v d) (h2 : W B L fun H => DpAll K H xs ds) : W B L fun H => DpAll K H (v :: xs) (d :: ds) := fun H S => .cons (h1 H S) (h2 H S)
theorem dpInts {ns : List Int} : W B L fun H => DpAll K H (ns.map V.int) (ns.map PyData.int) := fun H S => Gx.dpInts ns
theorem eqD {d e : PyData} (h1 : W B L fun H => Dp K H x d) (h2 : W B L fun H => Dp K H y e) (s1 : SeqAt.shaped d = true) (s2 : SeqAt.shaped e = true) (q : W B L fun H => Q (.bl (PyData.eqv d e)) H) : W B L fun H => rEqD K x y H Q := fun H S => Au.eqD (h1 H S) (h2 H S) s1 s2 (q H S)
theorem neD {d e : PyData} (h1 : W B L fun H => Dp K H x d) (h2 : W B L fun H => Dp K H y e) (s1 : SeqAt.shaped d = true) (s2 : SeqAt.shaped e = true) (q : W B L fun H => Q (.bl (!PyData.eqv d e)) H) : W B L fun H => rNeD K x y H Q := fun H S => Au.neD (h1 H S) (h2 H S) s1 s2 (q H S)
theorem eqDs {d : PyData} (h1 : W B L fun H => Dp K H x d) (h2 : W B L fun H => Dp K H y d) (s1 : SeqAt.shaped d = true) (q : W B L fun H => Q (.bl true) H) : W B L fun H => rEqD K x y H Q := fun H S => Au.eqDs (h1 H S) (h2 H S) s1 (q H S)
theorem neDs {d : PyData} (h1 : W B L fun H => Dp K H x d) (h2 : W B L fun H => Dp K H y d) (s1 : SeqAt.shaped d = true) (q : W B L fun H => Q (.bl false) H) : W B L fun H => rNeD K x y H Q := fun H S => Au.neDs (h1 H S) (h2 H S) s1 (q H S)
theorem rpr {d : PyData} (h : W B L fun H => Dp K H x d) (o : Gx.Okd d) (q : W B L fun H => Q (.str d.shown) H) : W B L fun H => Gx.rRepr K [x] H Q := fun H S => Gx.rpr d (h H S) o (q H S)
theorem rprD {d : PyData} (h : W B L fun H => Dp K H x d) (o : Gx.Okd d) (q : W B L fun H => Q (.str d.shown) H) : W B L fun H => Gx.rReprD K [x] H Q := fun H S => .inl (Gx.rpr d (h H S) o (q H S))
theorem eqLI {c : Addr} {ns ms : List Int} {fl fl' : Fl} (m : (a, Is (.lst (ns.map V.int)), fl) ∈ L) (m' : (c, Is (.lst (ms.map V.int)), fl') ∈ L) (q : W B L fun H => Q (.bl (decide (ns = ms))) H) : W B L fun H => rEqD K (.ref a) (.ref c) H Q := fun H S => Gx.eqL (Rd.sql (S.at m)) (Rd.sql (S.at m')) (q H S)
theorem neLI {c : Addr} {ns ms : List Int} {fl fl' : Fl} (m : (a, Is (.lst (ns.map V.int)), fl) ∈ L) (m' : (c, Is (.lst (ms.map V.int)), fl') ∈ L) (q : W B L fun H => Q (.bl (!decide (ns = ms))) H) : W B L fun H => rNeD K (.ref a) (.ref c) H Q := fun H S => Gx.neL (Rd.sql (S.at m)) (Rd.sql (S.at m')) (q H S)
/-! ### ends -/
def In (B : Bs) (P : L2.St → List En → Prop) : L2.St → Hp → Prop := fun σ H => ∃ L, P σ L ∧ Hs B L H
theorem fin_in {P : L2.St → List En → Prop} (p : P σ L') (s : Sub L' L) : W B L fun H => In B P σ H := fun H S => ⟨L', p, S.sub s⟩
theorem fin {H0 : Hp} {T : List (Addr × Str)} {pre post : List En} {G : Hp → Prop} (p : Post H0 T pre post G) (s : Sub post L) : W ⟨H0, mus pre, T⟩ L G := fun H S => p H (S.sub s)
theorem sub (s : Sub L' L) (h : W B L' G) : W B L G := fun H S => h H (S.sub s)
theorem Hs.tupF {B : Bs} {L : List En} {H : Hp} {t : Addr} {φ : Cl} (S : Hs B L H) (m : (t, φ, .nt) ∈ L) : Fr B t := (S.ok _ m).1
theorem Hs.nmF {B : Bs} {L : List En} {H : Hp} {t : Addr} {φ : Cl} (S : Hs B L H) (m : (t, φ, .nm) ∈ L) : Fr B t := (S.ok _ m).1
theorem fr0 {H0 : Hp} {M : List Addr} {t : Addr} (h : Fr ⟨H0, M, []⟩ t) : H0 t = none := by
  cases e : H0 t with
  | none => rfl
  | some o => exact absurd rfl (h o e).1
/-- the old ends -/
theorem fin_newT {H0 : Hp} {t : Addr} {G : Addr → Hp → Prop} (q : ∀ t H', H0 t = none → Rd.Ex H0 H' → H' t = some (.tup xs) → G t H') (m : (t, Is (.tup xs), .nt) ∈ L) : W ⟨H0, [], []⟩ L fun H => G t H :=
  fun H S => q t H (fr0 (S.ok _ m).1) (fun c o h => S.fr c o h (by simp) fun z => absurd rfl z) (S.at m)
theorem fin_newL {H0 : Hp} {t : Addr} {G : Addr → Hp → Prop} (q : ∀ t H', H0 t = none → Rd.Ex H0 H' → H' t = some (.lst xs) → G t H') (m : (t, Is (.lst xs), .nm) ∈ L) : W ⟨H0, [], []⟩ L fun H => G t H :=
  fun H S => q t H (fr0 (S.ok _ m).1) (fun c o h => S.fr c o h (by simp) fun z => absurd rfl z) (S.at m)
theorem fin_ex {H0 : Hp} {G : Hp → Prop} (q : ∀ H', Rd.Ex H0 H' → G H') : W ⟨H0, [], []⟩ L G := fun H S => q H fun c o h => S.fr c o h (by simp) fun z => absurd rfl z
theorem fin_set {H0 : Hp} {o : HO} {G : Hp → Prop} (q : ∀ H', Au.ExP a H0 H' → H' a = some o → G H') (m : (a, Is o, fl) ∈ L) : W ⟨H0, [a], []⟩ L G := fun H S => q H (fun c o h n => S.fr c o h (by simpa using n) fun z => absurd rfl z) (S.at m)
/-- what is there at the entry -/
theorem Hs.nil0 (H : Hp) : Hs ⟨H, [], []⟩ [] H := ⟨fun c o h _ _ => h, fun c h => (by cases h), fun p h => (by cases h), .nil, fun e h => (by cases h)⟩
theorem Hs.nilT {T : List (Addr × Str)} {H : Hp} (t : LamX.Tabs T H) : Hs ⟨H, [], T⟩ [] H := ⟨fun c o h _ _ => h, fun c h => (by cases h), t, .nil, fun e h => (by cases h)⟩
theorem Hs.nil1 {H : Hp} {a : Addr} {o : HO} (h : H a = some o) (m : Mo o) : Hs ⟨H, [a], []⟩ [(a, Is o, .mu)] H :=
  ⟨fun c o h _ _ => h, fun c hc => ⟨o, by rw [List.mem_singleton.mp hc]; exact h, m⟩, fun p h => (by cases h), List.pairwise_singleton _ _, fun e he => by
    cases List.mem_singleton.mp he
    exact ⟨List.mem_singleton.mpr rfl, o, h, rfl, fun _ => m, fun ps z => by subst z; exact m⟩⟩
theorem Hs.old {B : Bs} {L : List En} {H : Hp} {a : Addr} {o : HO} (S : Hs B L H) (h : H a = some o) (nb : ∀ ps, o ≠ .tbl ps) (d : ∀ e ∈ L, e.2.2.mut = true → ∀ o', H e.1 = some o' → e.2.1.P H o' → e.1 ≠ a) : Hs B ((a, Is o, .ro) :: L) H :=
  ⟨S.fr, S.mm, S.tb, List.pairwise_cons.mpr ⟨fun e he => by
    cases hm : e.2.2.mut with
    | false => exact .inl ⟨rfl, hm⟩
    | true =>
      obtain ⟨_, o', k1, k2, _⟩ := S.ok e he
      exact .inr (Ne.symm (d e he hm o' k1 k2)), S.df⟩, fun e he => by
    rcases List.mem_cons.mp he with rfl | he
    · exact ⟨trivial, o, h, rfl, fun z => (by cases z), nb⟩
    · exact S.ok e he⟩
theorem Hs.old0 {H0 : Hp} {T : List (Addr × Str)} {L : List En} {H : Hp} {a : Addr} {o : HO} (S : Hs ⟨H0, [], T⟩ L H) (h : H a = some o) (nb : ∀ ps, o ≠ .tbl ps) (d : ∀ e ∈ L, e.2.2.mut = false) : Hs ⟨H0, [], T⟩ ((a, Is o, .ro) :: L) H :=
  S.old h nb fun e he hm => by rw [d e he] at hm; cases hm
/-! ### loops -/
theorem frN {k : Int} {n : Nat} {g : TG} {tb : TS} (hk : k = (n : Int)) (hn : n ≤ 1000000) (Pv : Nat → L2.St → List En → Prop) (h0 : ∃ L0, Pv 0 σ L0 ∧ Sub L0 L)
    (hs : ∀ i σ L, i < n → Pv i σ L → W B L fun H => g (.int (i : Int)) σ H fun σ2 H2 => tb { D with nx := In B (Pv (i + 1)), ct := In B (Pv (i + 1)), bk := D.nx } σ2 H2) (hd : ∀ σ L, Pv n σ L → W B L fun H => D.nx σ H) :
    W B L fun H => ∃ j : Int, [V.int k] = [.int j] ∧ -(2 ^ 62) ≤ j ∧ j < 2 ^ 62 ∧ ∃ W : Nat → Nat → L2.St → Hp → Prop, (∃ m, W 0 m σ H) ∧ ∀ i m σ H, W i m σ H →
    ((Itr 0 j.toNat).stop i H ∧ D.nx σ H) ∨ ((Itr 0 j.toNat).go i H ∧ ∃ N : L2.St → Hp → Prop, (∀ σ' H', N σ' H' → ∃ m', m' < m ∧ W (i + 1) m' σ' H') ∧ ∀ x H', (Itr 0 j.toNat).yld i H x H' → g x σ H' fun σ2 H2 => tb { D with nx := N, ct := N, bk := D.nx } σ2 H2) := by
  intro H S
  obtain ⟨L0, p, s⟩ := h0
  refine Rd.frN hk hn (fun i => In B (Pv i)) ⟨L0, p, S.sub s⟩ (fun i σ H hi z => ?_) (fun σ H z => ?_)
  · obtain ⟨L, p, S⟩ := z
    exact hs i σ L hi p H S
  · obtain ⟨L, p, S⟩ := z
    exact hd σ L p H S
theorem fr1 {g : TG} {tb : TS} (h : W B L fun H => tr σ H fun vs H1 => ∃ j : Int, vs = [.int j] ∧ -(2 ^ 62) ≤ j ∧ j < 2 ^ 62 ∧ ∃ W : Nat → Nat → L2.St → Hp → Prop, (∃ m, W 0 m σ H1) ∧ ∀ i m σ H, W i m σ H →
    ((Itr 0 j.toNat).stop i H ∧ D.nx σ H) ∨ ((Itr 0 j.toNat).go i H ∧ ∃ N : L2.St → Hp → Prop, (∀ σ' H', N σ' H' → ∃ m', m' < m ∧ W (i + 1) m' σ' H') ∧ ∀ x H', (Itr 0 j.toNat).yld i H x H' → g x σ H' fun σ2 H2 => tb { D with nx := N, ct := N, bk := D.nx } σ2 H2)) :
    W B L fun H => tFor (iRng1 tr) g tb D σ H := h
theorem frl {g : TG} {tb : TS} (h : W B L fun H => te σ H fun x H1 => ∃ a, x = .ref a ∧ (∃ xs, SqL K H1 a xs) ∧ ∃ W : Nat → Nat → L2.St → Hp → Prop, (∃ m, W 0 m σ H1) ∧ ∀ i m σ H, W i m σ H →
    ((Itl K a).stop i H ∧ D.nx σ H) ∨ ((Itl K a).go i H ∧ ∃ N : L2.St → Hp → Prop, (∀ σ' H', N σ' H' → ∃ m', m' < m ∧ W (i + 1) m' σ' H') ∧ ∀ x H', (Itl K a).yld i H x H' → g x σ H' fun σ2 H2 => tb { D with nx := N, ct := N, bk := D.nx } σ2 H2)) :
    W B L fun H => tFor (iList K te) g tb D σ H := h
theorem frt {g : TG} {tb : TS} (h : W B L fun H => te σ H fun x H1 => ∃ a, x = .ref a ∧ (∃ xs, SqT K H1 a xs) ∧ ∃ W : Nat → Nat → L2.St → Hp → Prop, (∃ m, W 0 m σ H1) ∧ ∀ i m σ H, W i m σ H →
    ((Itt K a).stop i H ∧ D.nx σ H) ∨ ((Itt K a).go i H ∧ ∃ N : L2.St → Hp → Prop, (∀ σ' H', N σ' H' → ∃ m', m' < m ∧ W (i + 1) m' σ' H') ∧ ∀ x H', (Itt K a).yld i H x H' → g x σ H' fun σ2 H2 => tb { D with nx := N, ct := N, bk := D.nx } σ2 H2)) :
    W B L fun H => tFor (iTup K te) g tb D σ H := h
theorem fre {g : TG} {tb : TS} (h : W B L fun H => tr σ H fun vs H1 => ∃ a xs, vs = [.ref a] ∧ SqL K H1 a xs ∧ ∃ W : Nat → Nat → L2.St → Hp → Prop, (∃ m, W 0 m σ H1) ∧ ∀ i m σ H, W i m σ H →
    ((Ite K a).stop i H ∧ D.nx σ H) ∨ ((Ite K a).go i H ∧ ∃ N : L2.St → Hp → Prop, (∀ σ' H', N σ' H' → ∃ m', m' < m ∧ W (i + 1) m' σ' H') ∧ ∀ x H', (Ite K a).yld i H x H' → g x σ H' fun σ2 H2 => tb { D with nx := N, ct := N, bk := D.nx } σ2 H2)) :
    W B L fun H => tFor (iEnum K tr) g tb D σ H := h
theorem frz {g : TG} {tb : TS} (h : W B L fun H => tr σ H fun vs H1 => ∃ a b xs ys, vs = [.ref a, .ref b] ∧ SqL K H1 a xs ∧ SqL K H1 b ys ∧ ∃ W : Nat → Nat → L2.St → Hp → Prop, (∃ m, W 0 m σ H1) ∧ ∀ i m σ H, W i m σ H →
    ((Itz K a b).stop i H ∧ D.nx σ H) ∨ ((Itz K a b).go i H ∧ ∃ N : L2.St → Hp → Prop, (∀ σ' H', N σ' H' → ∃ m', m' < m ∧ W (i + 1) m' σ' H') ∧ ∀ x H', (Itz K a b).yld i H x H' → g x σ H' fun σ2 H2 => tb { D with nx := N, ct := N, bk := D.nx } σ2 H2)) :
    W B L fun H => tFor (iZip K tr) g tb D σ H := h
/-- for x in a list that stands -/
theorem forL {g : TG} {tb : TS} (m : (a, Is (.lst xs), fl) ∈ L) (Pv : Nat → L2.St → List En → Prop) (h0 : ∃ L0, Pv 0 σ L0 ∧ Sub L0 L) (hl : ∀ i σ L, Pv i σ L → ∃ fl, (a, Is (.lst xs), fl) ∈ L)
    (hs : ∀ i x σ L, xs[i]? = some x → Pv i σ L → W B L fun H => g x σ H fun σ2 H2 => tb { D with nx := In B (Pv (i + 1)), ct := In B (Pv (i + 1)), bk := D.nx } σ2 H2) (hd : ∀ σ L, Pv xs.length σ L → W B L fun H => D.nx σ H) :
    W B L fun H => ∃ a', V.ref a = .ref a' ∧ (∃ xs, SqL K H a' xs) ∧ ∃ W : Nat → Nat → L2.St → Hp → Prop, (∃ m, W 0 m σ H) ∧ ∀ i m σ H, W i m σ H →
    ((Itl K a').stop i H ∧ D.nx σ H) ∨ ((Itl K a').go i H ∧ ∃ N : L2.St → Hp → Prop, (∀ σ' H', N σ' H' → ∃ m', m' < m ∧ W (i + 1) m' σ' H') ∧ ∀ x H', (Itl K a').yld i H x H' → g x σ H' fun σ2 H2 => tb { D with nx := N, ct := N, bk := D.nx } σ2 H2) := by
  intro H S
  obtain ⟨L0, p, s⟩ := h0
  refine ⟨a, rfl, ⟨_, Rd.sql (S.at m)⟩, for_list (xs := xs) (fun i => In B (Pv i)) ⟨L0, p, S.sub s⟩ (fun i σ H _ z => ?_) (fun i x σ H hx z => ?_) (fun σ H z => ?_)⟩
  · obtain ⟨L, p, S⟩ := z
    obtain ⟨fl, m⟩ := hl i σ L p
    exact Rd.sql (S.at m)
  · obtain ⟨L, p, S⟩ := z
    exact hs i x σ L hx p H S
  · obtain ⟨L, p, S⟩ := z
    exact hd σ L p H S
theorem forT {g : TG} {tb : TS} (m : (a, Is (.tup xs), fl) ∈ L) (Pv : Nat → L2.St → List En → Prop) (h0 : ∃ L0, Pv 0 σ L0 ∧ Sub L0 L) (hl : ∀ i σ L, Pv i σ L → ∃ fl, (a, Is (.tup xs), fl) ∈ L)
    (hs : ∀ i x σ L, xs[i]? = some x → Pv i σ L → W B L fun H => g x σ H fun σ2 H2 => tb { D with nx := In B (Pv (i + 1)), ct := In B (Pv (i + 1)), bk := D.nx } σ2 H2) (hd : ∀ σ L, Pv xs.length σ L → W B L fun H => D.nx σ H) :
    W B L fun H => ∃ a', V.ref a = .ref a' ∧ (∃ xs, SqT K H a' xs) ∧ ∃ W : Nat → Nat → L2.St → Hp → Prop, (∃ m, W 0 m σ H) ∧ ∀ i m σ H, W i m σ H →
    ((Itt K a').stop i H ∧ D.nx σ H) ∨ ((Itt K a').go i H ∧ ∃ N : L2.St → Hp → Prop, (∀ σ' H', N σ' H' → ∃ m', m' < m ∧ W (i + 1) m' σ' H') ∧ ∀ x H', (Itt K a').yld i H x H' → g x σ H' fun σ2 H2 => tb { D with nx := N, ct := N, bk := D.nx } σ2 H2) := by
  intro H S
  obtain ⟨L0, p, s⟩ := h0
  refine ⟨a, rfl, ⟨_, Rd.sqt (S.at m)⟩, for_tup (xs := xs) (fun i => In B (Pv i)) ⟨L0, p, S.sub s⟩ (fun i σ H _ z => ?_) (fun i x σ H hx z => ?_) (fun σ H z => ?_)⟩
  · obtain ⟨L, p, S⟩ := z
    obtain ⟨fl, m⟩ := hl i σ L p
    exact Rd.sqt (S.at m)
  · obtain ⟨L, p, S⟩ := z
    exact hs i x σ L hx p H S
  · obtain ⟨L, p, S⟩ := z
    exact hd σ L p H S
theorem nwT' {T : Addr} {o : List V} {G : Hp → Prop} (h : W B ((T, Is (.tup o), .nt) :: L) G) {H : Hp} (S : Hs B L H) (hT : H T = none) : G (upd H T (.tup o)) := h _ (S.nw hT (Rd.ex_new hT) upd_same (.inl rfl) fun ps z => by cases z)
theorem forE {g : TG} {tb : TS} (m : (a, Is (.lst xs), fl) ∈ L) (Pv : Nat → L2.St → List En → Prop) (h0 : ∃ L0, Pv 0 σ L0 ∧ Sub L0 L) (hl : ∀ i σ L, Pv i σ L → ∃ fl, (a, Is (.lst xs), fl) ∈ L)
    (hs : ∀ i x σ L t, xs[i]? = some x → Pv i σ L → W B ((t, Is (.tup [.int (i : Nat), x]), .nt) :: L) fun H => g (.ref t) σ H fun σ2 H2 => tb { D with nx := In B (Pv (i + 1)), ct := In B (Pv (i + 1)), bk := D.nx } σ2 H2) (hd : ∀ σ L, Pv xs.length σ L → W B L fun H => D.nx σ H) :
    W B L fun H => ∃ a' xs, [V.ref a] = [.ref a'] ∧ SqL K H a' xs ∧ ∃ W : Nat → Nat → L2.St → Hp → Prop, (∃ m, W 0 m σ H) ∧ ∀ i m σ H, W i m σ H →
    ((Ite K a').stop i H ∧ D.nx σ H) ∨ ((Ite K a').go i H ∧ ∃ N : L2.St → Hp → Prop, (∀ σ' H', N σ' H' → ∃ m', m' < m ∧ W (i + 1) m' σ' H') ∧ ∀ x H', (Ite K a').yld i H x H' → g x σ H' fun σ2 H2 => tb { D with nx := N, ct := N, bk := D.nx } σ2 H2) := by
  intro H S
  obtain ⟨L0, p, s⟩ := h0
  refine ⟨a, xs, rfl, Rd.sql (S.at m), for_it (walk_enum (K := K) (a := a) (xs := xs)) (fun i => In B (Pv i)) ⟨L0, p, S.sub s⟩ (fun i σ H _ z => ?_) (fun i x σ H H' hx z y => ?_) (fun σ H z => ?_)⟩
  · obtain ⟨L, p, S⟩ := z
    obtain ⟨fl, m⟩ := hl i σ L p
    exact Rd.sql (S.at m)
  · obtain ⟨L, p, S⟩ := z
    obtain ⟨t, x1, x2, rfl, nt, rfl, f1, f2⟩ := y
    cases f1
    exact nwT' (hs i x2 σ L t f2 p) S nt
  · obtain ⟨L, p, S⟩ := z
    exact hd σ L p H S
theorem forZ {g : TG} {tb : TS} {c : Addr} {ys : List V} {n : Nat} {fl fl' : Fl} (m : (a, Is (.lst xs), fl) ∈ L) (m' : (c, Is (.lst ys), fl') ∈ L) (hn : n = min xs.length ys.length) (Pv : Nat → L2.St → List En → Prop) (h0 : ∃ L0, Pv 0 σ L0 ∧ Sub L0 L)
    (hl : ∀ i σ L, Pv i σ L → (∃ fl, (a, Is (.lst xs), fl) ∈ L) ∧ ∃ fl, (c, Is (.lst ys), fl) ∈ L)
    (hs : ∀ i x y σ L t, i < n → xs[i]? = some x → ys[i]? = some y → Pv i σ L → W B ((t, Is (.tup [x, y]), .nt) :: L) fun H => g (.ref t) σ H fun σ2 H2 => tb { D with nx := In B (Pv (i + 1)), ct := In B (Pv (i + 1)), bk := D.nx } σ2 H2) (hd : ∀ σ L, Pv n σ L → W B L fun H => D.nx σ H) :
    W B L fun H => ∃ a' b' xs ys, [V.ref a, V.ref c] = [.ref a', .ref b'] ∧ SqL K H a' xs ∧ SqL K H b' ys ∧ ∃ W : Nat → Nat → L2.St → Hp → Prop, (∃ m, W 0 m σ H) ∧ ∀ i m σ H, W i m σ H →
    ((Itz K a' b').stop i H ∧ D.nx σ H) ∨ ((Itz K a' b').go i H ∧ ∃ N : L2.St → Hp → Prop, (∀ σ' H', N σ' H' → ∃ m', m' < m ∧ W (i + 1) m' σ' H') ∧ ∀ x H', (Itz K a' b').yld i H x H' → g x σ H' fun σ2 H2 => tb { D with nx := N, ct := N, bk := D.nx } σ2 H2) := by
  intro H S
  obtain ⟨L0, p, s⟩ := h0
  refine ⟨a, c, xs, ys, rfl, Rd.sql (S.at m), Rd.sql (S.at m'), for_it (walk_zip (K := K) (a := a) (b := c) (xs := xs) (ys := ys) hn) (fun i => In B (Pv i)) ⟨L0, p, S.sub s⟩ (fun i σ H _ z => ?_) (fun i x σ H H' hx z y => ?_) (fun σ H z => ?_)⟩
  · obtain ⟨L, p, S⟩ := z
    obtain ⟨⟨fl, m⟩, fl', m'⟩ := hl i σ L p
    exact ⟨Rd.sql (S.at m), Rd.sql (S.at m')⟩
  · obtain ⟨L, p, S⟩ := z
    obtain ⟨t, x1, x2, rfl, nt, rfl, f1, f2⟩ := y
    exact nwT' (hs i x1 x2 σ L t hx f1 f2 p) S nt
  · obtain ⟨L, p, S⟩ := z
    exact hd σ L p H S
theorem whl {c : TT} {tb : TS} (Pv : Nat → L2.St → List En → Prop) (m : Nat) (h0 : ∃ L0, Pv m σ L0 ∧ Sub L0 L)
    (hs : ∀ m σ L, Pv m σ L → W B L fun H => c σ H fun b H1 => if b = true then ∃ N : L2.St → Hp → Prop, (∀ σ' H', N σ' H' → ∃ m', m' < m ∧ In B (Pv m') σ' H') ∧ tb { D with nx := N, ct := N, bk := D.nx } σ H1 else D.nx σ H1) : W B L fun H => tWhile c tb D σ H := by
  intro H S
  obtain ⟨L0, p, s⟩ := h0
  refine Rd.whl (fun m => In B (Pv m)) m ⟨L0, p, S.sub s⟩ fun m σ H z => ?_
  obtain ⟨L, p, S⟩ := z
  exact hs m σ L p H S
theorem whN {m : Nat} {Pv : Nat → L2.St → List En → Prop} {G : (L2.St → Hp → Prop) → Hp → Prop} (h : W B L fun H => G (In B fun σ' L' => ∃ m', m' < m ∧ Pv m' σ' L') H) : W B L fun H => ∃ N : L2.St → Hp → Prop, (∀ σ' H', N σ' H' → ∃ m', m' < m ∧ In B (Pv m') σ' H') ∧ G N H :=
  fun H S => ⟨_, fun σ' H' z => by
    obtain ⟨L', ⟨m', h1, h2⟩, h3⟩ := z
    exact ⟨m', h1, L', h2, h3⟩, h H S⟩
theorem cut {t u : TS} (Mid : L2.St → List En → Prop) (h1 : W B L fun H => t { D with nx := In B Mid } σ H) (h2 : ∀ σ' L', Mid σ' L' → W B L' fun H => u D σ' H) : W B L fun H => C8.tCut t u D σ H := fun H S =>
  Rd.cut (In B Mid) (h1 H S) fun σ' H' z => by
    obtain ⟨L', p, S'⟩ := z
    exact h2 σ' L' p H' S'
/-! ### comprehensions -/
theorem lcO {wi : TI} {tt : TT} {vs : List Nat} (h : W B L fun H => wi σ H fun J H1 => Gx.LcB J g tt te vs σ H1 Q) : W B L fun H => tLc wi g tt te vs σ H Q := h
theorem itupO {R : It → Hp → Prop} (h : W B L fun H => te σ H fun x H1 => ∃ a, x = .ref a ∧ (∃ xs, SqT K H1 a xs) ∧ R (Itt K a) H1) : W B L fun H => iTup K te σ H R := h
theorem ilistO {R : It → Hp → Prop} (h : W B L fun H => te σ H fun x H1 => ∃ a, x = .ref a ∧ (∃ xs, SqL K H1 a xs) ∧ R (Itl K a) H1) : W B L fun H => iList K te σ H R := h
theorem irng1O {R : It → Hp → Prop} (h : W B L fun H => tr σ H fun vs H1 => ∃ j : Int, vs = [.int j] ∧ -(2 ^ 62) ≤ j ∧ j < 2 ^ 62 ∧ R (Itr 0 j.toNat) H1) : W B L fun H => iRng1 tr σ H R := h
/-- a turn's end: the item is put behind the others -/
def LcW (B : Bs) (Pv : Nat → List V → List En → Prop) (Dd : Addr) (k : Nat) : VK := Gx.LcN (fun D k acc H => ∃ L, Pv k acc L ∧ Hs B ((D, Is (.lst acc), .nm) :: L) H) Dd k
theorem lcN {Pv : Nat → List V → List En → Prop} {Dd : Addr} {k : Nat} {acc : List V} (m : (Dd, Is (.lst acc), fl) ∈ L) (hl : acc.length ≤ k) (hk : k ≤ 100000) (u : Upd L Dd (Is (.lst (acc ++ [y]))) L') (p : Pv (k + 1) (acc ++ [y]) L1) (s : Sub ((Dd, Is (.lst (acc ++ [y])), .nm) :: L1) L') :
    W B L fun H => LcW B Pv Dd k y H := fun H S => Gx.lcN (S.at m) hl hk fun H5 e k5 => ⟨L1, p, (S.set u e k5 rfl trivial).sub s⟩
theorem irng {n : Nat} {k : Int} {R : It → Hp → Prop} (hk : k = (n : Int)) (hn : n ≤ 1000000) (h : W B L fun H => R (Itr 0 n) H) : W B L fun H => ∃ j : Int, [V.int k] = [.int j] ∧ -(2 ^ 62) ≤ j ∧ j < 2 ^ 62 ∧ R (Itr 0 j.toNat) H := fun H S => by
  subst hk
  exact ⟨n, rfl, by omega, by omega, by rw [Int.toNat_natCast]; exact h H S⟩
theorem ilst {R : It → Hp → Prop} (m : (a, Is (.lst xs), fl) ∈ L) (h : W B L fun H => R (Itl K a) H) : W B L fun H => ∃ a', V.ref a = .ref a' ∧ (∃ xs, SqL K H a' xs) ∧ R (Itl K a') H := fun H S => ⟨a, rfl, ⟨_, Rd.sql (S.at m)⟩, h H S⟩
theorem itup {R : It → Hp → Prop} (m : (a, Is (.tup xs), fl) ∈ L) (h : W B L fun H => R (Itt K a) H) : W B L fun H => ∃ a', V.ref a = .ref a' ∧ (∃ xs, SqT K H a' xs) ∧ R (Itt K a') H := fun H S => ⟨a, rfl, ⟨_, Rd.sqt (S.at m)⟩, h H S⟩
theorem lcRng {n : Nat} (Pv : Nat → List V → List En → Prop) (h0 : ∃ L0, Pv 0 [] L0 ∧ Sub L0 L)
    (hs : ∀ Dd k acc L, k < n → acc.length ≤ k → Pv k acc L → W B ((Dd, Is (.lst acc), .nm) :: L) fun H => te ((wipe σ [j]).set j (some (.int (k : Int)))) H (LcW B Pv Dd k))
    (hd : ∀ Dd acc L, Pv n acc L → W B ((Dd, Is (.lst acc), .nm) :: L) fun H => Q (.ref Dd) H) : W B L fun H => Gx.LcB (Itr 0 n) (gName j) tYes te [j] σ H Q := by
  intro H S
  obtain ⟨L0, p, s⟩ := h0
  refine Gx.lcRng (fun D k acc H => ∃ L, Pv k acc L ∧ Hs B ((D, Is (.lst acc), .nm) :: L) H) (fun D H1 hD e k => ⟨L0, p, (S.sub s).nw hD e k (.inr ⟨rfl, trivial⟩) fun ps z => by cases z⟩) (fun D k acc H' hD hk hl k' p => ?_) (fun D acc H' hD k' p => ?_)
  · obtain ⟨L, p, S⟩ := p
    exact hs D k acc L hk hl p H' S
  · obtain ⟨L, p, S⟩ := p
    exact hd D acc L p H' S
theorem lcLst (Pv : Nat → List V → List En → Prop) (hlen : xs.length ≤ 100000) (h0 : ∃ L0, Pv 0 [] L0 ∧ Sub L0 L) (hl : ∀ k acc L, Pv k acc L → ∃ fl, (a, Is (.lst xs), fl) ∈ L)
    (hs : ∀ Dd k x acc L, xs[k]? = some x → acc.length ≤ k → Pv k acc L → W B ((Dd, Is (.lst acc), .nm) :: L) fun H => te ((wipe σ [j]).set j (some x)) H (LcW B Pv Dd k))
    (hd : ∀ Dd acc L, Pv xs.length acc L → W B ((Dd, Is (.lst acc), .nm) :: L) fun H => Q (.ref Dd) H) : W B L fun H => Gx.LcB (Itl K a) (gName j) tYes te [j] σ H Q := by
  intro H S
  obtain ⟨L0, p, s⟩ := h0
  refine Gx.lcLst (xs := xs) (fun D k acc H => ∃ L, Pv k acc L ∧ Hs B ((D, Is (.lst acc), .nm) :: L) H) hlen (fun D H1 hD e k => ⟨L0, p, (S.sub s).nw hD e k (.inr ⟨rfl, trivial⟩) fun ps z => by cases z⟩) (fun D k acc H' hD p => ?_) (fun D k x acc H' hD hk hl k' p => ?_) (fun D acc H' hD k' p => ?_)
  · obtain ⟨L, p, S⟩ := p
    obtain ⟨fl, m⟩ := hl k acc L p
    exact Rd.sql (S.at (List.mem_cons_of_mem _ m))
  · obtain ⟨L, p, S⟩ := p
    exact hs D k x acc L hk hl p H' S
  · obtain ⟨L, p, S⟩ := p
    exact hd D acc L p H' S
theorem lcTup (Pv : Nat → List V → List En → Prop) (hlen : xs.length ≤ 100000) (h0 : ∃ L0, Pv 0 [] L0 ∧ Sub L0 L) (hl : ∀ k acc L, Pv k acc L → ∃ fl, (a, Is (.tup xs), fl) ∈ L)
    (hs : ∀ Dd k x acc L, xs[k]? = some x → acc.length ≤ k → Pv k acc L → W B ((Dd, Is (.lst acc), .nm) :: L) fun H => te ((wipe σ [j]).set j (some x)) H (LcW B Pv Dd k))
    (hd : ∀ Dd acc L, Pv xs.length acc L → W B ((Dd, Is (.lst acc), .nm) :: L) fun H => Q (.ref Dd) H) : W B L fun H => Gx.LcB (Itt K a) (gName j) tYes te [j] σ H Q := by
  intro H S
  obtain ⟨L0, p, s⟩ := h0
  refine Gx.lcTup (xs := xs) (fun D k acc H => ∃ L, Pv k acc L ∧ Hs B ((D, Is (.lst acc), .nm) :: L) H) hlen (fun D H1 hD e k => ⟨L0, p, (S.sub s).nw hD e k (.inr ⟨rfl, trivial⟩) fun ps z => by cases z⟩) (fun D k acc H' hD p => ?_) (fun D k x acc H' hD hk hl k' p => ?_) (fun D acc H' hD k' p => ?_)
  · obtain ⟨L, p, S⟩ := p
    obtain ⟨fl, m⟩ := hl k acc L p
    exact Rd.sqt (S.at (List.mem_cons_of_mem _ m))
  · obtain ⟨L, p, S⟩ := p
    exact hs D k x acc L hk hl p H' S
  · obtain ⟨L, p, S⟩ := p
    exact hd D acc L p H' S
theorem lcRngN {k : Int} {n : Nat} (hk : k = (n : Int)) (hn : n ≤ 100000) (Pv : Nat → List V → List En → Prop) (h0 : ∃ L0, Pv 0 [] L0 ∧ Sub L0 L)
    (hs : ∀ Dd k acc L, k < n → acc.length ≤ k → Pv k acc L → W B ((Dd, Is (.lst acc), .nm) :: L) fun H => te ((wipe σ [j]).set j (some (.int (k : Int)))) H (LcW B Pv Dd k))
    (hd : ∀ Dd acc L, Pv n acc L → W B ((Dd, Is (.lst acc), .nm) :: L) fun H => Q (.ref Dd) H) : W B L fun H => ∃ jj : Int, [V.int k] = [.int jj] ∧ -(2 ^ 62) ≤ jj ∧ jj < 2 ^ 62 ∧ Gx.LcB (Itr 0 jj.toNat) (gName j) tYes te [j] σ H Q := fun H S => by
  subst hk
  exact ⟨n, rfl, by omega, by omega, by rw [Int.toNat_natCast]; exact lcRng Pv h0 hs hd H S⟩
theorem lcLstN (m : (a, Is (.lst xs), fl) ∈ L) (Pv : Nat → List V → List En → Prop) (hlen : xs.length ≤ 100000) (h0 : ∃ L0, Pv 0 [] L0 ∧ Sub L0 L) (hl : ∀ k acc L, Pv k acc L → ∃ fl, (a, Is (.lst xs), fl) ∈ L)
    (hs : ∀ Dd k x acc L, xs[k]? = some x → acc.length ≤ k → Pv k acc L → W B ((Dd, Is (.lst acc), .nm) :: L) fun H => te ((wipe σ [j]).set j (some x)) H (LcW B Pv Dd k))
    (hd : ∀ Dd acc L, Pv xs.length acc L → W B ((Dd, Is (.lst acc), .nm) :: L) fun H => Q (.ref Dd) H) : W B L fun H => ∃ a', V.ref a = .ref a' ∧ (∃ xs, SqL K H a' xs) ∧ Gx.LcB (Itl K a') (gName j) tYes te [j] σ H Q := fun H S =>
  ⟨a, rfl, ⟨_, Rd.sql (S.at m)⟩, lcLst Pv hlen h0 hl hs hd H S⟩
theorem lcTupN (m : (a, Is (.tup xs), fl) ∈ L) (Pv : Nat → List V → List En → Prop) (hlen : xs.length ≤ 100000) (h0 : ∃ L0, Pv 0 [] L0 ∧ Sub L0 L) (hl : ∀ k acc L, Pv k acc L → ∃ fl, (a, Is (.tup xs), fl) ∈ L)
    (hs : ∀ Dd k x acc L, xs[k]? = some x → acc.length ≤ k → Pv k acc L → W B ((Dd, Is (.lst acc), .nm) :: L) fun H => te ((wipe σ [j]).set j (some x)) H (LcW B Pv Dd k))
    (hd : ∀ Dd acc L, Pv xs.length acc L → W B ((Dd, Is (.lst acc), .nm) :: L) fun H => Q (.ref Dd) H) : W B L fun H => ∃ a', V.ref a = .ref a' ∧ (∃ xs, SqT K H a' xs) ∧ Gx.LcB (Itt K a') (gName j) tYes te [j] σ H Q := fun H S =>
  ⟨a, rfl, ⟨_, Rd.sqt (S.at m)⟩, lcTup Pv hlen h0 hl hs hd H S⟩
/-! ### generators drained, ranges of any kind -/
theorem lg {tg : TGen} (h : W B L fun H => tg σ H fun out H2 => Au.NewO H2 (.lst out) Q) : W B L fun H => tListG tg σ H Q := h
theorem mg {spg : SpG} {cont : List V → Hp → Prop} (h : W B L fun H => ta σ H fun x H1 => ∃ a dx fs, x = .ref a ∧ H1 a = some (.ins C dx fs) ∧ fs.lookup f = none ∧ tr σ H1 fun vs H2 => Do (spg (x :: (vs ++ [])) H2 cont E)) : W B L fun H => tMethG C f spg [] E ta tr σ H cont := h
theorem lcFn {J : It} {n : Nat} {F : Nat → V} (wk : Walk J n (fun _ => True) (YFn F)) (Pv : Nat → List V → List En → Prop) (h0 : ∃ L0, Pv 0 [] L0 ∧ Sub L0 L)
    (hs : ∀ Dd k acc L, k < n → acc.length ≤ k → Pv k acc L → W B ((Dd, Is (.lst acc), .nm) :: L) fun H => te ((wipe σ [j]).set j (some (F k))) H (LcW B Pv Dd k))
    (hd : ∀ Dd acc L, Pv n acc L → W B ((Dd, Is (.lst acc), .nm) :: L) fun H => Q (.ref Dd) H) : W B L fun H => Gx.LcB J (gName j) tYes te [j] σ H Q := by
  intro H S Dd hD
  obtain ⟨L0, p, s⟩ := h0
  refine lc_it wk (fun i H' => ∃ acc, acc.length ≤ i ∧ H' Dd = some (.lst acc) ∧ ∃ L, Pv i acc L ∧ Hs B ((Dd, Is (.lst acc), .nm) :: L) H') ⟨[], Nat.le_refl _, upd_same, L0, p, (S.sub s).nw hD (Rd.ex_new hD) upd_same (.inr ⟨rfl, trivial⟩) fun ps z => by cases z⟩ (fun i H' _ _ => trivial) (fun i x H1 H' hi z y => ?_) (fun H' z => ?_)
  · obtain ⟨acc, l, k, L, p, S⟩ := z
    obtain ⟨rfl, rfl⟩ := y
    exact ⟨Gx.wip, hs Dd i acc L hi l p _ S⟩
  · obtain ⟨acc, l, k, L, p, S⟩ := z
    exact hd Dd acc L p H' S
theorem lcRng2N {i k : Int} {n : Nat} (b : -(2 ^ 62) ≤ i ∧ i < 2 ^ 62 ∧ -(2 ^ 62) ≤ k ∧ k < 2 ^ 62) (hn : (k - i).toNat = n) (Pv : Nat → List V → List En → Prop) (h0 : ∃ L0, Pv 0 [] L0 ∧ Sub L0 L)
    (hs : ∀ Dd q acc L, q < n → acc.length ≤ q → Pv q acc L → W B ((Dd, Is (.lst acc), .nm) :: L) fun H => te ((wipe σ [j]).set j (some (.int (i + (q : Int))))) H (LcW B Pv Dd q))
    (hd : ∀ Dd acc L, Pv n acc L → W B ((Dd, Is (.lst acc), .nm) :: L) fun H => Q (.ref Dd) H) : W B L fun H => ∃ i' j' : Int, [V.int i, V.int k] = [.int i', .int j'] ∧ (-(2 ^ 62) ≤ i' ∧ i' < 2 ^ 62 ∧ -(2 ^ 62) ≤ j' ∧ j' < 2 ^ 62) ∧ Gx.LcB (Itr i' (j' - i').toNat) (gName j) tYes te [j] σ H Q := fun H S => by
  subst hn
  exact ⟨i, k, rfl, b, lcFn walk_range Pv h0 hs hd H S⟩
theorem lcRng3N {i k c : Int} {n : Nat} (r : RgC i k c n) (Pv : Nat → List V → List En → Prop) (h0 : ∃ L0, Pv 0 [] L0 ∧ Sub L0 L)
    (hs : ∀ Dd q acc L, q < n → acc.length ≤ q → Pv q acc L → W B ((Dd, Is (.lst acc), .nm) :: L) fun H => te ((wipe σ [j]).set j (some (.int (i + (q : Nat) * c)))) H (LcW B Pv Dd q))
    (hd : ∀ Dd acc L, Pv n acc L → W B ((Dd, Is (.lst acc), .nm) :: L) fun H => Q (.ref Dd) H) : W B L fun H => ∃ (i' j' c' : Int) (n' : Nat), [V.int i, V.int k, V.int c] = [.int i', .int j', .int c'] ∧ RgC i' j' c' n' ∧ Gx.LcB (Itc i' c' n') (gName j) tYes te [j] σ H Q := fun H S =>
  ⟨i, k, c, n, rfl, r, lcFn walk_rangeC Pv h0 hs hd H S⟩
theorem irng2O {R : It → Hp → Prop} (h : W B L fun H => tr σ H fun vs H1 => ∃ i j : Int, vs = [.int i, .int j] ∧ (-(2 ^ 62) ≤ i ∧ i < 2 ^ 62 ∧ -(2 ^ 62) ≤ j ∧ j < 2 ^ 62) ∧ R (Itr i (j - i).toNat) H1) : W B L fun H => iRng2 tr σ H R := h
theorem irng3O {R : It → Hp → Prop} (h : W B L fun H => tr σ H fun vs H1 => ∃ (i j c : Int) (n : Nat), vs = [.int i, .int j, .int c] ∧ RgC i j c n ∧ R (Itc i c n) H1) : W B L fun H => iRng3 tr σ H R := h
/-! ### with tables of code objects -/
theorem do_preT {H0 : Hp} {M : List Addr} {T : List (Addr × Str)} {ps : List En} (u : Find L ps) (h : W ⟨H0, M, T⟩ L fun H => Do (G H)) : W ⟨H0, M, T⟩ L fun H => Do (Pre H T ps ∧ G H) := do_pre u (.inr rfl) h
theorem do_postT {H0 : Hp} {M : List Addr} {p : Addr × Str} {T : List (Addr × Str)} {pre post : List En} (r : Rep L post L') (cov : ∀ c ∈ mus pre, c ∈ mus post) (h : W ⟨H0, M, p :: T⟩ L' G) : W ⟨H0, M, p :: T⟩ L fun H => Do (Post H (p :: T) pre post G) :=
  do_post (.inr ⟨rfl, fun z => by cases z⟩) r cov h
end
end Sx

set_option Elab.async false
set_option linter.all false
set_option maxRecDepth 100000
set_option maxHeartbeats 1000000
/-! draws as a row; the script -/
namespace Sx
open PySem PySem.Spec PyProof.Rows L2
/-- a draw with at most n turns so far -/
def DrC (n : Nat) : Cl := ⟨fun _ o => ∃ left cell turns : Int, o = .dK [(Sum.inr "left", .int left), (Sum.inr "cell", .int cell), (Sum.inr "turns", .int turns)] ∧ 0 ≤ left ∧ 0 ≤ turns ∧ turns ≤ n, fun _ h => h⟩
theorem DrC.le {n m : Nat} (h : n ≤ m) : Cl.le (DrC n) (DrC m) := fun H o z => by
  obtain ⟨l, c, t, h1, h2, h3, h4⟩ := z
  exact ⟨l, c, t, h1, h2, h3, by omega⟩
section
variable {H0 H : Hp} {T : List (Addr × Str)} {L : List En} {K : PySem.W.Frag} {a : Addr} {xs : List V} {Q : VK}
theorem Hs.sql0 (S : Hs ⟨H0, [], T⟩ L H) (h : SqL K H0 a xs) : SqL K H a xs := by
  rcases h with (h | ⟨o, h⟩) | h
  · exact .inl (.inl (S.fr _ _ h (by simp) fun _ ps z => by cases z))
  · exact .inl (.inr ⟨o, S.fr _ _ h (by simp) fun _ ps z => by cases z⟩)
  · exact .inr h
theorem sumS {ns : List Int} (h : SqL K H0 a (ns.map V.int)) (q : W ⟨H0, [], T⟩ L fun H => Q (.int ns.sum) H) : W ⟨H0, [], T⟩ L fun H => rSum K [.ref a] H Q := fun H S => Au.sum (S.sql0 h) (q H S)
theorem slLS {lo hi : Option Int} (h : SqL K H0 a xs) (q : W ⟨H0, [], T⟩ L fun H => Au.NewO H (.lst (cutV xs lo hi)) Q) : W ⟨H0, [], T⟩ L fun H => rSlL K (.ref a) lo hi H Q := fun H S => Au.slL (S.sql0 h) (q H S)
theorem lenLS (h : SqL K H0 a xs) (q : W ⟨H0, [], T⟩ L fun H => Q (.int xs.length) H) : W ⟨H0, [], T⟩ L fun H => Rd.rLenQ K [.ref a] H Q := fun H S => Rd.lenL (S.sql0 h) (q H S)
theorem ixLS {i : Int} {v : V} (h : SqL K H0 a xs) (e : atI xs i = some v) (q : W ⟨H0, [], T⟩ L fun H => Q v H) : W ⟨H0, [], T⟩ L fun H => rIxL K (.ref a) (.int i) H Q := fun H S => Rd.ixL (S.sql0 h) e (q H S)
/-- the first cells and the sum -/
theorem cells {ns : List Int} {k : Int} (hl : ns.length ≤ 63) : ∃ M : List Int, cutV (ns.map V.int) none (some k) ++ [V.int ns.sum] = M.map V.int ∧ M.length ≤ 64 := by
  refine ⟨((ns.drop (HT.sIx (ns.map V.int).length 0 none)).take (HT.sIx (ns.map V.int).length (ns.map V.int).length (some k) - HT.sIx (ns.map V.int).length 0 none)) ++ [ns.sum], ?_, ?_⟩
  · unfold cutV
    rw [List.map_append, List.map_take, List.map_drop]
    rfl
  · have h1 : ((ns.drop (HT.sIx (ns.map V.int).length 0 none)).take (HT.sIx (ns.map V.int).length (ns.map V.int).length (some k) - HT.sIx (ns.map V.int).length 0 none)).length ≤ ns.length := by
      rw [List.length_take, List.length_drop]; omega
    rw [List.length_append]
    simp only [List.length_cons, List.length_nil]
    omega
theorem int_at {ns : List Int} {i : Nat} {y : V} (h : (ns.map V.int)[i]? = some y) : ∃ z, ns[i]? = some z ∧ y = .int z := by
  rw [List.getElem?_map] at h
  cases e : ns[i]? with
  | none => rw [e] at h; cases h
  | some z => rw [e] at h; exact ⟨z, rfl, (Option.some.inj h).symm⟩
/-- new tuples, many -/
def fam (rs : List (Addr × List V)) : List En := rs.map fun p => (p.1, Is (.tup p.2), .nt)
theorem mem_fam {rs : List (Addr × List V)} {p : Addr × List V} (h : p ∈ rs) : (p.1, Is (.tup p.2), Fl.nt) ∈ fam rs ++ L := List.mem_append_left _ (List.mem_map.mpr ⟨p, h, rfl⟩)
theorem mem_famR {rs : List (Addr × List V)} {e : En} (h : e ∈ L) : e ∈ fam rs ++ L := List.mem_append_right _ h
theorem lenSetI {B : Bs} {fl : Fl} {ns : List Int} {G : List Int → Hp → Prop} (m : (a, Is (.lst (ns.map V.int)), fl) ∈ L) (h : ns.length < 64) (nd : ns.Nodup) (q : W B L fun H => G ns H) :
    W B L fun H => ∃ (l : Addr) (ns : List Int), V.ref a = V.ref l ∧ SqL K H l (ns.map V.int) ∧ ns.length < 64 ∧ ns.Nodup ∧ G ns H := fun H S => ⟨a, ns, rfl, Rd.sql (S.at m), h, nd, q H S⟩
/-! ### draws of the first family: two things -/
def DkC (k : Str) (g : Addr) : Cl := ⟨fun _ o => ∃ run turn : Int, o = .dK [(Sum.inr k, .int run), (Sum.inr "great", .ref g), (Sum.inr "turn", .int turn)] ∧ 0 ≤ run ∧ run < 2305843009213693951, fun _ h => h⟩
def LiC : Cl := ⟨fun _ o => ∃ ns : List Int, o = .lst (ns.map V.int), fun _ h => h⟩
theorem Hs.here {B : Bs} {L : List En} {H : Hp} {p : Addr} {o : HO} {φ : Cl} {f : Fl} (S : Hs B L H) (k : H p = some o) (c : φ.P H o) (hf : f = .nt ∨ f = .nm ∧ Mo o) (nb : ∀ ps, o ≠ .tbl ps) (fr : Fr B p) (ne : ∀ e ∈ L, p ≠ e.1) : Hs B ((p, φ, f) :: L) H where
  fr := S.fr
  mm := S.mm
  tb := S.tb
  df := List.pairwise_cons.mpr ⟨fun z hz => .inr (ne z hz), S.df⟩
  ok := fun z hz => by
    rcases List.mem_cons.mp hz with rfl | hz
    · refine ⟨?_, o, k, c, ?_, nb⟩
      · rcases hf with rfl | ⟨rfl, _⟩ <;> exact fr
      · rcases hf with rfl | ⟨rfl, h⟩
        · intro h; cases h
        · exact fun _ => h
    · exact S.ok z hz
theorem df_of {L : List En} (d : L.Pairwise Df) : ∀ e ∈ L, ∀ e' ∈ L, e ≠ e' → Df e e' := by
  induction d with
  | nil => exact fun e h => by cases h
  | cons h _ ih =>
    intro e he e' he' ne
    rcases List.mem_cons.mp he with z | z
    · rcases List.mem_cons.mp he' with y | y
      · exact absurd (z.trans y.symm) ne
      · rw [z]; exact h e' y
    · rcases List.mem_cons.mp he' with y | y
      · rw [y]; exact (h e z).symm
      · exact ih e z e' y ne
/-- two things are written, what is told of them stays -/
theorem Hs.keep2 {B : Bs} {L : List En} {H H' : Hp} {d g : Addr} {φ ψ : Cl} {f f' : Fl} (S : Hs B L H) (md : (d, φ, f) ∈ L) (mg : (g, ψ, f') ∈ L) (hf : f.mut = true) (hf' : f'.mut = true) (e : ∀ c o, H c = some o → c ≠ d → c ≠ g → H' c = some o)
    (hd : ∃ o, H' d = some o ∧ φ.P H' o ∧ Mo o) (hg : ∃ o, H' g = some o ∧ ψ.P H' o ∧ Mo o) : Hs B L H' := by
  obtain ⟨od, d1, d2, d3⟩ := hd
  obtain ⟨og, g1, g2, g3⟩ := hg
  obtain ⟨sd, zd, zd1, zd2, zd3, _⟩ := S.ok _ md
  obtain ⟨sg, zg, zg1, zg2, zg3, _⟩ := S.ok _ mg
  have md' := zd3 hf
  have mg' := zg3 hf'
  have nm : ∀ c o, H c = some o → ¬ Mo o → c ≠ d ∧ c ≠ g := fun c o h n => ⟨fun z => by rw [z, zd1] at h; cases h; exact n md', fun z => by rw [z, zg1] at h; cases h; exact n mg'⟩
  have kp : Kp H H' := fun c xs h => e c _ h (nm c _ h Mo.tup).1 (nm c _ h Mo.tup).2
  have frz : ∀ (x : Addr) (χ : Cl) (k : Fl), k.mut = true → k.ok B x → ∀ c o, B.H0 c = some o → c ∉ B.M → (B.T ≠ [] → ∀ ps, o ≠ .tbl ps) → c ≠ x := fun x χ k hk ok c o h n t z => by
    subst z
    cases k with
    | ro => cases hk
    | nt => cases hk
    | nm =>
      obtain ⟨hT, ps, q⟩ := ok _ h
      exact t hT ps q
    | mu => exact n ok
  refine ⟨fun c o h n t => e _ _ (S.fr c o h n t) (frz d φ f hf sd c o h n t) (frz g ψ f' hf' sg c o h n t), fun c hc => ?_, fun q hq => ?_, S.df, fun v hv => ?_⟩
  · by_cases h1 : c = d
    · exact ⟨od, h1 ▸ d1, d3⟩
    · by_cases h2 : c = g
      · exact ⟨og, h2 ▸ g1, g3⟩
      · obtain ⟨o', k1, k2⟩ := S.mm c hc
        exact ⟨o', e _ _ k1 h1 h2, k2⟩
  · obtain ⟨ps, t1, t2, t3⟩ := S.tb q hq
    refine ⟨ps, e _ _ t1 (nm _ _ t1 Mo.tbl).1 (nm _ _ t1 Mo.tbl).2, t2, fun pos cv hcv => ?_⟩
    obtain ⟨c', rfl, hc'⟩ := t3 pos cv hcv
    exact ⟨c', rfl, e _ _ hc' (nm _ _ hc' Mo.ext).1 (nm _ _ hc' Mo.ext).2⟩
  · by_cases q1 : v = (d, φ, f)
    · subst q1
      exact ⟨sd, od, d1, d2, fun _ => d3, fun ps z => by subst z; exact d3⟩
    · by_cases q2 : v = (g, ψ, f')
      · subst q2
        exact ⟨sg, og, g1, g2, fun _ => g3, fun ps z => by subst z; exact g3⟩
      · have n1 : v.1 ≠ d := (df_of S.df _ hv _ md q1).elim (fun z => by rw [hf] at z; cases z.2) fun z => z
        have n2 : v.1 ≠ g := (df_of S.df _ hv _ mg q2).elim (fun z => by rw [hf'] at z; cases z.2) fun z => z
        obtain ⟨k0, o, k1, k2, k3⟩ := S.ok v hv
        exact ⟨k0, o, e _ _ k1 n1 n2, v.2.1.st kp k2, k3⟩
/-- a tuple that stands -/
theorem Hs.roT {B : Bs} {L : List En} {H : Hp} {a : Addr} {xs : List V} (S : Hs B L H) (h : H a = some (.tup xs)) : Hs B ((a, Is (.tup xs), .ro) :: L) H where
  fr := S.fr
  mm := S.mm
  tb := S.tb
  df := List.pairwise_cons.mpr ⟨fun z hz => by
    cases hm : z.2.2.mut with
    | false => exact .inl ⟨rfl, hm⟩
    | true =>
      refine .inr fun q => ?_
      obtain ⟨_, o, k1, _, k3, _⟩ := S.ok z hz
      have k4 := k3 hm
      simp only at q
      rw [← q, h] at k1
      cases k1
      exact k4, S.df⟩
  ok := fun z hz => by
    rcases List.mem_cons.mp hz with rfl | hz
    · exact ⟨trivial, _, h, rfl, fun q => (by cases q), fun ps q => (by cases q)⟩
    · exact S.ok z hz
end
end Sx

set_option Elab.async false
set_option linter.all false
set_option maxRecDepth 100000
set_option maxHeartbeats 2000000
/-! a lambda with one parameter that has a default, handed to a def that calls it with nothing -/
namespace LamD
open PySem PySem.Spec PyProof.Rows L2 PySem.W
section
variable {X : Cx} {pins : List (Addr × Obj)} {σ : L2.St} {H : Hp} {s : Shared}
abbrev QL (X : Cx) : Str := X.env.qual ++ "<lambda>"
abbrev CL (X : Cx) (scope : Scope) : List (Str × Addr) := cloFrom X.env.cells scope.names []
/-- what is made: the function f, its defaults at t, its code object c' -/
structure Made (X : Cx) (pins : List (Addr × Obj)) (σ : L2.St) (H : Hp) (T : List (Addr × Str)) (params : Arguments) (body : Expr) (scope : Scope) (v : V) (f t c' : Addr) (u doc pm ct : Value) (G : Hp) (z : Shared) : Prop where
  inv : Inv X pins σ G z
  ex : LamX.ExtN H G
  tb : LamX.Tabs T G
  of : z.heap.get? f = some (kdv_obj "<lambda>" (QL X) params (.expr body) scope (CL X scope) (.ref t) doc pm c' ct)
  ot : z.heap.get? t = some (kdv_tup [u])
  ru : RelV v u
  nf : G f = none
  ff : f ∉ frs X.stack
  nt : G t = none
  ft : t ∉ frs X.stack
  co : G c' = some (LamX.CodeO c' (QL X))
theorem make {T : List (Addr × Str)} {c P : Addr} {params : Arguments} {body e : Expr} {v : V} {scope : Scope} {pos : Pos} {Q : Value → Shared → Prop} (I : Inv X pins σ H s) (TB : LamX.TabB X.base X.mg c P) (hcode : X.env.code = .ref c)
    (hm : (P, QL X) ∈ T) (hu : ∀ p ∈ T, p.1 = P → p.2 = QL X) (hT : LamX.Tabs T H) (hde : params.defaults = [e]) (hkw : params.kw_defaults = []) (he : PE X e (tC v)) (hfree : ∀ y ∈ scope.names, y.2 = .free → ∃ c, X.env.cells.lookup y.1 = some c)
    (h : ∀ (f t c' : Addr) (u doc pm ct : Value) (G : Hp) (z : Shared), Made X pins σ H T params body scope v f t c' u doc pm ct G z → Q (.ref f) z) : wpAny (model X.prog X.w) X.A (eval (.Lambda params body scope pos) X.env) Q X.xe s := by
  refine kdv_lam (by rw [hde]; rfl) hkw ?_
  rw [hde]
  refine kdv_all1 (thn (he.run pins s σ H (fun x G => x = v ∧ G = H) I ⟨rfl, rfl⟩) fun u s1 got => kdv_all0 ?_)
  obtain ⟨x, G, I1, ru, ex, eG⟩ := got
  subst ex eG
  rw [makeFunction_eq]
  simp only [List.zip_nil_right, List.filterMap_nil, List.isEmpty_nil, List.isEmpty_cons, if_true, pure_bind, Bool.false_eq_true, if_false]
  refine wpAny_bind (wpAny_newTextTuple ?_)
  obtain ⟨t, ht⟩ : ∃ t, t = s1.heap.objs.size := ⟨_, rfl⟩
  rw [← ht]
  have J : Inv X pins σ G { s1 with heap := s1.heap.push { cls := .type "tuple", data := .seq [u].toArray } } := I1.kept fun b o q => Heap.get?_push_of_some _ q
  have hot : (s1.heap.push { cls := .type "tuple", data := .seq [u].toArray }).get? t = some (kdv_tup [u]) := by rw [ht]; exact Heap.get?_push_size _ rfl
  have tG : G t = none := I1.hok.fresh (Nat.le_of_eq ht.symm)
  generalize hz : ({ s1 with heap := s1.heap.push { cls := .type "tuple", data := .seq [u].toArray } } : Shared) = z1 at J
  have hot1 : z1.heap.get? t = some (kdv_tup [u]) := by rw [← hz]; exact hot
  have hts : t ∉ frs X.stack := fun m => by
    rcases List.mem_cons.mp (I1.stkSub _ m) with q | q
    · have l := I1.lt
      rw [← q, ht] at l
      exact Nat.lt_irrefl _ l
    · exact I1.nofs (Nat.le_of_eq ht.symm) q
  clear hz hot
  obtain ⟨ps, tP, tr, among⟩ := hT _ hm
  have bP : z1.heap.BuiltinsAt X.mg P := TB.bm.keeps J.bk
  have objP : z1.heap.get? P = some { cls := .none, data := .fields ps } := J.hok P _ tP
  have outF : ∀ a, z1.heap.objs.size ≤ a → a ∉ frs X.stack := fun a ha m => by
    rcases List.mem_cons.mp (J.stkSub _ m) with q | q
    · have l := J.lt
      rw [← q] at l
      exact absurd (Nat.lt_of_lt_of_le l ha) (Nat.lt_irrefl _)
    · exact J.nofs ha q
  have tneP : t ≠ P := fun q => by rw [q, tP] at tG; cases tG
  cases hc : codeAmong pos ps.toList with
  | some cv =>
    obtain ⟨c', rfl, hco⟩ := among pos cv hc
    refine kdv_makeTailHit (mg := X.mg) (c := c) (P := P) (ps := ps) (closure_ok hfree) J.ok.glob (J.mod.glob.keeps J.bk) hcode (TB.code.keeps J.bk) objP tr hc bP fun ct doc g tk old le => ?_
    refine h g.objs.size t c' u doc _ ct G _ ⟨J.kept fun b o q => Heap.get?_push_of_some _ (old b o q), LamX.ExtN.refl _, hT, Heap.get?_push_size _ rfl, Heap.get?_push_of_some _ (old _ _ hot1), ru, J.hok.fresh le, outF _ le, tG, hts, hco⟩
  | none =>
    refine kdv_makeTail (mg := X.mg) (c := c) (P := P) (ps := ps) (closure_ok hfree) J.ok.glob (J.mod.glob.keeps J.bk) hcode (TB.code.keeps J.bk) objP tr hc TB.gP bP fun c' ct doc g tk old ge lt rc tabP => ?_
    obtain ⟨c2, oc, vs, tq, e2, hoc, hd, hv⟩ := rc
    cases e2
    have le : z1.heap.objs.size ≤ g.objs.size := Nat.le_trans ge (Nat.le_of_lt lt)
    have nC : G c' = none := J.hok.fresh ge
    have J2 := LamX.inv_table (t' := tk) (more := #[rawInt pos.line, rawInt pos.col, .ref c']) (h' := g.push (kdv_obj "<lambda>" (QL X) params (.expr body) scope (CL X scope) (.ref t) doc ((X.mg "__name__").getD .none) c' ct)) J tP
      (fun b o nb q => Heap.get?_push_of_some _ (old b o nb q)) (Heap.get?_push_of_some _ tabP) ge ⟨oc, vs, tq, Heap.get?_push_of_some _ hoc, hd, hv⟩
    have ext : LamX.ExtN G (upd (upd G P (.tbl (ps ++ #[rawInt pos.line, rawInt pos.col, .ref c']))) c' (LamX.CodeO c' (QL X))) := fun b o q nb => by
      rw [upd_ne (ne_of_none q nC), upd_ne (fun z => by subst z; rw [tP] at q; exact nb ps (Option.some.inj q).symm)]
      exact q
    have eL : (ps ++ #[rawInt pos.line, rawInt pos.col, Value.ref c']).toList = ps.toList ++ [rawInt pos.line, rawInt pos.col, .ref c'] := by simp
    have fC : g.objs.size ≠ c' := fun q => Nat.lt_irrefl _ (q ▸ lt)
    have fP : g.objs.size ≠ P := fun q => by
      have l := Nat.lt_of_lt_of_le (Heap.lt_size objP) le
      rw [q] at l
      exact Nat.lt_irrefl _ l
    have tC : t ≠ c' := fun q => by
      have l := Nat.lt_of_lt_of_le (Heap.lt_size hot1) ge
      rw [q] at l
      exact Nat.lt_irrefl _ l
    refine h g.objs.size t c' u doc _ ct _ _ ⟨J2, ext, fun p hp => ?_, Heap.get?_push_size _ rfl, Heap.get?_push_of_some _ (old _ _ tneP hot1), ru, ?_, outF _ le, ?_, hts, upd_same⟩
    · by_cases hb : p.1 = P
      · rw [hu p hp hb, hb]
        refine ⟨_, (upd_ne (ne_of_none tP nC)).trans upd_same, by rw [eL]; exact TriplesOk_snoc _ _ _ _ tr, fun p' cv hcv => ?_⟩
        rw [eL] at hcv
        rcases LamX.among_app _ tr hcv with q | q
        · obtain ⟨c0, h1, h2⟩ := among p' cv q
          exact ⟨c0, h1, ext _ _ h2 LamX.codeO_ne⟩
        · exact ⟨c', q, upd_same⟩
      · obtain ⟨ps', a1, a2, a3⟩ := hT p hp
        refine ⟨ps', (upd_ne (ne_of_none a1 nC)).trans ((upd_ne hb).trans a1), a2, fun p' cv hcv => ?_⟩
        obtain ⟨c0, h1, h2⟩ := a3 p' cv hcv
        exact ⟨c0, h1, ext _ _ h2 LamX.codeO_ne⟩
    · rw [upd_ne fC, upd_ne fP]
      exact J.hok.fresh le
    · rw [upd_ne tC, upd_ne tneP]
      exact tG
/-! ### its names -/
/-- one local name x, captured ones and globals -/
structure LamS1 (sc scope : Scope) (x : Str) : Prop where
  kind : scope.kind = .function
  co : scope.isCoroutine = false
  gen : scope.isGenerator = false
  loc : scope.names.lookup x = some .local
  own : ∀ y ∈ scope.names, (y.2 = .local → y.1 = x) ∧ y.2 ≠ .cell
  free : ∀ y ∈ scope.names, y.2 = .free → sc.names.lookup y.1 = some .cell ∨ sc.names.lookup y.1 = some .free
def lamS1B (sc scope : Scope) (x : Str) : Bool :=
  decide (scope.kind = .function) && !scope.isCoroutine && !scope.isGenerator && decide (scope.names.lookup x = some .local) && scope.names.all fun y => (!decide (y.2 = .local) || decide (y.1 = x)) && !decide (y.2 = .cell) && (!decide (y.2 = .free) || decide (sc.names.lookup y.1 = some .cell) || decide (sc.names.lookup y.1 = some .free))
theorem lamS1_by {sc scope : Scope} {x : Str} (h : lamS1B sc scope x = true) : LamS1 sc scope x := by
  unfold lamS1B at h
  simp only [Bool.and_eq_true, Bool.or_eq_true, Bool.not_eq_true', decide_eq_true_eq, decide_eq_false_iff_not, List.all_eq_true] at h
  obtain ⟨⟨⟨⟨h1, h2⟩, h3⟩, hl⟩, h4⟩ := h
  refine ⟨h1, h2, h3, hl, fun y hy => ⟨fun e => ?_, (h4 y hy).1.2⟩, fun y hy e => ?_⟩
  · rcases (h4 y hy).1.1 with q | q
    · exact absurd e q
    · exact q
  · rcases (h4 y hy).2 with (q | q) | q
    · exact absurd e q
    · exact .inl q
    · exact .inr q
theorem LamS1.has {scope : Scope} {x : Str} (L : LamS1 X.env.scope scope x) (ok : X.Ok) : ∀ y ∈ scope.names, y.2 = .free → ∃ c, X.env.cells.lookup y.1 = some c := fun y hy q =>
  (L.free y hy q).elim (fun k => ok.has _ (.inl k)) (fun k => ok.has _ (.inr k))
theorem start {A : Around} {outer : List Env} {E : XK} {scope : Scope} {x : Str} {f c' : Addr} {g : Heap} {tk : Nat} {s1 : Shared} {HZ : Hp} {m : Str → Option Value} (I : Inv X pins σ H s) (L : LamS1 X.env.scope scope x) (hx : x ∉ X.N) (e0 : Env0 X.prog X.w X.K X.mg X.base A outer s1 HZ) (hd : A.handled = none)
    (un : Un (frs X.stack) [] H HZ s.heap s1.heap) (hns : g.Ns s1.heap.objs.size m) (kp : ∀ b o, s1.heap.get? b = some o → g.get? b = some o) : Inv (LamX.lamCx X A outer s1 HZ E scope f c') [] σ HZ { s1 with heap := g, toks := tk } := by
  have hfree := L.has I.ok
  have same : ∀ {y c}, (CL X scope).lookup y = some c → X.env.cells.lookup y = some c := fun {y c} q => by
    rcases cloFrom_mem (PySem.mem_of_lookup q) with k | ⟨k1, k2⟩
    · cases k
    · obtain ⟨c1, q1⟩ := hfree _ k1 rfl
      have q1 : X.env.cells.lookup y = some c1 := q1
      have : c = c1 := by rw [k2, q1] <;> rfl
      rw [this]; exact q1
  have there : ∀ {y}, scope.names.lookup y = some .free → ∃ c, (CL X scope).lookup y = some c := fun {y} q => mem_lookup (cloFrom_has (cells := X.env.cells) (acc := []) (show (y, NameKind.free) ∈ scope.names from PySem.mem_of_lookup q))
  have cell : ∀ {c : Addr} {v : Option Value}, H c = none → s.heap.IsCell c v → g.IsCell c v := fun {c v} n ⟨o, ho, hv⟩ => by
    obtain ⟨sl, q⟩ := un.any ho n (by simp)
    exact ⟨_, kp _ _ q, hv⟩
  have none_ : ∀ b : Addr, b ∉ (LamX.lamCx X A outer s1 HZ E scope f c').ex := fun b z => by cases (show b ∈ ([] : List Addr) from z)
  refine ⟨⟨e0.mod, L.kind, rfl, rfl, Nat.le_refl _, fun y z c q1 q2 => I.ok.inj y z c (same q1) (same q2), fun y hy => ?_, fun y c z _ => ?_, fun _ => hd, Around.frames_deeper e0.frames, .inr ⟨rfl, rfl⟩, fun b z => absurd z (none_ b), e0.bs, e0.bsz, fun b _ _ => none_ b,
      fun b z => absurd z (none_ b), e0.funs, e0.frf⟩, rfl, e0.bare, Un.kept kp, ⟨_, hns, fun i y v q1 q2 q3 => ?_⟩, fun y c q => ?_, e0.hok.fresh (Nat.le_refl _), fun y c q => ?_, fun q hq => (by cases (show q ∈ ([] : List (Addr × Obj)) ++ [] from hq)), e0.hok.kept kp, I.len⟩
  · rcases (show scope.names.lookup y = some .cell ∨ scope.names.lookup y = some .free from hy) with hy | hy
    · exact absurd rfl (L.own _ (PySem.mem_of_lookup hy)).2
    · exact there hy
  · cases (show false = true from z)
  · rcases (show Vis scope y from q3) with k | k | k
    · have hxy := (L.own _ (PySem.mem_of_lookup k)).1 rfl
      exact absurd (hxy ▸ List.mem_of_getElem? q1) hx
    · exact absurd rfl (L.own _ (PySem.mem_of_lookup k)).2
    · obtain ⟨m', hn, hl⟩ := I.loc
      have vis : Vis X.env.scope y := (L.free _ (PySem.mem_of_lookup k) rfl).elim (fun k => .inr (.inl k)) (fun k => .inr (.inr k))
      obtain ⟨w', r, q⟩ := hl i y v q1 q2 vis
      obtain ⟨c2, h2⟩ := there k
      refine ⟨w', r, .inr ⟨.inr k, c2, h2, ?_⟩⟩
      have c1 := same h2
      rcases q with ⟨k', _⟩ | ⟨_, c3, e', z⟩
      · rcases L.free _ (PySem.mem_of_lookup k) rfl with k2 | k2 <;> (have := (show X.env.scope.names.lookup y = _ from k2).symm.trans k'; cases this)
      · cases c1.symm.trans e'
        exact cell (I.freeC y _ c1) z
  · obtain ⟨w', z⟩ := I.cell y c (same q)
    exact ⟨w', cell (I.freeC y c (same q)) z⟩
  · obtain ⟨v, o, ho, hv⟩ := I.cell y c (same q)
    exact un.free c o ho (I.freeC y c (same q)) (by simp)
/-- x(), in the def that got the lambda -/
theorem act {Eg E : XK} {Ng : List Str} {qg x a : Str} {sg scope : Scope} {g f t c' : Addr} {u doc pm ct cdg : Value} {T : List (Addr × Str)} {H0 : Hp} {v : V} {params : Arguments} {body : Expr} {k i : Nat} {pn : List (Addr × Obj)} {xe : Value → Shared → Prop} {W : WX} {tb : TE} {p1 p2 : Pos}
    (M : Made X pins σ H0 T params body scope v f t c' u doc pm ct H s) (L : LamS1 X.env.scope scope x) (hx : x ∉ X.N)
    (hbind : ∃ kk : Option (Array Value) → Sem (List (Str × Value)), bindArgs (kdv_fn "<lambda>" (QL X) params (.expr body) scope (CL X scope) (.ref t) doc pm (.ref c') ct) ⟨[], []⟩ = seqItems? (.ref t) >>= kk ∧ kk (some [u].toArray) = pure [(x, u)])
    (tk : Takes ((cxOf C8.CX0 X.prog X.w X.K X.mg X.base Ng qg sg g cdg X.A X.stack s H Eg).tr pn xe) W) (hW : ∀ cls d σ' H', E cls d H' → W cls d σ' H') (hr : Room (k + 1) (X.A.deeper (envOfC qg sg s.heap.objs.size g cdg)))
    (hbody : ∀ (A : Around) (outer : List Env) (s : Shared) (H : Hp), Room k (A.deeper (LamX.lamEnv X scope s.heap.objs.size f c')) → PE (LamX.lamCx X A outer s H E scope f c') body tb)
    (hN : Ng[i]? = some a) (hv : Vis sg a) (hd : (a == ("__debug__" : Str)) = false := by decide) (hcd : (a == ("__classdict__" : Str)) = false := by decide) :
    PE ((cxOf C8.CX0 X.prog X.w X.K X.mg X.base Ng qg sg g cdg X.A X.stack s H Eg).tr pn xe) (.Call (.Name a p1) [] [] p2) (fun σZ HZ Q => σZ[i]? = some (some (.ref f)) ∧ HZ c' = some (LamX.CodeO c' (QL X)) ∧ tb σ HZ Q) := by
  refine ⟨fun pz sz σZ HZ Q IZ h => ?_⟩
  obtain ⟨hs, hc, hb⟩ := h
  refine wpAny_Call_Name_kw (thn ((pe_var (pos := p1) (i := i) hN hv hd hcd).run pz sz σZ HZ (fun y G => y = .ref f ∧ G = HZ) IZ ⟨.ref f, hs, rfl, rfl⟩) fun z s1 got => ?_)
  obtain ⟨y, G, J, r1, ey, eG⟩ := got
  subst ey
  rw [eG] at J
  obtain rfl : z = Value.ref f := r1
  have kf := J.base.keep f _ M.of M.nf M.ff (fun z => by cases (show f ∈ ([] : List Addr) from z))
  have kt := J.base.keep t _ M.ot M.nt M.ft (fun z => by cases (show t ∈ ([] : List Addr) from z))
  refine PySem.W.callWith_F0 ⟨_, _, _, _, kf⟩ ?_
  have un : Un (frs X.stack) [] H HZ s.heap s1.heap := J.base
  obtain ⟨⟨oc, vs, tq, hoc, hdc, hvc⟩, _, _⟩ := J.hok c' _ hc
  obtain ⟨kk, b1, b2⟩ := hbind
  have bt : BindsTo s1 (kdv_fn "<lambda>" (QL X) params (.expr body) scope (CL X scope) (.ref t) doc pm (.ref c') ct) ⟨[], []⟩ [(x, u)] := .of_defaults rfl kt rfl b1 b2
  have go : codeAny (model X.prog X.w) (X.A.deeper (envOfC qg sg s.heap.objs.size g cdg)) (.call (.ref f) ⟨[], []⟩) (CR (L2.CX X.prog X.w) (envOfC qg sg s.heap.objs.size g cdg :: X.stack) X.prog X.w HZ s1 Q E) s1 := by
    refine kla_callFunE hr.depth kf rfl L.co L.gen rfl ⟨c', oc, vs, tq, rfl, hoc, hdc, hvc⟩ (bt _ _ _ _ ?_)
    refine wpAny_newFunctionEnv (fun y hy => (L.own y hy).2) (fun y hy => ?_) (fun g1 hns hsb => ⟨J.nolimit.fresh _ hsb, ?_⟩) L.kind
    · cases List.mem_singleton.mp hy
      exact L.loc
    show codeAny _ _ (.expr body (LamX.lamEnv X scope s1.heap.objs.size f c')) _ _
    have kp : ∀ b o, s1.heap.get? b = some o → g1.get? b = some o := fun b o q => hsb.extBut b o (Nat.ne_of_lt (Heap.lt_size q)) (Heap.get?_push_of_some _ q)
    have J1 := start (E := E) (f := f) (c' := c') (tk := s1.toks + [(x, u)].length) M.inv L hx J.env0 hr.hd un hns kp
    refine kla_codeExpr (wpAny_mono ((hbody _ _ s1 HZ (hr.deeper _)).run [] _ _ HZ Q J1 hb) (fun z s' got => ?_) fun _ _ z => z)
    obtain ⟨w', H', J', rv, q⟩ := got
    exact ⟨w', H', J'.os, J'.bare, J'.base, J'.hok, rv, q⟩
  have px : Passes (L2.CX X.prog X.w) ((cxOf C8.CX0 X.prog X.w X.K X.mg X.base Ng qg sg g cdg X.A X.stack s H Eg).tr pn xe) E := passes_call tk hW
  refine wpAny_call (codeAny_mono go fun r s' got => ?_)
  cases r with
  | error er => exact px pz σZ HZ s1 er s' J got
  | ok fl =>
    cases fl with
    | ret z => exact J.after got
    | next => exact got.elim
    | brk => exact got.elim
    | cont => exact got.elim
/-- x(lambda y=d: body), x a def that calls what it gets -/
theorem pe_lamD {T : List (Addr × Str)} {TT : (XK → Hp → VK → Prop) → Hp → VK → Prop} {x a y : Str} {st : Stmt} {g c tb : Addr} {k j : Nat} {fd : FuncData} {Ng : List Str} {params : Arguments} {body e : Expr} {v : V} {scope : Scope} {t : XK → TE} {p lpos pos : Pos}
    (D : C8.Def X.K X.mg x st g fd) (b : Binds X.K fd [a] []) (Sg : FnScope Ng [a] (C8.fnScope st)) (hNg : Ng[0]? = some a) (hva : Vis (C8.fnScope st) a) (hG : ∀ cdg, LamX.GivesTo X Ng x (C8.fnScope st) g cdg (C8.fnBody st) a (QL X) TT)
    (TB : LamX.TabB X.base X.mg c tb) (hcode : X.env.code = .ref c) (hmT : (tb, QL X) ∈ T) (hu : ∀ p ∈ T, p.1 = tb → p.2 = QL X) (hr : Room j X.A) (hk : k + 2 ≤ j) (hg : Gl X x) (L : LamS1 X.env.scope scope y) (hy : y ∉ X.N)
    (hbody : ∀ (A : Around) (outer : List Env) (s : Shared) (H : Hp) (E : XK) (f c' : Addr), Room k (A.deeper (LamX.lamEnv X scope s.heap.objs.size f c')) → PE (LamX.lamCx X A outer s H E scope f c') body (t E))
    (he : PE X e (tC v)) (hde : params.defaults = [e] := by rfl) (hkw : params.kw_defaults = [] := by rfl)
    (hbind : ∀ (q : Str) (cl : List (Str × Addr)) (dd : Addr) (u doc pm cv ct : Value), ∃ kk : Option (Array Value) → Sem (List (Str × Value)), bindArgs (kdv_fn "<lambda>" q params (.expr body) scope cl (.ref dd) doc pm cv ct) ⟨[], []⟩ = seqItems? (.ref dd) >>= kk ∧ kk (some [u].toArray) = pure [(y, u)] := by exact fun _ _ _ _ _ _ _ _ => ⟨_, rfl, rfl⟩)
    (hdb : (x == ("__debug__" : Str)) = false := by decide) (hd : (a == ("__debug__" : Str)) = false := by decide) (hcd : (a == ("__classdict__" : Str)) = false := by decide) :
    PE X (.Call (.Name x p) [.Lambda params body scope lpos] [] pos) (LamX.tLam T TT t) := by
  obtain ⟨oc, od, dV, kV, doc, pm, an, cdv, ct, osl, rfl, lk, hc⟩ := D.fn.ex
  refine ⟨fun pins s σ H Q I h => ?_⟩
  obtain ⟨hT, h⟩ := h
  refine wpAny_Call_Name_kw (ld_glob I hg D.mgf ?_ hdb)
  refine PySem.W.callWith_K (h₀ := X.base) I.ok.mod.kin D.kp ?_ (by rfl) (by rfl)
  show wpAny _ _ (spliced ((false, eval (.Lambda params body scope lpos) X.env) :: backTo pos (starEach [] X.env))) _ _ s
  refine Calls.spliced_cons (make I TB hcode hmT hu hT hde hkw he (L.has I.ok) fun f t' c' u doc' pm' ct' G z M => ?_)
  refine Calls.spliced_nil ⟨M.inv.kIn, ?_⟩
  have go : codeAny (model X.prog X.w) X.A (.call (.ref g) ⟨[.ref f], []⟩) (CR C8.CX0 X.stack X.prog X.w G z Q C8.E0) z := by
    refine LamX.run_ofS (N := Ng) (ps := [a]) (us := [.ref f]) (vs := [.ref f]) lk hc Sg (hr.mono hk) M.inv.env0 (b z [.ref f] M.inv.kIn rfl) (.cons rfl .nil) rfl fun hr' => ?_
    obtain ⟨tt, ht', hq'⟩ := hG cdv f c' z G Q (fun E H' Q' => t E σ H' Q') (fun W pn xe E p1 p2 tk hW => act (i := 0) M L hy (hbind _ _ _ _ _ _ _ _) tk hW hr' (fun A outer s H hr2 => hbody A outer s H E f c' hr2) hNg hva hd hcd) M.co (h G M.ex M.tb)
    exact ⟨tt, ht'.nox, hq'⟩
  refine wpAny_call (codeAny_mono go fun r s2 got => ?_)
  cases r with
  | error er => exact (show False from got).elim
  | ok fl =>
    cases fl with
    | ret z => exact M.inv.after got
    | next => exact got.elim
    | brk => exact got.elim
    | cont => exact got.elim
end
/-! two makers -/
section
variable {a b : Addr} {q r : Str}
theorem mem0 : (a, q) ∈ [(a, q), (b, r)] := List.mem_cons_self
theorem mem1 : (b, r) ∈ [(a, q), (b, r)] := List.mem_cons_of_mem _ List.mem_cons_self
theorem hu0 (ne : a ≠ b) : ∀ p ∈ [(a, q), (b, r)], p.1 = a → p.2 = q := fun p hp e => by
  rcases List.mem_cons.mp hp with z | z
  · rw [z]
  · rw [List.mem_singleton.mp z] at e
    exact absurd e.symm ne
theorem hu1 (ne : a ≠ b) : ∀ p ∈ [(a, q), (b, r)], p.1 = b → p.2 = r := fun p hp e => by
  rcases List.mem_cons.mp hp with z | z
  · rw [z] at e
    exact absurd e ne
  · rw [List.mem_singleton.mp z]
end
end LamD

set_option Elab.async false
set_option linter.all false
set_option maxRecDepth 100000
set_option maxHeartbeats 4000000
set_option exponentiation.threshold 3000
namespace Pf
open PySem PySem.Spec PyProof.Rows L2
def top (i : Nat) : Stmt := PySem.Challenge.pw_drawstate_k12_maps_of_steps.main.body.getD i (.Pass ⟨0, 0, 0, 0⟩)
abbrev s_BadState___init__ : Stmt := inClass (top 2) 0
theorem sc_BadState___init__ : FnScope ["self", "given"] ["self", "given"] (C8.fnScope s_BadState___init__) := C8.fnScope_by (by decide +kernel)
abbrev s_BadSteps___init__ : Stmt := inClass (top 3) 0
theorem sc_BadSteps___init__ : FnScope ["self", "given"] ["self", "given"] (C8.fnScope s_BadSteps___init__) := C8.fnScope_by (by decide +kernel)
abbrev s_BadNumber___init__ : Stmt := inClass (top 4) 0
theorem sc_BadNumber___init__ : FnScope ["self", "given"] ["self", "given"] (C8.fnScope s_BadNumber___init__) := C8.fnScope_by (by decide +kernel)
abbrev s_is_integer : Stmt := top 6
theorem sc_is_integer : FnScope ["value"] ["value"] (C8.fnScope s_is_integer) := C8.fnScope_by (by decide +kernel)
abbrev s_need_steps : Stmt := top 9
theorem sc_need_steps : FnScope ["steps"] ["steps"] (C8.fnScope s_need_steps) := C8.fnScope_by (by decide +kernel)
abbrev s_s2_is_number : Stmt := top 14
theorem sc_s2_is_number : FnScope ["value"] ["value"] (C8.fnScope s_s2_is_number) := C8.fnScope_by (by decide +kernel)
abbrev s_s2_need_start : Stmt := top 15
theorem sc_s2_need_start : FnScope ["start"] ["start"] (C8.fnScope s_s2_need_start) := C8.fnScope_by (by decide +kernel)
abbrev s_is_map : Stmt := top 16
theorem sc_is_map : FnScope ["value"] ["value"] (C8.fnScope s_is_map) := C8.fnScope_by (by decide +kernel)
abbrev s_s2_need_map : Stmt := top 17
theorem sc_s2_need_map : FnScope ["one"] ["one"] (C8.fnScope s_s2_need_map) := C8.fnScope_by (by decide +kernel)
abbrev s_s2_joined : Stmt := top 18
theorem sc_s2_joined : FnScope ["one", "other"] ["one", "other"] (C8.fnScope s_s2_joined) := C8.fnScope_by (by decide +kernel)
abbrev s_s2_step_map : Stmt := top 19
theorem sc_s2_step_map : FnScope ["steps", "found", "power"] ["steps"] (C8.fnScope s_s2_step_map) := C8.fnScope_by (by decide +kernel)
abbrev s_s2_mapped : Stmt := top 20
theorem sc_s2_mapped : FnScope ["one", "start"] ["one", "start"] (C8.fnScope s_s2_mapped) := C8.fnScope_by (by decide +kernel)
abbrev s_step_map : Stmt := top 21
theorem sc_step_map : FnScope ["steps"] ["steps"] (C8.fnScope s_step_map) := C8.fnScope_by (by decide +kernel)
abbrev s_joined : Stmt := top 22
theorem sc_joined : FnScope ["one", "other"] ["one", "other"] (C8.fnScope s_joined) := C8.fnScope_by (by decide +kernel)
abbrev s_inverted : Stmt := top 23
theorem sc_inverted : FnScope ["one", "found", "turn"] ["one"] (C8.fnScope s_inverted) := C8.fnScope_by (by decide +kernel)
abbrev s_mapped : Stmt := top 24
theorem sc_mapped : FnScope ["one", "start"] ["one", "start"] (C8.fnScope s_mapped) := C8.fnScope_by (by decide +kernel)
abbrev s__law_begun : Stmt := top 26
theorem sc__law_begun : FnScope ["_law_script", "_law_run", "_law_k", "_law_cell"] ["_law_script"] (C8.fnScope s__law_begun) := C8.fnScope_by (by decide +kernel)
abbrev s__law_next : Stmt := top 27
theorem sc__law_next : FnScope ["_law_draw", "_law_below", "_law_great", "_law_at", "_law_found", "_law_run"] ["_law_draw", "_law_below"] (C8.fnScope s__law_next) := C8.fnScope_by (by decide +kernel)
abbrev s__law_x : Stmt := top 28
theorem sc__law_x : FnScope ["_law_draw", "_law_far", "_law_some"] ["_law_draw"] (C8.fnScope s__law_x) := C8.fnScope_by (by decide +kernel)
abbrev s__law_steps : Stmt := top 29
theorem sc__law_steps : FnScope ["_law_draw", "_law_far", "_law_some"] ["_law_draw"] (C8.fnScope s__law_steps) := C8.fnScope_by (by decide +kernel)
abbrev s__law_digits : Stmt := top 30
theorem sc__law_digits : FnScope ["_law_number", "_law_found"] ["_law_number"] (C8.fnScope s__law_digits) := C8.fnScope_by (by decide +kernel)
abbrev s__law_map : Stmt := top 31
theorem sc__law_map : FnScope ["_law_steps_here", "_law_p", "_law_q", "_law_whole", "_law_digit"] ["_law_steps_here"] (C8.fnScope s__law_map) := C8.fnScope_by (by decide +kernel)
abbrev s__law_said : Stmt := top 33
theorem sc__law_said : FnScope ["_law_deed", "_law_found", "error"] ["_law_deed"] (C8.fnScope s__law_said) := C8.fnScope_by (by decide +kernel)
abbrev s__law_maps_right : Stmt := top 34
theorem sc__law_maps_right : FnScope ["_law_one", "_law_two", "_law_x_here", "_law_whole", "_law_due", "_law_back"] ["_law_one", "_law_two", "_law_x_here"] (C8.fnScope s__law_maps_right) := C8.fnScope_by (by decide +kernel)
abbrev s__law_refused_right : Stmt := top 35
theorem sc__law_refused_right : FnScope ["_law_draw", "_law_one", "_law_x_here", "_law_odd", "_law_wrong", "_law_steps_here", "_law_found", "_law_due"] ["_law_draw", "_law_one", "_law_x_here"] (C8.fnScope s__law_refused_right) := C8.fnScope_by (by decide +kernel)
abbrev s_law : Stmt := top 36
theorem sc_law : FnScope ["_law_script", "_law_draw", "_law_turn", "_law_steps_here", "_law_more", "_law_x_here", "_law_one", "_law_two"] ["_law_script"] (C8.fnScope s_law) := C8.fnScope_by (by decide +kernel)
structure Txt (K : PySem.W.Frag) (mg : Str → Option Value) (C_DrawError C_BadNumber C_BadState C_BadSteps CO__law_maps_right CO__law_refused_right : Addr) : Prop where
  d_BadState___init__ : ∃ f fd, PySem.W.findIn K (.ref C_BadState) "__init__" = some (some (.ref f)) ∧ PySem.W.typeIn K (.ref f) = some (.type "function") ∧ C8.Fun K "__init__" "BadState.__init__" s_BadState___init__ f fd ∧ Binds K fd ["self", "given"] []
  d_BadSteps___init__ : ∃ f fd, PySem.W.findIn K (.ref C_BadSteps) "__init__" = some (some (.ref f)) ∧ PySem.W.typeIn K (.ref f) = some (.type "function") ∧ C8.Fun K "__init__" "BadSteps.__init__" s_BadSteps___init__ f fd ∧ Binds K fd ["self", "given"] []
  d_BadNumber___init__ : ∃ f fd, PySem.W.findIn K (.ref C_BadNumber) "__init__" = some (some (.ref f)) ∧ PySem.W.typeIn K (.ref f) = some (.type "function") ∧ C8.Fun K "__init__" "BadNumber.__init__" s_BadNumber___init__ f fd ∧ Binds K fd ["self", "given"] []
  d_is_integer : ∃ f fd, C8.Def K mg "is_integer" s_is_integer f fd ∧ Binds K fd ["value"] []
  d_need_steps : ∃ f fd, C8.Def K mg "need_steps" s_need_steps f fd ∧ Binds K fd ["steps"] []
  d_s2_is_number : ∃ f fd, C8.Def K mg "s2_is_number" s_s2_is_number f fd ∧ Binds K fd ["value"] []
  d_s2_need_start : ∃ f fd, C8.Def K mg "s2_need_start" s_s2_need_start f fd ∧ Binds K fd ["start"] []
  d_is_map : ∃ f fd, C8.Def K mg "is_map" s_is_map f fd ∧ Binds K fd ["value"] []
  d_s2_need_map : ∃ f fd, C8.Def K mg "s2_need_map" s_s2_need_map f fd ∧ Binds K fd ["one"] []
  d_s2_joined : ∃ f fd, C8.Def K mg "s2_joined" s_s2_joined f fd ∧ Binds K fd ["one", "other"] []
  d_s2_step_map : ∃ f fd, C8.Def K mg "s2_step_map" s_s2_step_map f fd ∧ Binds K fd ["steps"] []
  d_s2_mapped : ∃ f fd, C8.Def K mg "s2_mapped" s_s2_mapped f fd ∧ Binds K fd ["one", "start"] []
  d_step_map : ∃ f fd, C8.Def K mg "step_map" s_step_map f fd ∧ Binds K fd ["steps"] []
  d_joined : ∃ f fd, C8.Def K mg "joined" s_joined f fd ∧ Binds K fd ["one", "other"] []
  d_inverted : ∃ f fd, C8.Def K mg "inverted" s_inverted f fd ∧ Binds K fd ["one"] []
  d_mapped : ∃ f fd, C8.Def K mg "mapped" s_mapped f fd ∧ Binds K fd ["one", "start"] []
  d__law_begun : ∃ f fd, C8.Def K mg "_law_begun" s__law_begun f fd ∧ Binds K fd ["_law_script"] []
  d__law_next : ∃ f fd, C8.Def K mg "_law_next" s__law_next f fd ∧ Binds K fd ["_law_draw", "_law_below"] []
  d__law_x : ∃ f fd, C8.Def K mg "_law_x" s__law_x f fd ∧ Binds K fd ["_law_draw"] []
  d__law_steps : ∃ f fd, C8.Def K mg "_law_steps" s__law_steps f fd ∧ Binds K fd ["_law_draw"] []
  d__law_digits : ∃ f fd, C8.Def K mg "_law_digits" s__law_digits f fd ∧ Binds K fd ["_law_number"] []
  d__law_map : ∃ f fd, C8.Def K mg "_law_map" s__law_map f fd ∧ Binds K fd ["_law_steps_here"] []
  d__law_said : ∃ f fd, C8.Def K mg "_law_said" s__law_said f fd ∧ Binds K fd ["_law_deed"] []
  d__law_maps_right : ∃ f fd, Gx.LamDef K mg "_law_maps_right" s__law_maps_right f CO__law_maps_right fd ∧ Binds K fd ["_law_one", "_law_two", "_law_x_here"] []
  d__law_refused_right : ∃ f fd, Gx.LamDef K mg "_law_refused_right" s__law_refused_right f CO__law_refused_right fd ∧ Binds K fd ["_law_draw", "_law_one", "_law_x_here"] []
  d_law : ∃ f fd, C8.Def K mg "law" s_law f fd ∧ Binds K fd ["_law_script"] [] ∧ ∀ (s : Shared) (v : Value), BindsTo s fd ⟨[v], []⟩ [("_law_script", v)]
  c_MOST_STEPS : ∃ u, mg "MOST_STEPS" = some u ∧ RelV (.int 18446744073709551616) u
  c_MODULUS : ∃ u, mg "MODULUS" = some u ∧ RelV (.int 281474976710656) u
  c_MULTIPLIER : ∃ u, mg "MULTIPLIER" = some u ∧ RelV (.int 205891132094649) u
  c_ADDEND : ∃ u, mg "ADDEND" = some u ∧ RelV (.int 11) u
  k_DrawError : ∃ u, mg "DrawError" = some u ∧ RelV (.ref C_DrawError) u
  g_DrawError : mg "DrawError" = some (.ref C_DrawError)
  r_DrawError : ClX.CRead K C_DrawError (.type "type")
  i_DrawError : PySem.W.findCls K (.ref C_DrawError) (.type "type") "__init__" = some (.val (.builtin "ValueError.__init__"))
  mm_BadNumber : ∀ {cls : Value} {b : Bool}, PySem.W.subIn K cls (.ref C_BadNumber) = some b → PySem.W.exmOne K cls (.ref C_BadNumber) = some b
  mm_BadState : ∀ {cls : Value} {b : Bool}, PySem.W.subIn K cls (.ref C_BadState) = some b → PySem.W.exmOne K cls (.ref C_BadState) = some b
  mm_BadSteps : ∀ {cls : Value} {b : Bool}, PySem.W.subIn K cls (.ref C_BadSteps) = some b → PySem.W.exmOne K cls (.ref C_BadSteps) = some b
  e_BadNumber : ExcC K C_BadNumber
  s_BadNumber_BadNumber : PySem.W.subIn K (.ref C_BadNumber) (.ref C_BadNumber) = some true
  s_BadNumber_BadState : PySem.W.subIn K (.ref C_BadNumber) (.ref C_BadState) = some false
  s_BadNumber_BadSteps : PySem.W.subIn K (.ref C_BadNumber) (.ref C_BadSteps) = some false
  o_BadNumber_BadState : PySem.W.kitOne K (.ref C_BadNumber) (.ref C_BadState) = some false
  o_BadNumber_BadSteps : PySem.W.kitOne K (.ref C_BadNumber) (.ref C_BadSteps) = some false
  e_BadState : ExcC K C_BadState
  s_BadState_BadNumber : PySem.W.subIn K (.ref C_BadState) (.ref C_BadNumber) = some false
  s_BadState_BadState : PySem.W.subIn K (.ref C_BadState) (.ref C_BadState) = some true
  s_BadState_BadSteps : PySem.W.subIn K (.ref C_BadState) (.ref C_BadSteps) = some false
  o_BadState_BadNumber : PySem.W.kitOne K (.ref C_BadState) (.ref C_BadNumber) = some false
  o_BadState_BadSteps : PySem.W.kitOne K (.ref C_BadState) (.ref C_BadSteps) = some false
  e_BadSteps : ExcC K C_BadSteps
  s_BadSteps_BadNumber : PySem.W.subIn K (.ref C_BadSteps) (.ref C_BadNumber) = some false
  s_BadSteps_BadState : PySem.W.subIn K (.ref C_BadSteps) (.ref C_BadState) = some false
  s_BadSteps_BadSteps : PySem.W.subIn K (.ref C_BadSteps) (.ref C_BadSteps) = some true
  o_BadSteps_BadNumber : PySem.W.kitOne K (.ref C_BadSteps) (.ref C_BadNumber) = some false
  o_BadSteps_BadState : PySem.W.kitOne K (.ref C_BadSteps) (.ref C_BadState) = some false
  k_BadNumber : ∃ u, mg "BadNumber" = some u ∧ RelV (.ref C_BadNumber) u
  g_BadNumber : mg "BadNumber" = some (.ref C_BadNumber)
  y_BadNumber : Gx.YexC K C_BadNumber "ValueError.__init__"
  f_BadNumber : XfC K C_BadNumber
  n_BadNumber_given : PySem.W.findIn K (.ref C_BadNumber) "given" = some none
  t_BadNumber_given : PySem.W.takerIn K C_BadNumber "given" = some none
  m_BadNumber : PySem.W.exmOne K (.ref C_BadNumber) (.ref C_BadNumber) = some true
  k_BadState : ∃ u, mg "BadState" = some u ∧ RelV (.ref C_BadState) u
  g_BadState : mg "BadState" = some (.ref C_BadState)
  y_BadState : Gx.YexC K C_BadState "ValueError.__init__"
  f_BadState : XfC K C_BadState
  n_BadState_given : PySem.W.findIn K (.ref C_BadState) "given" = some none
  t_BadState_given : PySem.W.takerIn K C_BadState "given" = some none
  m_BadState : PySem.W.exmOne K (.ref C_BadState) (.ref C_BadState) = some true
  k_BadSteps : ∃ u, mg "BadSteps" = some u ∧ RelV (.ref C_BadSteps) u
  g_BadSteps : mg "BadSteps" = some (.ref C_BadSteps)
  y_BadSteps : Gx.YexC K C_BadSteps "ValueError.__init__"
  f_BadSteps : XfC K C_BadSteps
  n_BadSteps_given : PySem.W.findIn K (.ref C_BadSteps) "given" = some none
  t_BadSteps_given : PySem.W.takerIn K C_BadSteps "given" = some none
  m_BadSteps : PySem.W.exmOne K (.ref C_BadSteps) (.ref C_BadSteps) = some true
  b_bool : mg "bool" = none
  b_enumerate : mg "enumerate" = none
  b_int : mg "int" = none
  b_isinstance : mg "isinstance" = none
  b_len : mg "len" = none
  b_max : mg "max" = none
  b_min : mg "min" = none
  b_range : mg "range" = none
  b_repr : mg "repr" = none
  b_tuple : mg "tuple" = none
section
variable {P : Program} {w : World} {K : PySem.W.Frag} {mg : Str → Option Value} {base : Heap} {C_DrawError C_BadNumber C_BadState C_BadSteps CO__law_maps_right CO__law_refused_right : Addr}
local macro_rules | `(tactic| walk_at "side") => `(tactic| first | ((with_reducible show L2.CMul _ _); first | exact Or.inl ⟨by omega, by omega⟩ | exact Or.inr ⟨by omega, by omega⟩) | ((with_reducible show L2.CPow _ _); exact ⟨by decide, by decide, by decide⟩) | ((with_reducible show L2.CMulW _ _); exact wide_mul (a := 96) (b := 96) (by omega) (by omega) (by decide) (by decide) (by decide)) | ((with_reducible show L2.CDivW _ _); first | exact wide_div (b := 96) (by omega) (by omega) (by decide) (by decide) | exact wide_div (b := 300) (by omega) (by omega) (by decide) (by decide)) | (show (0 : Int) < _; omega) | (show (0 : Int) ≤ _; omega))
local macro_rules | `(tactic| walk_at "rd1") => `(tactic| first | with_reducible refine Rd.seq ?_ | with_reducible refine Rd.asg ?_ | with_reducible refine Rd.nm ?_ | with_reducible refine Rd.ret ?_ | with_reducible refine Rd.drop ?_ | with_reducible refine Rd.ifs ?_ | with_reducible refine Rd.par ?_ | with_reducible refine Rd.par3 ?_ | with_reducible refine Rd.next ?_ | with_reducible refine Rd.fr1 ?_ | with_reducible refine Rd.nxp ?_ | with_reducible refine Rd.rtp ?_ | ((with_reducible show tVar _ _ _ _); refine Rd.var rfl ?_) | with_reducible refine Rd.cst ?_ | with_reducible refine Rd.op ?_ | with_reducible refine Rd.un ?_ | with_reducible refine Rd.i0 ?_ | with_reducible refine Rd.ung ?_ | with_reducible refine Rd.eqI ?_ | with_reducible refine Rd.neI ?_ | with_reducible refine Rd.eqS ?_ | with_reducible refine Rd.neS ?_ | with_reducible refine Rd.test ?_ | with_reducible refine Rd.tstB ?_ | with_reducible refine Rd.isB ?_ | with_reducible refine Rd.not ?_ | with_reducible refine Rd.andT ?_ | with_reducible refine Rd.orT ?_ | with_reducible refine Rd.andV ?_ | with_reducible refine Rd.orV ?_ | with_reducible refine Rd.notV ?_ | with_reducible refine Rd.ifE ?_ | with_reducible refine Rd.chain ?_ | with_reducible refine Rd.nil ?_ | with_reducible refine Rd.cons ?_ | with_reducible refine Rd.call ?_ | with_reducible refine Rd.cb ?_ | with_reducible refine Rd.bm ?_ | with_reducible refine Au.revL ?_ | with_reducible refine Rd.frl ?_ | with_reducible refine Rd.frt ?_ | with_reducible refine Rd.fre ?_ | with_reducible refine Rd.disp ?_ | with_reducible refine Rd.pnil ?_ | with_reducible refine Rd.pcons ?_ | with_reducible refine Rd.gcons ?_ | with_reducible refine Rd.gnil ?_ | with_reducible refine Rd.gsub ?_ | with_reducible refine Rd.setD ?_ | ((with_reducible show gTup _ _ _ _ _ (upd _ _ (HO.tup _)) _); refine Rd.tupNew rfl ?_) | with_reducible refine Rd.fld ?_ | with_reducible refine Rd.meth ?_ | with_reducible refine Rd.make ?_ | with_reducible refine Rd.prop ?_ | with_reducible refine Au.tup ?_ | with_reducible refine Au.lst ?_ | ((with_reducible refine Au.lenOk ?hl ?_); (case hl => exact rfl)) | with_reducible refine Au.nopart ?_ | with_reducible refine Au.part ?_ | with_reducible refine Au.isI ?_ | with_reducible refine Au.sl ?_ | with_reducible refine Au.pr2 ?_ | with_reducible refine Au.pr3 ?_ | with_reducible refine Au.eqB ?_ | with_reducible refine Rd.isInt ?_ | with_reducible refine Rd.isBool ?_ | with_reducible refine Rd.mx2 ?_ | with_reducible refine Rd.mn2 ?_ | ((with_reducible show Rd.rAndM _ _ _ _); first | refine Rd.and1 ?_ | refine Rd.and48 ?_ | refine Rd.and32 ?_ | refine Rd.and64 ?_ | refine Rd.and65 ?_) | ((with_reducible refine Rd.iC ?hc ?_); (case hc => walk_at "side")) | ((with_reducible refine Rd.yes ?hc ?_); (case hc => first | omega | exact rfl)) | ((with_reducible refine Rd.no ?hc ?_); (case hc => omega)) | ((with_reducible refine Rd.noN ?hc ?_); (case hc => first | omega | exact rfl)) | ((with_reducible refine Rd.yesN ?hc ?_); (case hc => omega)) | ((with_reducible refine Rd.yesNN ?hc ?_); (case hc => omega)) | ((with_reducible refine Rd.noNN ?hc ?_); (case hc => omega)) | with_reducible refine iteT ?_ | with_reducible refine iteF ?_ | with_reducible refine Rd.iteNT ?_ | with_reducible refine Rd.iteNF ?_)
local macro_rules | `(tactic| walk_at "rd") => `(tactic| repeat (walk_at "rd1"))
local macro_rules | `(tactic| walk_at "hp") => `(tactic| first | assumption | (apply Au.sm; (focus assumption); (walk_at "hp")) | (apply Au.smp; (focus assumption); (focus (walk_at "hp")); (walk_at "ne")) | (apply Au.smn; (focus assumption); (focus (walk_at "hp")); (focus (intro _ z; cases z; done))) | fail "hp")
local macro_rules | `(tactic| walk_at "ne") => `(tactic| first | assumption | (apply Ne.symm; assumption) | (apply Au.nen; (focus assumption); (walk_at "hp")) | (apply Au.nen'; (focus assumption); (walk_at "hp")) | (apply Au.nek; (focus assumption); (focus assumption); (intro z; cases z; done)) | (apply Au.nek2; (focus assumption); (focus (walk_at "hp")); (intro z; cases z; done)) | fail "ne")
local macro_rules | `(tactic| walk_at "dp") => `(tactic| first | exact Dp.int _ | exact Dp.str _ | exact Dp.bl _ | exact Dp.non | (apply Dp.lst; (focus (apply Rd.sql; walk_at "hp")); (walk_at "dps")) | (apply Dp.tup; (focus (apply Rd.sqt; walk_at "hp")); (walk_at "dps")) | fail "dp")
local macro_rules | `(tactic| walk_at "dps") => `(tactic| first | exact DpAll.nil | (apply DpAll.cons; (focus (walk_at "dp")); (walk_at "dps")) | fail "dps")
local macro_rules | `(tactic| walk_at "shp") => `(tactic| ((simp only [SeqAt.shaped, PyData.canLay0, PyData.canLayAll0, PyData.depth, PyData.depthAll]) <;> first | decide | rfl))
local macro_rules | `(tactic| walk_at "sd") => `(tactic| first | assumption | rfl | omega | (walk_at "hp") | (refine ⟨?_, ?_⟩; (focus (walk_at "sd")); (walk_at "sd")) | fail "sd")
local macro_rules | `(tactic| walk_at "lk") => `(tactic| first | exact Rd.lk1 | rfl | decide +kernel)
local macro_rules | `(tactic| walk_at "rd1") => `(tactic| first | with_reducible refine Pr.dget ?_ | with_reducible refine Pr.dput ?_ | with_reducible refine Pr.sfld ?_ | with_reducible refine Pr.u_isInt ?_ | ((with_reducible show Pr.spNeed _ _ _ _ _ _); refine Pr.u_need (by omega) (by omega) ?_) | ((with_reducible show Pr.spIs _ _ _ _ _ _); refine Pr.u_isIn (by omega) ?_) | ((with_reducible apply Rd.fld1); (focus (walk_at "hp")); (focus assumption); (focus assumption); (focus (walk_at "lk"))) | ((with_reducible apply Au.methO); (focus (walk_at "hp")); (focus (walk_at "lk"))) | ((with_reducible apply Au.propO); (focus (walk_at "hp"))) | ((with_reducible show rIxT _ (V.ref _) (V.int _) _ _); refine Rd.ixT (Rd.sqt (by walk_at "hp")) rfl ?_) | ((with_reducible show rIxL _ (V.ref _) (V.int _) _ _); refine Rd.ixL (Rd.sql (by walk_at "hp")) rfl ?_) | ((with_reducible show Rd.rLenQ _ [V.ref _] _ _); first | refine Rd.lenL (Rd.sql (by walk_at "hp")) ?_ | refine Rd.lenT (Rd.sqt (by walk_at "hp")) ?_) | ((with_reducible show gTup _ _ _ (V.ref _) _ _ _); refine Rd.gtup (Rd.sqt (by walk_at "hp")) rfl ?_) | with_reducible refine Gx.gat ?_ | with_reducible refine Gx.gnx ?_ | with_reducible refine Gx.gthen ?_ | with_reducible refine Gx.gplain ?_ | with_reducible refine Gx.gfr ?_ | with_reducible refine Gx.lg ?_ | with_reducible refine Gx.mg ?_ | with_reducible refine Gx.sme ?_ | with_reducible refine Gx.callSD ?_ | with_reducible refine Gx.methSD ?_)
local macro_rules | `(tactic| walk_at "rd1") => `(tactic| first | with_reducible refine Gx.mkR ?_ | ((with_reducible refine Gx.makeV ?hs ?_); (case hs => rfl)) | with_reducible refine Gx.smeX ?_ | with_reducible refine Gx.cmX ?_ | with_reducible refine Gx.isBl ?_ | with_reducible refine Gx.notBl ?_ | with_reducible refine Gx.xk ?_ | with_reducible refine Gx.fr3 ?_ | with_reducible refine Gx.makeD ?_ | with_reducible refine Gx.frz ?_ | with_reducible refine Gx.lcO ?_ | with_reducible refine Gx.itupO ?_ | with_reducible refine Gx.ilistO ?_ | with_reducible refine Gx.irng1O ?_ | with_reducible refine Gx.ival ?_ | ((with_reducible apply Gx.ivalO); (focus (walk_at "hp")); (focus assumption); (focus assumption); (focus (walk_at "lk"))) | ((with_reducible show Gx.rTupOf _ [V.ref _] _ _); refine Gx.tupOfL (Rd.sql (by walk_at "hp")) ?_) | ((with_reducible show Gx.rLstOf _ [V.ref _] _ _); first | refine Gx.lstOfL (Rd.sql (by walk_at "hp")) ?_ | refine Gx.lstOfT (Rd.sqt (by walk_at "hp")) ?_))
local macro_rules | `(tactic| walk_at "hp") => `(tactic| first | assumption | (apply Pr.smq; (focus assumption); (focus (walk_at "hp")); (focus (walk_at "ne")); (walk_at "ne")))
theorem isiB {K : PySem.W.Frag} {H : Hp} {Q : VK} {v : V} {t : String} {T : Value} {r : Bool} (h : TyX K H v T) (k : PySem.W.kitOne K T (.type t) = some r) (q : Q (.bl r) H) : rIsi K [v, .ty t] H Q := ⟨_, _, T, _, r, rfl, .ty _, h, k, q⟩
theorem cal_is_integer (T : Txt K mg C_DrawError C_BadNumber C_BadState C_BadSteps CO__law_maps_right CO__law_refused_right) : C8.Cal P w K mg base 1 "is_integer" (Pr.spIsInt) [] := by
  obtain ⟨f, fd, F, b⟩ := T.d_is_integer
  refine C8.cal0 F b .nil sc_is_integer (fun vs H Q E h => ?_) (fun cdv A outer s H vs Q E hr h => ?_)
  · obtain ⟨v, rfl, _⟩ := h; rfl
  · obtain ⟨v, rfl, h⟩ := h
    have hu := hu_of hr
    have hu64 := hr.units
    refine ⟨_, (pss_one (ps_ret (pe_and (pe_callB call_isi (by rfl) T.b_isinstance (by decide +kernel) (pa_cons (pv 0) (pa_cons (pe_bltn (v := .ty "int") (by rfl) T.b_int (by decide +kernel) rfl) pa_nil))) (pe_one (pe_not (pe_callB call_isi (by rfl) T.b_isinstance (by decide +kernel) (pa_cons (pv 0) (pa_cons (pe_bltn (v := .ty "bool") (by rfl) T.b_bool (by decide +kernel) rfl) pa_nil)))))))), ?_⟩
    walk_at "rd"
    obtain ⟨k1, k2, k3, k4, k5, k6, k7⟩ := Pr.kit_t K
    rcases h with ⟨n, rfl, q⟩ | ⟨h, q⟩
    · walk_at "rd"
      exact q
    · rcases h with rfl | ⟨b, rfl⟩ | ⟨s, rfl⟩ | ⟨a, xs, rfl, ha⟩ | ⟨a, xs, rfl, ha⟩ | ⟨a, xs, rfl, ha⟩
      · refine isiB (.base .non) k1 ?_
        walk_at "rd"
        exact q
      · refine isiB (.base (.bl b)) k2 ?_
        walk_at "rd"
        refine isiB (.base (.bl b)) k3 ?_
        walk_at "rd"
        exact q
      · refine isiB (.base (.str s)) k4 ?_
        walk_at "rd"
        exact q
      · refine isiB (.base (.tup ha)) k5 ?_
        walk_at "rd"
        exact q
      · refine isiB (.base (.lst ha)) k6 ?_
        walk_at "rd"
        exact q
      · refine isiB (.base (.dK ha)) k7 ?_
        walk_at "rd"
        exact q
theorem exc_BadNumber (T : Txt K mg C_DrawError C_BadNumber C_BadState C_BadSteps CO__law_maps_right CO__law_refused_right) : Gx.ExcMkY P w K mg base 1 "BadNumber" C_BadNumber "given" := by
  obtain ⟨f, fd, hi, ht, F, b⟩ := T.d_BadNumber___init__
  refine ⟨f, fd, _, _, T.y_BadNumber, hi, ht, C8.fn0 F sc_BadNumber___init__ (fun vs H Q E h => ?_) (fun cdv A outer s H vs Q E hr h => ?_), b, T.g_BadNumber⟩
  · obtain ⟨p, v, rfl, _⟩ := h; rfl
  · obtain ⟨p, v, rfl, hp, q⟩ := h
    refine ⟨_, (pss_cons (ps_expr (Gx.pe_bi (by rfl) T.g_DrawError T.r_DrawError T.i_DrawError (by decide +kernel) (pa_cons (pv 0) (pa_cons pe_str pa_nil))))
      (pss_one (Gx.ps_ostY (initId := "ValueError.__init__") (pv 0) (pv 1)))), ?_⟩
    walk_at "rd"
    exact ⟨_, rfl, p, C_BadNumber, [.str "not an allowed number"], rfl, Nat.le_of_ble_eq_true rfl, T.y_BadNumber, hp, _, rfl, _, rfl, p, C_BadNumber, rfl, T.y_BadNumber, T.t_BadNumber_given, hp, q⟩
theorem exc_BadState (T : Txt K mg C_DrawError C_BadNumber C_BadState C_BadSteps CO__law_maps_right CO__law_refused_right) : Gx.ExcMkY P w K mg base 1 "BadState" C_BadState "given" := by
  obtain ⟨f, fd, hi, ht, F, b⟩ := T.d_BadState___init__
  refine ⟨f, fd, _, _, T.y_BadState, hi, ht, C8.fn0 F sc_BadState___init__ (fun vs H Q E h => ?_) (fun cdv A outer s H vs Q E hr h => ?_), b, T.g_BadState⟩
  · obtain ⟨p, v, rfl, _⟩ := h; rfl
  · obtain ⟨p, v, rfl, hp, q⟩ := h
    refine ⟨_, (pss_cons (ps_expr (Gx.pe_bi (by rfl) T.g_DrawError T.r_DrawError T.i_DrawError (by decide +kernel) (pa_cons (pv 0) (pa_cons pe_str pa_nil))))
      (pss_one (Gx.ps_ostY (initId := "ValueError.__init__") (pv 0) (pv 1)))), ?_⟩
    walk_at "rd"
    exact ⟨_, rfl, p, C_BadState, [.str "not a state"], rfl, Nat.le_of_ble_eq_true rfl, T.y_BadState, hp, _, rfl, _, rfl, p, C_BadState, rfl, T.y_BadState, T.t_BadState_given, hp, q⟩
theorem exc_BadSteps (T : Txt K mg C_DrawError C_BadNumber C_BadState C_BadSteps CO__law_maps_right CO__law_refused_right) : Gx.ExcMkY P w K mg base 1 "BadSteps" C_BadSteps "given" := by
  obtain ⟨f, fd, hi, ht, F, b⟩ := T.d_BadSteps___init__
  refine ⟨f, fd, _, _, T.y_BadSteps, hi, ht, C8.fn0 F sc_BadSteps___init__ (fun vs H Q E h => ?_) (fun cdv A outer s H vs Q E hr h => ?_), b, T.g_BadSteps⟩
  · obtain ⟨p, v, rfl, _⟩ := h; rfl
  · obtain ⟨p, v, rfl, hp, q⟩ := h
    refine ⟨_, (pss_cons (ps_expr (Gx.pe_bi (by rfl) T.g_DrawError T.r_DrawError T.i_DrawError (by decide +kernel) (pa_cons (pv 0) (pa_cons pe_str pa_nil))))
      (pss_one (Gx.ps_ostY (initId := "ValueError.__init__") (pv 0) (pv 1)))), ?_⟩
    walk_at "rd"
    exact ⟨_, rfl, p, C_BadSteps, [.str "not a number of steps"], rfl, Nat.le_of_ble_eq_true rfl, T.y_BadSteps, hp, _, rfl, _, rfl, p, C_BadSteps, rfl, T.y_BadSteps, T.t_BadSteps_given, hp, q⟩
/-- the wish of an exception that is told -/
structure Kns (K : PySem.W.Frag) (Cs : List (Addr × Str)) (D : Addr) (wd : Str) : Prop where
  f : XfC K D
  n : PySem.W.findIn K (.ref D) "given" = some none
  k : ∃ i : Nat, Cs[i]? = some (D, wd) ∧ PySem.W.exmOne K (.ref D) (.ref D) = some true ∧ ∀ (j : Nat) (C : Addr) (w : Str), j < i → Cs[j]? = some (C, w) → PySem.W.exmOne K (.ref D) (.ref C) = some false
def toldS (K : PySem.W.Frag) (Cs : List (Addr × Str)) (Q : VK) : XK := fun cls d H => ∃ (D dd : Addr) (wd : Str) (v : V), cls = .ref D ∧ Kns K Cs D wd ∧ d = some dd ∧ H dd = some (.xd [("given", v)]) ∧ ∀ p H', Rd.Ex H H' → H' p = some (.tup [.str wd, v]) → Q (.ref p) H'
def TToldS (K : PySem.W.Frag) (Cs : List (Addr × Str)) : (XK → Hp → VK → Prop) → Hp → VK → Prop := fun tl H Q =>
  ∀ cont : VK, (∀ v H2, Au.NewO H2 (.lst [v]) Q → cont v H2) → tl (toldS K Cs Q) H cont
abbrev sCs (C0 C1 C2 : Addr) : List (Addr × Str) := [(C0, "number"), (C1, "state"), (C2, "steps")]
theorem gives_told (T : Txt K mg C_DrawError C_BadNumber C_BadState C_BadSteps CO__law_maps_right CO__law_refused_right) {X : Cx} (eK : X.K = K) (em : X.mg = mg) (gd : X.A.guards = some []) (hr : Room 1 X.A) {g : Addr} {cdg : Value} {q : Str} :
    LamX.GivesTo X ["_law_deed", "_law_found", "error"] "_law_said" (C8.fnScope s__law_said) g cdg (C8.fnBody s__law_said) "_law_deed" q (TToldS K [(C_BadNumber, "number"), (C_BadState, "state"), (C_BadSteps, "steps")]) := by
  subst eK em
  intro f c' s H Q tl act hc h
  refine ⟨_, pss_cons (ps_set (i := 1) sc__law_said.nd rfl (.inl rfl) pe_non) (pss_cons (Gx.ps_tryG (X := (cxOf C8.CX0 X.prog X.w X.K X.mg X.base ["_law_deed", "_law_found", "error"] "_law_said" (C8.fnScope s__law_said) g cdg X.A X.stack s H C8.E0).nox)
      (tb := fun W D σ H => ∃ Ech : XK, (∀ cls d σ' H', Ech cls d H' → W cls d σ' H') ∧ σ[0]? = some (some (.ref f)) ∧ H c' = some (LamX.CodeO c' q) ∧ tl Ech H (fun v H1 => [v].length ≤ sizeLine ∧ ∀ p, H1 p = none → D.nx (σ.set 1 (some (.ref p))) (upd H1 p (.lst [v]))))
      rfl rfl rfl LamX.takes0 (fun W pn xe tk _ => ?_) (.as (i := 2) (ts := fun a cls d D σ H => σ.length = 3 → tAsg (tTup (tCons (tC (.str "number")) (tCons (tXf a cls d C_BadNumber "given" (tVar 2)) tNil))) (gName 1) D σ H) (Gx.ht_name ⟨by rfl, by decide, .inl T.g_BadNumber⟩) sc__law_said.nd rfl (by rfl) (fun a oe cls d pn hz hf => by refine ⟨fun pins s' σ H' D I h' => ?_⟩; exact (fun t hd ht => PSs.run (t := t) hd pins s' _ H' D I ht) _ (pss_one (ps_set (i := 1) sc__law_said.nd rfl (.inl rfl) (pe_tup (pa_cons pe_str (pa_cons (pe_xf T.f_BadNumber T.n_BadNumber_given hz hf (pv 2)) pa_nil))))) (h' I.len)) (.as (i := 2) (ts := fun a cls d D σ H => σ.length = 3 → tAsg (tTup (tCons (tC (.str "state")) (tCons (tXf a cls d C_BadState "given" (tVar 2)) tNil))) (gName 1) D σ H) (Gx.ht_name ⟨by rfl, by decide, .inl T.g_BadState⟩) sc__law_said.nd rfl (by rfl) (fun a oe cls d pn hz hf => by refine ⟨fun pins s' σ H' D I h' => ?_⟩; exact (fun t hd ht => PSs.run (t := t) hd pins s' _ H' D I ht) _ (pss_one (ps_set (i := 1) sc__law_said.nd rfl (.inl rfl) (pe_tup (pa_cons pe_str (pa_cons (pe_xf T.f_BadState T.n_BadState_given hz hf (pv 2)) pa_nil))))) (h' I.len)) (.as (i := 2) (ts := fun a cls d D σ H => σ.length = 3 → tAsg (tTup (tCons (tC (.str "steps")) (tCons (tXf a cls d C_BadSteps "given" (tVar 2)) tNil))) (gName 1) D σ H) (Gx.ht_name ⟨by rfl, by decide, .inl T.g_BadSteps⟩) sc__law_said.nd rfl (by rfl) (fun a oe cls d pn hz hf => by refine ⟨fun pins s' σ H' D I h' => ?_⟩; exact (fun t hd ht => PSs.run (t := t) hd pins s' _ H' D I ht) _ (pss_one (ps_set (i := 1) sc__law_said.nd rfl (.inl rfl) (pe_tup (pa_cons pe_str (pa_cons (pe_xf T.f_BadSteps T.n_BadSteps_given hz hf (pv 2)) pa_nil))))) (h' I.len)) (.nil))))) (pss_one (ps_ret (pv 1)))), ?_⟩
  · refine ⟨fun pins s' σ H' D I h' => ?_⟩
    obtain ⟨Ech, hW, h1, h2, h3⟩ := h'
    have hp := fun p1 p2 => act W pn xe Ech p1 p2 tk hW
    refine (pss_one (ps_set (i := 1) sc__law_said.nd rfl (.inl rfl) (pe_lst (pa_cons (hp _ _) pa_nil)))).run pins s' σ H' D I ⟨h1, h2, ?_⟩
    exact h3
  · walk_at "rd"
    refine ⟨_, fun cls d σ' H' ht => ?_, rfl, hc, h _ fun v H2 hn => ⟨Nat.le_of_ble_eq_true rfl, fun p hp => ?_⟩⟩
    rotate_left
    · walk_at "rd"
      exact hn p hp
    obtain ⟨D, dd, wd, v, rfl, kn, rfl, hd, hq⟩ := ht
    obtain ⟨i, hi, h1, h0⟩ := kn.k
    match i, hi with
    | 0, hi =>
      cases hi
      refine ⟨true, h1, fun _ a ha hl => ?_, fun z => by cases z⟩
      obtain ⟨x0, x1, x2, rfl⟩ : ∃ x0 x1 x2, σ' = [x0, x1, x2] := by
        match σ', (show σ'.length = 3 by simpa using hl) with
        | [x0, x1, x2], _ => exact ⟨x0, x1, x2, rfl⟩
      walk_at "rd"
      refine ⟨_, rfl, rfl, rfl, dd, _, v, rfl, hd, Rd.lk1, ?_⟩
      walk_at "rd"
      refine Au.new fun p H2 hp e2 k2 => ?_
      walk_at "rd"
      intro na
      obtain ⟨H3, hH3, e3, k3⟩ := Gx.newo (o := Gx.xob a (.ref C_BadNumber) (some dd)) na
      rw [← hH3]
      walk_at "rd"
      exact hq p H3 (e2.trans e3) (e3 _ _ k2)
    | 1, hi =>
      cases hi
      refine ⟨false, h0 0 _ _ (by decide) rfl, fun z => (by cases z), fun _ => ?_⟩
      refine ⟨true, h1, fun _ a ha hl => ?_, fun z => by cases z⟩
      obtain ⟨x0, x1, x2, rfl⟩ : ∃ x0 x1 x2, σ' = [x0, x1, x2] := by
        match σ', (show σ'.length = 3 by simpa using hl) with
        | [x0, x1, x2], _ => exact ⟨x0, x1, x2, rfl⟩
      walk_at "rd"
      refine ⟨_, rfl, rfl, rfl, dd, _, v, rfl, hd, Rd.lk1, ?_⟩
      walk_at "rd"
      refine Au.new fun p H2 hp e2 k2 => ?_
      walk_at "rd"
      intro na
      obtain ⟨H3, hH3, e3, k3⟩ := Gx.newo (o := Gx.xob a (.ref C_BadState) (some dd)) na
      rw [← hH3]
      walk_at "rd"
      exact hq p H3 (e2.trans e3) (e3 _ _ k2)
    | 2, hi =>
      cases hi
      refine ⟨false, h0 0 _ _ (by decide) rfl, fun z => (by cases z), fun _ => ?_⟩
      refine ⟨false, h0 1 _ _ (by decide) rfl, fun z => (by cases z), fun _ => ?_⟩
      refine ⟨true, h1, fun _ a ha hl => ?_, fun z => by cases z⟩
      obtain ⟨x0, x1, x2, rfl⟩ : ∃ x0 x1 x2, σ' = [x0, x1, x2] := by
        match σ', (show σ'.length = 3 by simpa using hl) with
        | [x0, x1, x2], _ => exact ⟨x0, x1, x2, rfl⟩
      walk_at "rd"
      refine ⟨_, rfl, rfl, rfl, dd, _, v, rfl, hd, Rd.lk1, ?_⟩
      walk_at "rd"
      refine Au.new fun p H2 hp e2 k2 => ?_
      walk_at "rd"
      intro na
      obtain ⟨H3, hH3, e3, k3⟩ := Gx.newo (o := Gx.xob a (.ref C_BadSteps) (some dd)) na
      rw [← hH3]
      walk_at "rd"
      exact hq p H3 (e2.trans e3) (e3 _ _ k2)
    | i + 3, hi => cases hi
end
end Pf

set_option Elab.async false
set_option linter.all false
set_option maxRecDepth 100000
set_option maxHeartbeats 4000000
set_option exponentiation.threshold 3000
namespace Pf
open PySem PySem.Spec PyProof.Rows L2
section
variable {P : Program} {w : World} {K : PySem.W.Frag} {mg : Str → Option Value} {base : Heap} {C_DrawError C_BadNumber C_BadState C_BadSteps CO__law_maps_right CO__law_refused_right : Addr}
local macro_rules | `(tactic| walk_at "side") => `(tactic| first | ((with_reducible show L2.CMul _ _); first | exact Or.inl ⟨by omega, by omega⟩ | exact Or.inr ⟨by omega, by omega⟩) | ((with_reducible show L2.CPow _ _); exact ⟨by decide, by decide, by decide⟩) | ((with_reducible show L2.CMulW _ _); exact wide_mul (a := 96) (b := 96) (by omega) (by omega) (by decide) (by decide) (by decide)) | ((with_reducible show L2.CDivW _ _); first | exact wide_div (b := 96) (by omega) (by omega) (by decide) (by decide) | exact wide_div (b := 300) (by omega) (by omega) (by decide) (by decide)) | (show (0 : Int) < _; omega) | (show (0 : Int) ≤ _; omega))
local macro_rules | `(tactic| walk_at "rd1") => `(tactic| first | with_reducible refine Rd.seq ?_ | with_reducible refine Rd.asg ?_ | with_reducible refine Rd.nm ?_ | with_reducible refine Rd.ret ?_ | with_reducible refine Rd.drop ?_ | with_reducible refine Rd.ifs ?_ | with_reducible refine Rd.par ?_ | with_reducible refine Rd.par3 ?_ | with_reducible refine Rd.next ?_ | with_reducible refine Rd.fr1 ?_ | with_reducible refine Rd.nxp ?_ | with_reducible refine Rd.rtp ?_ | ((with_reducible show tVar _ _ _ _); refine Rd.var rfl ?_) | with_reducible refine Rd.cst ?_ | with_reducible refine Rd.op ?_ | with_reducible refine Rd.un ?_ | with_reducible refine Rd.i0 ?_ | with_reducible refine Rd.ung ?_ | with_reducible refine Rd.eqI ?_ | with_reducible refine Rd.neI ?_ | with_reducible refine Rd.eqS ?_ | with_reducible refine Rd.neS ?_ | with_reducible refine Rd.test ?_ | with_reducible refine Rd.tstB ?_ | with_reducible refine Rd.isB ?_ | with_reducible refine Rd.not ?_ | with_reducible refine Rd.andT ?_ | with_reducible refine Rd.orT ?_ | with_reducible refine Rd.andV ?_ | with_reducible refine Rd.orV ?_ | with_reducible refine Rd.notV ?_ | with_reducible refine Rd.ifE ?_ | with_reducible refine Rd.chain ?_ | with_reducible refine Rd.nil ?_ | with_reducible refine Rd.cons ?_ | with_reducible refine Rd.call ?_ | with_reducible refine Rd.cb ?_ | with_reducible refine Rd.bm ?_ | with_reducible refine Au.revL ?_ | with_reducible refine Rd.frl ?_ | with_reducible refine Rd.frt ?_ | with_reducible refine Rd.fre ?_ | with_reducible refine Rd.disp ?_ | with_reducible refine Rd.pnil ?_ | with_reducible refine Rd.pcons ?_ | with_reducible refine Rd.gcons ?_ | with_reducible refine Rd.gnil ?_ | with_reducible refine Rd.gsub ?_ | with_reducible refine Rd.setD ?_ | ((with_reducible show gTup _ _ _ _ _ (upd _ _ (HO.tup _)) _); refine Rd.tupNew rfl ?_) | with_reducible refine Rd.fld ?_ | with_reducible refine Rd.meth ?_ | with_reducible refine Rd.make ?_ | with_reducible refine Rd.prop ?_ | with_reducible refine Au.tup ?_ | with_reducible refine Au.lst ?_ | ((with_reducible refine Au.lenOk ?hl ?_); (case hl => exact rfl)) | with_reducible refine Au.nopart ?_ | with_reducible refine Au.part ?_ | with_reducible refine Au.isI ?_ | with_reducible refine Au.sl ?_ | with_reducible refine Au.pr2 ?_ | with_reducible refine Au.pr3 ?_ | with_reducible refine Au.eqB ?_ | with_reducible refine Rd.isInt ?_ | with_reducible refine Rd.isBool ?_ | with_reducible refine Rd.mx2 ?_ | with_reducible refine Rd.mn2 ?_ | ((with_reducible show Rd.rAndM _ _ _ _); first | refine Rd.and1 ?_ | refine Rd.and48 ?_ | refine Rd.and32 ?_ | refine Rd.and64 ?_ | refine Rd.and65 ?_) | ((with_reducible refine Rd.iC ?hc ?_); (case hc => walk_at "side")) | ((with_reducible refine Rd.yes ?hc ?_); (case hc => first | omega | exact rfl)) | ((with_reducible refine Rd.no ?hc ?_); (case hc => omega)) | ((with_reducible refine Rd.noN ?hc ?_); (case hc => first | omega | exact rfl)) | ((with_reducible refine Rd.yesN ?hc ?_); (case hc => omega)) | ((with_reducible refine Rd.yesNN ?hc ?_); (case hc => omega)) | ((with_reducible refine Rd.noNN ?hc ?_); (case hc => omega)) | with_reducible refine iteT ?_ | with_reducible refine iteF ?_ | with_reducible refine Rd.iteNT ?_ | with_reducible refine Rd.iteNF ?_)
local macro_rules | `(tactic| walk_at "rd") => `(tactic| repeat (walk_at "rd1"))
local macro_rules | `(tactic| walk_at "hp") => `(tactic| first | assumption | (apply Au.sm; (focus assumption); (walk_at "hp")) | (apply Au.smp; (focus assumption); (focus (walk_at "hp")); (walk_at "ne")) | (apply Au.smn; (focus assumption); (focus (walk_at "hp")); (focus (intro _ z; cases z; done))) | fail "hp")
local macro_rules | `(tactic| walk_at "ne") => `(tactic| first | assumption | (apply Ne.symm; assumption) | (apply Au.nen; (focus assumption); (walk_at "hp")) | (apply Au.nen'; (focus assumption); (walk_at "hp")) | (apply Au.nek; (focus assumption); (focus assumption); (intro z; cases z; done)) | (apply Au.nek2; (focus assumption); (focus (walk_at "hp")); (intro z; cases z; done)) | fail "ne")
local macro_rules | `(tactic| walk_at "dp") => `(tactic| first | exact Dp.int _ | exact Dp.str _ | exact Dp.bl _ | exact Dp.non | (apply Dp.lst; (focus (apply Rd.sql; walk_at "hp")); (walk_at "dps")) | (apply Dp.tup; (focus (apply Rd.sqt; walk_at "hp")); (walk_at "dps")) | fail "dp")
local macro_rules | `(tactic| walk_at "dps") => `(tactic| first | exact DpAll.nil | (apply DpAll.cons; (focus (walk_at "dp")); (walk_at "dps")) | fail "dps")
local macro_rules | `(tactic| walk_at "shp") => `(tactic| ((simp only [SeqAt.shaped, PyData.canLay0, PyData.canLayAll0, PyData.depth, PyData.depthAll]) <;> first | decide | rfl))
local macro_rules | `(tactic| walk_at "sd") => `(tactic| first | assumption | rfl | omega | (walk_at "hp") | (refine ⟨?_, ?_⟩; (focus (walk_at "sd")); (walk_at "sd")) | fail "sd")
local macro_rules | `(tactic| walk_at "lk") => `(tactic| first | exact Rd.lk1 | rfl | decide +kernel)
local macro_rules | `(tactic| walk_at "rd1") => `(tactic| first | with_reducible refine Pr.dget ?_ | with_reducible refine Pr.dput ?_ | with_reducible refine Pr.sfld ?_ | with_reducible refine Pr.u_isInt ?_ | ((with_reducible show Pr.spNeed _ _ _ _ _ _); refine Pr.u_need (by omega) (by omega) ?_) | ((with_reducible show Pr.spIs _ _ _ _ _ _); refine Pr.u_isIn (by omega) ?_) | ((with_reducible apply Rd.fld1); (focus (walk_at "hp")); (focus assumption); (focus assumption); (focus (walk_at "lk"))) | ((with_reducible apply Au.methO); (focus (walk_at "hp")); (focus (walk_at "lk"))) | ((with_reducible apply Au.propO); (focus (walk_at "hp"))) | ((with_reducible show rIxT _ (V.ref _) (V.int _) _ _); refine Rd.ixT (Rd.sqt (by walk_at "hp")) rfl ?_) | ((with_reducible show rIxL _ (V.ref _) (V.int _) _ _); refine Rd.ixL (Rd.sql (by walk_at "hp")) rfl ?_) | ((with_reducible show Rd.rLenQ _ [V.ref _] _ _); first | refine Rd.lenL (Rd.sql (by walk_at "hp")) ?_ | refine Rd.lenT (Rd.sqt (by walk_at "hp")) ?_) | ((with_reducible show gTup _ _ _ (V.ref _) _ _ _); refine Rd.gtup (Rd.sqt (by walk_at "hp")) rfl ?_) | with_reducible refine Gx.gat ?_ | with_reducible refine Gx.gnx ?_ | with_reducible refine Gx.gthen ?_ | with_reducible refine Gx.gplain ?_ | with_reducible refine Gx.gfr ?_ | with_reducible refine Gx.lg ?_ | with_reducible refine Gx.mg ?_ | with_reducible refine Gx.sme ?_ | with_reducible refine Gx.callSD ?_ | with_reducible refine Gx.methSD ?_)
local macro_rules | `(tactic| walk_at "rd1") => `(tactic| first | with_reducible refine Gx.mkR ?_ | ((with_reducible refine Gx.makeV ?hs ?_); (case hs => rfl)) | with_reducible refine Gx.smeX ?_ | with_reducible refine Gx.cmX ?_ | with_reducible refine Gx.isBl ?_ | with_reducible refine Gx.notBl ?_ | with_reducible refine Gx.xk ?_ | with_reducible refine Gx.fr3 ?_ | with_reducible refine Gx.makeD ?_ | with_reducible refine Gx.frz ?_ | with_reducible refine Gx.lcO ?_ | with_reducible refine Gx.itupO ?_ | with_reducible refine Gx.ilistO ?_ | with_reducible refine Gx.irng1O ?_ | with_reducible refine Gx.ival ?_ | ((with_reducible apply Gx.ivalO); (focus (walk_at "hp")); (focus assumption); (focus assumption); (focus (walk_at "lk"))) | ((with_reducible show Gx.rTupOf _ [V.ref _] _ _); refine Gx.tupOfL (Rd.sql (by walk_at "hp")) ?_) | ((with_reducible show Gx.rLstOf _ [V.ref _] _ _); first | refine Gx.lstOfL (Rd.sql (by walk_at "hp")) ?_ | refine Gx.lstOfT (Rd.sqt (by walk_at "hp")) ?_))
local macro_rules | `(tactic| walk_at "hp") => `(tactic| first | assumption | (apply Pr.smq; (focus assumption); (focus (walk_at "hp")); (focus (walk_at "ne")); (walk_at "ne")))
local macro_rules | `(tactic| walk_at "hp") => `(tactic| first | assumption | (apply smb; (focus assumption); (focus (walk_at "hp")); (focus assumption); assumption) | (apply smbK; (focus assumption); (focus (walk_at "hp")); (focus (walk_at "dr")); (constructor <;> (intro _ z; cases z; done))) | (apply smbN; (focus assumption); (focus (walk_at "hp")); (focus assumption); (walk_at "dr")))
local macro_rules | `(tactic| walk_at "dr") => `(tactic| first | assumption | (apply Draw.ex; (focus assumption); (walk_at "dr")) | (apply Draw.exp; (focus assumption); (focus (walk_at "dr")); (focus (walk_at "nd"))) | fail "dr")
local macro_rules | `(tactic| walk_at "nd") => `(tactic| first | assumption | (apply ndN; (focus assumption); (walk_at "dr")) | fail "nd")
theorem calx_need_steps (T : Txt K mg C_DrawError C_BadNumber C_BadState C_BadSteps CO__law_maps_right CO__law_refused_right) : Gx.CalX P w K mg base 3 "need_steps" (Pr.spNeedX C_BadSteps 0 18446744073709551616) := by
  obtain ⟨f, fd, F, b⟩ := T.d_need_steps
  refine Gx.calX F b sc_need_steps (fun vs H Q E h => ?_) (fun cdv A outer s H vs Q E hr h => ?_)
  · obtain ⟨v, r, rfl, _⟩ := h; rfl
  · obtain ⟨v, r, rfl, h, q1, q2⟩ := h
    have hu := hu_of hr
    have hu64 := hr.units
    refine ⟨_, (pss_one (ps_if (PW.pt (pw_or (pt_not (pt_val (C8.pe_c (cal_is_integer T) hr (by omega) (by rfl) (pa_cons (pv 0) pa_nil)))) (pw_or1 (pt_not (pt_chain op_le op_le pe_int (pv 0) (C8.pe_gc (by rfl) T.c_MOST_STEPS)))))) (pss_one (ps_raise rfl Gx.takes_cx (Gx.pmk_exY (exc_BadSteps T) hr (by omega) (by rfl) (pa_cons (pv 0) pa_nil)))) pss_nil)), ?_⟩
    walk_at "rd"
    rcases h.inv with ⟨n, rfl, rfl, c⟩ | ⟨n, rfl, rfl, c⟩ | ⟨h', rfl⟩
    · walk_at "rd"
      exact q1 n rfl rfl c.1 c.2
    · walk_at "rd"
      refine Rd.both (fun c1 => ?_) (fun c1 => ?_)
      · walk_at "rd"
        exact Pr.Xs.mk (q2 rfl)
      · walk_at "rd"
        exact Pr.Xs.mk (q2 rfl)
    · refine Pr.u_isNon h' ?_
      walk_at "rd"
      exact Pr.Xs.mk (q2 rfl)
theorem cal_s2_is_number (T : Txt K mg C_DrawError C_BadNumber C_BadState C_BadSteps CO__law_maps_right CO__law_refused_right) : C8.Cal P w K mg base 2 "s2_is_number" (Pr.spIs 0 281474976710655) [] := by
  obtain ⟨f, fd, F, b⟩ := T.d_s2_is_number
  refine C8.cal0 F b .nil sc_s2_is_number (fun vs H Q E h => ?_) (fun cdv A outer s H vs Q E hr h => ?_)
  · obtain ⟨v, rfl, _⟩ := h; rfl
  · obtain ⟨v, rfl, h⟩ := h
    have hu := hu_of hr
    have hu64 := hr.units
    refine ⟨_, (pss_one (ps_ret (pe_and (C8.pe_c (cal_is_integer T) hr (by omega) (by rfl) (pa_cons (pv 0) pa_nil)) (pe_one (pe_chain op_le op_lt pe_int (pv 0) (C8.pe_gc (by rfl) T.c_MODULUS)))))), ?_⟩
    walk_at "rd"
    rcases h with ⟨n, rfl, q⟩ | ⟨h, q⟩
    · walk_at "rd"
      refine Rd.both (fun c => ?_) (fun c => ?_)
      · walk_at "rd"
        rw [show decide (n < 281474976710656) = decide (0 ≤ n ∧ n ≤ 281474976710655) from by rw [decide_eq_decide]; omega]
        exact q
      · walk_at "rd"
        rw [decide_eq_false (fun h => c h.1)] at q
        exact q
    · refine Pr.u_isNon h ?_
      walk_at "rd"
      exact q
theorem calx_s2_need_start (T : Txt K mg C_DrawError C_BadNumber C_BadState C_BadSteps CO__law_maps_right CO__law_refused_right) : Gx.CalX P w K mg base 3 "s2_need_start" (Pr.spNeedX C_BadState 0 281474976710655) := by
  obtain ⟨f, fd, F, b⟩ := T.d_s2_need_start
  refine Gx.calX F b sc_s2_need_start (fun vs H Q E h => ?_) (fun cdv A outer s H vs Q E hr h => ?_)
  · obtain ⟨v, r, rfl, _⟩ := h; rfl
  · obtain ⟨v, r, rfl, h, q1, q2⟩ := h
    have hu := hu_of hr
    have hu64 := hr.units
    refine ⟨_, (pss_one (ps_if (pt_not (pt_val (C8.pe_c (cal_s2_is_number T) hr (by omega) (by rfl) (pa_cons (pv 0) pa_nil)))) (pss_one (ps_raise rfl Gx.takes_cx (Gx.pmk_exY (exc_BadState T) hr (by omega) (by rfl) (pa_cons (pv 0) pa_nil)))) pss_nil)), ?_⟩
    walk_at "rd"
    rcases h.inv with ⟨n, rfl, rfl, c⟩ | ⟨n, rfl, rfl, c⟩ | ⟨h', rfl⟩
    · refine Pr.u_isIn c ?_
      walk_at "rd"
      exact q1 n rfl rfl c.1 c.2
    · refine Pr.Out.is h ?_
      walk_at "rd"
      exact Pr.Xs.mk (q2 rfl)
    · refine Pr.Out.is h ?_
      walk_at "rd"
      exact Pr.Xs.mk (q2 rfl)
/-- a value as a map -/
inductive Mp (H : Hp) : V → Option (Int × Int) → Prop
  | ok {a : Addr} {p q : Int} (h : H a = some (.tup [.int p, .int q])) (hp : 0 ≤ p ∧ p ≤ 281474976710655) (hq : 0 ≤ q ∧ q ≤ 281474976710655) : Mp H (.ref a) (some (p, q))
  | nt {v : V} (h : Pr.NonTup H v) : Mp H v none
  | len {a : Addr} {xs : List V} (h : H a = some (.tup xs)) (hl : xs.length ≠ 2) : Mp H (.ref a) none
  | bad {a : Addr} {x y : V} {rx ry : Option Int} (h : H a = some (.tup [x, y])) (hx : Pr.Nm 0 281474976710655 H x rx) (hy : Pr.Nm 0 281474976710655 H y ry) (hb : rx = none ∨ ry = none) : Mp H (.ref a) none
abbrev spIsMap : Sp := fun vs H Q _ => ∃ v r, vs = [v] ∧ Mp H v r ∧ Q (.bl r.isSome) H
theorem isF {b : Bool} {A B : Prop} (h : b = false) (q : B) : if b = true then A else B := by subst h; exact iteF q
theorem two_ne {xs : List V} (hl : xs.length ≠ 2) : ¬ ((xs.length : Int) = 2) := by omega
theorem cal_is_map (T : Txt K mg C_DrawError C_BadNumber C_BadState C_BadSteps CO__law_maps_right CO__law_refused_right) : C8.Cal P w K mg base 3 "is_map" (spIsMap) [] := by
  obtain ⟨f, fd, F, b⟩ := T.d_is_map
  refine C8.cal0 F b .nil sc_is_map (fun vs H Q E h => ?_) (fun cdv A outer s H vs Q E hr h => ?_)
  · obtain ⟨v, r, rfl, _⟩ := h; rfl
  · obtain ⟨v, r, rfl, h, q⟩ := h
    have hu := hu_of hr
    have hu64 := hr.units
    refine ⟨_, (pss_one (ps_ret (pe_and (pe_callB call_isi (by rfl) T.b_isinstance (by decide +kernel) (pa_cons (pv 0) (pa_cons (pe_bltn (v := .ty "tuple") (by rfl) T.b_tuple (by decide +kernel) rfl) pa_nil))) (pe_and (pe_cmpR op_eq (pe_callB Rd.call_lenQ (by rfl) T.b_len PySem.boot_len (pa_cons (pv 0) pa_nil)) pe_int (nomark _)) (pe_and (C8.pe_c (cal_s2_is_number T) hr (by omega) (by rfl) (pa_cons (pe_ix ix_tup (pv 0) pe_int (fun _ _ => rfl)) pa_nil)) (pe_one (C8.pe_c (cal_s2_is_number T) hr (by omega) (by rfl) (pa_cons (pe_ix ix_tup (pv 0) pe_int (fun _ _ => rfl)) pa_nil)))))))), ?_⟩
    walk_at "rd"
    cases h with
    | nt h =>
      refine Pr.isNT h ?_
      walk_at "rd"
      exact q
    | len h hl =>
      refine Pr.isTT h ?_
      walk_at "rd"
      exact q
    | ok h hp hq =>
      refine Pr.isTT h ?_
      walk_at "rd"
      exact q
    | bad h hx hy hb =>
      refine Pr.isTT h ?_
      walk_at "rd"
      refine hx.is ?_
      walk_at "rd"
      rcases hb with rfl | rfl
      · walk_at "rd"
        exact q
      · rename_i rx
        cases rx with
        | none =>
          walk_at "rd"
          exact q
        | some z =>
          refine iteT ?_
          walk_at "rd"
          refine hy.is ?_
          exact q
def spNeedM (CE : Addr) : Sp := fun vs H Q E => ∃ v r, vs = [v] ∧ Mp H v r ∧ (r ≠ none → Q .non H) ∧ (r = none → Pr.Xs CE "given" v H E)
theorem calx_s2_need_map (T : Txt K mg C_DrawError C_BadNumber C_BadState C_BadSteps CO__law_maps_right CO__law_refused_right) : Gx.CalX P w K mg base 4 "s2_need_map" (spNeedM C_BadNumber) := by
  obtain ⟨f, fd, F, b⟩ := T.d_s2_need_map
  refine Gx.calX F b sc_s2_need_map (fun vs H Q E h => ?_) (fun cdv A outer s H vs Q E hr h => ?_)
  · obtain ⟨v, r, rfl, _⟩ := h; rfl
  · obtain ⟨v, r, rfl, h, q1, q2⟩ := h
    have hu := hu_of hr
    have hu64 := hr.units
    refine ⟨_, (pss_one (ps_if (pt_not (pt_val (C8.pe_c (cal_is_map T) hr (by omega) (by rfl) (pa_cons (pv 0) pa_nil)))) (pss_one (ps_raise rfl Gx.takes_cx (Gx.pmk_exY (exc_BadNumber T) hr (by omega) (by rfl) (pa_cons (pv 0) pa_nil)))) pss_nil)), ?_⟩
    walk_at "rd"
    refine ⟨v, r, rfl, h, ?_⟩
    cases r with
    | none =>
      walk_at "rd"
      refine iteT ?_
      walk_at "rd"
      exact Pr.Xs.mk (q2 rfl)
    | some z =>
      walk_at "rd"
      refine iteF ?_
      walk_at "rd"
      exact q1 (fun z => by cases z)
abbrev InM (p : Int) : Prop := 0 ≤ p ∧ p ≤ 281474976710655
abbrev spJ : Sp := fun vs H Q _ => ∃ (a c : Addr) (p q p' q' : Int), vs = [.ref a, .ref c] ∧ H a = some (.tup [.int p, .int q]) ∧ H c = some (.tup [.int p', .int q']) ∧ InM p ∧ InM q ∧ InM p' ∧ InM q' ∧ ∀ t H', H t = none → Rd.Ex H H' → H' t = some (.tup [.int (p * p' % 281474976710656), .int ((q * p' + q') % 281474976710656)]) → Q (.ref t) H'
theorem cal_s2_joined (T : Txt K mg C_DrawError C_BadNumber C_BadState C_BadSteps CO__law_maps_right CO__law_refused_right) : C8.Cal P w K mg base 1 "s2_joined" (spJ) [] := by
  obtain ⟨f, fd, F, b⟩ := T.d_s2_joined
  refine C8.cal0 F b .nil sc_s2_joined (fun vs H Q E h => ?_) (fun cdv A outer s H vs Q E hr h => ?_)
  · obtain ⟨a, c, p, q, p', q', rfl, _⟩ := h; rfl
  · obtain ⟨a, c, p, q, p', q', rfl, ha, hc, ⟨p0, p1⟩, ⟨q0, q1⟩, ⟨r0, r1⟩, ⟨s0, s1⟩, z⟩ := h
    have hu := hu_of hr
    have hu64 := hr.units
    refine ⟨_, (pss_one (ps_ret (pe_tup (pa_cons (pe_op Rd.op_andM (pe_op op_mul (pe_ix ix_tup (pv 0) pe_int (fun _ _ => rfl)) (pe_ix ix_tup (pv 1) pe_int (fun _ _ => rfl))) (pe_op op_sub (C8.pe_gc (by rfl) T.c_MODULUS) pe_int)) (pa_cons (pe_op Rd.op_andM (pe_op op_add (pe_op op_mul (pe_ix ix_tup (pv 0) pe_int (fun _ _ => rfl)) (pe_ix ix_tup (pv 1) pe_int (fun _ _ => rfl))) (pe_ix ix_tup (pv 1) pe_int (fun _ _ => rfl))) (pe_op op_sub (C8.pe_gc (by rfl) T.c_MODULUS) pe_int)) pa_nil))))), ?_⟩
    walk_at "rd"
    exact Au.new fun t H1 ht e1 k1 => z t H1 ht e1 k1
abbrev spMp : Sp := fun vs H Q _ => ∃ (a : Addr) (p q x : Int), vs = [.ref a, .int x] ∧ H a = some (.tup [.int p, .int q]) ∧ InM p ∧ InM q ∧ InM x ∧ Q (.int ((p * x + q) % 281474976710656)) H
theorem cal_s2_mapped (T : Txt K mg C_DrawError C_BadNumber C_BadState C_BadSteps CO__law_maps_right CO__law_refused_right) : C8.Cal P w K mg base 1 "s2_mapped" (spMp) [] := by
  obtain ⟨f, fd, F, b⟩ := T.d_s2_mapped
  refine C8.cal0 F b .nil sc_s2_mapped (fun vs H Q E h => ?_) (fun cdv A outer s H vs Q E hr h => ?_)
  · obtain ⟨a, p, q, x, rfl, _⟩ := h; rfl
  · obtain ⟨a, p, q, x, rfl, ha, ⟨p0, p1⟩, ⟨q0, q1⟩, ⟨x0, x1⟩, z⟩ := h
    have hu := hu_of hr
    have hu64 := hr.units
    refine ⟨_, (pss_one (ps_ret (pe_op Rd.op_andM (pe_op op_add (pe_op op_mul (pe_ix ix_tup (pv 0) pe_int (fun _ _ => rfl)) (pv 1)) (pe_ix ix_tup (pv 0) pe_int (fun _ _ => rfl))) (pe_op op_sub (C8.pe_gc (by rfl) T.c_MODULUS) pe_int)))), ?_⟩
    walk_at "rd"
    exact z
end
section
variable {P : Program} {w : World} {K : PySem.W.Frag} {mg : Str → Option Value} {base : Heap} {C_DrawError C_BadNumber C_BadState C_BadSteps CO__law_maps_right CO__law_refused_right : Addr}
local macro_rules | `(tactic| walk_at "side") => `(tactic| first | ((with_reducible show L2.CMul _ _); first | exact Or.inl ⟨by omega, by omega⟩ | exact Or.inr ⟨by omega, by omega⟩) | ((with_reducible show L2.CPow _ _); exact ⟨by decide, by decide, by decide⟩) | ((with_reducible show L2.CMulW _ _); exact wide_mul (a := 96) (b := 96) (by omega) (by omega) (by decide) (by decide) (by decide)) | ((with_reducible show L2.CDivW _ _); first | exact wide_div (b := 96) (by omega) (by omega) (by decide) (by decide) | exact wide_div (b := 300) (by omega) (by omega) (by decide) (by decide)) | (show (0 : Int) < _; omega) | (show (0 : Int) ≤ _; omega))
local macro_rules | `(tactic| walk_at "rd1") => `(tactic| first | with_reducible refine Rd.seq ?_ | with_reducible refine Rd.asg ?_ | with_reducible refine Rd.nm ?_ | with_reducible refine Rd.ret ?_ | with_reducible refine Rd.drop ?_ | with_reducible refine Rd.ifs ?_ | with_reducible refine Rd.par ?_ | with_reducible refine Rd.par3 ?_ | with_reducible refine Rd.next ?_ | with_reducible refine Rd.fr1 ?_ | with_reducible refine Rd.nxp ?_ | with_reducible refine Rd.rtp ?_ | ((with_reducible show tVar _ _ _ _); refine Rd.var rfl ?_) | with_reducible refine Rd.cst ?_ | with_reducible refine Rd.op ?_ | with_reducible refine Rd.un ?_ | with_reducible refine Rd.i0 ?_ | with_reducible refine Rd.ung ?_ | with_reducible refine Rd.eqI ?_ | with_reducible refine Rd.neI ?_ | with_reducible refine Rd.eqS ?_ | with_reducible refine Rd.neS ?_ | with_reducible refine Rd.test ?_ | with_reducible refine Rd.tstB ?_ | with_reducible refine Rd.isB ?_ | with_reducible refine Rd.not ?_ | with_reducible refine Rd.andT ?_ | with_reducible refine Rd.orT ?_ | with_reducible refine Rd.andV ?_ | with_reducible refine Rd.orV ?_ | with_reducible refine Rd.notV ?_ | with_reducible refine Rd.ifE ?_ | with_reducible refine Rd.chain ?_ | with_reducible refine Rd.nil ?_ | with_reducible refine Rd.cons ?_ | with_reducible refine Rd.call ?_ | with_reducible refine Rd.cb ?_ | with_reducible refine Rd.bm ?_ | with_reducible refine Au.revL ?_ | with_reducible refine Rd.frl ?_ | with_reducible refine Rd.frt ?_ | with_reducible refine Rd.fre ?_ | with_reducible refine Rd.disp ?_ | with_reducible refine Rd.pnil ?_ | with_reducible refine Rd.pcons ?_ | with_reducible refine Rd.gcons ?_ | with_reducible refine Rd.gnil ?_ | with_reducible refine Rd.gsub ?_ | with_reducible refine Rd.setD ?_ | ((with_reducible show gTup _ _ _ _ _ (upd _ _ (HO.tup _)) _); refine Rd.tupNew rfl ?_) | with_reducible refine Rd.fld ?_ | with_reducible refine Rd.meth ?_ | with_reducible refine Rd.make ?_ | with_reducible refine Rd.prop ?_ | with_reducible refine Au.tup ?_ | with_reducible refine Au.lst ?_ | ((with_reducible refine Au.lenOk ?hl ?_); (case hl => exact rfl)) | with_reducible refine Au.nopart ?_ | with_reducible refine Au.part ?_ | with_reducible refine Au.isI ?_ | with_reducible refine Au.sl ?_ | with_reducible refine Au.pr2 ?_ | with_reducible refine Au.pr3 ?_ | with_reducible refine Au.eqB ?_ | with_reducible refine Rd.isInt ?_ | with_reducible refine Rd.isBool ?_ | with_reducible refine Rd.mx2 ?_ | with_reducible refine Rd.mn2 ?_ | ((with_reducible show Rd.rAndM _ _ _ _); first | refine Rd.and1 ?_ | refine Rd.and48 ?_ | refine Rd.and32 ?_ | refine Rd.and64 ?_ | refine Rd.and65 ?_) | ((with_reducible refine Rd.iC ?hc ?_); (case hc => walk_at "side")) | ((with_reducible refine Rd.yes ?hc ?_); (case hc => first | omega | exact rfl)) | ((with_reducible refine Rd.no ?hc ?_); (case hc => omega)) | ((with_reducible refine Rd.noN ?hc ?_); (case hc => first | omega | exact rfl)) | ((with_reducible refine Rd.yesN ?hc ?_); (case hc => omega)) | ((with_reducible refine Rd.yesNN ?hc ?_); (case hc => omega)) | ((with_reducible refine Rd.noNN ?hc ?_); (case hc => omega)) | with_reducible refine iteT ?_ | with_reducible refine iteF ?_ | with_reducible refine Rd.iteNT ?_ | with_reducible refine Rd.iteNF ?_)
local macro_rules | `(tactic| walk_at "rd") => `(tactic| repeat (walk_at "rd1"))
local macro_rules | `(tactic| walk_at "hp") => `(tactic| first | assumption | (apply Au.sm; (focus assumption); (walk_at "hp")) | (apply Au.smp; (focus assumption); (focus (walk_at "hp")); (walk_at "ne")) | (apply Au.smn; (focus assumption); (focus (walk_at "hp")); (focus (intro _ z; cases z; done))) | fail "hp")
local macro_rules | `(tactic| walk_at "ne") => `(tactic| first | assumption | (apply Ne.symm; assumption) | (apply Au.nen; (focus assumption); (walk_at "hp")) | (apply Au.nen'; (focus assumption); (walk_at "hp")) | (apply Au.nek; (focus assumption); (focus assumption); (intro z; cases z; done)) | (apply Au.nek2; (focus assumption); (focus (walk_at "hp")); (intro z; cases z; done)) | fail "ne")
local macro_rules | `(tactic| walk_at "dp") => `(tactic| first | exact Dp.int _ | exact Dp.str _ | exact Dp.bl _ | exact Dp.non | (apply Dp.lst; (focus (apply Rd.sql; walk_at "hp")); (walk_at "dps")) | (apply Dp.tup; (focus (apply Rd.sqt; walk_at "hp")); (walk_at "dps")) | fail "dp")
local macro_rules | `(tactic| walk_at "dps") => `(tactic| first | exact DpAll.nil | (apply DpAll.cons; (focus (walk_at "dp")); (walk_at "dps")) | fail "dps")
local macro_rules | `(tactic| walk_at "shp") => `(tactic| ((simp only [SeqAt.shaped, PyData.canLay0, PyData.canLayAll0, PyData.depth, PyData.depthAll]) <;> first | decide | rfl))
local macro_rules | `(tactic| walk_at "sd") => `(tactic| first | assumption | rfl | omega | (walk_at "hp") | (refine ⟨?_, ?_⟩; (focus (walk_at "sd")); (walk_at "sd")) | fail "sd")
local macro_rules | `(tactic| walk_at "lk") => `(tactic| first | exact Rd.lk1 | rfl | decide +kernel)
local macro_rules | `(tactic| walk_at "rd1") => `(tactic| first | with_reducible refine Pr.dget ?_ | with_reducible refine Pr.dput ?_ | with_reducible refine Pr.sfld ?_ | with_reducible refine Pr.u_isInt ?_ | ((with_reducible show Pr.spNeed _ _ _ _ _ _); refine Pr.u_need (by omega) (by omega) ?_) | ((with_reducible show Pr.spIs _ _ _ _ _ _); refine Pr.u_isIn (by omega) ?_) | ((with_reducible apply Rd.fld1); (focus (walk_at "hp")); (focus assumption); (focus assumption); (focus (walk_at "lk"))) | ((with_reducible apply Au.methO); (focus (walk_at "hp")); (focus (walk_at "lk"))) | ((with_reducible apply Au.propO); (focus (walk_at "hp"))) | ((with_reducible show rIxT _ (V.ref _) (V.int _) _ _); refine Rd.ixT (Rd.sqt (by walk_at "hp")) rfl ?_) | ((with_reducible show rIxL _ (V.ref _) (V.int _) _ _); refine Rd.ixL (Rd.sql (by walk_at "hp")) rfl ?_) | ((with_reducible show Rd.rLenQ _ [V.ref _] _ _); first | refine Rd.lenL (Rd.sql (by walk_at "hp")) ?_ | refine Rd.lenT (Rd.sqt (by walk_at "hp")) ?_) | ((with_reducible show gTup _ _ _ (V.ref _) _ _ _); refine Rd.gtup (Rd.sqt (by walk_at "hp")) rfl ?_) | with_reducible refine Gx.gat ?_ | with_reducible refine Gx.gnx ?_ | with_reducible refine Gx.gthen ?_ | with_reducible refine Gx.gplain ?_ | with_reducible refine Gx.gfr ?_ | with_reducible refine Gx.lg ?_ | with_reducible refine Gx.mg ?_ | with_reducible refine Gx.sme ?_ | with_reducible refine Gx.callSD ?_ | with_reducible refine Gx.methSD ?_)
local macro_rules | `(tactic| walk_at "rd1") => `(tactic| first | with_reducible refine Gx.mkR ?_ | ((with_reducible refine Gx.makeV ?hs ?_); (case hs => rfl)) | with_reducible refine Gx.smeX ?_ | with_reducible refine Gx.cmX ?_ | with_reducible refine Gx.isBl ?_ | with_reducible refine Gx.notBl ?_ | with_reducible refine Gx.xk ?_ | with_reducible refine Gx.fr3 ?_ | with_reducible refine Gx.makeD ?_ | with_reducible refine Gx.frz ?_ | with_reducible refine Gx.lcO ?_ | with_reducible refine Gx.itupO ?_ | with_reducible refine Gx.ilistO ?_ | with_reducible refine Gx.irng1O ?_ | with_reducible refine Gx.ival ?_ | ((with_reducible apply Gx.ivalO); (focus (walk_at "hp")); (focus assumption); (focus assumption); (focus (walk_at "lk"))) | ((with_reducible show Gx.rTupOf _ [V.ref _] _ _); refine Gx.tupOfL (Rd.sql (by walk_at "hp")) ?_) | ((with_reducible show Gx.rLstOf _ [V.ref _] _ _); first | refine Gx.lstOfL (Rd.sql (by walk_at "hp")) ?_ | refine Gx.lstOfT (Rd.sqt (by walk_at "hp")) ?_))
local macro_rules | `(tactic| walk_at "hp") => `(tactic| first | assumption | (apply Pr.smq; (focus assumption); (focus (walk_at "hp")); (focus (walk_at "ne")); (walk_at "ne")))
local macro_rules | `(tactic| walk_at "hp") => `(tactic| first | assumption | (apply smb; (focus assumption); (focus (walk_at "hp")); (focus assumption); assumption) | (apply smbK; (focus assumption); (focus (walk_at "hp")); (focus (walk_at "dr")); (constructor <;> (intro _ z; cases z; done))) | (apply smbN; (focus assumption); (focus (walk_at "hp")); (focus assumption); (walk_at "dr")))
local macro_rules | `(tactic| walk_at "dr") => `(tactic| first | assumption | (apply Draw.ex; (focus assumption); (walk_at "dr")) | (apply Draw.exp; (focus assumption); (focus (walk_at "dr")); (focus (walk_at "nd"))) | fail "dr")
local macro_rules | `(tactic| walk_at "nd") => `(tactic| first | assumption | (apply ndN; (focus assumption); (walk_at "dr")) | fail "nd")
local macro_rules | `(tactic| walk_at "sx1") => `(tactic| first | with_reducible refine Sx.seq ?_ | with_reducible refine Sx.asg ?_ | with_reducible refine Sx.nm ?_ | with_reducible refine Sx.next ?_ | ((with_reducible show Sx.W _ _ fun _ => tVar _ _ _ _); refine Sx.var rfl ?_) | with_reducible refine Sx.cst ?_ | with_reducible refine Sx.cons ?_ | with_reducible refine Sx.nil ?_ | with_reducible refine Sx.nxp ?_ | with_reducible refine Sx.op ?_ | with_reducible refine Sx.i0 ?_ | with_reducible refine Sx.tup ?_ | with_reducible refine Sx.lst ?_ | ((with_reducible apply Sx.lenOk); (focus (exact rfl))) | with_reducible refine Sx.newT ?_ | with_reducible refine Sx.newL ?_ | with_reducible refine Sx.call ?_ | ((with_reducible show Sx.W _ _ fun _ => Sx.Do _); walk_at "do1") | with_reducible refine Sx.meth ?_ | with_reducible refine Sx.prop ?_ | with_reducible refine Sx.fld ?_ | with_reducible refine Sx.ret ?_ | with_reducible refine Sx.rtp ?_ | with_reducible refine Sx.bkp ?_ | with_reducible refine Sx.ctp ?_ | with_reducible refine Sx.drop ?_ | with_reducible refine Sx.ifs ?_ | with_reducible refine Sx.par ?_ | with_reducible refine Sx.par3 ?_ | with_reducible refine Sx.pr2 ?_ | with_reducible refine Sx.pr3 ?_ | with_reducible refine Sx.un ?_ | with_reducible refine Sx.ung ?_ | with_reducible refine Sx.eqI ?_ | with_reducible refine Sx.neI ?_ | with_reducible refine Sx.eqS ?_ | with_reducible refine Sx.neS ?_ | with_reducible refine Sx.eqB ?_ | with_reducible refine Sx.isBl ?_ | with_reducible refine Sx.notBl ?_ | with_reducible refine Sx.test ?_ | with_reducible refine Sx.tstB ?_ | with_reducible refine Sx.isB ?_ | with_reducible refine Sx.isI ?_ | with_reducible refine Sx.refl1 ?_ | with_reducible refine Sx.not ?_ | with_reducible refine Sx.andT ?_ | with_reducible refine Sx.orT ?_ | with_reducible refine Sx.andV ?_ | with_reducible refine Sx.orV ?_ | with_reducible refine Sx.notV ?_ | with_reducible refine Sx.ifE ?_ | with_reducible refine Sx.chain ?_ | with_reducible refine Sx.cb ?_ | with_reducible refine Sx.bm ?_ | with_reducible refine Sx.retN ?_ | with_reducible refine Sx.brk ?_ | with_reducible refine Sx.cnt ?_ | with_reducible refine Sx.sme ?_ | with_reducible refine Sx.smeX ?_ | with_reducible refine Sx.cmX ?_ | with_reducible refine Sx.callSD ?_ | with_reducible refine Sx.methSD ?_ | ((with_reducible apply Sx.methO); (focus (walk_at "mem")); (focus (walk_at "lk"))) | ((with_reducible apply Sx.propO); (focus (walk_at "mem"))) | ((with_reducible apply Sx.fld1); (focus (walk_at "mem")); (focus (assumption)); (focus (assumption)); (focus (walk_at "lk"))) | ((with_reducible apply Sx.ivalO); (focus (walk_at "mem")); (focus (assumption)); (focus (assumption)); (focus (walk_at "lk"))) | with_reducible refine Sx.make ?_ | with_reducible refine Sx.mk1 ?_ | with_reducible refine Sx.ival ?_ | with_reducible refine Sx.sfld ?_ | ((with_reducible apply Sx.makeV); (focus (exact rfl))) | ((with_reducible apply Sx.stF); (focus (walk_at "mem")); (focus (assumption)); (focus (assumption)); (focus (exact rfl)); (focus (walk_at "putf")); (focus (walk_at "upd"))) | ((with_reducible apply Sx.ixT); (focus (walk_at "mem")); (focus (rfl))) | ((with_reducible apply Sx.ixL); (focus (walk_at "mem")); (focus (rfl))) | ((with_reducible apply Sx.lenL); (focus (walk_at "mem"))) | ((with_reducible apply Sx.lenT); (focus (walk_at "mem"))) | ((with_reducible apply Sx.tyL); (focus (walk_at "mem"))) | ((with_reducible apply Sx.app); (focus (walk_at "mem")); (focus (exact rfl)); (focus (walk_at "upd"))) | ((with_reducible apply Sx.cat); (focus (walk_at "mem")); (focus (walk_at "mem")); (focus (exact Nat.le_of_ble_eq_true rfl))) | ((with_reducible apply Sx.tupOfL); (focus (walk_at "mem"))) | ((with_reducible apply Sx.lstOfL); (focus (walk_at "mem"))) | ((with_reducible apply Sx.lstOfT); (focus (walk_at "mem"))) | with_reducible refine Sx.nopart ?_ | with_reducible refine Sx.part ?_ | with_reducible refine Sx.sl ?_ | with_reducible refine Sx.revL ?_ | ((with_reducible apply Sx.slL); (focus (walk_at "mem"))) | ((with_reducible apply Sx.gtup); (focus (walk_at "mem")); (focus (exact rfl))) | with_reducible refine Sx.gcons ?_ | with_reducible refine Sx.gnil ?_ | with_reducible refine Sx.gsub ?_ | ((with_reducible show Sx.W _ _ fun _ => Rd.rAndM _ _ _ _); first | refine Sx.and1 ?_ | refine Sx.and48 ?_ | refine Sx.and32 ?_ | refine Sx.and64 ?_ | refine Sx.and65 ?_) | with_reducible refine Sx.isInt ?_ | with_reducible refine Sx.isBool ?_ | with_reducible refine Sx.mx2 ?_ | with_reducible refine Sx.mn2 ?_ | with_reducible refine Sx.fr1 ?_ | with_reducible refine Sx.frl ?_ | with_reducible refine Sx.frt ?_ | with_reducible refine Sx.fre ?_ | with_reducible refine Sx.frz ?_ | with_reducible refine Sx.lcO ?_ | with_reducible refine Sx.itupO ?_ | with_reducible refine Sx.ilistO ?_ | with_reducible refine Sx.irng1O ?_ | with_reducible refine Sx.irng2O ?_ | with_reducible refine Sx.irng3O ?_ | with_reducible refine Sx.lg ?_ | with_reducible refine Sx.mg ?_ | with_reducible refine Sx.whN ?_ | ((with_reducible apply Sx.isOwn); (focus (assumption)); (focus (walk_at "mem"))) | ((with_reducible apply Sx.isTT); (focus (walk_at "mem"))) | ((with_reducible refine Sx.iC ?hc ?_); (case hc => walk_at "side")) | ((with_reducible refine Sx.yes ?hc ?_); (case hc => first | omega | exact rfl)) | ((with_reducible refine Sx.no ?hc ?_); (case hc => first | omega | (intro z; cases z; done))) | ((with_reducible refine Sx.noN ?hc ?_); (case hc => first | omega | exact rfl)) | ((with_reducible refine Sx.yesN ?hc ?_); (case hc => omega)) | ((with_reducible refine Sx.yesNN ?hc ?_); (case hc => first | omega | exact rfl)) | ((with_reducible refine Sx.noNN ?hc ?_); (case hc => omega)) | with_reducible refine Sx.tT ?_ | with_reducible refine Sx.tF ?_ | with_reducible refine Sx.tNT ?_ | with_reducible refine Sx.tNF ?_ | ((with_reducible apply Sx.rpr); (focus (walk_at "dpw")); (focus (walk_at "okd"))))
local macro_rules | `(tactic| walk_at "sx") => `(tactic| repeat (walk_at "sx1"))
local macro_rules | `(tactic| walk_at "mem") => `(tactic| first | assumption | with_reducible exact List.mem_cons_self | ((with_reducible apply List.mem_cons_of_mem); walk_at "mem") | ((with_reducible apply List.mem_append_right); walk_at "mem") | fail "mem")
local macro_rules | `(tactic| walk_at "upd") => `(tactic| first | with_reducible exact Sx.Upd.hd rfl | ((with_reducible apply Sx.Upd.tl); walk_at "upd") | ((with_reducible apply Sx.Upd.ap); walk_at "upd") | fail "upd")
local macro_rules | `(tactic| walk_at "sel") => `(tactic| first | with_reducible exact Sx.Sel.hd rfl | ((with_reducible apply Sx.Sel.tl); walk_at "sel") | ((with_reducible apply Sx.Sel.ap); walk_at "sel") | fail "sel")
local macro_rules | `(tactic| walk_at "rm") => `(tactic| first | with_reducible exact Sx.Rm.hd | ((with_reducible apply Sx.Rm.tl); walk_at "rm") | ((with_reducible apply Sx.Rm.ap); walk_at "rm") | fail "rm")
local macro_rules | `(tactic| walk_at "findr") => `(tactic| first | with_reducible exact Sx.FindR.nil | ((with_reducible apply Sx.FindR.cons); (focus (walk_at "mem")); walk_at "findr") | fail "findr")
local macro_rules | `(tactic| walk_at "find") => `(tactic| first | ((with_reducible apply Sx.Find.mu); (focus (walk_at "sel")); walk_at "find") | ((with_reducible apply Sx.Find.ros); walk_at "findr") | fail "find")
local macro_rules | `(tactic| walk_at "rep") => `(tactic| first | with_reducible exact Sx.Rep.nil | ((with_reducible apply Sx.Rep.ro); walk_at "rep") | ((with_reducible apply Sx.Rep.nt); walk_at "rep") | ((with_reducible apply Sx.Rep.nm); walk_at "rep") | ((with_reducible apply Sx.Rep.mu); (focus (walk_at "upd")); walk_at "rep") | fail "rep")
local macro_rules | `(tactic| walk_at "le") => `(tactic| first | with_reducible exact Sx.Cl.le.rfl | (refine Sx.DrC.le ?_; omega) | fail "le")
local macro_rules | `(tactic| walk_at "sub") => `(tactic| first | with_reducible exact Sx.Sub.rfl | with_reducible exact Sx.Sub.nil | ((with_reducible apply Sx.Sub.cons); (focus (walk_at "rm")); (focus (walk_at "le")); walk_at "sub") | ((with_reducible apply Sx.Sub.ap); walk_at "sub") | ((show Sx.Sub (_ :: _) _); (with_reducible apply Sx.Sub.cons); (focus (walk_at "rm")); (focus (walk_at "le")); walk_at "sub") | ((with_reducible apply Sx.Sub.dr); walk_at "sub") | exact Sx.Sub.rfl | fail "sub")
local macro_rules | `(tactic| walk_at "dpw") => `(tactic| first | with_reducible exact Sx.dpI | with_reducible exact Sx.dpS | with_reducible exact Sx.dpB | with_reducible exact Sx.dpN | ((with_reducible apply Sx.dpT); (focus (walk_at "mem")); walk_at "dpa") | ((with_reducible apply Sx.dpL); (focus (walk_at "mem")); walk_at "dpa") | fail "dpw")
local macro_rules | `(tactic| walk_at "dpa") => `(tactic| first | with_reducible exact Sx.dpNil | ((with_reducible apply Sx.dpCons); (focus (walk_at "dpw")); walk_at "dpa") | with_reducible exact Sx.dpInts | fail "dpa")
local macro_rules | `(tactic| walk_at "sml") => `(tactic| first | exact trivial | (refine Sx.lt600 ?_; omega) | (refine And.intro ?_ ?_; (focus (walk_at "sml")); walk_at "sml") | decide +kernel)
local macro_rules | `(tactic| walk_at "okd") => `(tactic| first | assumption | ((refine Gx.okd ?s ?d ?n); (case s => (simp only [Gx.Sml, Gx.SmlAll]; walk_at "sml")); (case d => (simp only [PyData.depth, PyData.depthAll]; decide)); (case n => (simp only [Gx.nodes, Gx.nodesAll]; decide))) | ((refine Gx.okdS ?s ?d ?n); (case s => (simp only [Gx.SmS, Gx.SmSAll]; walk_at "sml")); (case d => (simp only [PyData.depth, PyData.depthAll]; decide)); (case n => (simp only [Gx.nodes, Gx.nodesAll]; decide))) | fail "okd")
local macro_rules | `(tactic| walk_at "putf") => `(tactic| first | rfl)
local macro_rules | `(tactic| walk_at "do1") => `(tactic| first | ((with_reducible apply Sx.do_need); (focus (omega)); (focus (omega))) | with_reducible refine Sx.do_isInt ?_ | ((with_reducible apply Sx.do_isIn); (focus (walk_at "sdw"))) | ((with_reducible apply Sx.do_needX); (focus (omega)); (focus (omega))) | ((with_reducible apply Sx.do_eq); (focus (rfl))) | ((with_reducible apply Sx.do_pre0); (focus (walk_at "find"))) | ((with_reducible apply Sx.do_post0); (focus (walk_at "rep")); (focus (exact fun c h => h))) | ((with_reducible apply Sx.do_preT); (focus (walk_at "find"))) | ((with_reducible apply Sx.do_postT); (focus (walk_at "rep")); (focus (exact fun c h => h))) | with_reducible refine Sx.do_newT ?_ | with_reducible refine Sx.do_newL ?_ | with_reducible refine Sx.do_newI ?_ | ((with_reducible apply Sx.do_set); (focus (walk_at "upd")); (focus (exact trivial))) | with_reducible refine Sx.do_exH ?_ | with_reducible refine Sx.do_assoc ?_ | ((with_reducible apply Sx.do_at); (focus (walk_at "mem"))) | ((with_reducible apply Sx.do_sqt); (focus (walk_at "mem"))) | ((with_reducible apply Sx.do_sql); (focus (walk_at "mem"))) | ((with_reducible apply Sx.do_nm); (focus (walk_at "sdw"))) | with_reducible refine Sx.do_vint ?_ | with_reducible refine Sx.do_rfl ?_ | with_reducible exact Sx.do_no | with_reducible refine Sx.do_xs ?_ | ((with_reducible apply Sx.do_and); (focus (walk_at "sdw"))) | ((with_reducible refine Sx.do_two ?a ?b); (case b => (walk_at "do"; done))) | ((with_reducible refine Sx.do_imp ?_); intro _) | ((with_reducible refine Sx.do_all ?_); intro _) | with_reducible apply Sx.do_ex | ((fail_if_success (with_reducible refine Sx.do_two ?_ ?_)); (with_reducible refine Sx.do_q ?_); walk_at "sx1"))
local macro_rules | `(tactic| walk_at "do") => `(tactic| repeat ((with_reducible show Sx.W _ _ fun _ => Sx.Do _); walk_at "do1"))
local macro_rules | `(tactic| walk_at "sdw") => `(tactic| first | assumption | omega | with_reducible rfl | exact Nat.le_of_ble_eq_true rfl | (refine ⟨?_, ?_⟩; (focus (walk_at "sdw")); walk_at "sdw") | fail "sdw")
abbrev spStep : Sp := fun vs H Q _ => ∃ n : Int, vs = [.int n] ∧ ∀ t H', H t = none → Rd.Ex H H' → H' t = some (.tup [.int (ML.m1 (n % 281474976710656).toNat), .int (ML.m2 (n % 281474976710656).toNat)]) → Q (.ref t) H'
theorem m1r (n : Nat) : InM (ML.m1 n) := by have := ML.m1_rng n; exact ⟨this.1, by omega⟩
theorem m2r (n : Nat) : InM (ML.m2 n) := by have := ML.m2_rng n; exact ⟨this.1, by omega⟩
theorem cal_s2_step_map (T : Txt K mg C_DrawError C_BadNumber C_BadState C_BadSteps CO__law_maps_right CO__law_refused_right) : C8.Cal P w K mg base 2 "s2_step_map" (spStep) [] := by
  obtain ⟨f, fd, F, b⟩ := T.d_s2_step_map
  refine C8.cal0 F b .nil sc_s2_step_map (fun vs H Q E h => ?_) (fun cdv A outer s H vs Q E hr h => ?_)
  · obtain ⟨n, rfl, _⟩ := h; rfl
  · obtain ⟨n, rfl, q⟩ := h
    have hu := hu_of hr
    have hu64 := hr.units
    refine ⟨_, (pss_cons (ps_par (i := 1) (j := 2) rfl sc_s2_step_map.nd rfl rfl (by decide) rfl rfl (pa_cons (pe_tup (pa_cons pe_int (pa_cons pe_int pa_nil))) (pa_cons (pe_tup (pa_cons (C8.pe_gc (by rfl) T.c_MULTIPLIER) (pa_cons (C8.pe_gc (by rfl) T.c_ADDEND) pa_nil))) pa_nil)) (by rfl))
      (pss_cons (ps_set (i := 0) sc_s2_step_map.nd rfl (.inl rfl) (pe_op Rd.op_andM (pv 0) (pe_op op_sub (C8.pe_gc (by rfl) T.c_MODULUS) pe_int)))
      (pss_cons (ps_while PassesOwn.never (pt_cmpR op_gt (pv 0) pe_int (nomark _)) (pss_cons (ps_if (pt_cmpR op_eq (pe_op Rd.op_andM (pv 0) pe_int) pe_int (nomark _)) (pss_one (ps_set (i := 1) sc_s2_step_map.nd rfl (.inl rfl) (C8.pe_c (cal_s2_joined T) hr (by omega) (by rfl) (pa_cons (pv 1) (pa_cons (pv 2) pa_nil))))) pss_nil)
      (pss_cons (ps_set (i := 2) sc_s2_step_map.nd rfl (.inl rfl) (C8.pe_c (cal_s2_joined T) hr (by omega) (by rfl) (pa_cons (pv 2) (pa_cons (pv 2) pa_nil))))
      (pss_one (ps_set (i := 0) sc_s2_step_map.nd rfl (.inl rfl) (pe_op op_fdivW (pv 0) pe_int))))))
      (pss_one (ps_ret (pv 1)))))), ?_⟩
    refine Sx.enter (Sx.Hs.nil0 H) ?_
    walk_at "sx"
    intro p1
    walk_at "sx"
    intro p2
    walk_at "sx"
    refine Sx.whl (fun m σ L => ∃ (r : Int) (a c : Nat) (fa pa : Addr), m = r.toNat ∧ σ = [some (.int r), some (.ref fa), some (.ref pa)] ∧ L = [(fa, Sx.Is (.tup [.int (ML.m1 a), .int (ML.m2 a)]), .nt), (pa, Sx.Is (.tup [.int (ML.m1 c), .int (ML.m2 c)]), .nt)] ∧ 0 ≤ r ∧ a + c * r.toNat = (n % 281474976710656).toNat)
      (n % 281474976710656).toNat ⟨_, ⟨n % 281474976710656, 0, 1, p1, p2, rfl, rfl, rfl, by omega, by omega⟩, by rw [ML.m_zero.1, ML.m_zero.2, ML.m_one.1, ML.m_one.2]; walk_at "sub"⟩ ?_
    rintro m σ L ⟨r, a, c, fa, pa, rfl, rfl, rfl, h0, e⟩
    have i1 := m1r a
    have i2 := m2r a
    have i3 := m1r c
    have i4 := m2r c
    walk_at "sx"
    refine Sx.both (fun c1 => ?_) (fun c1 => ?_)
    · walk_at "sx"
      refine Sx.both (fun c2 => ?_) (fun c2 => ?_)
      · walk_at "sx"
        intro t1
        walk_at "sx"
        intro t2
        walk_at "sx"
        rw [ML.join1, ML.join2, ML.join1, ML.join2]
        refine Sx.fin_in ⟨(r / 2).toNat, by omega, r / 2, a + c, c + c, _, _, rfl, rfl, rfl, by omega, ?_⟩ (by walk_at "sub")
        rw [← e]
        have : r.toNat = 2 * (r / 2).toNat + 1 := by omega
        rw [this]; grind
      · walk_at "sx"
        intro t2
        walk_at "sx"
        rw [ML.join1, ML.join2]
        refine Sx.fin_in ⟨(r / 2).toNat, by omega, r / 2, a, c + c, _, _, rfl, rfl, rfl, by omega, ?_⟩ (by walk_at "sub")
        rw [← e]
        have : r.toNat = 2 * (r / 2).toNat := by omega
        rw [this]; grind
    · walk_at "sx"
      have z : r.toNat = 0 := by omega
      rw [z, Nat.mul_zero, Nat.add_zero] at e
      rw [← e] at q
      exact Sx.fin_newT (t := fa) q (by walk_at "mem")
end
end Pf

set_option Elab.async false
set_option linter.all false
set_option maxRecDepth 100000
set_option maxHeartbeats 4000000
set_option exponentiation.threshold 3000
namespace Pf
open PySem PySem.Spec PyProof.Rows L2
theorem Mp.inv {H : Hp} {v : V} {p q : Int} (h : Mp H v (some (p, q))) : ∃ a, v = .ref a ∧ H a = some (.tup [.int p, .int q]) ∧ InM p ∧ InM q := by
  cases h with
  | ok h hp hq => exact ⟨_, rfl, h, hp, hq⟩
/-! ### the inverse of an odd number -/
def Nw (p : Int) (i : Nat) (f : Int) : Prop := (2 ^ (3 * 2 ^ i) : Int) ∣ p * f - 1
theorem nw0 {p : Int} (h : p % 2 = 1) : Nw p 0 p := by
  show (8 : Int) ∣ p * p - 1
  have h8 : p % 8 = 1 ∨ p % 8 = 3 ∨ p % 8 = 5 ∨ p % 8 = 7 := by omega
  obtain ⟨a, ha⟩ : ∃ a, p = 8 * a + p % 8 := ⟨p / 8, by omega⟩
  rcases h8 with e | e | e | e <;> rw [e] at ha <;> subst ha
  · exact ⟨8 * a * a + 2 * a, by grind⟩
  · exact ⟨8 * a * a + 6 * a + 1, by grind⟩
  · exact ⟨8 * a * a + 10 * a + 3, by grind⟩
  · exact ⟨8 * a * a + 14 * a + 6, by grind⟩
theorem nwS {p f : Int} {i : Nat} (hi : i < 4) (h : Nw p i f) : Nw p (i + 1) (f * (2 - p * f) % 281474976710656) := by
  obtain ⟨z, hz⟩ := h
  obtain ⟨w, hw⟩ : ∃ w, f * (2 - p * f) % 281474976710656 = f * (2 - p * f) - 281474976710656 * w := ⟨f * (2 - p * f) / 281474976710656, by omega⟩
  have e48 : (281474976710656 : Int) = 2 ^ (3 * 2 ^ i) * 2 ^ (3 * 2 ^ i) * 2 ^ (48 - 2 * (3 * 2 ^ i)) := by
    have : i = 0 ∨ i = 1 ∨ i = 2 ∨ i = 3 := by omega
    rcases this with rfl | rfl | rfl | rfl <;> decide
  have e2 : (2 ^ (3 * 2 ^ (i + 1)) : Int) = 2 ^ (3 * 2 ^ i) * 2 ^ (3 * 2 ^ i) := by
    rw [← Int.pow_add, show 3 * 2 ^ (i + 1) = 3 * 2 ^ i + 3 * 2 ^ i by rw [Nat.pow_succ]; omega]
  refine ⟨- (z * z) - p * 2 ^ (48 - 2 * (3 * 2 ^ i)) * w, ?_⟩
  rw [hw, e2]
  generalize (2 : Int) ^ (3 * 2 ^ i) = K at *
  generalize (2 : Int) ^ (48 - 2 * (3 * 2 ^ i)) = R at *
  rw [e48]
  have hpf : p * f = 1 + K * z := by omega
  have : p * (f * (2 - p * f) - K * K * R * w) - 1 = (p * f) * (2 - p * f) - p * (K * K * R * w) - 1 := by grind
  rw [this, hpf]
  grind
theorem nw4 {p f : Int} (h : Nw p 4 f) : p * f % 281474976710656 = 1 := by
  obtain ⟨z, hz⟩ := h
  have e : (2 ^ (3 * 2 ^ 4) : Int) = 281474976710656 := by decide
  rw [e] at hz
  have : p * f = 1 + 281474976710656 * z := by omega
  rw [this]
  omega
section
variable {P : Program} {w : World} {K : PySem.W.Frag} {mg : Str → Option Value} {base : Heap} {C_DrawError C_BadNumber C_BadState C_BadSteps CO__law_maps_right CO__law_refused_right : Addr}
local macro_rules | `(tactic| walk_at "side") => `(tactic| first | ((with_reducible show L2.CMul _ _); first | exact Or.inl ⟨by omega, by omega⟩ | exact Or.inr ⟨by omega, by omega⟩) | ((with_reducible show L2.CPow _ _); exact ⟨by decide, by decide, by decide⟩) | ((with_reducible show L2.CMulW _ _); exact wide_mul (a := 96) (b := 96) (by omega) (by omega) (by decide) (by decide) (by decide)) | ((with_reducible show L2.CDivW _ _); first | exact wide_div (b := 96) (by omega) (by omega) (by decide) (by decide) | exact wide_div (b := 300) (by omega) (by omega) (by decide) (by decide)) | (show (0 : Int) < _; omega) | (show (0 : Int) ≤ _; omega))
local macro_rules | `(tactic| walk_at "rd1") => `(tactic| first | with_reducible refine Rd.seq ?_ | with_reducible refine Rd.asg ?_ | with_reducible refine Rd.nm ?_ | with_reducible refine Rd.ret ?_ | with_reducible refine Rd.drop ?_ | with_reducible refine Rd.ifs ?_ | with_reducible refine Rd.par ?_ | with_reducible refine Rd.par3 ?_ | with_reducible refine Rd.next ?_ | with_reducible refine Rd.fr1 ?_ | with_reducible refine Rd.nxp ?_ | with_reducible refine Rd.rtp ?_ | ((with_reducible show tVar _ _ _ _); refine Rd.var rfl ?_) | with_reducible refine Rd.cst ?_ | with_reducible refine Rd.op ?_ | with_reducible refine Rd.un ?_ | with_reducible refine Rd.i0 ?_ | with_reducible refine Rd.ung ?_ | with_reducible refine Rd.eqI ?_ | with_reducible refine Rd.neI ?_ | with_reducible refine Rd.eqS ?_ | with_reducible refine Rd.neS ?_ | with_reducible refine Rd.test ?_ | with_reducible refine Rd.tstB ?_ | with_reducible refine Rd.isB ?_ | with_reducible refine Rd.not ?_ | with_reducible refine Rd.andT ?_ | with_reducible refine Rd.orT ?_ | with_reducible refine Rd.andV ?_ | with_reducible refine Rd.orV ?_ | with_reducible refine Rd.notV ?_ | with_reducible refine Rd.ifE ?_ | with_reducible refine Rd.chain ?_ | with_reducible refine Rd.nil ?_ | with_reducible refine Rd.cons ?_ | with_reducible refine Rd.call ?_ | with_reducible refine Rd.cb ?_ | with_reducible refine Rd.bm ?_ | with_reducible refine Au.revL ?_ | with_reducible refine Rd.frl ?_ | with_reducible refine Rd.frt ?_ | with_reducible refine Rd.fre ?_ | with_reducible refine Rd.disp ?_ | with_reducible refine Rd.pnil ?_ | with_reducible refine Rd.pcons ?_ | with_reducible refine Rd.gcons ?_ | with_reducible refine Rd.gnil ?_ | with_reducible refine Rd.gsub ?_ | with_reducible refine Rd.setD ?_ | ((with_reducible show gTup _ _ _ _ _ (upd _ _ (HO.tup _)) _); refine Rd.tupNew rfl ?_) | with_reducible refine Rd.fld ?_ | with_reducible refine Rd.meth ?_ | with_reducible refine Rd.make ?_ | with_reducible refine Rd.prop ?_ | with_reducible refine Au.tup ?_ | with_reducible refine Au.lst ?_ | ((with_reducible refine Au.lenOk ?hl ?_); (case hl => exact rfl)) | with_reducible refine Au.nopart ?_ | with_reducible refine Au.part ?_ | with_reducible refine Au.isI ?_ | with_reducible refine Au.sl ?_ | with_reducible refine Au.pr2 ?_ | with_reducible refine Au.pr3 ?_ | with_reducible refine Au.eqB ?_ | with_reducible refine Rd.isInt ?_ | with_reducible refine Rd.isBool ?_ | with_reducible refine Rd.mx2 ?_ | with_reducible refine Rd.mn2 ?_ | ((with_reducible show Rd.rAndM _ _ _ _); first | refine Rd.and1 ?_ | refine Rd.and48 ?_ | refine Rd.and32 ?_ | refine Rd.and64 ?_ | refine Rd.and65 ?_) | ((with_reducible refine Rd.iC ?hc ?_); (case hc => walk_at "side")) | ((with_reducible refine Rd.yes ?hc ?_); (case hc => first | omega | exact rfl)) | ((with_reducible refine Rd.no ?hc ?_); (case hc => omega)) | ((with_reducible refine Rd.noN ?hc ?_); (case hc => first | omega | exact rfl)) | ((with_reducible refine Rd.yesN ?hc ?_); (case hc => omega)) | ((with_reducible refine Rd.yesNN ?hc ?_); (case hc => omega)) | ((with_reducible refine Rd.noNN ?hc ?_); (case hc => omega)) | with_reducible refine iteT ?_ | with_reducible refine iteF ?_ | with_reducible refine Rd.iteNT ?_ | with_reducible refine Rd.iteNF ?_)
local macro_rules | `(tactic| walk_at "rd") => `(tactic| repeat (walk_at "rd1"))
local macro_rules | `(tactic| walk_at "hp") => `(tactic| first | assumption | (apply Au.sm; (focus assumption); (walk_at "hp")) | (apply Au.smp; (focus assumption); (focus (walk_at "hp")); (walk_at "ne")) | (apply Au.smn; (focus assumption); (focus (walk_at "hp")); (focus (intro _ z; cases z; done))) | fail "hp")
local macro_rules | `(tactic| walk_at "ne") => `(tactic| first | assumption | (apply Ne.symm; assumption) | (apply Au.nen; (focus assumption); (walk_at "hp")) | (apply Au.nen'; (focus assumption); (walk_at "hp")) | (apply Au.nek; (focus assumption); (focus assumption); (intro z; cases z; done)) | (apply Au.nek2; (focus assumption); (focus (walk_at "hp")); (intro z; cases z; done)) | fail "ne")
local macro_rules | `(tactic| walk_at "dp") => `(tactic| first | exact Dp.int _ | exact Dp.str _ | exact Dp.bl _ | exact Dp.non | (apply Dp.lst; (focus (apply Rd.sql; walk_at "hp")); (walk_at "dps")) | (apply Dp.tup; (focus (apply Rd.sqt; walk_at "hp")); (walk_at "dps")) | fail "dp")
local macro_rules | `(tactic| walk_at "dps") => `(tactic| first | exact DpAll.nil | (apply DpAll.cons; (focus (walk_at "dp")); (walk_at "dps")) | fail "dps")
local macro_rules | `(tactic| walk_at "shp") => `(tactic| ((simp only [SeqAt.shaped, PyData.canLay0, PyData.canLayAll0, PyData.depth, PyData.depthAll]) <;> first | decide | rfl))
local macro_rules | `(tactic| walk_at "sd") => `(tactic| first | assumption | rfl | omega | (walk_at "hp") | (refine ⟨?_, ?_⟩; (focus (walk_at "sd")); (walk_at "sd")) | fail "sd")
local macro_rules | `(tactic| walk_at "lk") => `(tactic| first | exact Rd.lk1 | rfl | decide +kernel)
local macro_rules | `(tactic| walk_at "rd1") => `(tactic| first | with_reducible refine Pr.dget ?_ | with_reducible refine Pr.dput ?_ | with_reducible refine Pr.sfld ?_ | with_reducible refine Pr.u_isInt ?_ | ((with_reducible show Pr.spNeed _ _ _ _ _ _); refine Pr.u_need (by omega) (by omega) ?_) | ((with_reducible show Pr.spIs _ _ _ _ _ _); refine Pr.u_isIn (by omega) ?_) | ((with_reducible apply Rd.fld1); (focus (walk_at "hp")); (focus assumption); (focus assumption); (focus (walk_at "lk"))) | ((with_reducible apply Au.methO); (focus (walk_at "hp")); (focus (walk_at "lk"))) | ((with_reducible apply Au.propO); (focus (walk_at "hp"))) | ((with_reducible show rIxT _ (V.ref _) (V.int _) _ _); refine Rd.ixT (Rd.sqt (by walk_at "hp")) rfl ?_) | ((with_reducible show rIxL _ (V.ref _) (V.int _) _ _); refine Rd.ixL (Rd.sql (by walk_at "hp")) rfl ?_) | ((with_reducible show Rd.rLenQ _ [V.ref _] _ _); first | refine Rd.lenL (Rd.sql (by walk_at "hp")) ?_ | refine Rd.lenT (Rd.sqt (by walk_at "hp")) ?_) | ((with_reducible show gTup _ _ _ (V.ref _) _ _ _); refine Rd.gtup (Rd.sqt (by walk_at "hp")) rfl ?_) | with_reducible refine Gx.gat ?_ | with_reducible refine Gx.gnx ?_ | with_reducible refine Gx.gthen ?_ | with_reducible refine Gx.gplain ?_ | with_reducible refine Gx.gfr ?_ | with_reducible refine Gx.lg ?_ | with_reducible refine Gx.mg ?_ | with_reducible refine Gx.sme ?_ | with_reducible refine Gx.callSD ?_ | with_reducible refine Gx.methSD ?_)
local macro_rules | `(tactic| walk_at "rd1") => `(tactic| first | with_reducible refine Gx.mkR ?_ | ((with_reducible refine Gx.makeV ?hs ?_); (case hs => rfl)) | with_reducible refine Gx.smeX ?_ | with_reducible refine Gx.cmX ?_ | with_reducible refine Gx.isBl ?_ | with_reducible refine Gx.notBl ?_ | with_reducible refine Gx.xk ?_ | with_reducible refine Gx.fr3 ?_ | with_reducible refine Gx.makeD ?_ | with_reducible refine Gx.frz ?_ | with_reducible refine Gx.lcO ?_ | with_reducible refine Gx.itupO ?_ | with_reducible refine Gx.ilistO ?_ | with_reducible refine Gx.irng1O ?_ | with_reducible refine Gx.ival ?_ | ((with_reducible apply Gx.ivalO); (focus (walk_at "hp")); (focus assumption); (focus assumption); (focus (walk_at "lk"))) | ((with_reducible show Gx.rTupOf _ [V.ref _] _ _); refine Gx.tupOfL (Rd.sql (by walk_at "hp")) ?_) | ((with_reducible show Gx.rLstOf _ [V.ref _] _ _); first | refine Gx.lstOfL (Rd.sql (by walk_at "hp")) ?_ | refine Gx.lstOfT (Rd.sqt (by walk_at "hp")) ?_))
local macro_rules | `(tactic| walk_at "hp") => `(tactic| first | assumption | (apply Pr.smq; (focus assumption); (focus (walk_at "hp")); (focus (walk_at "ne")); (walk_at "ne")))
local macro_rules | `(tactic| walk_at "hp") => `(tactic| first | assumption | (apply smb; (focus assumption); (focus (walk_at "hp")); (focus assumption); assumption) | (apply smbK; (focus assumption); (focus (walk_at "hp")); (focus (walk_at "dr")); (constructor <;> (intro _ z; cases z; done))) | (apply smbN; (focus assumption); (focus (walk_at "hp")); (focus assumption); (walk_at "dr")))
local macro_rules | `(tactic| walk_at "dr") => `(tactic| first | assumption | (apply Draw.ex; (focus assumption); (walk_at "dr")) | (apply Draw.exp; (focus assumption); (focus (walk_at "dr")); (focus (walk_at "nd"))) | fail "dr")
local macro_rules | `(tactic| walk_at "nd") => `(tactic| first | assumption | (apply ndN; (focus assumption); (walk_at "dr")) | fail "nd")
def spStepX (CE : Addr) : Sp := fun vs H Q E => ∃ v r, vs = [v] ∧ Pr.Nm 0 18446744073709551616 H v r ∧ (∀ n, v = .int n → r = some n → ∀ t H', H t = none → Rd.Ex H H' → H' t = some (.tup [.int (ML.m1 (n % 281474976710656).toNat), .int (ML.m2 (n % 281474976710656).toNat)]) → Q (.ref t) H') ∧ (r = none → Pr.Xs CE "given" v H E)
theorem calx_step_map (T : Txt K mg C_DrawError C_BadNumber C_BadState C_BadSteps CO__law_maps_right CO__law_refused_right) : Gx.CalX P w K mg base 4 "step_map" (spStepX C_BadSteps) := by
  obtain ⟨f, fd, F, b⟩ := T.d_step_map
  refine Gx.calX F b sc_step_map (fun vs H Q E h => ?_) (fun cdv A outer s H vs Q E hr h => ?_)
  · obtain ⟨v, r, rfl, _⟩ := h; rfl
  · obtain ⟨v, r, rfl, h, q1, q2⟩ := h
    have hu := hu_of hr
    have hu64 := hr.units
    refine ⟨_, (pss_cons (ps_expr (Gx.pe_cx (calx_need_steps T) Gx.takes_cx (fun _ _ _ _ h => h) hr (by omega) (by rfl) (pa_cons (pv 0) pa_nil)))
      (pss_one (ps_ret (C8.pe_c (cal_s2_step_map T) hr (by omega) (by rfl) (pa_cons (pv 0) pa_nil))))), ?_⟩
    walk_at "rd"
    refine ⟨v, r, rfl, h, fun n hv hr' _ _ => ?_, q2⟩
    subst hv
    walk_at "rd"
    exact ⟨n, rfl, q1 n rfl hr'⟩
def spJoinX (CE : Addr) : Sp := fun vs H Q E => ∃ v r v' r', vs = [v, v'] ∧ Mp H v r ∧ Mp H v' r' ∧
  (∀ p q p' q', r = some (p, q) → r' = some (p', q') → ∀ t H', H t = none → Rd.Ex H H' → H' t = some (.tup [.int (p * p' % 281474976710656), .int ((q * p' + q') % 281474976710656)]) → Q (.ref t) H') ∧ (r = none → Pr.Xs CE "given" v H E) ∧ (r ≠ none → r' = none → Pr.Xs CE "given" v' H E)
theorem some_of {α : Type} {r : Option α} (h : r ≠ none) : ∃ z, r = some z := by
  cases r with
  | none => exact absurd rfl h
  | some z => exact ⟨z, rfl⟩
theorem calx_joined (T : Txt K mg C_DrawError C_BadNumber C_BadState C_BadSteps CO__law_maps_right CO__law_refused_right) : Gx.CalX P w K mg base 5 "joined" (spJoinX C_BadNumber) := by
  obtain ⟨f, fd, F, b⟩ := T.d_joined
  refine Gx.calX F b sc_joined (fun vs H Q E h => ?_) (fun cdv A outer s H vs Q E hr h => ?_)
  · obtain ⟨v, r, v', r', rfl, _⟩ := h; rfl
  · obtain ⟨v, r, v', r', rfl, h, h', q1, q2, q3⟩ := h
    have hu := hu_of hr
    have hu64 := hr.units
    refine ⟨_, (pss_cons (ps_expr (Gx.pe_cx (calx_s2_need_map T) Gx.takes_cx (fun _ _ _ _ h => h) hr (by omega) (by rfl) (pa_cons (pv 0) pa_nil)))
      (pss_cons (ps_expr (Gx.pe_cx (calx_s2_need_map T) Gx.takes_cx (fun _ _ _ _ h => h) hr (by omega) (by rfl) (pa_cons (pv 1) pa_nil)))
      (pss_one (ps_ret (C8.pe_c (cal_s2_joined T) hr (by omega) (by rfl) (pa_cons (pv 0) (pa_cons (pv 1) pa_nil))))))), ?_⟩
    walk_at "rd"
    refine ⟨v, r, rfl, h, fun hr1 => ?_, q2⟩
    walk_at "rd"
    refine ⟨v', r', rfl, h', fun hr2 => ?_, q3 hr1⟩
    walk_at "rd"
    obtain ⟨⟨p, q⟩, rfl⟩ := some_of hr1
    obtain ⟨⟨p', q'⟩, rfl⟩ := some_of hr2
    obtain ⟨a, rfl, ha, hp, hq⟩ := h.inv
    obtain ⟨c, rfl, hc, hp', hq'⟩ := h'.inv
    exact ⟨a, c, p, q, p', q', rfl, ha, hc, hp, hq, hp', hq', q1 p q p' q' rfl rfl⟩
def spMapX (CN CS : Addr) : Sp := fun vs H Q E => ∃ v r x rx, vs = [v, x] ∧ Mp H v r ∧ Pr.Nm 0 281474976710655 H x rx ∧
  (∀ p q n, r = some (p, q) → x = .int n → rx = some n → Q (.int ((p * n + q) % 281474976710656)) H) ∧ (r = none → Pr.Xs CN "given" v H E) ∧ (r ≠ none → rx = none → Pr.Xs CS "given" x H E)
theorem calx_mapped (T : Txt K mg C_DrawError C_BadNumber C_BadState C_BadSteps CO__law_maps_right CO__law_refused_right) : Gx.CalX P w K mg base 5 "mapped" (spMapX C_BadNumber C_BadState) := by
  obtain ⟨f, fd, F, b⟩ := T.d_mapped
  refine Gx.calX F b sc_mapped (fun vs H Q E h => ?_) (fun cdv A outer s H vs Q E hr h => ?_)
  · obtain ⟨v, r, x, rx, rfl, _⟩ := h; rfl
  · obtain ⟨v, r, x, rx, rfl, h, hx, q1, q2, q3⟩ := h
    have hu := hu_of hr
    have hu64 := hr.units
    refine ⟨_, (pss_cons (ps_expr (Gx.pe_cx (calx_s2_need_map T) Gx.takes_cx (fun _ _ _ _ h => h) hr (by omega) (by rfl) (pa_cons (pv 0) pa_nil)))
      (pss_cons (ps_expr (Gx.pe_cx (calx_s2_need_start T) Gx.takes_cx (fun _ _ _ _ h => h) hr (by omega) (by rfl) (pa_cons (pv 1) pa_nil)))
      (pss_one (ps_ret (C8.pe_c (cal_s2_mapped T) hr (by omega) (by rfl) (pa_cons (pv 0) (pa_cons (pv 1) pa_nil))))))), ?_⟩
    walk_at "rd"
    refine ⟨v, r, rfl, h, fun hr1 => ?_, q2⟩
    walk_at "rd"
    refine ⟨x, rx, rfl, hx, fun n hn hr2 n0 n1 => ?_, q3 hr1⟩
    walk_at "rd"
    obtain ⟨⟨p, q⟩, rfl⟩ := some_of hr1
    obtain ⟨a, rfl, ha, hp, hq⟩ := h.inv
    subst hn
    exact ⟨a, p, q, n, rfl, ha, hp, hq, ⟨n0, n1⟩, q1 p q n rfl rfl hr2⟩
def spInvX (CN : Addr) : Sp := fun vs H Q E => ∃ v r, vs = [v] ∧ Mp H v r ∧
  (∀ p q, r = some (p, q) → p % 2 = 1 → ∀ (f : Int) t H', InM f → p * f % 281474976710656 = 1 → H t = none → Rd.Ex H H' → H' t = some (.tup [.int f, .int ((0 - q * f) % 281474976710656)]) → Q (.ref t) H') ∧ (∀ p q, r = some (p, q) → p % 2 = 0 → Pr.Xs CN "given" v H E) ∧ (r = none → Pr.Xs CN "given" v H E)
theorem calx_inverted (T : Txt K mg C_DrawError C_BadNumber C_BadState C_BadSteps CO__law_maps_right CO__law_refused_right) : Gx.CalX P w K mg base 5 "inverted" (spInvX C_BadNumber) := by
  obtain ⟨f, fd, F, b⟩ := T.d_inverted
  refine Gx.calX F b sc_inverted (fun vs H Q E h => ?_) (fun cdv A outer s H vs Q E hr h => ?_)
  · obtain ⟨v, r, rfl, _⟩ := h; rfl
  · obtain ⟨v, r, rfl, h, q1, q2, q3⟩ := h
    have hu := hu_of hr
    have hu64 := hr.units
    refine ⟨_, (pss_cons (ps_expr (Gx.pe_cx (calx_s2_need_map T) Gx.takes_cx (fun _ _ _ _ h => h) hr (by omega) (by rfl) (pa_cons (pv 0) pa_nil)))
      (pss_cons (ps_if (pt_cmpR op_eq (pe_op Rd.op_andM (pe_ix ix_tup (pv 0) pe_int (fun _ _ => rfl)) pe_int) pe_int (nomark _)) (pss_one (ps_raise rfl Gx.takes_cx (Gx.pmk_exY (exc_BadNumber T) hr (by omega) (by rfl) (pa_cons (pv 0) pa_nil)))) pss_nil)
      (pss_cons (ps_set (i := 1) sc_inverted.nd rfl (.inl rfl) (pe_ix ix_tup (pv 0) pe_int (fun _ _ => rfl)))
      (pss_cons (ps_for (passes_of rfl) rfl (pi_range1 rfl T.b_range (pa_cons pe_int pa_nil)) (pg_name (i := 2) sc_inverted.nd rfl (.inl rfl)) (pss_one (ps_set (i := 1) sc_inverted.nd rfl (.inl rfl) (pe_op Rd.op_andM (pe_op op_mul (pv 1) (pe_op op_sub pe_int (pe_op op_mul (pe_ix ix_tup (pv 0) pe_int (fun _ _ => rfl)) (pv 1)))) (pe_op op_sub (C8.pe_gc (by rfl) T.c_MODULUS) pe_int)))))
      (pss_one (ps_ret (pe_tup (pa_cons (pv 1) (pa_cons (pe_op Rd.op_andM (pe_op op_sub pe_int (pe_op op_mul (pe_ix ix_tup (pv 0) pe_int (fun _ _ => rfl)) (pv 1))) (pe_op op_sub (C8.pe_gc (by rfl) T.c_MODULUS) pe_int)) pa_nil))))))))), ?_⟩
    walk_at "rd"
    refine ⟨v, r, rfl, h, fun hr1 => ?_, q3⟩
    walk_at "rd"
    obtain ⟨⟨p, q⟩, rfl⟩ := some_of hr1
    obtain ⟨a, rfl, ha, ⟨p0, p1⟩, ⟨r0, r1⟩⟩ := h.inv
    walk_at "rd"
    refine Rd.both (fun c => ?_) (fun c => ?_)
    · walk_at "rd"
      exact Pr.Xs.mk (q2 p q rfl c)
    · walk_at "rd"
      refine Rd.frN (n := 4) rfl (by decide) (fun i σ' H' => ∃ f y2, σ' = [some (.ref a), some (.int f), y2] ∧ H' = H ∧ InM f ∧ Nw p i f) ⟨p, _, rfl, rfl, ⟨p0, p1⟩, nw0 (by omega)⟩ ?_ ?_
      · rintro i σ' H' hi ⟨f, y2, rfl, rfl, ⟨f0, f1⟩, hf⟩
        walk_at "rd"
        exact ⟨_, _, rfl, rfl, ⟨by omega, by omega⟩, nwS hi hf⟩
      · rintro σ' H' ⟨f, y2, rfl, rfl, ⟨f0, f1⟩, hf⟩
        walk_at "rd"
        exact Au.new fun t H1 ht e1 k1 => q1 p q rfl (by omega) f t H1 ⟨f0, f1⟩ (nw4 hf) ht e1 k1
end
end Pf

set_option Elab.async false
set_option linter.all false
set_option maxRecDepth 100000
set_option maxHeartbeats 4000000
set_option exponentiation.threshold 3000
namespace Pf
open PySem PySem.Spec PyProof.Rows L2
section
variable {P : Program} {w : World} {K : PySem.W.Frag} {mg : Str → Option Value} {base : Heap} {C_DrawError C_BadNumber C_BadState C_BadSteps CO__law_maps_right CO__law_refused_right : Addr}
local macro_rules | `(tactic| walk_at "side") => `(tactic| first | ((with_reducible show L2.CMul _ _); first | exact Or.inl ⟨by omega, by omega⟩ | exact Or.inr ⟨by omega, by omega⟩) | ((with_reducible show L2.CPow _ _); exact ⟨by decide, by decide, by decide⟩) | ((with_reducible show L2.CMulW _ _); exact wide_mul (a := 96) (b := 96) (by omega) (by omega) (by decide) (by decide) (by decide)) | ((with_reducible show L2.CDivW _ _); first | exact wide_div (b := 96) (by omega) (by omega) (by decide) (by decide) | exact wide_div (b := 300) (by omega) (by omega) (by decide) (by decide)) | (show (0 : Int) < _; omega) | (show (0 : Int) ≤ _; omega))
local macro_rules | `(tactic| walk_at "rd1") => `(tactic| first | with_reducible refine Rd.seq ?_ | with_reducible refine Rd.asg ?_ | with_reducible refine Rd.nm ?_ | with_reducible refine Rd.ret ?_ | with_reducible refine Rd.drop ?_ | with_reducible refine Rd.ifs ?_ | with_reducible refine Rd.par ?_ | with_reducible refine Rd.par3 ?_ | with_reducible refine Rd.next ?_ | with_reducible refine Rd.fr1 ?_ | with_reducible refine Rd.nxp ?_ | with_reducible refine Rd.rtp ?_ | ((with_reducible show tVar _ _ _ _); refine Rd.var rfl ?_) | with_reducible refine Rd.cst ?_ | with_reducible refine Rd.op ?_ | with_reducible refine Rd.un ?_ | with_reducible refine Rd.i0 ?_ | with_reducible refine Rd.ung ?_ | with_reducible refine Rd.eqI ?_ | with_reducible refine Rd.neI ?_ | with_reducible refine Rd.eqS ?_ | with_reducible refine Rd.neS ?_ | with_reducible refine Rd.test ?_ | with_reducible refine Rd.tstB ?_ | with_reducible refine Rd.isB ?_ | with_reducible refine Rd.not ?_ | with_reducible refine Rd.andT ?_ | with_reducible refine Rd.orT ?_ | with_reducible refine Rd.andV ?_ | with_reducible refine Rd.orV ?_ | with_reducible refine Rd.notV ?_ | with_reducible refine Rd.ifE ?_ | with_reducible refine Rd.chain ?_ | with_reducible refine Rd.nil ?_ | with_reducible refine Rd.cons ?_ | with_reducible refine Rd.call ?_ | with_reducible refine Rd.cb ?_ | with_reducible refine Rd.bm ?_ | with_reducible refine Au.revL ?_ | with_reducible refine Rd.frl ?_ | with_reducible refine Rd.frt ?_ | with_reducible refine Rd.fre ?_ | with_reducible refine Rd.disp ?_ | with_reducible refine Rd.pnil ?_ | with_reducible refine Rd.pcons ?_ | with_reducible refine Rd.gcons ?_ | with_reducible refine Rd.gnil ?_ | with_reducible refine Rd.gsub ?_ | with_reducible refine Rd.setD ?_ | ((with_reducible show gTup _ _ _ _ _ (upd _ _ (HO.tup _)) _); refine Rd.tupNew rfl ?_) | with_reducible refine Rd.fld ?_ | with_reducible refine Rd.meth ?_ | with_reducible refine Rd.make ?_ | with_reducible refine Rd.prop ?_ | with_reducible refine Au.tup ?_ | with_reducible refine Au.lst ?_ | ((with_reducible refine Au.lenOk ?hl ?_); (case hl => exact rfl)) | with_reducible refine Au.nopart ?_ | with_reducible refine Au.part ?_ | with_reducible refine Au.isI ?_ | with_reducible refine Au.sl ?_ | with_reducible refine Au.pr2 ?_ | with_reducible refine Au.pr3 ?_ | with_reducible refine Au.eqB ?_ | with_reducible refine Rd.isInt ?_ | with_reducible refine Rd.isBool ?_ | with_reducible refine Rd.mx2 ?_ | with_reducible refine Rd.mn2 ?_ | ((with_reducible show Rd.rAndM _ _ _ _); first | refine Rd.and1 ?_ | refine Rd.and48 ?_ | refine Rd.and32 ?_ | refine Rd.and64 ?_ | refine Rd.and65 ?_) | ((with_reducible refine Rd.iC ?hc ?_); (case hc => walk_at "side")) | ((with_reducible refine Rd.yes ?hc ?_); (case hc => first | omega | exact rfl)) | ((with_reducible refine Rd.no ?hc ?_); (case hc => omega)) | ((with_reducible refine Rd.noN ?hc ?_); (case hc => first | omega | exact rfl)) | ((with_reducible refine Rd.yesN ?hc ?_); (case hc => omega)) | ((with_reducible refine Rd.yesNN ?hc ?_); (case hc => omega)) | ((with_reducible refine Rd.noNN ?hc ?_); (case hc => omega)) | with_reducible refine iteT ?_ | with_reducible refine iteF ?_ | with_reducible refine Rd.iteNT ?_ | with_reducible refine Rd.iteNF ?_)
local macro_rules | `(tactic| walk_at "rd") => `(tactic| repeat (walk_at "rd1"))
local macro_rules | `(tactic| walk_at "hp") => `(tactic| first | assumption | (apply Au.sm; (focus assumption); (walk_at "hp")) | (apply Au.smp; (focus assumption); (focus (walk_at "hp")); (walk_at "ne")) | (apply Au.smn; (focus assumption); (focus (walk_at "hp")); (focus (intro _ z; cases z; done))) | fail "hp")
local macro_rules | `(tactic| walk_at "ne") => `(tactic| first | assumption | (apply Ne.symm; assumption) | (apply Au.nen; (focus assumption); (walk_at "hp")) | (apply Au.nen'; (focus assumption); (walk_at "hp")) | (apply Au.nek; (focus assumption); (focus assumption); (intro z; cases z; done)) | (apply Au.nek2; (focus assumption); (focus (walk_at "hp")); (intro z; cases z; done)) | fail "ne")
local macro_rules | `(tactic| walk_at "dp") => `(tactic| first | exact Dp.int _ | exact Dp.str _ | exact Dp.bl _ | exact Dp.non | (apply Dp.lst; (focus (apply Rd.sql; walk_at "hp")); (walk_at "dps")) | (apply Dp.tup; (focus (apply Rd.sqt; walk_at "hp")); (walk_at "dps")) | fail "dp")
local macro_rules | `(tactic| walk_at "dps") => `(tactic| first | exact DpAll.nil | (apply DpAll.cons; (focus (walk_at "dp")); (walk_at "dps")) | fail "dps")
local macro_rules | `(tactic| walk_at "shp") => `(tactic| ((simp only [SeqAt.shaped, PyData.canLay0, PyData.canLayAll0, PyData.depth, PyData.depthAll]) <;> first | decide | rfl))
local macro_rules | `(tactic| walk_at "sd") => `(tactic| first | assumption | rfl | omega | (walk_at "hp") | (refine ⟨?_, ?_⟩; (focus (walk_at "sd")); (walk_at "sd")) | fail "sd")
local macro_rules | `(tactic| walk_at "lk") => `(tactic| first | exact Rd.lk1 | rfl | decide +kernel)
local macro_rules | `(tactic| walk_at "rd1") => `(tactic| first | with_reducible refine Pr.dget ?_ | with_reducible refine Pr.dput ?_ | with_reducible refine Pr.sfld ?_ | with_reducible refine Pr.u_isInt ?_ | ((with_reducible show Pr.spNeed _ _ _ _ _ _); refine Pr.u_need (by omega) (by omega) ?_) | ((with_reducible show Pr.spIs _ _ _ _ _ _); refine Pr.u_isIn (by omega) ?_) | ((with_reducible apply Rd.fld1); (focus (walk_at "hp")); (focus assumption); (focus assumption); (focus (walk_at "lk"))) | ((with_reducible apply Au.methO); (focus (walk_at "hp")); (focus (walk_at "lk"))) | ((with_reducible apply Au.propO); (focus (walk_at "hp"))) | ((with_reducible show rIxT _ (V.ref _) (V.int _) _ _); refine Rd.ixT (Rd.sqt (by walk_at "hp")) rfl ?_) | ((with_reducible show rIxL _ (V.ref _) (V.int _) _ _); refine Rd.ixL (Rd.sql (by walk_at "hp")) rfl ?_) | ((with_reducible show Rd.rLenQ _ [V.ref _] _ _); first | refine Rd.lenL (Rd.sql (by walk_at "hp")) ?_ | refine Rd.lenT (Rd.sqt (by walk_at "hp")) ?_) | ((with_reducible show gTup _ _ _ (V.ref _) _ _ _); refine Rd.gtup (Rd.sqt (by walk_at "hp")) rfl ?_) | with_reducible refine Gx.gat ?_ | with_reducible refine Gx.gnx ?_ | with_reducible refine Gx.gthen ?_ | with_reducible refine Gx.gplain ?_ | with_reducible refine Gx.gfr ?_ | with_reducible refine Gx.lg ?_ | with_reducible refine Gx.mg ?_ | with_reducible refine Gx.sme ?_ | with_reducible refine Gx.callSD ?_ | with_reducible refine Gx.methSD ?_)
local macro_rules | `(tactic| walk_at "rd1") => `(tactic| first | with_reducible refine Gx.mkR ?_ | ((with_reducible refine Gx.makeV ?hs ?_); (case hs => rfl)) | with_reducible refine Gx.smeX ?_ | with_reducible refine Gx.cmX ?_ | with_reducible refine Gx.isBl ?_ | with_reducible refine Gx.notBl ?_ | with_reducible refine Gx.xk ?_ | with_reducible refine Gx.fr3 ?_ | with_reducible refine Gx.makeD ?_ | with_reducible refine Gx.frz ?_ | with_reducible refine Gx.lcO ?_ | with_reducible refine Gx.itupO ?_ | with_reducible refine Gx.ilistO ?_ | with_reducible refine Gx.irng1O ?_ | with_reducible refine Gx.ival ?_ | ((with_reducible apply Gx.ivalO); (focus (walk_at "hp")); (focus assumption); (focus assumption); (focus (walk_at "lk"))) | ((with_reducible show Gx.rTupOf _ [V.ref _] _ _); refine Gx.tupOfL (Rd.sql (by walk_at "hp")) ?_) | ((with_reducible show Gx.rLstOf _ [V.ref _] _ _); first | refine Gx.lstOfL (Rd.sql (by walk_at "hp")) ?_ | refine Gx.lstOfT (Rd.sqt (by walk_at "hp")) ?_))
local macro_rules | `(tactic| walk_at "hp") => `(tactic| first | assumption | (apply Pr.smq; (focus assumption); (focus (walk_at "hp")); (focus (walk_at "ne")); (walk_at "ne")))
/-! ### the law's draws -/
abbrev kRun : Key := Sum.inr "run"
abbrev kGreat : Key := Sum.inr "great"
abbrev kTurn : Key := Sum.inr "turn"
theorem n_rg : ¬ kRun = kGreat := by decide +kernel
theorem n_rt : ¬ kRun = kTurn := by decide +kernel
theorem n_gt : ¬ kGreat = kTurn := by decide +kernel
theorem n_gr : ¬ kGreat = kRun := by decide +kernel
theorem n_tr : ¬ kTurn = kRun := by decide +kernel
theorem n_tg : ¬ kTurn = kGreat := by decide +kernel
structure DrawAt (H : Hp) (d g : Addr) (run turn : Int) (ns : List Int) : Prop where
  dic : H d = some (.dK [(kRun, .int run), (kGreat, .ref g), (kTurn, .int turn)])
  lst : H g = some (.lst (ns.map V.int))
  r0 : 0 ≤ run
  r1 : run < 2305843009213693951
def Draw (H : Hp) (d g : Addr) : Prop := ∃ run turn ns, DrawAt H d g run turn ns
/-- all but the draw's own objects stand -/
def ExB (d g : Addr) (H H' : Hp) : Prop := ∀ c o, H c = some o → c ≠ d → c ≠ g → H' c = some o
theorem ExB.refl {d g : Addr} (H : Hp) : ExB d g H H := fun _ _ e _ _ => e
theorem ExB.trans {d g : Addr} {H H1 H2 : Hp} (a : ExB d g H H1) (b : ExB d g H1 H2) : ExB d g H H2 := fun c o e h1 h2 => b c o (a c o e h1 h2) h1 h2
theorem ExB.of {d g : Addr} {H H' : Hp} (e : Rd.Ex H H') : ExB d g H H' := fun c o h _ _ => e c o h
theorem ExB.d {d g : Addr} {H H' : Hp} {o : HO} (e : ExB d g H H') : ExB d g H (upd H' d o) := fun c z h h1 h2 => by
  rw [upd_ne h1]
  exact e c z h h1 h2
theorem ExB.g {d g : Addr} {H H' : Hp} {o : HO} (e : ExB d g H H') : ExB d g H (upd H' g o) := fun c z h h1 h2 => by
  rw [upd_ne h2]
  exact e c z h h1 h2
theorem DrawAt.ex {H H' : Hp} {d g : Addr} {run turn : Int} {ns : List Int} (e : Rd.Ex H H') (h : DrawAt H d g run turn ns) : DrawAt H' d g run turn ns := ⟨e _ _ h.dic, e _ _ h.lst, h.r0, h.r1⟩
theorem Draw.ex {H H' : Hp} {d g : Addr} (e : Rd.Ex H H') (h : Draw H d g) : Draw H' d g := by
  obtain ⟨r, t, ns, h⟩ := h
  exact ⟨r, t, ns, h.ex e⟩
theorem DrawAt.ne {H : Hp} {d g : Addr} {run turn : Int} {ns : List Int} (h : DrawAt H d g run turn ns) : d ≠ g := ne_of h.dic h.lst (fun z => by cases z)
abbrev spNext : Sp := fun vs H Q _ => ∃ (d g : Addr) (b : Int), vs = [.ref d, .int b] ∧ 0 < b ∧ b < 2 ^ 90 ∧ Draw H d g ∧ ∀ (H' : Hp) (v : Int), 0 ≤ v → v < b → Draw H' d g → ExB d g H H' → Q (.int v) H'
theorem cal__law_next (T : Txt K mg C_DrawError C_BadNumber C_BadState C_BadSteps CO__law_maps_right CO__law_refused_right) : C8.Cal P w K mg base 1 "_law_next" (spNext) [] := by
  obtain ⟨f, fd, F, b⟩ := T.d__law_next
  refine C8.cal0 F b .nil sc__law_next (fun vs H Q E h => ?_) (fun cdv A outer s H vs Q E hr h => ?_)
  · obtain ⟨d, g, m, rfl, _⟩ := h; rfl
  · obtain ⟨d, g, m, rfl, m0, m1, ⟨run, turn, ns, D⟩, q⟩ := h
    have hu := hu_of hr
    have hu64 := hr.units
    refine ⟨_, (pss_cons (ps_asg (pe_tup (pa_cons (pe_op op_add (pe_dget hu (pv 0) pe_str (fun _ _ => rfl)) pe_int) (pa_cons (pe_dget hu (pv 0) pe_str (fun _ _ => rfl)) pa_nil))) (pg_tup rfl (pgs_cons (pg_sub (pv 0) pe_str (set_dict hu)) (pgs_cons (pg_name (i := 2) sc__law_next.nd rfl (.inl rfl)) pgs_nil))))
      (pss_cons (ps_set (i := 3) sc__law_next.nd rfl (.inl rfl) (pe_op op_mod (pe_dget hu (pv 0) pe_str (fun _ _ => rfl)) (pe_callB (Rd.call_mx2 rfl) (by rfl) T.b_max (by decide +kernel) (pa_cons pe_int (pa_cons (pe_callB Rd.call_lenQ (by rfl) T.b_len PySem.boot_len (pa_cons (pv 2) pa_nil)) pa_nil)))))
      (C8.pss_cut (ps_if (PW.pt (pw_and (pt_cmpR (op_neD hu64) (pv 2) (pe_lst pa_nil) (nomark _)) (pw_and1 (pt_cmpR op_gt (pe_ix ix_list (pv 2) (pv 3) (fun _ _ => rfl)) pe_int (nomark _))))) (pss_cons (ps_set (i := 4) sc__law_next.nd rfl (.inl rfl) (pe_op op_mod (pe_ix ix_list (pv 2) (pv 3) (fun _ _ => rfl)) (pv 1)))
      (pss_cons (ps_asg (pe_op op_fdivW (pe_ix ix_list (pv 2) (pv 3) (fun _ _ => rfl)) (pv 1)) (pg_sub (pv 2) (pv 3) set_list))
      (pss_one (ps_ret (pv 4))))) pss_nil)
      (pss_cons (ps_set (i := 5) sc__law_next.nd rfl (.inl rfl) (pe_op op_add (pe_op op_add (pe_op op_mul (pe_dget hu (pv 0) pe_str (fun _ _ => rfl)) pe_int) (pe_op op_mul pe_int (pe_dget hu (pv 0) pe_str (fun _ _ => rfl)))) pe_int))
      (pss_cons (ps_dput hu (pv 0) pe_str (pe_op op_mod (pv 5) pe_int) rfl)
      (pss_one (ps_ret (pe_op op_mod (pe_op op_fdivW (pe_dget hu (pv 0) pe_str (fun _ _ => rfl)) pe_int) (pv 1))))))))), ?_⟩
    walk_at "rd"
    have ndg := D.ne
    refine Pr.u_get D.dic (Gx.val3 n_rt n_gt) ?_
    walk_at "rd"
    refine Pr.u_get D.dic (Gx.val2 n_rg) ?_
    walk_at "rd"
    refine Au.new fun t Ht ht et kt => ?_
    have D1 := D.ex et
    have x1 : ExB d g H Ht := .of et
    walk_at "rd"
    refine Pr.u_put D1.dic (by show 3 < 1000; decide) (Gx.put3 n_rt n_gt) ?_
    walk_at "rd"
    generalize hH2 : upd Ht d (.dK [(kRun, .int run), (kGreat, .ref g), (kTurn, .int (turn + 1))]) = H2
    have D2 : DrawAt H2 d g run (turn + 1) ns := by
      subst hH2
      exact ⟨upd_same, by rw [upd_ne (Ne.symm ndg)]; exact D1.lst, D.r0, D.r1⟩
    have x2 : ExB d g H H2 := by subst hH2; exact x1.d
    refine Pr.u_get D2.dic (Gx.val3 n_rt n_gt) ?_
    walk_at "rd"
    refine Rd.lenL (Rd.sql D2.lst) ?_
    walk_at "rd"
    generalize hat : (turn + 1) % (if ((ns.map V.int).length : Int) > 1 then ((ns.map V.int).length : Int) else 1) = at'
    have at0 : ns ≠ [] → 0 ≤ at' ∧ at' < (ns.length : Int) := fun hne => by
      have hl : 0 < ns.length := List.length_pos_iff.mpr hne
      rw [List.length_map] at hat
      rw [← hat]
      by_cases h1 : (ns.length : Int) > 1
      · rw [if_pos h1]
        exact ⟨Int.emod_nonneg _ (by omega), Int.emod_lt_of_pos _ (by omega)⟩
      · rw [if_neg h1]
        omega
    refine Rd.cut (fun σ' H' => ∃ y4 y5, σ' = [some (.ref d), some (.int m), some (.ref g), some (.int at'), y4, y5] ∧ DrawAt H' d g run (turn + 1) ns ∧ ExB d g H H') ?_ ?_
    · walk_at "rd"
      refine Au.new fun p H3 hp e3 k3 => ?_
      have D3 := D2.ex e3
      have x3 : ExB d g H H3 := x2.trans (.of e3)
      refine Gx.neL (ms := []) (Rd.sql D3.lst) (Rd.sql k3) ?_
      walk_at "rd"
      refine Rd.bothN (fun c => ?_) (fun c => ?_)
      · obtain ⟨h0, h1⟩ := at0 c
        obtain ⟨k, rfl⟩ := Int.eq_ofNat_of_zero_le h0
        have hk : k < ns.length := by omega
        have gk : atI (ns.map V.int) (k : Int) = some (.int ns[k]) := atI_nat (by rw [List.getElem?_map, List.getElem?_eq_getElem hk]; rfl)
        walk_at "rd"
        refine Rd.ixL (Rd.sql D3.lst) gk ?_
        walk_at "rd"
        refine Rd.both (fun c2 => ?_) (fun c2 => ?_)
        · walk_at "rd"
          refine Rd.ixL (Rd.sql D3.lst) gk ?_
          walk_at "rd"
          refine Rd.ixL (Rd.sql D3.lst) gk ?_
          walk_at "rd"
          have ij : ixN (ns.map V.int).length (k : Int) = some k := by
            unfold ixN
            rw [if_pos h0, if_pos (by rw [List.length_map]; omega), Int.toNat_natCast]
          refine Rd.setL D3.lst ij ?_
          walk_at "rd"
          refine q _ _ (Int.emod_nonneg _ (by omega)) (Int.emod_lt_of_pos _ m0) ⟨run, turn + 1, ns.set k (ns[k] / m), ?_, ?_, D.r0, D.r1⟩ x3.g
          · rw [upd_ne ndg]; exact D3.dic
          · rw [upd_same, List.map_set]
        · walk_at "rd"
          exact ⟨_, _, rfl, D3, x3⟩
      · walk_at "rd"
        exact ⟨_, _, rfl, D3, x3⟩
    · rintro σ' H' ⟨y4, y5, rfl, D4, x4⟩
      have r0 := D.r0
      have r1 := D.r1
      walk_at "rd"
      refine Pr.u_get D4.dic Gx.val1 ?_
      walk_at "rd"
      refine Pr.u_get D4.dic (Gx.val3 n_rt n_gt) ?_
      walk_at "rd"
      generalize hn : (run * 6364136223846793 + 1442695040888963 * (turn + 1) + 11) % 2305843009213693951 = r'
      refine Pr.u_put D4.dic (by show 3 < 1000; decide) (Gx.put1 n_gr n_tr) ?_
      walk_at "rd"
      refine Pr.u_get upd_same Gx.val1 ?_
      walk_at "rd"
      refine q _ _ (Int.emod_nonneg _ (by omega)) (Int.emod_lt_of_pos _ m0) ⟨r', turn + 1, ns, upd_same, ?_, by omega, by omega⟩ x4.d
      rw [upd_ne (Ne.symm ndg)]; exact D4.lst
theorem u_next {H : Hp} {Q : VK} {E : XK} {d g : Addr} {b : Int} (h0 : 0 < b) (h1 : b < 2 ^ 90) (D : Draw H d g) (q : ∀ (H' : Hp) (v : Int), 0 ≤ v → v < b → Draw H' d g → ExB d g H H' → Q (.int v) H') : spNext ([.ref d, .int b] ++ []) H Q E := ⟨d, g, b, rfl, h0, h1, D, q⟩
/-- numbers below a bound that a helper draws -/
abbrev spPick (hi : Int) : Sp := fun vs H Q _ => ∃ (d g : Addr), vs = [.ref d] ∧ Draw H d g ∧ ∀ (H' : Hp) (v : Int), 0 ≤ v → v ≤ hi → Draw H' d g → ExB d g H H' → Q (.int v) H'
theorem Draw.nd {H : Hp} {d g p : Addr} (D : Draw H d g) (h : H p = none) : p ≠ d ∧ p ≠ g := by
  obtain ⟨r, t, ns, D⟩ := D
  exact ⟨Ne.symm (ne_of_none D.dic h), Ne.symm (ne_of_none D.lst h)⟩
theorem pick_of (l : List Int) (hi : Int) (hl : l.length = 8) (hb : ∀ x ∈ l, 0 ≤ x ∧ x ≤ hi) {v : Int} (v0 : 0 ≤ v) (v1 : v < 12) :
    ∃ j x : Int, atI ([0, 1, 2, 3, 4, 5, 6, 7, 7, 7, 7, 7].map V.int) v = some (.int j) ∧ atI (l.map V.int) j = some (.int x) ∧ 0 ≤ x ∧ x ≤ hi := by
  obtain ⟨j, hj, ej⟩ := Gx.pick (l := [0, 1, 2, 3, 4, 5, 6, 7, 7, 7, 7, 7]) (P := fun j => 0 ≤ j ∧ j < 8) (by decide) v0 v1
  obtain ⟨x, hx, ex⟩ := Gx.pick (l := l) (P := fun x => 0 ≤ x ∧ x ≤ hi) hb hj.1 (by omega)
  exact ⟨j, x, ej, ex, hx.1, hx.2⟩
theorem smb {d g b : Addr} {H H' : Hp} {z : HO} (e : ExB d g H H') (h : H b = some z) (n1 : b ≠ d) (n2 : b ≠ g) : H' b = some z := e _ _ h n1 n2
theorem smbK {d g b : Addr} {H H' : Hp} {z : HO} (e : ExB d g H H') (h : H b = some z) (D : Draw H d g) (n : (∀ kvs, z ≠ .dK kvs) ∧ ∀ xs, z ≠ .lst xs) : H' b = some z := e _ _ h (fun q => by
    obtain ⟨r, t, ns, D⟩ := D
    rw [q, D.dic] at h
    exact n.1 _ (Option.some.inj h).symm) (fun q => by
    obtain ⟨r, t, ns, D⟩ := D
    rw [q, D.lst] at h
    exact n.2 _ (Option.some.inj h).symm)
theorem smbN {d g b : Addr} {H H' H0 : Hp} {z : HO} (e : ExB d g H H') (h : H b = some z) (n : H0 b = none) (D : Draw H0 d g) : H' b = some z := e _ _ h (D.nd n).1 (D.nd n).2
theorem ndN {d g p : Addr} {H : Hp} (h : H p = none) (D : Draw H d g) : p ≠ d ∧ p ≠ g := D.nd h
theorem Draw.exp {d g p : Addr} {H H' : Hp} (e : Au.ExP p H H') (D : Draw H d g) (n : p ≠ d ∧ p ≠ g) : Draw H' d g := by
  obtain ⟨r, t, ns, D⟩ := D
  exact ⟨r, t, ns, e _ _ D.dic (Ne.symm n.1), e _ _ D.lst (Ne.symm n.2), D.r0, D.r1⟩
theorem Draw.exq {d g p o : Addr} {H H' : Hp} {C1 C2 d1 d2 : Addr} {f1 f2 : List (Str × V)} (e : Pr.ExQ p o H H') (D : Draw H d g) (hp : H p = some (.ins C1 d1 f1)) (ho : H o = some (.ins C2 d2 f2)) : Draw H' d g := by
  obtain ⟨r, t, ns, D⟩ := D
  exact ⟨r, t, ns, e _ _ D.dic (fun z => by rw [← z, D.dic] at hp; cases hp) (fun z => by rw [← z, D.dic] at ho; cases ho), e _ _ D.lst (fun z => by rw [← z, D.lst] at hp; cases hp) (fun z => by rw [← z, D.lst] at ho; cases ho), D.r0, D.r1⟩
theorem int_at {ns : List Int} {i : Nat} {y : V} (h : (ns.map V.int)[i]? = some y) : ∃ z, ns[i]? = some z ∧ y = .int z := by
  rw [List.getElem?_map] at h
  cases e : ns[i]? with
  | none => rw [e] at h; cases h
  | some z => rw [e] at h; exact ⟨z, rfl, (Option.some.inj h).symm⟩
abbrev spBegun (K : PySem.W.Frag) : Sp := fun vs H Q _ => ∃ (a : Addr) (ns : List Int), vs = [.ref a] ∧ SqL K H a (ns.map V.int) ∧ ns.length ≤ 63 ∧ ∀ H' d g, H d = none → H g = none → Rd.Ex H H' → Draw H' d g → Q (.ref d) H'
theorem cal__law_begun (T : Txt K mg C_DrawError C_BadNumber C_BadState C_BadSteps CO__law_maps_right CO__law_refused_right) : C8.Cal P w K mg base 1 "_law_begun" (spBegun K) [] := by
  obtain ⟨f, fd, F, b⟩ := T.d__law_begun
  refine C8.cal0 F b .nil sc__law_begun (fun vs H Q E h => ?_) (fun cdv A outer s H vs Q E hr h => ?_)
  · obtain ⟨a, ns, rfl, _⟩ := h; rfl
  · obtain ⟨a, ns, rfl, hS, hl, q⟩ := h
    have hu := hu_of hr
    have hu64 := hr.units
    refine ⟨_, (pss_cons (ps_set (i := 1) sc__law_begun.nd rfl (.inl rfl) (pe_op op_add pe_int (pe_op op_mul pe_int (pe_callB Rd.call_lenQ (by rfl) T.b_len PySem.boot_len (pa_cons (pv 0) pa_nil)))))
      (pss_cons (ps_for PassesOwn.never rfl (pi_enum (by rfl) T.b_enumerate (pa_cons (pv 0) pa_nil)) (pg_tup rfl (pgs_cons (pg_name (i := 2) sc__law_begun.nd rfl (.inl rfl)) (pgs_cons (pg_name (i := 3) sc__law_begun.nd rfl (.inl rfl)) pgs_nil))) (pss_one (ps_set (i := 1) sc__law_begun.nd rfl (.inl rfl) (pe_op op_mod (pe_op op_add (pe_op op_add (pe_op op_mul (pv 1) pe_int) (pv 3)) (pe_op op_mul pe_int (pv 2))) pe_int))))
      (pss_one (ps_ret (pe_disp (pps_cons pe_str (pv 1) (pps_cons pe_str (pe_lc (own := [("_law_cell", 3)]) rfl sc__law_begun.nd (pi_list (pv 0)) (blkOk_by (N := ["_law_script", "_law_run", "_law_k", "_law_cell"]) (sc := C8.fnScope s__law_begun) (by decide +kernel)) (fun _ _ _ _ _ => (pg_name (i := 3) sc__law_begun.nd rfl (.inl rfl))) (fun _ _ _ _ _ => (pts_one (pt_cmpR op_ge (pv 3) (pe_op op_pow pe_int pe_int) (nomark _)))) (fun _ _ _ _ _ => (pv 3))) (pps_cons pe_str pe_int pps_nil))) rfl rfl (by simp) (by decide)))))), ?_⟩
    walk_at "rd"
    refine Rd.lenL hS ?_
    have hl' : ((ns.map V.int).length : Int) ≤ 63 := by rw [List.length_map]; omega
    have hl0 : (0 : Int) ≤ ((ns.map V.int).length : Int) := by omega
    walk_at "rd"
    refine ⟨a, _, rfl, hS, for_it (walk_enum (K := K) (a := a) (xs := ns.map V.int)) (fun i σ' H' => ∃ (r : Int) (y2 y3 : Option V), σ' = [some (.ref a), some (.int r), y2, y3] ∧ Rd.Ex H H' ∧ 0 ≤ r ∧ r < 2305843009213693951)
      ⟨_, none, none, rfl, Same.refl H, by omega, by omega⟩ (fun i σ' H' _ hh => ?_) ?_ ?_⟩
    · obtain ⟨_, _, _, _, e, _⟩ := hh
      exact Rd.ex_l e hS
    · rintro i x σ' H' H2 hi ⟨r, y2, y3, rfl, e, r0, r1⟩ ⟨t, x1, x2, rfl, nt, rfl, e1, e2⟩
      obtain ⟨z, hz, rfl⟩ := int_at e2
      cases e1
      walk_at "rd"
      exact ⟨_, _, _, rfl, e.trans (Rd.ex_new nt), by omega, by omega⟩
    · rintro σ' H' ⟨r, y2, y3, rfl, e, r0, r1⟩
      walk_at "rd"
      intro p hp
      walk_at "rd"
      have e1 : Rd.Ex H (upd H' p (.dK [])) := e.trans (Rd.ex_new hp)
      refine ⟨a, rfl, ⟨_, Rd.ex_l e1 hS⟩, fun D hD => lc_list (K := K) (a := a) (xs := ns.map V.int) (fun i H3 => ∃ ms : List Int, H3 D = some (.lst (ms.map V.int)) ∧ ms.length ≤ i ∧ Rd.Ex (upd H' p (.dK [])) H3)
        ⟨[], upd_same, Nat.le_refl _, Rd.ex_new hD⟩ (fun i H3 _ hh => ?_) ?_ ?_⟩
      · obtain ⟨_, _, _, x3⟩ := hh
        exact Rd.ex_l (e1.trans x3) hS
      · rintro i y H3 hi ⟨ms, hm, lm, x3⟩
        obtain ⟨z, hz, rfl⟩ := int_at hi
        have hi2 : i < 63 := by
          have := (List.getElem?_eq_some_iff.mp hz).1
          omega
        walk_at "rd"
        refine ⟨rfl, ?_⟩
        walk_at "rd"
        refine Rd.both (fun c => ?_) (fun c => ?_)
        · walk_at "rd"
          refine ⟨_, hm, by rw [List.length_map]; exact small1000 (by omega), ms ++ [z], ?_, by rw [List.length_append, List.length_singleton]; omega, Rd.ex_mut x3 hD⟩
          rw [upd_same, List.map_append]
          rfl
        · exact ⟨ms, hm, by omega, x3⟩
      · rintro H3 ⟨ms, hm, lm, x3⟩
        walk_at "rd"
        refine ⟨x3 _ _ upd_same, [(kRun, .int r), (kGreat, .ref D), (kTurn, .int 0)], rfl, by show 3 ≤ 15; decide, ?_⟩
        rw [Gx.merge3 n_rg n_rt n_gt]
        have npD : D ≠ p := fun z => by subst z; rw [upd_same] at hD; cases hD
        refine q _ p D (Pr.ex_none e hp) (Pr.ex_none e1 hD) ?_ ⟨r, 0, ms, upd_same, by rw [upd_ne npD]; exact hm, r0, r1⟩
        intro b o hb
        have nb : b ≠ p := ne_of_none (e _ _ hb) hp
        rw [upd_ne nb]
        exact x3 _ _ (e1 _ _ hb)
end
section
variable {P : Program} {w : World} {K : PySem.W.Frag} {mg : Str → Option Value} {base : Heap} {C_DrawError C_BadNumber C_BadState C_BadSteps CO__law_maps_right CO__law_refused_right : Addr}
local macro_rules | `(tactic| walk_at "side") => `(tactic| first | ((with_reducible show L2.CMul _ _); first | exact Or.inl ⟨by omega, by omega⟩ | exact Or.inr ⟨by omega, by omega⟩) | ((with_reducible show L2.CPow _ _); exact ⟨by decide, by decide, by decide⟩) | ((with_reducible show L2.CMulW _ _); exact wide_mul (a := 96) (b := 96) (by omega) (by omega) (by decide) (by decide) (by decide)) | ((with_reducible show L2.CDivW _ _); first | exact wide_div (b := 96) (by omega) (by omega) (by decide) (by decide) | exact wide_div (b := 300) (by omega) (by omega) (by decide) (by decide)) | (show (0 : Int) < _; omega) | (show (0 : Int) ≤ _; omega))
local macro_rules | `(tactic| walk_at "rd1") => `(tactic| first | with_reducible refine Rd.seq ?_ | with_reducible refine Rd.asg ?_ | with_reducible refine Rd.nm ?_ | with_reducible refine Rd.ret ?_ | with_reducible refine Rd.drop ?_ | with_reducible refine Rd.ifs ?_ | with_reducible refine Rd.par ?_ | with_reducible refine Rd.par3 ?_ | with_reducible refine Rd.next ?_ | with_reducible refine Rd.fr1 ?_ | with_reducible refine Rd.nxp ?_ | with_reducible refine Rd.rtp ?_ | ((with_reducible show tVar _ _ _ _); refine Rd.var rfl ?_) | with_reducible refine Rd.cst ?_ | with_reducible refine Rd.op ?_ | with_reducible refine Rd.un ?_ | with_reducible refine Rd.i0 ?_ | with_reducible refine Rd.ung ?_ | with_reducible refine Rd.eqI ?_ | with_reducible refine Rd.neI ?_ | with_reducible refine Rd.eqS ?_ | with_reducible refine Rd.neS ?_ | with_reducible refine Rd.test ?_ | with_reducible refine Rd.tstB ?_ | with_reducible refine Rd.isB ?_ | with_reducible refine Rd.not ?_ | with_reducible refine Rd.andT ?_ | with_reducible refine Rd.orT ?_ | with_reducible refine Rd.andV ?_ | with_reducible refine Rd.orV ?_ | with_reducible refine Rd.notV ?_ | with_reducible refine Rd.ifE ?_ | with_reducible refine Rd.chain ?_ | with_reducible refine Rd.nil ?_ | with_reducible refine Rd.cons ?_ | with_reducible refine Rd.call ?_ | with_reducible refine Rd.cb ?_ | with_reducible refine Rd.bm ?_ | with_reducible refine Au.revL ?_ | with_reducible refine Rd.frl ?_ | with_reducible refine Rd.frt ?_ | with_reducible refine Rd.fre ?_ | with_reducible refine Rd.disp ?_ | with_reducible refine Rd.pnil ?_ | with_reducible refine Rd.pcons ?_ | with_reducible refine Rd.gcons ?_ | with_reducible refine Rd.gnil ?_ | with_reducible refine Rd.gsub ?_ | with_reducible refine Rd.setD ?_ | ((with_reducible show gTup _ _ _ _ _ (upd _ _ (HO.tup _)) _); refine Rd.tupNew rfl ?_) | with_reducible refine Rd.fld ?_ | with_reducible refine Rd.meth ?_ | with_reducible refine Rd.make ?_ | with_reducible refine Rd.prop ?_ | with_reducible refine Au.tup ?_ | with_reducible refine Au.lst ?_ | ((with_reducible refine Au.lenOk ?hl ?_); (case hl => exact rfl)) | with_reducible refine Au.nopart ?_ | with_reducible refine Au.part ?_ | with_reducible refine Au.isI ?_ | with_reducible refine Au.sl ?_ | with_reducible refine Au.pr2 ?_ | with_reducible refine Au.pr3 ?_ | with_reducible refine Au.eqB ?_ | with_reducible refine Rd.isInt ?_ | with_reducible refine Rd.isBool ?_ | with_reducible refine Rd.mx2 ?_ | with_reducible refine Rd.mn2 ?_ | ((with_reducible show Rd.rAndM _ _ _ _); first | refine Rd.and1 ?_ | refine Rd.and48 ?_ | refine Rd.and32 ?_ | refine Rd.and64 ?_ | refine Rd.and65 ?_) | ((with_reducible refine Rd.iC ?hc ?_); (case hc => walk_at "side")) | ((with_reducible refine Rd.yes ?hc ?_); (case hc => first | omega | exact rfl)) | ((with_reducible refine Rd.no ?hc ?_); (case hc => omega)) | ((with_reducible refine Rd.noN ?hc ?_); (case hc => first | omega | exact rfl)) | ((with_reducible refine Rd.yesN ?hc ?_); (case hc => omega)) | ((with_reducible refine Rd.yesNN ?hc ?_); (case hc => omega)) | ((with_reducible refine Rd.noNN ?hc ?_); (case hc => omega)) | with_reducible refine iteT ?_ | with_reducible refine iteF ?_ | with_reducible refine Rd.iteNT ?_ | with_reducible refine Rd.iteNF ?_)
local macro_rules | `(tactic| walk_at "rd") => `(tactic| repeat (walk_at "rd1"))
local macro_rules | `(tactic| walk_at "hp") => `(tactic| first | assumption | (apply Au.sm; (focus assumption); (walk_at "hp")) | (apply Au.smp; (focus assumption); (focus (walk_at "hp")); (walk_at "ne")) | (apply Au.smn; (focus assumption); (focus (walk_at "hp")); (focus (intro _ z; cases z; done))) | fail "hp")
local macro_rules | `(tactic| walk_at "ne") => `(tactic| first | assumption | (apply Ne.symm; assumption) | (apply Au.nen; (focus assumption); (walk_at "hp")) | (apply Au.nen'; (focus assumption); (walk_at "hp")) | (apply Au.nek; (focus assumption); (focus assumption); (intro z; cases z; done)) | (apply Au.nek2; (focus assumption); (focus (walk_at "hp")); (intro z; cases z; done)) | fail "ne")
local macro_rules | `(tactic| walk_at "dp") => `(tactic| first | exact Dp.int _ | exact Dp.str _ | exact Dp.bl _ | exact Dp.non | (apply Dp.lst; (focus (apply Rd.sql; walk_at "hp")); (walk_at "dps")) | (apply Dp.tup; (focus (apply Rd.sqt; walk_at "hp")); (walk_at "dps")) | fail "dp")
local macro_rules | `(tactic| walk_at "dps") => `(tactic| first | exact DpAll.nil | (apply DpAll.cons; (focus (walk_at "dp")); (walk_at "dps")) | fail "dps")
local macro_rules | `(tactic| walk_at "shp") => `(tactic| ((simp only [SeqAt.shaped, PyData.canLay0, PyData.canLayAll0, PyData.depth, PyData.depthAll]) <;> first | decide | rfl))
local macro_rules | `(tactic| walk_at "sd") => `(tactic| first | assumption | rfl | omega | (walk_at "hp") | (refine ⟨?_, ?_⟩; (focus (walk_at "sd")); (walk_at "sd")) | fail "sd")
local macro_rules | `(tactic| walk_at "lk") => `(tactic| first | exact Rd.lk1 | rfl | decide +kernel)
local macro_rules | `(tactic| walk_at "rd1") => `(tactic| first | with_reducible refine Pr.dget ?_ | with_reducible refine Pr.dput ?_ | with_reducible refine Pr.sfld ?_ | with_reducible refine Pr.u_isInt ?_ | ((with_reducible show Pr.spNeed _ _ _ _ _ _); refine Pr.u_need (by omega) (by omega) ?_) | ((with_reducible show Pr.spIs _ _ _ _ _ _); refine Pr.u_isIn (by omega) ?_) | ((with_reducible apply Rd.fld1); (focus (walk_at "hp")); (focus assumption); (focus assumption); (focus (walk_at "lk"))) | ((with_reducible apply Au.methO); (focus (walk_at "hp")); (focus (walk_at "lk"))) | ((with_reducible apply Au.propO); (focus (walk_at "hp"))) | ((with_reducible show rIxT _ (V.ref _) (V.int _) _ _); refine Rd.ixT (Rd.sqt (by walk_at "hp")) rfl ?_) | ((with_reducible show rIxL _ (V.ref _) (V.int _) _ _); refine Rd.ixL (Rd.sql (by walk_at "hp")) rfl ?_) | ((with_reducible show Rd.rLenQ _ [V.ref _] _ _); first | refine Rd.lenL (Rd.sql (by walk_at "hp")) ?_ | refine Rd.lenT (Rd.sqt (by walk_at "hp")) ?_) | ((with_reducible show gTup _ _ _ (V.ref _) _ _ _); refine Rd.gtup (Rd.sqt (by walk_at "hp")) rfl ?_) | with_reducible refine Gx.gat ?_ | with_reducible refine Gx.gnx ?_ | with_reducible refine Gx.gthen ?_ | with_reducible refine Gx.gplain ?_ | with_reducible refine Gx.gfr ?_ | with_reducible refine Gx.lg ?_ | with_reducible refine Gx.mg ?_ | with_reducible refine Gx.sme ?_ | with_reducible refine Gx.callSD ?_ | with_reducible refine Gx.methSD ?_)
local macro_rules | `(tactic| walk_at "rd1") => `(tactic| first | with_reducible refine Gx.mkR ?_ | ((with_reducible refine Gx.makeV ?hs ?_); (case hs => rfl)) | with_reducible refine Gx.smeX ?_ | with_reducible refine Gx.cmX ?_ | with_reducible refine Gx.isBl ?_ | with_reducible refine Gx.notBl ?_ | with_reducible refine Gx.xk ?_ | with_reducible refine Gx.fr3 ?_ | with_reducible refine Gx.makeD ?_ | with_reducible refine Gx.frz ?_ | with_reducible refine Gx.lcO ?_ | with_reducible refine Gx.itupO ?_ | with_reducible refine Gx.ilistO ?_ | with_reducible refine Gx.irng1O ?_ | with_reducible refine Gx.ival ?_ | ((with_reducible apply Gx.ivalO); (focus (walk_at "hp")); (focus assumption); (focus assumption); (focus (walk_at "lk"))) | ((with_reducible show Gx.rTupOf _ [V.ref _] _ _); refine Gx.tupOfL (Rd.sql (by walk_at "hp")) ?_) | ((with_reducible show Gx.rLstOf _ [V.ref _] _ _); first | refine Gx.lstOfL (Rd.sql (by walk_at "hp")) ?_ | refine Gx.lstOfT (Rd.sqt (by walk_at "hp")) ?_))
local macro_rules | `(tactic| walk_at "hp") => `(tactic| first | assumption | (apply Pr.smq; (focus assumption); (focus (walk_at "hp")); (focus (walk_at "ne")); (walk_at "ne")))
local macro_rules | `(tactic| walk_at "hp") => `(tactic| first | assumption | (apply smb; (focus assumption); (focus (walk_at "hp")); (focus assumption); assumption) | (apply smbK; (focus assumption); (focus (walk_at "hp")); (focus (walk_at "dr")); (constructor <;> (intro _ z; cases z; done))) | (apply smbN; (focus assumption); (focus (walk_at "hp")); (focus assumption); (walk_at "dr")))
local macro_rules | `(tactic| walk_at "dr") => `(tactic| first | assumption | (apply Draw.ex; (focus assumption); (walk_at "dr")) | (apply Draw.exp; (focus assumption); (focus (walk_at "dr")); (focus (walk_at "nd"))) | fail "dr")
local macro_rules | `(tactic| walk_at "nd") => `(tactic| first | assumption | (apply ndN; (focus assumption); (walk_at "dr")) | fail "nd")
theorem cal__law_x (T : Txt K mg C_DrawError C_BadNumber C_BadState C_BadSteps CO__law_maps_right CO__law_refused_right) : C8.Cal P w K mg base 2 "_law_x" (spPick 281474976710655) [] := by
  obtain ⟨f, fd, F, b⟩ := T.d__law_x
  refine C8.cal0 F b .nil sc__law_x (fun vs H Q E h => ?_) (fun cdv A outer s H vs Q E hr h => ?_)
  · obtain ⟨d, g, rfl, _⟩ := h; rfl
  · obtain ⟨d, g, rfl, D, q⟩ := h
    have hu := hu_of hr
    have hu64 := hr.units
    refine ⟨_, (pss_cons (ps_set (i := 1) sc__law_x.nd rfl (.inl rfl) (C8.pe_c (cal__law_next T) hr (by omega) (by rfl) (pa_cons (pv 0) (pa_cons pe_int pa_nil))))
      (pss_cons (ps_set (i := 2) sc__law_x.nd rfl (.inl rfl) (pe_lst (pa_cons pe_int (pa_cons pe_int (pa_cons pe_int (pa_cons pe_int (pa_cons pe_int (pa_cons pe_int (pa_cons (pe_op op_sub (pv 1) (pe_op op_mod (pv 1) pe_int)) (pa_cons (pv 1) pa_nil))))))))))
      (pss_one (ps_ret (pe_ix ix_list (pv 2) (pe_ix ix_list (pe_lst (pa_cons pe_int (pa_cons pe_int (pa_cons pe_int (pa_cons pe_int (pa_cons pe_int (pa_cons pe_int (pa_cons pe_int (pa_cons pe_int (pa_cons pe_int (pa_cons pe_int (pa_cons pe_int (pa_cons pe_int pa_nil))))))))))))) (C8.pe_c (cal__law_next T) hr (by omega) (by rfl) (pa_cons (pv 0) (pa_cons pe_int pa_nil))) (fun _ _ => rfl)) (fun _ _ => rfl)))))), ?_⟩
    walk_at "rd"
    refine u_next (by decide) (by decide) D fun H1 v v0 v1 D1 x1 => ?_
    walk_at "rd"
    refine Au.new fun p H2 hp e2 k2 => ?_
    walk_at "rd"
    refine Au.new fun p2 H3 hp2 e3 k3 => ?_
    walk_at "rd"
    refine u_next (by decide) (by decide) (by walk_at "dr") fun H4 v' w0 w1 D4 x4 => ?_
    obtain ⟨j, x, ej, ex, h0, h1⟩ := pick_of [0, 1, 65535, 65536, 281474976710655, 140737488355328, v - v % 65536, v] 281474976710655 rfl (fun x hx => by
      simp only [List.mem_cons, List.not_mem_nil, or_false] at hx
      omega) w0 w1
    refine Rd.ixL (Rd.sql (by walk_at "hp")) ej ?_
    refine Rd.ixL (Rd.sql (by walk_at "hp")) ex ?_
    walk_at "rd"
    exact q H4 x h0 h1 D4 (fun c o h n1 n2 => by walk_at "hp")
theorem cal__law_steps (T : Txt K mg C_DrawError C_BadNumber C_BadState C_BadSteps CO__law_maps_right CO__law_refused_right) : C8.Cal P w K mg base 2 "_law_steps" (spPick 18446744073709551616) [] := by
  obtain ⟨f, fd, F, b⟩ := T.d__law_steps
  refine C8.cal0 F b .nil sc__law_steps (fun vs H Q E h => ?_) (fun cdv A outer s H vs Q E hr h => ?_)
  · obtain ⟨d, g, rfl, _⟩ := h; rfl
  · obtain ⟨d, g, rfl, D, q⟩ := h
    have hu := hu_of hr
    have hu64 := hr.units
    refine ⟨_, (pss_cons (ps_set (i := 1) sc__law_steps.nd rfl (.inl rfl) (C8.pe_c (cal__law_next T) hr (by omega) (by rfl) (pa_cons (pv 0) (pa_cons pe_int pa_nil))))
      (pss_cons (ps_set (i := 2) sc__law_steps.nd rfl (.inl rfl) (pe_lst (pa_cons pe_int (pa_cons pe_int (pa_cons pe_int (pa_cons pe_int (pa_cons pe_int (pa_cons pe_int (pa_cons pe_int (pa_cons (pv 1) pa_nil))))))))))
      (pss_one (ps_ret (pe_ix ix_list (pv 2) (pe_ix ix_list (pe_lst (pa_cons pe_int (pa_cons pe_int (pa_cons pe_int (pa_cons pe_int (pa_cons pe_int (pa_cons pe_int (pa_cons pe_int (pa_cons pe_int (pa_cons pe_int (pa_cons pe_int (pa_cons pe_int (pa_cons pe_int pa_nil))))))))))))) (C8.pe_c (cal__law_next T) hr (by omega) (by rfl) (pa_cons (pv 0) (pa_cons pe_int pa_nil))) (fun _ _ => rfl)) (fun _ _ => rfl)))))), ?_⟩
    walk_at "rd"
    refine u_next (by decide) (by decide) D fun H1 v v0 v1 D1 x1 => ?_
    walk_at "rd"
    refine Au.new fun p H2 hp e2 k2 => ?_
    walk_at "rd"
    refine Au.new fun p2 H3 hp2 e3 k3 => ?_
    walk_at "rd"
    refine u_next (by decide) (by decide) (by walk_at "dr") fun H4 v' w0 w1 D4 x4 => ?_
    obtain ⟨j, x, ej, ex, h0, h1⟩ := pick_of [0, 1, 2, 281474976710655, 281474976710656, 281474976710657, 18446744073709551616, v] 18446744073709551616 rfl (fun x hx => by
      simp only [List.mem_cons, List.not_mem_nil, or_false] at hx
      omega) w0 w1
    refine Rd.ixL (Rd.sql (by walk_at "hp")) ej ?_
    refine Rd.ixL (Rd.sql (by walk_at "hp")) ex ?_
    walk_at "rd"
    exact q H4 x h0 h1 D4 (fun c o h n1 n2 => by walk_at "hp")
/-! ### draws as rows -/
section
variable {B : Sx.Bs} {L : List Sx.En} {H H' : Hp} {Q : VK} {E : XK} {d g : Addr} {b : Int} {fl fl' : Sx.Fl}
theorem dk_of (h : ∃ o, H d = some o ∧ (Sx.DkC "run" g).P H o) (h' : ∃ o, H g = some o ∧ Sx.LiC.P H o) : Draw H d g := by
  obtain ⟨o, h1, r, t, rfl, r0, r1⟩ := h
  obtain ⟨o', h2, ns, rfl⟩ := h'
  exact ⟨r, t, ns, h1, h2, r0, r1⟩
theorem dk_keep (S : Sx.Hs B L H) (md : (d, Sx.DkC "run" g, Sx.Fl.nm) ∈ L) (mg : (g, Sx.LiC, Sx.Fl.nm) ∈ L) (D : Draw H' d g) (e : ExB d g H H') : Sx.Hs B L H' := by
  obtain ⟨r, t, ns, D⟩ := D
  exact S.keep2 md mg rfl rfl e ⟨_, D.dic, ⟨r, t, rfl, D.r0, D.r1⟩, trivial⟩ ⟨_, D.lst, ⟨ns, rfl⟩, trivial⟩
theorem w_next (md : (d, Sx.DkC "run" g, Sx.Fl.nm) ∈ L) (mg : (g, Sx.LiC, Sx.Fl.nm) ∈ L) (h0 : 0 < b) (h1 : b < 2 ^ 90) (q : ∀ v : Int, 0 ≤ v → v < b → Sx.W B L fun H => Q (.int v) H) : Sx.W B L fun H => Sx.Do (spNext ([.ref d, .int b] ++ []) H Q E) :=
  fun H S => ⟨d, g, b, rfl, h0, h1, dk_of (S.atP md) (S.atP mg), fun H' v v0 v1 D e => q v v0 v1 H' (dk_keep S md mg D e)⟩
theorem w_begun {K : PySem.W.Frag} {H0 : Hp} {T : List (Addr × Str)} {a : Addr} {ns : List Int} (hS : SqL K H0 a (ns.map V.int)) (hl : ns.length ≤ 63) (q : ∀ d g, Sx.W ⟨H0, [], T⟩ ((d, Sx.DkC "run" g, .nm) :: (g, Sx.LiC, .nm) :: L) fun H => Q (.ref d) H) :
    Sx.W ⟨H0, [], T⟩ L fun H => Sx.Do (spBegun K ([.ref a] ++ []) H Q E) := fun H S => ⟨a, ns, rfl, S.sql0 hS, hl, fun H' d g nd ng e D => by
  have fd := S.fresh nd
  obtain ⟨r, t, ns, D⟩ := D
  have S1 := S.ad (φ := Sx.LiC) (f := .nm) ng e D.lst ⟨ns, rfl⟩ (.inr ⟨rfl, trivial⟩) fun ps z => by cases z
  refine q d g H' (S1.here D.dic ⟨r, t, rfl, D.r0, D.r1⟩ (.inr ⟨rfl, trivial⟩) (fun ps z => by cases z) fd fun z hz => ?_)
  rcases List.mem_cons.mp hz with rfl | hz
  · exact D.ne
  · obtain ⟨_, o, k, _⟩ := S.ok z hz
    exact fun w => by rw [← w, nd] at k; cases k⟩
end
theorem w_pick {B : Sx.Bs} {L : List Sx.En} {Q : VK} {E : XK} {d g : Addr} {hi : Int} (md : (d, Sx.DkC "run" g, Sx.Fl.nm) ∈ L) (mg : (g, Sx.LiC, Sx.Fl.nm) ∈ L) (q : ∀ v : Int, 0 ≤ v → v ≤ hi → Sx.W B L fun H => Q (.int v) H) : Sx.W B L fun H => Sx.Do (spPick hi ([.ref d] ++ []) H Q E) :=
  fun H S => ⟨d, g, rfl, dk_of (S.atP md) (S.atP mg), fun H' v v0 v1 D e => q v v0 v1 H' (dk_keep S md mg D e)⟩
abbrev spDigits : Sp := fun vs H Q _ => ∃ n : Int, vs = [.int n] ∧ 0 ≤ n ∧ n < 73786976294838206464 ∧ ∀ H' q, Rd.Ex H H' → H' q = some (.lst ((ML.lsb n.toNat).reverse.map V.int)) → Q (.ref q) H'
theorem cal__law_digits (T : Txt K mg C_DrawError C_BadNumber C_BadState C_BadSteps CO__law_maps_right CO__law_refused_right) : C8.Cal P w K mg base 1 "_law_digits" (spDigits) [] := by
  obtain ⟨f, fd, F, b⟩ := T.d__law_digits
  refine C8.cal0 F b .nil sc__law_digits (fun vs H Q E h => ?_) (fun cdv A outer s H vs Q E hr h => ?_)
  · obtain ⟨n, rfl, _⟩ := h; rfl
  · obtain ⟨n, rfl, n0, n1, q⟩ := h
    have hu := hu_of hr
    have hu64 := hr.units
    refine ⟨_, (pss_cons (ps_set (i := 1) sc__law_digits.nd rfl (.inl rfl) (pe_lst pa_nil))
      (pss_cons (ps_while PassesOwn.never (pt_cmpR op_gt (pv 0) pe_int (nomark _)) (pss_cons (ps_expr (pe_bm PySem.F.plainAttrs_list PySem.F.slot_list_append PySem.F.type_list_append mt_append (pv 1) (pa_cons (pe_op op_mod (pv 0) pe_int) pa_nil)))
      (pss_one (ps_set (i := 0) sc__law_digits.nd rfl (.inl rfl) (pe_op op_fdivW (pv 0) pe_int)))))
      (pss_one (ps_ret (pe_revL (pv 1)))))), ?_⟩
    walk_at "rd"
    have hlen : (ML.lsb n.toNat).length ≤ 66 := ML.lsb_len 66 _ (by omega)
    intro p hp
    walk_at "rd"
    refine Rd.whl (fun m σ' H' => ∃ (r : Int) (pre : List Int), m = r.toNat ∧ σ' = [some (.int r), some (.ref p)] ∧ H' p = some (.lst (pre.map V.int)) ∧ Rd.Ex H H' ∧ 0 ≤ r ∧ pre ++ ML.lsb r.toNat = ML.lsb n.toNat)
      n.toNat ⟨n, [], rfl, rfl, upd_same, Rd.ex_new hp, n0, rfl⟩ ?_
    rintro m σ' H' ⟨r, pre, rfl, rfl, hl, x, r0, e⟩
    have lp : pre.length ≤ 66 := by
      have := congrArg List.length e
      rw [List.length_append] at this
      omega
    walk_at "rd"
    refine Rd.both (fun c => ?_) (fun c => ?_)
    · refine ⟨_, fun _ _ z => z, ?_⟩
      walk_at "rd"
      refine ⟨Rd.tyL hl, ?_⟩
      walk_at "rd"
      refine Rd.app hl (by rw [List.length_map]; omega) ?_
      walk_at "rd"
      refine ⟨(r / 2).toNat, by omega, r / 2, pre ++ [r % 2], rfl, rfl, ?_, Rd.ex_mut x hp, by omega, ?_⟩
      · rw [upd_same, List.map_append]; rfl
      · rw [← e, ML.lsb_pos (show 0 < r.toNat by omega), List.append_assoc]
        have e1 : ((r.toNat % 2 : Nat) : Int) = r % 2 := by omega
        have e2 : r.toNat / 2 = (r / 2).toNat := by omega
        rw [e1, e2]
        rfl
    · walk_at "rd"
      have r0' : r.toNat = 0 := by omega
      rw [r0', ML.lsb_zero, List.append_nil] at e
      refine ⟨p, _, rfl, Rd.sql hl, fun p2 hp2 => ?_⟩
      refine q _ p2 (x.trans (Rd.ex_new hp2)) ?_
      rw [upd_same, ← e, List.map_reverse]
abbrev spLawMap : Sp := fun vs H Q _ => ∃ n : Int, vs = [.int n] ∧ 0 ≤ n ∧ n < 73786976294838206464 ∧ ∀ t H', H t = none → Rd.Ex H H' → H' t = some (.tup [.int (ML.m1 n.toNat), .int (ML.m2 n.toNat)]) → Q (.ref t) H'
theorem cal__law_map (T : Txt K mg C_DrawError C_BadNumber C_BadState C_BadSteps CO__law_maps_right CO__law_refused_right) : C8.Cal P w K mg base 2 "_law_map" (spLawMap) [] := by
  obtain ⟨f, fd, F, b⟩ := T.d__law_map
  refine C8.cal0 F b .nil sc__law_map (fun vs H Q E h => ?_) (fun cdv A outer s H vs Q E hr h => ?_)
  · obtain ⟨n, rfl, _⟩ := h; rfl
  · obtain ⟨n, rfl, n0, n1, q⟩ := h
    have hu := hu_of hr
    have hu64 := hr.units
    refine ⟨_, (pss_cons (ps_asg (pe_tup (pa_cons pe_int (pa_cons pe_int (pa_cons pe_int pa_nil)))) (pg_tup rfl (pgs_cons (pg_name (i := 1) sc__law_map.nd rfl (.inl rfl)) (pgs_cons (pg_name (i := 2) sc__law_map.nd rfl (.inl rfl)) (pgs_cons (pg_name (i := 3) sc__law_map.nd rfl (.inl rfl)) pgs_nil)))))
      (pss_cons (ps_for PassesOwn.never rfl (pi_list (C8.pe_c (cal__law_digits T) hr (by omega) (by rfl) (pa_cons (pv 0) pa_nil))) (pg_name (i := 4) sc__law_map.nd rfl (.inl rfl)) (pss_cons (ps_par (i := 1) (j := 2) rfl sc__law_map.nd rfl rfl (by decide) rfl rfl (pa_cons (pe_op op_mod (pe_op op_mul (pv 1) (pv 1)) (pv 3)) (pa_cons (pe_op op_mod (pe_op op_mul (pe_op op_add (pv 1) pe_int) (pv 2)) (pv 3)) pa_nil)) (by rfl))
      (pss_one (ps_if (pt_cmpR op_eq (pv 4) pe_int (nomark _)) (pss_one (ps_par (i := 1) (j := 2) rfl sc__law_map.nd rfl rfl (by decide) rfl rfl (pa_cons (pe_op op_mod (pe_op op_mul pe_int (pv 1)) (pv 3)) (pa_cons (pe_op op_mod (pe_op op_add (pe_op op_mul pe_int (pv 2)) pe_int) (pv 3)) pa_nil)) (by rfl))) pss_nil))))
      (pss_one (ps_ret (pe_tup (pa_cons (pv 1) (pa_cons (pv 2) pa_nil))))))), ?_⟩
    walk_at "rd"
    intro p0 hp0
    walk_at "rd"
    refine ⟨n, rfl, n0, n1, fun H1 p x1 hp => ?_⟩
    have x0 := (Rd.ex_new (H := H) (o := .tup [.int 1, .int 0, .int 281474976710656]) hp0).trans x1
    generalize hL : (ML.lsb n.toNat).reverse = L at hp
    have hv : ML.valD L = n.toNat := by rw [← hL]; exact ML.val_lsb 66 _ (by omega)
    have hb : ∀ d ∈ L, d = 0 ∨ d = 1 := fun d hd => ML.lsb_bit 66 n.toNat (by omega) d (by rw [← hL] at hd; exact List.mem_reverse.mp hd)
    refine ⟨p, rfl, ⟨_, Rd.sql hp⟩, for_list (K := K) (a := p) (xs := L.map V.int) (fun i σ' H' => ∃ dg, σ' = [some (.int n), some (.int (ML.m1 (ML.valD (L.take i)))), some (.int (ML.m2 (ML.valD (L.take i)))), some (.int 281474976710656), dg] ∧ H' = H1)
      ⟨none, rfl, rfl⟩ (fun i σ' H' _ hh => ?_) ?_ ?_⟩
    · obtain ⟨dg, _, rfl⟩ := hh
      exact Rd.sql hp
    · rintro i y σ' H' hi ⟨dg, rfl, rfl⟩
      rw [List.getElem?_map] at hi
      obtain ⟨z, hz, rfl⟩ : ∃ z, L[i]? = some z ∧ V.int z = y := by
        cases e : L[i]? with
        | none => rw [e] at hi; cases hi
        | some z => rw [e] at hi; exact ⟨z, rfl, Option.some.inj hi⟩
      have hzb := hb z (List.mem_of_getElem? hz)
      have step : ML.valD (L.take (i + 1)) = 2 * ML.valD (L.take i) + z.toNat := by
        rw [List.take_add_one, hz]
        exact ML.valD_snoc _ _
      have r1 := ML.m1_rng (ML.valD (L.take i))
      have r2 := ML.m2_rng (ML.valD (L.take i))
      walk_at "rd"
      rw [ML.dbl1, ML.dbl2]
      have r3 := ML.m1_rng (2 * ML.valD (L.take i))
      have r4 := ML.m2_rng (2 * ML.valD (L.take i))
      walk_at "rd"
      refine Rd.both (fun c => ?_) (fun c => ?_)
      · walk_at "rd"
        rw [ML.inc1, ML.inc2]
        walk_at "rd"
        refine ⟨some (.int z), ?_, rfl⟩
        rw [step, show z.toNat = 1 by omega]
        rfl
      · walk_at "rd"
        refine ⟨some (.int z), ?_, rfl⟩
        rw [step, show z.toNat = 0 by omega]
        rfl
    · rintro σ' H' ⟨dg, rfl, rfl⟩
      rw [List.length_map, List.take_length, hv]
      walk_at "rd"
      exact fun p2 hp2 => q p2 _ (Pr.ex_none x0 hp2) (x0.trans (Rd.ex_new hp2)) upd_same
end
end Pf

set_option Elab.async false
set_option linter.all false
set_option maxRecDepth 100000
set_option maxHeartbeats 4000000
set_option exponentiation.threshold 3000
namespace Pf
open PySem PySem.Spec PyProof.Rows L2
theorem emO {e c k : Int} (h : e = c + 281474976710656 * k) (h0 : 0 ≤ c) (h1 : c ≤ 281474976710655) : e % 281474976710656 = c := by rw [h]; omega
theorem emE (e : Int) : ∃ w, e % 281474976710656 = e - 281474976710656 * w := ⟨e / 281474976710656, by omega⟩
theorem emS {a b k : Int} (h : a = b + 281474976710656 * k) : a % 281474976710656 = b % 281474976710656 := by rw [h]; omega
theorem mj (p q p' q' x : Int) : ((p * p' % 281474976710656) * x + (q * p' + q') % 281474976710656) % 281474976710656 = (p' * ((p * x + q) % 281474976710656) + q') % 281474976710656 := by
  obtain ⟨a, ha⟩ := emE (p * p')
  obtain ⟨b, hb⟩ := emE (q * p' + q')
  obtain ⟨c, hc⟩ := emE (p * x + q)
  rw [ha, hb, hc]
  exact emS (k := p' * c - a * x - b) (by grind)
theorem oneOf {p f : Int} (h : p * f % 281474976710656 = 1) : ∃ z, p * f = 1 + 281474976710656 * z := ⟨p * f / 281474976710656, by omega⟩
theorem inv2 {p f : Int} (q : Int) (h : p * f % 281474976710656 = 1) : (q * f + (0 - q * f) % 281474976710656) % 281474976710656 = 0 := by
  obtain ⟨a, ha⟩ := emE (0 - q * f)
  rw [ha]
  exact emO (k := - a) (by grind) (by decide) (by decide)
theorem inv3 {p f : Int} (h : p * f % 281474976710656 = 1) : f * p % 281474976710656 = 1 := by rw [Int.mul_comm]; exact h
theorem inv4 {p f : Int} (q : Int) (h : p * f % 281474976710656 = 1) : ((0 - q * f) % 281474976710656 * p + q) % 281474976710656 = 0 := by
  obtain ⟨a, ha⟩ := emE (0 - q * f)
  obtain ⟨z, hz⟩ := oneOf h
  rw [ha]
  refine emO (k := - (q * z) - a * p) ?_ (by decide) (by decide)
  have : (0 - q * f - 281474976710656 * a) * p + q = q - q * (p * f) - 281474976710656 * (a * p) := by grind
  rw [this, hz]
  grind
theorem invU {p f g : Int} (h : p * f % 281474976710656 = 1) (h' : f * g % 281474976710656 = 1) (hp : InM p) (hg : InM g) : g = p := by
  obtain ⟨z, hz⟩ := oneOf h
  obtain ⟨y, hy⟩ := oneOf h'
  have e1 : p * (f * g) = g * (p * f) := by grind
  rw [hz, hy] at e1
  have e2 : g % 281474976710656 = p % 281474976710656 := emS (k := p * y - g * z) (by grind)
  rw [Int.emod_eq_of_lt hg.1 (by have := hg.2; omega), Int.emod_eq_of_lt hp.1 (by have := hp.2; omega)] at e2
  exact e2
theorem odd_of {p f : Int} (h : p * f % 281474976710656 = 1) : f % 2 = 1 := by
  obtain ⟨z, hz⟩ := oneOf h
  have h2 : f % 2 = 0 ∨ f % 2 = 1 := by omega
  rcases h2 with h2 | h2
  · obtain ⟨k, hk⟩ : ∃ k, f = 2 * k := ⟨f / 2, by omega⟩
    rw [hk] at hz
    have : p * (2 * k) = 2 * (p * k) := by grind
    rw [this] at hz
    omega
  · exact h2
theorem inv5 {p f : Int} {q : Int} (h : p * f % 281474976710656 = 1) (hq : InM q) : (0 - (0 - q * f) % 281474976710656 * p) % 281474976710656 = q := by
  obtain ⟨a, ha⟩ := emE (0 - q * f)
  obtain ⟨z, hz⟩ := oneOf h
  rw [ha]
  refine emO (k := q * z + a * p) ?_ hq.1 hq.2
  have : 0 - (0 - q * f - 281474976710656 * a) * p = q * (p * f) + 281474976710656 * (a * p) := by grind
  rw [this, hz]
  grind
theorem inv6 {p f : Int} (q : Int) {x : Int} (h : p * f % 281474976710656 = 1) (hx : InM x) : (f * ((p * x + q) % 281474976710656) + (0 - q * f) % 281474976710656) % 281474976710656 = x := by
  obtain ⟨a, ha⟩ := emE (0 - q * f)
  obtain ⟨b, hb⟩ := emE (p * x + q)
  obtain ⟨z, hz⟩ := oneOf h
  rw [ha, hb]
  refine emO (k := z * x - f * b - a) ?_ hx.1 hx.2
  have : f * (p * x + q - 281474976710656 * b) + (0 - q * f - 281474976710656 * a) = (p * f) * x - 281474976710656 * (f * b + a) := by grind
  rw [this, hz]
  grind
end Pf

set_option Elab.async false
set_option linter.all false
set_option maxRecDepth 100000
set_option maxHeartbeats 4000000
set_option exponentiation.threshold 3000
namespace Pf
open PySem PySem.Spec PyProof.Rows L2
section
variable {P : Program} {w : World} {K : PySem.W.Frag} {mg : Str → Option Value} {base : Heap} {C_DrawError C_BadNumber C_BadState C_BadSteps CO__law_maps_right CO__law_refused_right : Addr}
local macro_rules | `(tactic| walk_at "side") => `(tactic| first | ((with_reducible show L2.CMul _ _); first | exact Or.inl ⟨by omega, by omega⟩ | exact Or.inr ⟨by omega, by omega⟩) | ((with_reducible show L2.CPow _ _); exact ⟨by decide, by decide, by decide⟩) | ((with_reducible show L2.CMulW _ _); exact wide_mul (a := 96) (b := 96) (by omega) (by omega) (by decide) (by decide) (by decide)) | ((with_reducible show L2.CDivW _ _); first | exact wide_div (b := 96) (by omega) (by omega) (by decide) (by decide) | exact wide_div (b := 300) (by omega) (by omega) (by decide) (by decide)) | (show (0 : Int) < _; omega) | (show (0 : Int) ≤ _; omega))
local macro_rules | `(tactic| walk_at "rd1") => `(tactic| first | with_reducible refine Rd.seq ?_ | with_reducible refine Rd.asg ?_ | with_reducible refine Rd.nm ?_ | with_reducible refine Rd.ret ?_ | with_reducible refine Rd.drop ?_ | with_reducible refine Rd.ifs ?_ | with_reducible refine Rd.par ?_ | with_reducible refine Rd.par3 ?_ | with_reducible refine Rd.next ?_ | with_reducible refine Rd.fr1 ?_ | with_reducible refine Rd.nxp ?_ | with_reducible refine Rd.rtp ?_ | ((with_reducible show tVar _ _ _ _); refine Rd.var rfl ?_) | with_reducible refine Rd.cst ?_ | with_reducible refine Rd.op ?_ | with_reducible refine Rd.un ?_ | with_reducible refine Rd.i0 ?_ | with_reducible refine Rd.ung ?_ | with_reducible refine Rd.eqI ?_ | with_reducible refine Rd.neI ?_ | with_reducible refine Rd.eqS ?_ | with_reducible refine Rd.neS ?_ | with_reducible refine Rd.test ?_ | with_reducible refine Rd.tstB ?_ | with_reducible refine Rd.isB ?_ | with_reducible refine Rd.not ?_ | with_reducible refine Rd.andT ?_ | with_reducible refine Rd.orT ?_ | with_reducible refine Rd.andV ?_ | with_reducible refine Rd.orV ?_ | with_reducible refine Rd.notV ?_ | with_reducible refine Rd.ifE ?_ | with_reducible refine Rd.chain ?_ | with_reducible refine Rd.nil ?_ | with_reducible refine Rd.cons ?_ | with_reducible refine Rd.call ?_ | with_reducible refine Rd.cb ?_ | with_reducible refine Rd.bm ?_ | with_reducible refine Au.revL ?_ | with_reducible refine Rd.frl ?_ | with_reducible refine Rd.frt ?_ | with_reducible refine Rd.fre ?_ | with_reducible refine Rd.disp ?_ | with_reducible refine Rd.pnil ?_ | with_reducible refine Rd.pcons ?_ | with_reducible refine Rd.gcons ?_ | with_reducible refine Rd.gnil ?_ | with_reducible refine Rd.gsub ?_ | with_reducible refine Rd.setD ?_ | ((with_reducible show gTup _ _ _ _ _ (upd _ _ (HO.tup _)) _); refine Rd.tupNew rfl ?_) | with_reducible refine Rd.fld ?_ | with_reducible refine Rd.meth ?_ | with_reducible refine Rd.make ?_ | with_reducible refine Rd.prop ?_ | with_reducible refine Au.tup ?_ | with_reducible refine Au.lst ?_ | ((with_reducible refine Au.lenOk ?hl ?_); (case hl => exact rfl)) | with_reducible refine Au.nopart ?_ | with_reducible refine Au.part ?_ | with_reducible refine Au.isI ?_ | with_reducible refine Au.sl ?_ | with_reducible refine Au.pr2 ?_ | with_reducible refine Au.pr3 ?_ | with_reducible refine Au.eqB ?_ | with_reducible refine Rd.isInt ?_ | with_reducible refine Rd.isBool ?_ | with_reducible refine Rd.mx2 ?_ | with_reducible refine Rd.mn2 ?_ | ((with_reducible show Rd.rAndM _ _ _ _); first | refine Rd.and1 ?_ | refine Rd.and48 ?_ | refine Rd.and32 ?_ | refine Rd.and64 ?_ | refine Rd.and65 ?_) | ((with_reducible refine Rd.iC ?hc ?_); (case hc => walk_at "side")) | ((with_reducible refine Rd.yes ?hc ?_); (case hc => first | omega | exact rfl)) | ((with_reducible refine Rd.no ?hc ?_); (case hc => omega)) | ((with_reducible refine Rd.noN ?hc ?_); (case hc => first | omega | exact rfl)) | ((with_reducible refine Rd.yesN ?hc ?_); (case hc => omega)) | ((with_reducible refine Rd.yesNN ?hc ?_); (case hc => omega)) | ((with_reducible refine Rd.noNN ?hc ?_); (case hc => omega)) | with_reducible refine iteT ?_ | with_reducible refine iteF ?_ | with_reducible refine Rd.iteNT ?_ | with_reducible refine Rd.iteNF ?_)
local macro_rules | `(tactic| walk_at "rd") => `(tactic| repeat (walk_at "rd1"))
local macro_rules | `(tactic| walk_at "hp") => `(tactic| first | assumption | (apply Au.sm; (focus assumption); (walk_at "hp")) | (apply Au.smp; (focus assumption); (focus (walk_at "hp")); (walk_at "ne")) | (apply Au.smn; (focus assumption); (focus (walk_at "hp")); (focus (intro _ z; cases z; done))) | fail "hp")
local macro_rules | `(tactic| walk_at "ne") => `(tactic| first | assumption | (apply Ne.symm; assumption) | (apply Au.nen; (focus assumption); (walk_at "hp")) | (apply Au.nen'; (focus assumption); (walk_at "hp")) | (apply Au.nek; (focus assumption); (focus assumption); (intro z; cases z; done)) | (apply Au.nek2; (focus assumption); (focus (walk_at "hp")); (intro z; cases z; done)) | fail "ne")
local macro_rules | `(tactic| walk_at "dp") => `(tactic| first | exact Dp.int _ | exact Dp.str _ | exact Dp.bl _ | exact Dp.non | (apply Dp.lst; (focus (apply Rd.sql; walk_at "hp")); (walk_at "dps")) | (apply Dp.tup; (focus (apply Rd.sqt; walk_at "hp")); (walk_at "dps")) | fail "dp")
local macro_rules | `(tactic| walk_at "dps") => `(tactic| first | exact DpAll.nil | (apply DpAll.cons; (focus (walk_at "dp")); (walk_at "dps")) | fail "dps")
local macro_rules | `(tactic| walk_at "shp") => `(tactic| ((simp only [SeqAt.shaped, PyData.canLay0, PyData.canLayAll0, PyData.depth, PyData.depthAll]) <;> first | decide | rfl))
local macro_rules | `(tactic| walk_at "sd") => `(tactic| first | assumption | rfl | omega | (walk_at "hp") | (refine ⟨?_, ?_⟩; (focus (walk_at "sd")); (walk_at "sd")) | fail "sd")
local macro_rules | `(tactic| walk_at "lk") => `(tactic| first | exact Rd.lk1 | rfl | decide +kernel)
local macro_rules | `(tactic| walk_at "rd1") => `(tactic| first | with_reducible refine Pr.dget ?_ | with_reducible refine Pr.dput ?_ | with_reducible refine Pr.sfld ?_ | with_reducible refine Pr.u_isInt ?_ | ((with_reducible show Pr.spNeed _ _ _ _ _ _); refine Pr.u_need (by omega) (by omega) ?_) | ((with_reducible show Pr.spIs _ _ _ _ _ _); refine Pr.u_isIn (by omega) ?_) | ((with_reducible apply Rd.fld1); (focus (walk_at "hp")); (focus assumption); (focus assumption); (focus (walk_at "lk"))) | ((with_reducible apply Au.methO); (focus (walk_at "hp")); (focus (walk_at "lk"))) | ((with_reducible apply Au.propO); (focus (walk_at "hp"))) | ((with_reducible show rIxT _ (V.ref _) (V.int _) _ _); refine Rd.ixT (Rd.sqt (by walk_at "hp")) rfl ?_) | ((with_reducible show rIxL _ (V.ref _) (V.int _) _ _); refine Rd.ixL (Rd.sql (by walk_at "hp")) rfl ?_) | ((with_reducible show Rd.rLenQ _ [V.ref _] _ _); first | refine Rd.lenL (Rd.sql (by walk_at "hp")) ?_ | refine Rd.lenT (Rd.sqt (by walk_at "hp")) ?_) | ((with_reducible show gTup _ _ _ (V.ref _) _ _ _); refine Rd.gtup (Rd.sqt (by walk_at "hp")) rfl ?_) | with_reducible refine Gx.gat ?_ | with_reducible refine Gx.gnx ?_ | with_reducible refine Gx.gthen ?_ | with_reducible refine Gx.gplain ?_ | with_reducible refine Gx.gfr ?_ | with_reducible refine Gx.lg ?_ | with_reducible refine Gx.mg ?_ | with_reducible refine Gx.sme ?_ | with_reducible refine Gx.callSD ?_ | with_reducible refine Gx.methSD ?_)
local macro_rules | `(tactic| walk_at "rd1") => `(tactic| first | with_reducible refine Gx.mkR ?_ | ((with_reducible refine Gx.makeV ?hs ?_); (case hs => rfl)) | with_reducible refine Gx.smeX ?_ | with_reducible refine Gx.cmX ?_ | with_reducible refine Gx.isBl ?_ | with_reducible refine Gx.notBl ?_ | with_reducible refine Gx.xk ?_ | with_reducible refine Gx.fr3 ?_ | with_reducible refine Gx.makeD ?_ | with_reducible refine Gx.frz ?_ | with_reducible refine Gx.lcO ?_ | with_reducible refine Gx.itupO ?_ | with_reducible refine Gx.ilistO ?_ | with_reducible refine Gx.irng1O ?_ | with_reducible refine Gx.ival ?_ | ((with_reducible apply Gx.ivalO); (focus (walk_at "hp")); (focus assumption); (focus assumption); (focus (walk_at "lk"))) | ((with_reducible show Gx.rTupOf _ [V.ref _] _ _); refine Gx.tupOfL (Rd.sql (by walk_at "hp")) ?_) | ((with_reducible show Gx.rLstOf _ [V.ref _] _ _); first | refine Gx.lstOfL (Rd.sql (by walk_at "hp")) ?_ | refine Gx.lstOfT (Rd.sqt (by walk_at "hp")) ?_))
local macro_rules | `(tactic| walk_at "hp") => `(tactic| first | assumption | (apply Pr.smq; (focus assumption); (focus (walk_at "hp")); (focus (walk_at "ne")); (walk_at "ne")))
local macro_rules | `(tactic| walk_at "hp") => `(tactic| first | assumption | (apply smb; (focus assumption); (focus (walk_at "hp")); (focus assumption); assumption) | (apply smbK; (focus assumption); (focus (walk_at "hp")); (focus (walk_at "dr")); (constructor <;> (intro _ z; cases z; done))) | (apply smbN; (focus assumption); (focus (walk_at "hp")); (focus assumption); (walk_at "dr")))
local macro_rules | `(tactic| walk_at "dr") => `(tactic| first | assumption | (apply Draw.ex; (focus assumption); (walk_at "dr")) | (apply Draw.exp; (focus assumption); (focus (walk_at "dr")); (focus (walk_at "nd"))) | fail "dr")
local macro_rules | `(tactic| walk_at "nd") => `(tactic| first | assumption | (apply ndN; (focus assumption); (walk_at "dr")) | fail "nd")
section
variable {K : PySem.W.Frag} {B : Sx.Bs} {L : List Sx.En} {Q : VK} {σ : L2.St}
/-- a call told by a def -/
theorem w_told {Cs : List (Addr × Str)} {H0 : Hp} {M : List Addr} {p : Addr × Str} {T : List (Addr × Str)} {t : XK → TE}
    (h : ∀ (E : XK) (cont : VK), (∀ L' v, Sx.W ⟨H0, M, p :: T⟩ L' (fun H => Au.NewO H (.lst [v]) Q) → Sx.W ⟨H0, M, p :: T⟩ L' fun H => cont v H) →
      (∀ L' D wd v d fl, Kns K Cs D wd → (d, Sx.Is (.xd [("given", v)]), fl) ∈ L' → (∀ p', Sx.W ⟨H0, M, p :: T⟩ ((p', Sx.Is (.tup [.str wd, v]), .ro) :: L') fun H => Q (.ref p') H) → Sx.W ⟨H0, M, p :: T⟩ L' fun H => E (.ref D) (some d) H) → Sx.W ⟨H0, M, p :: T⟩ L fun H => t E σ H cont) :
    Sx.W ⟨H0, M, p :: T⟩ L fun H => LamX.tLam (p :: T) (TToldS K Cs) t σ H Q := fun H S =>
  ⟨S.tb, fun H1 eN T1 cont hc => h (toldS K Cs Q) cont (fun L' v w H' S' => hc v H' (w H' S')) (fun L' D wd v d fl kn m w H' S' => ⟨D, d, wd, v, rfl, kn, rfl, S'.at m, fun p' H2 e k => w p' H2 ((S'.ex e).roT k)⟩) H1 (S.exn (fun z => by cases z) eN T1)⟩
end
abbrev qMR : Str := "_law_maps_right.<locals>.<lambda>"
abbrev qRR : Str := "_law_refused_right.<locals>.<lambda>"
abbrev TLs (a b : Addr) : List (Addr × Str) := [(a, qMR), (b, qRR)]
theorem mT0 {a b : Addr} : (a, qMR) ∈ TLs a b := LamD.mem0
theorem mT1 {a b : Addr} : (b, qRR) ∈ TLs a b := LamD.mem1
theorem hT0 {a b : Addr} (ne : a ≠ b) : ∀ p ∈ TLs a b, p.1 = a → p.2 = qMR := LamD.hu0 ne
theorem hT1 {a b : Addr} (ne : a ≠ b) : ∀ p ∈ TLs a b, p.1 = b → p.2 = qRR := LamD.hu1 ne
section
variable {B : Sx.Bs} {L : List Sx.En} {Q : VK} {E : XK} {a c CN CS : Addr} {p q p' q' x : Int} {fl fl' : Sx.Fl} {v v' : V}
theorem InM.nm {H : Hp} (h : InM x) : Pr.Nm 0 281474976710655 H (.int x) (some x) := .good h
theorem w_isMap (m : (a, Sx.Is (.tup [.int p, .int q]), fl) ∈ L) (hp : InM p) (hq : InM q) (z : Sx.W B L fun H => Q (.bl true) H) : Sx.W B L fun H => Sx.Do (spIsMap ([.ref a] ++ []) H Q E) := fun H S => ⟨_, some (p, q), rfl, .ok (S.at m) hp hq, z H S⟩
theorem w_isMapB (m : Sx.W B L fun H => Mp H v none) (z : Sx.W B L fun H => Q (.bl false) H) : Sx.W B L fun H => Sx.Do (spIsMap ([v] ++ []) H Q E) := fun H S => ⟨_, none, rfl, m H S, z H S⟩
theorem w_step {n : Int} (h0 : 0 ≤ n) (h1 : n ≤ 18446744073709551616) (z : ∀ t, Sx.W B ((t, Sx.Is (.tup [.int (ML.m1 (n % 281474976710656).toNat), .int (ML.m2 (n % 281474976710656).toNat)]), .nt) :: L) fun H => Q (.ref t) H) : Sx.W B L fun H => Sx.Do (spStepX CS ([.int n] ++ []) H Q E) :=
  fun H S => ⟨_, some n, rfl, .good ⟨h0, h1⟩, fun n' e _ t H' a b c => (by cases e; exact z t H' (S.nw a b c (.inl rfl) fun ps z => by cases z)), fun z => (by cases z)⟩
theorem w_stepB (m : Sx.W B L fun H => Pr.Nm 0 18446744073709551616 H v none) (z : Sx.W B L fun H => Sx.Do (Pr.Xs CS "given" v H E)) : Sx.W B L fun H => Sx.Do (spStepX CS ([v] ++ []) H Q E) := fun H S => ⟨_, none, rfl, m H S, fun n _ z => (by cases z), fun _ => z H S⟩
theorem w_join (m : (a, Sx.Is (.tup [.int p, .int q]), fl) ∈ L) (m' : (c, Sx.Is (.tup [.int p', .int q']), fl') ∈ L) (hp : InM p) (hq : InM q) (hp' : InM p') (hq' : InM q')
    (z : ∀ t, Sx.W B ((t, Sx.Is (.tup [.int (p * p' % 281474976710656), .int ((q * p' + q') % 281474976710656)]), .nt) :: L) fun H => Q (.ref t) H) : Sx.W B L fun H => Sx.Do (spJoinX CN ([.ref a, .ref c] ++ []) H Q E) :=
  fun H S => ⟨_, some (p, q), _, some (p', q'), rfl, .ok (S.at m) hp hq, .ok (S.at m') hp' hq', fun _ _ _ _ e e' t H' a b c => (by cases e; cases e'; exact z t H' (S.nw a b c (.inl rfl) fun ps z => by cases z)), fun z => (by cases z), fun _ z => (by cases z)⟩
theorem w_joinB (m : Sx.W B L fun H => Mp H v none) (m' : Sx.W B L fun H => Mp H v' none) (z : Sx.W B L fun H => Sx.Do (Pr.Xs CN "given" v H E)) : Sx.W B L fun H => Sx.Do (spJoinX CN ([v, v'] ++ []) H Q E) :=
  fun H S => ⟨_, none, _, none, rfl, m H S, m' H S, fun _ _ _ _ e => (by cases e), fun _ => z H S, fun h => absurd rfl h⟩
theorem w_joinC (m : (a, Sx.Is (.tup [.int p, .int q]), fl) ∈ L) (hp : InM p) (hq : InM q) (m' : Sx.W B L fun H => Mp H v' none) (z : Sx.W B L fun H => Sx.Do (Pr.Xs CN "given" v' H E)) : Sx.W B L fun H => Sx.Do (spJoinX CN ([.ref a, v'] ++ []) H Q E) :=
  fun H S => ⟨_, some (p, q), _, none, rfl, .ok (S.at m) hp hq, m' H S, fun _ _ _ _ _ e => (by cases e), fun z => (by cases z), fun _ _ => z H S⟩
theorem w_map (m : (a, Sx.Is (.tup [.int p, .int q]), fl) ∈ L) (hp : InM p) (hq : InM q) (hx : InM x) (z : Sx.W B L fun H => Q (.int ((p * x + q) % 281474976710656)) H) : Sx.W B L fun H => Sx.Do (spMapX CN CS ([.ref a, .int x] ++ []) H Q E) :=
  fun H S => ⟨_, some (p, q), _, some x, rfl, .ok (S.at m) hp hq, .good hx, fun _ _ _ e e' _ => (by cases e; cases e'; exact z H S), fun z => (by cases z), fun _ z => (by cases z)⟩
theorem w_mapB (m : Sx.W B L fun H => Mp H v none) (m' : Sx.W B L fun H => Pr.Nm 0 281474976710655 H v' none) (z : Sx.W B L fun H => Sx.Do (Pr.Xs CN "given" v H E)) : Sx.W B L fun H => Sx.Do (spMapX CN CS ([v, v'] ++ []) H Q E) :=
  fun H S => ⟨_, none, _, none, rfl, m H S, m' H S, fun _ _ _ e => (by cases e), fun _ => z H S, fun h => absurd rfl h⟩
theorem w_mapC (m : (a, Sx.Is (.tup [.int p, .int q]), fl) ∈ L) (hp : InM p) (hq : InM q) (m' : Sx.W B L fun H => Pr.Nm 0 281474976710655 H v' none) (z : Sx.W B L fun H => Sx.Do (Pr.Xs CS "given" v' H E)) : Sx.W B L fun H => Sx.Do (spMapX CN CS ([.ref a, v'] ++ []) H Q E) :=
  fun H S => ⟨_, some (p, q), _, none, rfl, .ok (S.at m) hp hq, m' H S, fun _ _ _ _ _ e => (by cases e), fun z => (by cases z), fun _ _ => z H S⟩
theorem w_inv (m : (a, Sx.Is (.tup [.int p, .int q]), fl) ∈ L) (hp : InM p) (hq : InM q) (ho : p % 2 = 1) (z : ∀ f t, InM f → p * f % 281474976710656 = 1 → Sx.W B ((t, Sx.Is (.tup [.int f, .int ((0 - q * f) % 281474976710656)]), .nt) :: L) fun H => Q (.ref t) H) :
    Sx.W B L fun H => Sx.Do (spInvX CN ([.ref a] ++ []) H Q E) := fun H S => ⟨_, some (p, q), rfl, .ok (S.at m) hp hq, fun _ _ e _ f t H' hf e1 a b c => (by cases e; exact z f t hf e1 H' (S.nw a b c (.inl rfl) fun ps z => by cases z)), fun _ _ e h => (by cases e; omega), fun z => (by cases z)⟩
theorem w_invE (m : (a, Sx.Is (.tup [.int p, .int q]), fl) ∈ L) (hp : InM p) (hq : InM q) (ho : p % 2 = 0) (z : Sx.W B L fun H => Sx.Do (Pr.Xs CN "given" (.ref a) H E)) : Sx.W B L fun H => Sx.Do (spInvX CN ([.ref a] ++ []) H Q E) :=
  fun H S => ⟨_, some (p, q), rfl, .ok (S.at m) hp hq, fun _ _ e h => (by cases e; omega), fun _ _ _ _ => z H S, fun z => (by cases z)⟩
theorem w_invB (m : Sx.W B L fun H => Mp H v none) (z : Sx.W B L fun H => Sx.Do (Pr.Xs CN "given" v H E)) : Sx.W B L fun H => Sx.Do (spInvX CN ([v] ++ []) H Q E) := fun H S => ⟨_, none, rfl, m H S, fun _ _ e => (by cases e), fun _ _ e => (by cases e), fun _ => z H S⟩
end
theorem kn_number (T : Txt K mg C_DrawError C_BadNumber C_BadState C_BadSteps CO__law_maps_right CO__law_refused_right) : Kns K [(C_BadNumber, "number"), (C_BadState, "state"), (C_BadSteps, "steps")] C_BadNumber "number" := ⟨T.f_BadNumber, T.n_BadNumber_given, 0, rfl, T.mm_BadNumber T.s_BadNumber_BadNumber, fun j _ _ h => absurd h (by omega)⟩
theorem kn_state (T : Txt K mg C_DrawError C_BadNumber C_BadState C_BadSteps CO__law_maps_right CO__law_refused_right) : Kns K [(C_BadNumber, "number"), (C_BadState, "state"), (C_BadSteps, "steps")] C_BadState "state" := ⟨T.f_BadState, T.n_BadState_given, 1, rfl, T.mm_BadState T.s_BadState_BadState, fun j _ _ h e => by
  match j, h, e with
  | 0, _, rfl => exact T.mm_BadNumber T.s_BadState_BadNumber⟩
theorem kn_steps (T : Txt K mg C_DrawError C_BadNumber C_BadState C_BadSteps CO__law_maps_right CO__law_refused_right) : Kns K [(C_BadNumber, "number"), (C_BadState, "state"), (C_BadSteps, "steps")] C_BadSteps "steps" := ⟨T.f_BadSteps, T.n_BadSteps_given, 2, rfl, T.mm_BadSteps T.s_BadSteps_BadSteps, fun j _ _ h e => by
  match j, h, e with
  | 0, _, rfl => exact T.mm_BadNumber T.s_BadSteps_BadNumber
  | 1, _, rfl => exact T.mm_BadState T.s_BadSteps_BadState⟩
local macro_rules | `(tactic| walk_at "sx1") => `(tactic| first | with_reducible refine Sx.seq ?_ | with_reducible refine Sx.asg ?_ | with_reducible refine Sx.nm ?_ | with_reducible refine Sx.next ?_ | ((with_reducible show Sx.W _ _ fun _ => tVar _ _ _ _); refine Sx.var rfl ?_) | with_reducible refine Sx.cst ?_ | with_reducible refine Sx.cons ?_ | with_reducible refine Sx.nil ?_ | with_reducible refine Sx.nxp ?_ | with_reducible refine Sx.op ?_ | with_reducible refine Sx.i0 ?_ | with_reducible refine Sx.tup ?_ | with_reducible refine Sx.lst ?_ | ((with_reducible apply Sx.lenOk); (focus (exact rfl))) | with_reducible refine Sx.newT ?_ | with_reducible refine Sx.newL ?_ | with_reducible refine Sx.call ?_ | ((with_reducible show Sx.W _ _ fun _ => Sx.Do _); walk_at "do1") | with_reducible refine Sx.meth ?_ | with_reducible refine Sx.prop ?_ | with_reducible refine Sx.fld ?_ | with_reducible refine Sx.ret ?_ | with_reducible refine Sx.rtp ?_ | with_reducible refine Sx.bkp ?_ | with_reducible refine Sx.ctp ?_ | with_reducible refine Sx.drop ?_ | with_reducible refine Sx.ifs ?_ | with_reducible refine Sx.par ?_ | with_reducible refine Sx.par3 ?_ | with_reducible refine Sx.pr2 ?_ | with_reducible refine Sx.pr3 ?_ | with_reducible refine Sx.un ?_ | with_reducible refine Sx.ung ?_ | with_reducible refine Sx.eqI ?_ | with_reducible refine Sx.neI ?_ | with_reducible refine Sx.eqS ?_ | with_reducible refine Sx.neS ?_ | with_reducible refine Sx.eqB ?_ | with_reducible refine Sx.isBl ?_ | with_reducible refine Sx.notBl ?_ | with_reducible refine Sx.test ?_ | with_reducible refine Sx.tstB ?_ | with_reducible refine Sx.isB ?_ | with_reducible refine Sx.isI ?_ | with_reducible refine Sx.refl1 ?_ | with_reducible refine Sx.not ?_ | with_reducible refine Sx.andT ?_ | with_reducible refine Sx.orT ?_ | with_reducible refine Sx.andV ?_ | with_reducible refine Sx.orV ?_ | with_reducible refine Sx.notV ?_ | with_reducible refine Sx.ifE ?_ | with_reducible refine Sx.chain ?_ | with_reducible refine Sx.cb ?_ | with_reducible refine Sx.bm ?_ | with_reducible refine Sx.retN ?_ | with_reducible refine Sx.brk ?_ | with_reducible refine Sx.cnt ?_ | with_reducible refine Sx.sme ?_ | with_reducible refine Sx.smeX ?_ | with_reducible refine Sx.cmX ?_ | with_reducible refine Sx.callSD ?_ | with_reducible refine Sx.methSD ?_ | ((with_reducible apply Sx.methO); (focus (walk_at "mem")); (focus (walk_at "lk"))) | ((with_reducible apply Sx.propO); (focus (walk_at "mem"))) | ((with_reducible apply Sx.fld1); (focus (walk_at "mem")); (focus (assumption)); (focus (assumption)); (focus (walk_at "lk"))) | ((with_reducible apply Sx.ivalO); (focus (walk_at "mem")); (focus (assumption)); (focus (assumption)); (focus (walk_at "lk"))) | with_reducible refine Sx.make ?_ | with_reducible refine Sx.mk1 ?_ | with_reducible refine Sx.ival ?_ | with_reducible refine Sx.sfld ?_ | ((with_reducible apply Sx.makeV); (focus (exact rfl))) | ((with_reducible apply Sx.stF); (focus (walk_at "mem")); (focus (assumption)); (focus (assumption)); (focus (exact rfl)); (focus (walk_at "putf")); (focus (walk_at "upd"))) | ((with_reducible apply Sx.ixT); (focus (walk_at "mem")); (focus (rfl))) | ((with_reducible apply Sx.ixL); (focus (walk_at "mem")); (focus (rfl))) | ((with_reducible apply Sx.lenL); (focus (walk_at "mem"))) | ((with_reducible apply Sx.lenT); (focus (walk_at "mem"))) | ((with_reducible apply Sx.tyL); (focus (walk_at "mem"))) | ((with_reducible apply Sx.app); (focus (walk_at "mem")); (focus (exact rfl)); (focus (walk_at "upd"))) | ((with_reducible apply Sx.cat); (focus (walk_at "mem")); (focus (walk_at "mem")); (focus (exact Nat.le_of_ble_eq_true rfl))) | ((with_reducible apply Sx.tupOfL); (focus (walk_at "mem"))) | ((with_reducible apply Sx.lstOfL); (focus (walk_at "mem"))) | ((with_reducible apply Sx.lstOfT); (focus (walk_at "mem"))) | with_reducible refine Sx.nopart ?_ | with_reducible refine Sx.part ?_ | with_reducible refine Sx.sl ?_ | with_reducible refine Sx.revL ?_ | ((with_reducible apply Sx.slL); (focus (walk_at "mem"))) | ((with_reducible apply Sx.gtup); (focus (walk_at "mem")); (focus (exact rfl))) | with_reducible refine Sx.gcons ?_ | with_reducible refine Sx.gnil ?_ | with_reducible refine Sx.gsub ?_ | ((with_reducible show Sx.W _ _ fun _ => Rd.rAndM _ _ _ _); first | refine Sx.and1 ?_ | refine Sx.and48 ?_ | refine Sx.and32 ?_ | refine Sx.and64 ?_ | refine Sx.and65 ?_) | with_reducible refine Sx.isInt ?_ | with_reducible refine Sx.isBool ?_ | with_reducible refine Sx.mx2 ?_ | with_reducible refine Sx.mn2 ?_ | with_reducible refine Sx.fr1 ?_ | with_reducible refine Sx.frl ?_ | with_reducible refine Sx.frt ?_ | with_reducible refine Sx.fre ?_ | with_reducible refine Sx.frz ?_ | with_reducible refine Sx.lcO ?_ | with_reducible refine Sx.itupO ?_ | with_reducible refine Sx.ilistO ?_ | with_reducible refine Sx.irng1O ?_ | with_reducible refine Sx.irng2O ?_ | with_reducible refine Sx.irng3O ?_ | with_reducible refine Sx.lg ?_ | with_reducible refine Sx.mg ?_ | with_reducible refine Sx.whN ?_ | ((with_reducible apply Sx.isOwn); (focus (assumption)); (focus (walk_at "mem"))) | ((with_reducible apply Sx.isTT); (focus (walk_at "mem"))) | ((with_reducible refine Sx.iC ?hc ?_); (case hc => walk_at "side")) | ((with_reducible refine Sx.yes ?hc ?_); (case hc => first | omega | exact rfl)) | ((with_reducible refine Sx.no ?hc ?_); (case hc => first | omega | (intro z; cases z; done))) | ((with_reducible refine Sx.noN ?hc ?_); (case hc => first | omega | exact rfl)) | ((with_reducible refine Sx.yesN ?hc ?_); (case hc => omega)) | ((with_reducible refine Sx.yesNN ?hc ?_); (case hc => first | omega | exact rfl)) | ((with_reducible refine Sx.noNN ?hc ?_); (case hc => omega)) | with_reducible refine Sx.tT ?_ | with_reducible refine Sx.tF ?_ | with_reducible refine Sx.tNT ?_ | with_reducible refine Sx.tNF ?_ | ((with_reducible apply Sx.rpr); (focus (walk_at "dpw")); (focus (walk_at "okd"))))
local macro_rules | `(tactic| walk_at "sx") => `(tactic| repeat (walk_at "sx1"))
local macro_rules | `(tactic| walk_at "mem") => `(tactic| first | assumption | with_reducible exact List.mem_cons_self | ((with_reducible apply List.mem_cons_of_mem); walk_at "mem") | ((with_reducible apply List.mem_append_right); walk_at "mem") | fail "mem")
local macro_rules | `(tactic| walk_at "upd") => `(tactic| first | with_reducible exact Sx.Upd.hd rfl | ((with_reducible apply Sx.Upd.tl); walk_at "upd") | ((with_reducible apply Sx.Upd.ap); walk_at "upd") | fail "upd")
local macro_rules | `(tactic| walk_at "sel") => `(tactic| first | with_reducible exact Sx.Sel.hd rfl | ((with_reducible apply Sx.Sel.tl); walk_at "sel") | ((with_reducible apply Sx.Sel.ap); walk_at "sel") | fail "sel")
local macro_rules | `(tactic| walk_at "rm") => `(tactic| first | with_reducible exact Sx.Rm.hd | ((with_reducible apply Sx.Rm.tl); walk_at "rm") | ((with_reducible apply Sx.Rm.ap); walk_at "rm") | fail "rm")
local macro_rules | `(tactic| walk_at "findr") => `(tactic| first | with_reducible exact Sx.FindR.nil | ((with_reducible apply Sx.FindR.cons); (focus (walk_at "mem")); walk_at "findr") | fail "findr")
local macro_rules | `(tactic| walk_at "find") => `(tactic| first | ((with_reducible apply Sx.Find.mu); (focus (walk_at "sel")); walk_at "find") | ((with_reducible apply Sx.Find.ros); walk_at "findr") | fail "find")
local macro_rules | `(tactic| walk_at "rep") => `(tactic| first | with_reducible exact Sx.Rep.nil | ((with_reducible apply Sx.Rep.ro); walk_at "rep") | ((with_reducible apply Sx.Rep.nt); walk_at "rep") | ((with_reducible apply Sx.Rep.nm); walk_at "rep") | ((with_reducible apply Sx.Rep.mu); (focus (walk_at "upd")); walk_at "rep") | fail "rep")
local macro_rules | `(tactic| walk_at "le") => `(tactic| first | with_reducible exact Sx.Cl.le.rfl | (refine Sx.DrC.le ?_; omega) | fail "le")
local macro_rules | `(tactic| walk_at "sub") => `(tactic| first | with_reducible exact Sx.Sub.rfl | with_reducible exact Sx.Sub.nil | ((with_reducible apply Sx.Sub.cons); (focus (walk_at "rm")); (focus (walk_at "le")); walk_at "sub") | ((with_reducible apply Sx.Sub.ap); walk_at "sub") | ((show Sx.Sub (_ :: _) _); (with_reducible apply Sx.Sub.cons); (focus (walk_at "rm")); (focus (walk_at "le")); walk_at "sub") | ((with_reducible apply Sx.Sub.dr); walk_at "sub") | exact Sx.Sub.rfl | fail "sub")
local macro_rules | `(tactic| walk_at "dpw") => `(tactic| first | with_reducible exact Sx.dpI | with_reducible exact Sx.dpS | with_reducible exact Sx.dpB | with_reducible exact Sx.dpN | ((with_reducible apply Sx.dpT); (focus (walk_at "mem")); walk_at "dpa") | ((with_reducible apply Sx.dpL); (focus (walk_at "mem")); walk_at "dpa") | fail "dpw")
local macro_rules | `(tactic| walk_at "dpa") => `(tactic| first | with_reducible exact Sx.dpNil | ((with_reducible apply Sx.dpCons); (focus (walk_at "dpw")); walk_at "dpa") | with_reducible exact Sx.dpInts | fail "dpa")
local macro_rules | `(tactic| walk_at "sml") => `(tactic| first | exact trivial | (refine Sx.lt600 ?_; omega) | (refine And.intro ?_ ?_; (focus (walk_at "sml")); walk_at "sml") | decide +kernel)
local macro_rules | `(tactic| walk_at "okd") => `(tactic| first | assumption | ((refine Gx.okd ?s ?d ?n); (case s => (simp only [Gx.Sml, Gx.SmlAll]; walk_at "sml")); (case d => (simp only [PyData.depth, PyData.depthAll]; decide)); (case n => (simp only [Gx.nodes, Gx.nodesAll]; decide))) | ((refine Gx.okdS ?s ?d ?n); (case s => (simp only [Gx.SmS, Gx.SmSAll]; walk_at "sml")); (case d => (simp only [PyData.depth, PyData.depthAll]; decide)); (case n => (simp only [Gx.nodes, Gx.nodesAll]; decide))) | fail "okd")
local macro_rules | `(tactic| walk_at "putf") => `(tactic| first | rfl)
local macro_rules | `(tactic| walk_at "do1") => `(tactic| first | ((with_reducible apply w_isMap); (focus (walk_at "mem")); (focus (walk_at "sdw")); (focus (walk_at "sdw"))) | ((with_reducible apply w_step); (focus (omega)); (focus (omega))) | ((with_reducible apply w_join); (focus (walk_at "mem")); (focus (walk_at "mem")); (focus (walk_at "sdw")); (focus (walk_at "sdw")); (focus (walk_at "sdw")); (focus (walk_at "sdw"))) | ((with_reducible apply w_map); (focus (walk_at "mem")); (focus (walk_at "sdw")); (focus (walk_at "sdw")); (focus (walk_at "sdw"))) | ((with_reducible apply Sx.do_need); (focus (omega)); (focus (omega))) | with_reducible refine Sx.do_isInt ?_ | ((with_reducible apply Sx.do_isIn); (focus (walk_at "sdw"))) | ((with_reducible apply Sx.do_needX); (focus (omega)); (focus (omega))) | ((with_reducible apply Sx.do_eq); (focus (rfl))) | ((with_reducible apply Sx.do_pre0); (focus (walk_at "find"))) | ((with_reducible apply Sx.do_post0); (focus (walk_at "rep")); (focus (exact fun c h => h))) | ((with_reducible apply Sx.do_preT); (focus (walk_at "find"))) | ((with_reducible apply Sx.do_postT); (focus (walk_at "rep")); (focus (exact fun c h => h))) | with_reducible refine Sx.do_newT ?_ | with_reducible refine Sx.do_newL ?_ | with_reducible refine Sx.do_newI ?_ | ((with_reducible apply Sx.do_set); (focus (walk_at "upd")); (focus (exact trivial))) | with_reducible refine Sx.do_exH ?_ | with_reducible refine Sx.do_assoc ?_ | ((with_reducible apply Sx.do_at); (focus (walk_at "mem"))) | ((with_reducible apply Sx.do_sqt); (focus (walk_at "mem"))) | ((with_reducible apply Sx.do_sql); (focus (walk_at "mem"))) | ((with_reducible apply Sx.do_nm); (focus (walk_at "sdw"))) | with_reducible refine Sx.do_vint ?_ | with_reducible refine Sx.do_rfl ?_ | with_reducible exact Sx.do_no | with_reducible refine Sx.do_xs ?_ | ((with_reducible apply Sx.do_and); (focus (walk_at "sdw"))) | ((with_reducible refine Sx.do_two ?a ?b); (case b => (walk_at "do"; done))) | ((with_reducible refine Sx.do_imp ?_); intro _) | ((with_reducible refine Sx.do_all ?_); intro _) | with_reducible apply Sx.do_ex | ((fail_if_success (with_reducible refine Sx.do_two ?_ ?_)); (with_reducible refine Sx.do_q ?_); walk_at "sx1"))
local macro_rules | `(tactic| walk_at "do") => `(tactic| repeat ((with_reducible show Sx.W _ _ fun _ => Sx.Do _); walk_at "do1"))
local macro_rules | `(tactic| walk_at "sdw") => `(tactic| first | assumption | omega | with_reducible rfl | exact Nat.le_of_ble_eq_true rfl | (refine ⟨?_, ?_⟩; (focus (walk_at "sdw")); walk_at "sdw") | fail "sdw")
variable {TA1 TA2 : Addr}
theorem shpP {p q : Int} : SeqAt.shaped (.tuple [.int p, .int q]) = true := by simp [SeqAt.shaped, PyData.canLay0, PyData.canLayAll0, PyData.depth, PyData.depthAll]
theorem shpN {p q : Int} : SeqAt.shaped (.tuple [.str "number", .tuple [.int p, .int q]]) = true := by
  simp [SeqAt.shaped, PyData.canLay0, PyData.canLayAll0, PyData.depth, PyData.depthAll]
  decide +kernel
abbrev spRight (TA1 TA2 : Addr) : Sp := fun vs H Q _ => ∃ (a c : Addr) (p q p' q' x : Int), vs = [.ref a, .ref c, .int x] ∧ Sx.Pre H (TLs TA1 TA2) [(a, Sx.Is (.tup [.int p, .int q]), .ro), (c, Sx.Is (.tup [.int p', .int q']), .ro)] ∧ InM p ∧ InM q ∧ InM p' ∧ InM q' ∧ InM x ∧ Sx.Post H (TLs TA1 TA2) [(a, Sx.Is (.tup [.int p, .int q]), .ro), (c, Sx.Is (.tup [.int p', .int q']), .ro)] [] fun H' => Q (.bl true) H'
theorem cal__law_maps_right (T : Txt K mg C_DrawError C_BadNumber C_BadState C_BadSteps CO__law_maps_right CO__law_refused_right) (TBp : LamX.TabB base mg CO__law_maps_right TA1 ∧ TA1 ≠ TA2) : Gx.CalG P w K mg base 9 "_law_maps_right" (spRight TA1 TA2) := by
  obtain ⟨TB, NE⟩ := TBp
  obtain ⟨f, fd, F, b⟩ := T.d__law_maps_right
  obtain ⟨f2, fd2, D__law_said, b__law_said⟩ := T.d__law_said
  refine Gx.calGc F b sc__law_maps_right (fun vs H Q E h => ?_) (fun A outer s H vs Q gd hr h => ?_)
  · obtain ⟨a, c, p, q, p', q', x, rfl, _⟩ := h; rfl
  · obtain ⟨a, c, p, q, p', q', x, rfl, S, hp, hq, hp', hq', hx, z⟩ := h
    have hu := hu_of hr
    have hu64 := hr.units
    refine ⟨_, (pss_cons (ps_set (i := 3) sc__law_maps_right.nd rfl (.inl rfl) pe_int)
      (pss_cons (ps_set (i := 4) sc__law_maps_right.nd rfl (.inl rfl) (pe_tup (pa_cons (pe_op op_mod (pe_op op_mul (pe_ix ix_tup (pv 0) pe_int (fun _ _ => rfl)) (pe_ix ix_tup (pv 1) pe_int (fun _ _ => rfl))) (pv 3)) (pa_cons (pe_op op_mod (pe_op op_add (pe_op op_mul (pe_ix ix_tup (pv 0) pe_int (fun _ _ => rfl)) (pe_ix ix_tup (pv 1) pe_int (fun _ _ => rfl))) (pe_ix ix_tup (pv 1) pe_int (fun _ _ => rfl))) (pv 3)) pa_nil))))
      (pss_cons (ps_if (PW.pt (pw_or (pt_cmpR op_ne (pe_callB (Gx.call_repr gd hu64) (by rfl) T.b_repr (by decide +kernel) (pa_cons (Gx.pe_cx (calx_joined T) LamX.takes0 (E := fun _ _ _ => False) (fun _ _ _ _ h => h) hr (by omega) (by rfl) (pa_cons (pv 0) (pa_cons (pv 1) pa_nil))) pa_nil)) (pe_callB (Gx.call_repr gd hu64) (by rfl) T.b_repr (by decide +kernel) (pa_cons (pv 4) pa_nil)) (nomark _)) (pw_or1 (pt_cmpR op_ne (Gx.pe_cx (calx_mapped T) LamX.takes0 (E := fun _ _ _ => False) (fun _ _ _ _ h => h) hr (by omega) (by rfl) (pa_cons (Gx.pe_cx (calx_joined T) LamX.takes0 (E := fun _ _ _ => False) (fun _ _ _ _ h => h) hr (by omega) (by rfl) (pa_cons (pv 0) (pa_cons (pv 1) pa_nil))) (pa_cons (pv 2) pa_nil))) (Gx.pe_cx (calx_mapped T) LamX.takes0 (E := fun _ _ _ => False) (fun _ _ _ _ h => h) hr (by omega) (by rfl) (pa_cons (pv 1) (pa_cons (Gx.pe_cx (calx_mapped T) LamX.takes0 (E := fun _ _ _ => False) (fun _ _ _ _ h => h) hr (by omega) (by rfl) (pa_cons (pv 0) (pa_cons (pv 2) pa_nil))) pa_nil))) (nomark _))))) (pss_one (ps_ret pe_bl)) pss_nil)
      (pss_cons (ps_if (PW.pt (pw_or (pt_cmpR op_ne (pe_callB (Gx.call_repr gd hu64) (by rfl) T.b_repr (by decide +kernel) (pa_cons (Gx.pe_cx (calx_mapped T) LamX.takes0 (E := fun _ _ _ => False) (fun _ _ _ _ h => h) hr (by omega) (by rfl) (pa_cons (pv 0) (pa_cons (pv 2) pa_nil))) pa_nil)) (pe_callB (Gx.call_repr gd hu64) (by rfl) T.b_repr (by decide +kernel) (pa_cons (pe_op op_mod (pe_op op_add (pe_op op_mul (pe_ix ix_tup (pv 0) pe_int (fun _ _ => rfl)) (pv 2)) (pe_ix ix_tup (pv 0) pe_int (fun _ _ => rfl))) (pv 3)) pa_nil)) (nomark _)) (pw_or (pt_not (pt_val (C8.pe_c (cal_is_map T) hr (by omega) (by rfl) (pa_cons (pv 0) pa_nil)))) (pw_or1 (pt_not (pt_val (C8.pe_c (cal_is_map T) hr (by omega) (by rfl) (pa_cons (pv 4) pa_nil)))))))) (pss_one (ps_ret pe_bl)) pss_nil)
      (pss_cons (ps_if (pt_cmpR op_eq (pe_op op_mod (pe_ix ix_tup (pv 0) pe_int (fun _ _ => rfl)) pe_int) pe_int (nomark _)) (pss_one (ps_ret (pe_cmpR (op_eqD hu64) (Gx.pe_lam (k := 5) D__law_said b__law_said sc__law_said rfl (.inl (by rfl)) (fun _ => gives_told T rfl rfl gd (hr.mono (by omega))) TB rfl mT0 (hT0 NE) hr (by omega) (by rfl) (LamX.lamS_by (sc := C8.fnScope s__law_maps_right) (by decide +kernel)) (fun _ _ _ _ _ _ _ hr => (Gx.pe_cx (calx_inverted T) Gx.takes_lam (fun _ _ _ _ h => h) hr (by omega) (by rfl) (pa_cons (pv 0) pa_nil)))) (pe_tup (pa_cons pe_str (pa_cons (pv 0) pa_nil))) (nomark _)))) pss_nil)
      (pss_cons (ps_set (i := 5) sc__law_maps_right.nd rfl (.inl rfl) (Gx.pe_cx (calx_inverted T) LamX.takes0 (E := fun _ _ _ => False) (fun _ _ _ _ h => h) hr (by omega) (by rfl) (pa_cons (pv 0) pa_nil)))
      (pss_cons (ps_if (PW.pt (pw_or (pt_not (pt_val (C8.pe_c (cal_is_map T) hr (by omega) (by rfl) (pa_cons (pv 5) pa_nil)))) (pw_or (pt_cmpR (op_neD hu64) (Gx.pe_cx (calx_joined T) LamX.takes0 (E := fun _ _ _ => False) (fun _ _ _ _ h => h) hr (by omega) (by rfl) (pa_cons (pv 0) (pa_cons (pv 5) pa_nil))) (pe_tup (pa_cons pe_int (pa_cons pe_int pa_nil))) (nomark _)) (pw_or (pt_cmpR (op_neD hu64) (Gx.pe_cx (calx_joined T) LamX.takes0 (E := fun _ _ _ => False) (fun _ _ _ _ h => h) hr (by omega) (by rfl) (pa_cons (pv 5) (pa_cons (pv 0) pa_nil))) (pe_tup (pa_cons pe_int (pa_cons pe_int pa_nil))) (nomark _)) (pw_or1 (pt_cmpR (op_neD hu64) (Gx.pe_cx (calx_inverted T) LamX.takes0 (E := fun _ _ _ => False) (fun _ _ _ _ h => h) hr (by omega) (by rfl) (pa_cons (pv 5) pa_nil)) (pv 0) (nomark _))))))) (pss_one (ps_ret pe_bl)) pss_nil)
      (pss_one (ps_ret (pe_cmpR op_eq (Gx.pe_cx (calx_mapped T) LamX.takes0 (E := fun _ _ _ => False) (fun _ _ _ _ h => h) hr (by omega) (by rfl) (pa_cons (pv 5) (pa_cons (Gx.pe_cx (calx_mapped T) LamX.takes0 (E := fun _ _ _ => False) (fun _ _ _ _ h => h) hr (by omega) (by rfl) (pa_cons (pv 0) (pa_cons (pv 2) pa_nil))) pa_nil))) (pv 2) (nomark _))))))))))), ?_⟩
    refine Sx.enter S ?_
    have ⟨p0, p1⟩ := hp
    have ⟨q0, q1⟩ := hq
    have ⟨r0, r1⟩ := hp'
    have ⟨s0, s1⟩ := hq'
    have ⟨x0, x1⟩ := hx
    walk_at "sx"
    intro due
    walk_at "sx"
    intro j1
    walk_at "sx"
    intro j2
    walk_at "sx"
    refine Sx.noN (mj p q p' q' x) ?_
    walk_at "sx"
    refine Sx.both (fun ev => ?_) (fun od => ?_)
    · walk_at "sx"
      refine w_told fun E' cont hc hE => ?_
      walk_at "sx"
      refine w_invE (by walk_at "mem") hp hq ev ?_
      walk_at "do"
      intro d
      refine hE _ _ _ _ _ _ (kn_number T) (by walk_at "mem") fun r1 => ?_
      walk_at "sx"
      intro r2
      walk_at "sx"
      refine Sx.eqDs (d := .tuple [.str "number", .tuple [.int p, .int q]]) (by walk_at "dpw") (by walk_at "dpw") shpN ?_
      walk_at "sx"
      exact Sx.fin z (by walk_at "sub")
    · walk_at "sx"
      refine w_inv (by walk_at "mem") hp hq (by omega) fun f bk hf hpf => ?_
      have ⟨f0, f1⟩ := hf
      have b0 : InM ((0 - q * f) % 281474976710656) := ⟨by omega, by omega⟩
      walk_at "sx"
      intro k1
      walk_at "sx"
      rw [hpf, inv2 q hpf]
      intro k2
      walk_at "sx"
      refine Sx.neDs (d := .tuple [.int 1, .int 0]) (by walk_at "dpw") (by walk_at "dpw") shpP ?_
      walk_at "sx"
      intro k3
      walk_at "sx"
      rw [inv3 hpf, inv4 q hpf]
      intro k4
      walk_at "sx"
      refine Sx.neDs (d := .tuple [.int 1, .int 0]) (by walk_at "dpw") (by walk_at "dpw") shpP ?_
      walk_at "sx"
      refine w_inv (by walk_at "mem") hf b0 (odd_of hpf) fun g k5 hg hfg => ?_
      have eg := invU hpf hfg hp hg
      subst eg
      rw [inv5 hpf hq]
      walk_at "sx"
      refine Sx.neDs (d := .tuple [.int g, .int q]) (by walk_at "dpw") (by walk_at "dpw") shpP ?_
      walk_at "sx"
      rw [inv6 q hpf hx, decide_eq_true rfl]
      exact Sx.fin z (by walk_at "sub")
end
end Pf

set_option Elab.async false
set_option linter.all false
set_option maxRecDepth 100000
set_option maxHeartbeats 4000000
set_option exponentiation.threshold 3000
namespace Pf
open PySem PySem.Spec PyProof.Rows L2
section
variable {P : Program} {w : World} {K : PySem.W.Frag} {mg : Str → Option Value} {base : Heap} {C_DrawError C_BadNumber C_BadState C_BadSteps CO__law_maps_right CO__law_refused_right : Addr}
local macro_rules | `(tactic| walk_at "side") => `(tactic| first | ((with_reducible show L2.CMul _ _); first | exact Or.inl ⟨by omega, by omega⟩ | exact Or.inr ⟨by omega, by omega⟩) | ((with_reducible show L2.CPow _ _); exact ⟨by decide, by decide, by decide⟩) | ((with_reducible show L2.CMulW _ _); exact wide_mul (a := 96) (b := 96) (by omega) (by omega) (by decide) (by decide) (by decide)) | ((with_reducible show L2.CDivW _ _); first | exact wide_div (b := 96) (by omega) (by omega) (by decide) (by decide) | exact wide_div (b := 300) (by omega) (by omega) (by decide) (by decide)) | (show (0 : Int) < _; omega) | (show (0 : Int) ≤ _; omega))
local macro_rules | `(tactic| walk_at "rd1") => `(tactic| first | with_reducible refine Rd.seq ?_ | with_reducible refine Rd.asg ?_ | with_reducible refine Rd.nm ?_ | with_reducible refine Rd.ret ?_ | with_reducible refine Rd.drop ?_ | with_reducible refine Rd.ifs ?_ | with_reducible refine Rd.par ?_ | with_reducible refine Rd.par3 ?_ | with_reducible refine Rd.next ?_ | with_reducible refine Rd.fr1 ?_ | with_reducible refine Rd.nxp ?_ | with_reducible refine Rd.rtp ?_ | ((with_reducible show tVar _ _ _ _); refine Rd.var rfl ?_) | with_reducible refine Rd.cst ?_ | with_reducible refine Rd.op ?_ | with_reducible refine Rd.un ?_ | with_reducible refine Rd.i0 ?_ | with_reducible refine Rd.ung ?_ | with_reducible refine Rd.eqI ?_ | with_reducible refine Rd.neI ?_ | with_reducible refine Rd.eqS ?_ | with_reducible refine Rd.neS ?_ | with_reducible refine Rd.test ?_ | with_reducible refine Rd.tstB ?_ | with_reducible refine Rd.isB ?_ | with_reducible refine Rd.not ?_ | with_reducible refine Rd.andT ?_ | with_reducible refine Rd.orT ?_ | with_reducible refine Rd.andV ?_ | with_reducible refine Rd.orV ?_ | with_reducible refine Rd.notV ?_ | with_reducible refine Rd.ifE ?_ | with_reducible refine Rd.chain ?_ | with_reducible refine Rd.nil ?_ | with_reducible refine Rd.cons ?_ | with_reducible refine Rd.call ?_ | with_reducible refine Rd.cb ?_ | with_reducible refine Rd.bm ?_ | with_reducible refine Au.revL ?_ | with_reducible refine Rd.frl ?_ | with_reducible refine Rd.frt ?_ | with_reducible refine Rd.fre ?_ | with_reducible refine Rd.disp ?_ | with_reducible refine Rd.pnil ?_ | with_reducible refine Rd.pcons ?_ | with_reducible refine Rd.gcons ?_ | with_reducible refine Rd.gnil ?_ | with_reducible refine Rd.gsub ?_ | with_reducible refine Rd.setD ?_ | ((with_reducible show gTup _ _ _ _ _ (upd _ _ (HO.tup _)) _); refine Rd.tupNew rfl ?_) | with_reducible refine Rd.fld ?_ | with_reducible refine Rd.meth ?_ | with_reducible refine Rd.make ?_ | with_reducible refine Rd.prop ?_ | with_reducible refine Au.tup ?_ | with_reducible refine Au.lst ?_ | ((with_reducible refine Au.lenOk ?hl ?_); (case hl => exact rfl)) | with_reducible refine Au.nopart ?_ | with_reducible refine Au.part ?_ | with_reducible refine Au.isI ?_ | with_reducible refine Au.sl ?_ | with_reducible refine Au.pr2 ?_ | with_reducible refine Au.pr3 ?_ | with_reducible refine Au.eqB ?_ | with_reducible refine Rd.isInt ?_ | with_reducible refine Rd.isBool ?_ | with_reducible refine Rd.mx2 ?_ | with_reducible refine Rd.mn2 ?_ | ((with_reducible show Rd.rAndM _ _ _ _); first | refine Rd.and1 ?_ | refine Rd.and48 ?_ | refine Rd.and32 ?_ | refine Rd.and64 ?_ | refine Rd.and65 ?_) | ((with_reducible refine Rd.iC ?hc ?_); (case hc => walk_at "side")) | ((with_reducible refine Rd.yes ?hc ?_); (case hc => first | omega | exact rfl)) | ((with_reducible refine Rd.no ?hc ?_); (case hc => omega)) | ((with_reducible refine Rd.noN ?hc ?_); (case hc => first | omega | exact rfl)) | ((with_reducible refine Rd.yesN ?hc ?_); (case hc => omega)) | ((with_reducible refine Rd.yesNN ?hc ?_); (case hc => omega)) | ((with_reducible refine Rd.noNN ?hc ?_); (case hc => omega)) | with_reducible refine iteT ?_ | with_reducible refine iteF ?_ | with_reducible refine Rd.iteNT ?_ | with_reducible refine Rd.iteNF ?_)
local macro_rules | `(tactic| walk_at "rd") => `(tactic| repeat (walk_at "rd1"))
local macro_rules | `(tactic| walk_at "hp") => `(tactic| first | assumption | (apply Au.sm; (focus assumption); (walk_at "hp")) | (apply Au.smp; (focus assumption); (focus (walk_at "hp")); (walk_at "ne")) | (apply Au.smn; (focus assumption); (focus (walk_at "hp")); (focus (intro _ z; cases z; done))) | fail "hp")
local macro_rules | `(tactic| walk_at "ne") => `(tactic| first | assumption | (apply Ne.symm; assumption) | (apply Au.nen; (focus assumption); (walk_at "hp")) | (apply Au.nen'; (focus assumption); (walk_at "hp")) | (apply Au.nek; (focus assumption); (focus assumption); (intro z; cases z; done)) | (apply Au.nek2; (focus assumption); (focus (walk_at "hp")); (intro z; cases z; done)) | fail "ne")
local macro_rules | `(tactic| walk_at "dp") => `(tactic| first | exact Dp.int _ | exact Dp.str _ | exact Dp.bl _ | exact Dp.non | (apply Dp.lst; (focus (apply Rd.sql; walk_at "hp")); (walk_at "dps")) | (apply Dp.tup; (focus (apply Rd.sqt; walk_at "hp")); (walk_at "dps")) | fail "dp")
local macro_rules | `(tactic| walk_at "dps") => `(tactic| first | exact DpAll.nil | (apply DpAll.cons; (focus (walk_at "dp")); (walk_at "dps")) | fail "dps")
local macro_rules | `(tactic| walk_at "shp") => `(tactic| ((simp only [SeqAt.shaped, PyData.canLay0, PyData.canLayAll0, PyData.depth, PyData.depthAll]) <;> first | decide | rfl))
local macro_rules | `(tactic| walk_at "sd") => `(tactic| first | assumption | rfl | omega | (walk_at "hp") | (refine ⟨?_, ?_⟩; (focus (walk_at "sd")); (walk_at "sd")) | fail "sd")
local macro_rules | `(tactic| walk_at "lk") => `(tactic| first | exact Rd.lk1 | rfl | decide +kernel)
local macro_rules | `(tactic| walk_at "rd1") => `(tactic| first | with_reducible refine Pr.dget ?_ | with_reducible refine Pr.dput ?_ | with_reducible refine Pr.sfld ?_ | with_reducible refine Pr.u_isInt ?_ | ((with_reducible show Pr.spNeed _ _ _ _ _ _); refine Pr.u_need (by omega) (by omega) ?_) | ((with_reducible show Pr.spIs _ _ _ _ _ _); refine Pr.u_isIn (by omega) ?_) | ((with_reducible apply Rd.fld1); (focus (walk_at "hp")); (focus assumption); (focus assumption); (focus (walk_at "lk"))) | ((with_reducible apply Au.methO); (focus (walk_at "hp")); (focus (walk_at "lk"))) | ((with_reducible apply Au.propO); (focus (walk_at "hp"))) | ((with_reducible show rIxT _ (V.ref _) (V.int _) _ _); refine Rd.ixT (Rd.sqt (by walk_at "hp")) rfl ?_) | ((with_reducible show rIxL _ (V.ref _) (V.int _) _ _); refine Rd.ixL (Rd.sql (by walk_at "hp")) rfl ?_) | ((with_reducible show Rd.rLenQ _ [V.ref _] _ _); first | refine Rd.lenL (Rd.sql (by walk_at "hp")) ?_ | refine Rd.lenT (Rd.sqt (by walk_at "hp")) ?_) | ((with_reducible show gTup _ _ _ (V.ref _) _ _ _); refine Rd.gtup (Rd.sqt (by walk_at "hp")) rfl ?_) | with_reducible refine Gx.gat ?_ | with_reducible refine Gx.gnx ?_ | with_reducible refine Gx.gthen ?_ | with_reducible refine Gx.gplain ?_ | with_reducible refine Gx.gfr ?_ | with_reducible refine Gx.lg ?_ | with_reducible refine Gx.mg ?_ | with_reducible refine Gx.sme ?_ | with_reducible refine Gx.callSD ?_ | with_reducible refine Gx.methSD ?_)
local macro_rules | `(tactic| walk_at "rd1") => `(tactic| first | with_reducible refine Gx.mkR ?_ | ((with_reducible refine Gx.makeV ?hs ?_); (case hs => rfl)) | with_reducible refine Gx.smeX ?_ | with_reducible refine Gx.cmX ?_ | with_reducible refine Gx.isBl ?_ | with_reducible refine Gx.notBl ?_ | with_reducible refine Gx.xk ?_ | with_reducible refine Gx.fr3 ?_ | with_reducible refine Gx.makeD ?_ | with_reducible refine Gx.frz ?_ | with_reducible refine Gx.lcO ?_ | with_reducible refine Gx.itupO ?_ | with_reducible refine Gx.ilistO ?_ | with_reducible refine Gx.irng1O ?_ | with_reducible refine Gx.ival ?_ | ((with_reducible apply Gx.ivalO); (focus (walk_at "hp")); (focus assumption); (focus assumption); (focus (walk_at "lk"))) | ((with_reducible show Gx.rTupOf _ [V.ref _] _ _); refine Gx.tupOfL (Rd.sql (by walk_at "hp")) ?_) | ((with_reducible show Gx.rLstOf _ [V.ref _] _ _); first | refine Gx.lstOfL (Rd.sql (by walk_at "hp")) ?_ | refine Gx.lstOfT (Rd.sqt (by walk_at "hp")) ?_))
local macro_rules | `(tactic| walk_at "hp") => `(tactic| first | assumption | (apply Pr.smq; (focus assumption); (focus (walk_at "hp")); (focus (walk_at "ne")); (walk_at "ne")))
local macro_rules | `(tactic| walk_at "hp") => `(tactic| first | assumption | (apply smb; (focus assumption); (focus (walk_at "hp")); (focus assumption); assumption) | (apply smbK; (focus assumption); (focus (walk_at "hp")); (focus (walk_at "dr")); (constructor <;> (intro _ z; cases z; done))) | (apply smbN; (focus assumption); (focus (walk_at "hp")); (focus assumption); (walk_at "dr")))
local macro_rules | `(tactic| walk_at "dr") => `(tactic| first | assumption | (apply Draw.ex; (focus assumption); (walk_at "dr")) | (apply Draw.exp; (focus assumption); (focus (walk_at "dr")); (focus (walk_at "nd"))) | fail "dr")
local macro_rules | `(tactic| walk_at "nd") => `(tactic| first | assumption | (apply ndN; (focus assumption); (walk_at "dr")) | fail "nd")
section
variable {B : Sx.Bs} {L : List Sx.En} {Q : VK}
theorem w_rep {l : Addr} {v : V} {fl : Sx.Fl} (m : (l, Sx.Is (.lst [v]), fl) ∈ L) (q : ∀ p, Sx.W B ((p, Sx.Is (.lst [v, v, v, v]), .nm) :: L) fun H => Q (.ref p) H) : Sx.W B L fun H => rRep (.ref l) (.int 4) H Q :=
  fun H S => Au.rep (S.at m) ⟨by decide, by decide⟩ (by show 1 ≤ 10; decide) fun p H' a b c => q p H' (S.nw a b c (.inr ⟨rfl, trivial⟩) fun ps z => by cases z)
theorem pickV {xs : List V} {P : V → Prop} (h : ∀ x ∈ xs, P x) {i : Int} (h0 : 0 ≤ i) (h1 : i < (xs.length : Int)) : ∃ x, P x ∧ atI xs i = some x := by
  obtain ⟨k, rfl⟩ := Int.eq_ofNat_of_zero_le h0
  have hk : k < xs.length := by omega
  exact ⟨xs[k], h _ (List.getElem_mem hk), atI_nat (List.getElem?_eq_getElem hk)⟩
theorem dk_keepM {H H' : Hp} {d g : Addr} {fl fl' : Sx.Fl} (S : Sx.Hs B L H) (md : (d, Sx.DkC "run" g, fl) ∈ L) (mg : (g, Sx.LiC, fl') ∈ L) (f1 : fl.mut = true) (f2 : fl'.mut = true) (D : Draw H' d g) (e : ExB d g H H') : Sx.Hs B L H' := by
  obtain ⟨r, t, ns, D⟩ := D
  exact S.keep2 md mg f1 f2 e ⟨_, D.dic, ⟨r, t, rfl, D.r0, D.r1⟩, trivial⟩ ⟨_, D.lst, ⟨ns, rfl⟩, trivial⟩
theorem w_nextM {E : XK} {d g : Addr} {fl fl' : Sx.Fl} {b : Int} (md : (d, Sx.DkC "run" g, fl) ∈ L) (mg : (g, Sx.LiC, fl') ∈ L) (f1 : fl.mut = true) (f2 : fl'.mut = true) (h0 : 0 < b) (h1 : b < 2 ^ 90) (q : ∀ v : Int, 0 ≤ v → v < b → Sx.W B L fun H => Q (.int v) H) : Sx.W B L fun H => Sx.Do (spNext ([.ref d, .int b] ++ []) H Q E) :=
  fun H S => ⟨d, g, b, rfl, h0, h1, dk_of (S.atP md) (S.atP mg), fun H' v v0 v1 D e => q v v0 v1 H' (dk_keepM S md mg f1 f2 D e)⟩
def Sh (d : PyData) : Prop := Gx.SmS d ∧ d.depth ≤ 3 ∧ Gx.nodes d ≤ 6
def Pk (K : PySem.W.Frag) (B : Sx.Bs) (L : List Sx.En) (G : Hp → V → Prop) (x : V) : Prop := (Sx.W B L fun H => G H x) ∧ ∃ d, (Sx.W B L fun H => Dp K H x d) ∧ Sh d
theorem Pk.sub {L L' : List Sx.En} {G : Hp → V → Prop} {x : V} (s : Sx.Sub L' L) (h : Pk K B L' G x) : Pk K B L G x := by
  obtain ⟨a, d, b, c⟩ := h
  exact ⟨Sx.sub s a, d, Sx.sub s b, c⟩
theorem w_ixP {K : PySem.W.Frag} {l : Addr} {xs : List V} {fl : Sx.Fl} {i : Int} (G : Hp → V → Prop) (m : (l, Sx.Is (.lst xs), fl) ∈ L) (h0 : 0 ≤ i) (h1 : i < (xs.length : Int)) (hp : ∀ x ∈ xs, Pk K B L G x) (q : ∀ x, Pk K B L G x → Sx.W B L fun H => Q x H) : Sx.W B L fun H => rIxL K (.ref l) (.int i) H Q := by
  obtain ⟨x, hx, e⟩ := pickV hp h0 h1
  exact Sx.ixL m e (q x hx)
end
theorem sS1 : Gx.SmS (.str "1") := by simp only [Gx.SmS]; decide +kernel
theorem sS0 : Gx.SmS (.str "0") := by simp only [Gx.SmS]; decide +kernel
theorem sSn : Gx.SmS (.str "number") := by simp only [Gx.SmS]; decide +kernel
theorem sSs : Gx.SmS (.str "state") := by simp only [Gx.SmS]; decide +kernel
theorem sSt : Gx.SmS (.str "steps") := by simp only [Gx.SmS]; decide +kernel
theorem shN : Sh .none := ⟨by simp [Gx.SmS], by simp [PyData.depth], by simp [Gx.nodes]⟩
theorem shB {b : Bool} : Sh (.bool b) := ⟨by simp [Gx.SmS], by simp [PyData.depth], by simp [Gx.nodes]⟩
theorem shI {n : Int} (h : n.natAbs ≤ 2 ^ 65) : Sh (.int n) := ⟨by simp only [Gx.SmS]; exact Nat.lt_of_le_of_lt h (by decide), by simp [PyData.depth], by simp [Gx.nodes]⟩
theorem shS {s : Str} (h : Gx.SmS (.str s)) : Sh (.str s) := ⟨h, by simp [PyData.depth], by simp [Gx.nodes]⟩
theorem shT {ds : List PyData} (h : Gx.SmSAll ds) (h1 : PyData.depthAll ds ≤ 2) (h2 : Gx.nodesAll ds ≤ 5) : Sh (.tuple ds) := ⟨by simpa only [Gx.SmS] using h, by simp only [PyData.depth]; omega, by simp only [Gx.nodes]; omega⟩
theorem shL {ds : List PyData} (h : Gx.SmSAll ds) (h1 : PyData.depthAll ds ≤ 2) (h2 : Gx.nodesAll ds ≤ 5) : Sh (.list ds) := ⟨by simpa only [Gx.SmS] using h, by simp only [PyData.depth]; omega, by simp only [Gx.nodes]; omega⟩
theorem okF {d e f : PyData} (hd : Sh d) (he : Sh e) (hf : Sh f) : Gx.Okd (.list [.tuple [.str "number", d], .tuple [.str "number", d], .tuple [.str "number", d], .tuple [.str "number", d], .tuple [.str "state", e], .tuple [.str "steps", f]]) := by
  obtain ⟨d1, d2, d3⟩ := hd
  obtain ⟨e1, e2, e3⟩ := he
  obtain ⟨f1, f2, f3⟩ := hf
  refine Gx.okdS ?_ ?_ ?_
  · have t : ∀ s x, Gx.SmS (.str s) → Gx.SmS x → Gx.SmS (.tuple [.str s, x]) := fun s x a b => by
      rw [Gx.SmS, Gx.SmSAll, Gx.SmSAll, Gx.SmSAll]
      exact ⟨a, b, trivial⟩
    rw [Gx.SmS]
    simp only [Gx.SmSAll]
    exact ⟨t _ _ sSn d1, t _ _ sSn d1, t _ _ sSn d1, t _ _ sSn d1, t _ _ sSs e1, t _ _ sSt f1, trivial⟩
  · simp only [PyData.depth, PyData.depthAll]
    omega
  · simp only [Gx.nodes, Gx.nodesAll]
    omega
local macro_rules | `(tactic| walk_at "sx1") => `(tactic| first | ((with_reducible apply w_rep); (focus (walk_at "mem"))) | with_reducible refine Sx.seq ?_ | with_reducible refine Sx.asg ?_ | with_reducible refine Sx.nm ?_ | with_reducible refine Sx.next ?_ | ((with_reducible show Sx.W _ _ fun _ => tVar _ _ _ _); refine Sx.var rfl ?_) | with_reducible refine Sx.cst ?_ | with_reducible refine Sx.cons ?_ | with_reducible refine Sx.nil ?_ | with_reducible refine Sx.nxp ?_ | with_reducible refine Sx.op ?_ | with_reducible refine Sx.i0 ?_ | with_reducible refine Sx.tup ?_ | with_reducible refine Sx.lst ?_ | ((with_reducible apply Sx.lenOk); (focus (exact rfl))) | with_reducible refine Sx.newT ?_ | with_reducible refine Sx.newL ?_ | with_reducible refine Sx.call ?_ | ((with_reducible show Sx.W _ _ fun _ => Sx.Do _); walk_at "do1") | with_reducible refine Sx.meth ?_ | with_reducible refine Sx.prop ?_ | with_reducible refine Sx.fld ?_ | with_reducible refine Sx.ret ?_ | with_reducible refine Sx.rtp ?_ | with_reducible refine Sx.bkp ?_ | with_reducible refine Sx.ctp ?_ | with_reducible refine Sx.drop ?_ | with_reducible refine Sx.ifs ?_ | with_reducible refine Sx.par ?_ | with_reducible refine Sx.par3 ?_ | with_reducible refine Sx.pr2 ?_ | with_reducible refine Sx.pr3 ?_ | with_reducible refine Sx.un ?_ | with_reducible refine Sx.ung ?_ | with_reducible refine Sx.eqI ?_ | with_reducible refine Sx.neI ?_ | with_reducible refine Sx.eqS ?_ | with_reducible refine Sx.neS ?_ | with_reducible refine Sx.eqB ?_ | with_reducible refine Sx.isBl ?_ | with_reducible refine Sx.notBl ?_ | with_reducible refine Sx.test ?_ | with_reducible refine Sx.tstB ?_ | with_reducible refine Sx.isB ?_ | with_reducible refine Sx.isI ?_ | with_reducible refine Sx.refl1 ?_ | with_reducible refine Sx.not ?_ | with_reducible refine Sx.andT ?_ | with_reducible refine Sx.orT ?_ | with_reducible refine Sx.andV ?_ | with_reducible refine Sx.orV ?_ | with_reducible refine Sx.notV ?_ | with_reducible refine Sx.ifE ?_ | with_reducible refine Sx.chain ?_ | with_reducible refine Sx.cb ?_ | with_reducible refine Sx.bm ?_ | with_reducible refine Sx.retN ?_ | with_reducible refine Sx.brk ?_ | with_reducible refine Sx.cnt ?_ | with_reducible refine Sx.sme ?_ | with_reducible refine Sx.smeX ?_ | with_reducible refine Sx.cmX ?_ | with_reducible refine Sx.callSD ?_ | with_reducible refine Sx.methSD ?_ | ((with_reducible apply Sx.methO); (focus (walk_at "mem")); (focus (walk_at "lk"))) | ((with_reducible apply Sx.propO); (focus (walk_at "mem"))) | ((with_reducible apply Sx.fld1); (focus (walk_at "mem")); (focus (assumption)); (focus (assumption)); (focus (walk_at "lk"))) | ((with_reducible apply Sx.ivalO); (focus (walk_at "mem")); (focus (assumption)); (focus (assumption)); (focus (walk_at "lk"))) | with_reducible refine Sx.make ?_ | with_reducible refine Sx.mk1 ?_ | with_reducible refine Sx.ival ?_ | with_reducible refine Sx.sfld ?_ | ((with_reducible apply Sx.makeV); (focus (exact rfl))) | ((with_reducible apply Sx.stF); (focus (walk_at "mem")); (focus (assumption)); (focus (assumption)); (focus (exact rfl)); (focus (walk_at "putf")); (focus (walk_at "upd"))) | ((with_reducible apply Sx.ixT); (focus (walk_at "mem")); (focus (rfl))) | ((with_reducible apply Sx.ixL); (focus (walk_at "mem")); (focus (rfl))) | ((with_reducible apply Sx.lenL); (focus (walk_at "mem"))) | ((with_reducible apply Sx.lenT); (focus (walk_at "mem"))) | ((with_reducible apply Sx.tyL); (focus (walk_at "mem"))) | ((with_reducible apply Sx.app); (focus (walk_at "mem")); (focus (exact rfl)); (focus (walk_at "upd"))) | ((with_reducible apply Sx.cat); (focus (walk_at "mem")); (focus (walk_at "mem")); (focus (exact Nat.le_of_ble_eq_true rfl))) | ((with_reducible apply Sx.tupOfL); (focus (walk_at "mem"))) | ((with_reducible apply Sx.lstOfL); (focus (walk_at "mem"))) | ((with_reducible apply Sx.lstOfT); (focus (walk_at "mem"))) | with_reducible refine Sx.nopart ?_ | with_reducible refine Sx.part ?_ | with_reducible refine Sx.sl ?_ | with_reducible refine Sx.revL ?_ | ((with_reducible apply Sx.slL); (focus (walk_at "mem"))) | ((with_reducible apply Sx.gtup); (focus (walk_at "mem")); (focus (exact rfl))) | with_reducible refine Sx.gcons ?_ | with_reducible refine Sx.gnil ?_ | with_reducible refine Sx.gsub ?_ | ((with_reducible show Sx.W _ _ fun _ => Rd.rAndM _ _ _ _); first | refine Sx.and1 ?_ | refine Sx.and48 ?_ | refine Sx.and32 ?_ | refine Sx.and64 ?_ | refine Sx.and65 ?_) | with_reducible refine Sx.isInt ?_ | with_reducible refine Sx.isBool ?_ | with_reducible refine Sx.mx2 ?_ | with_reducible refine Sx.mn2 ?_ | with_reducible refine Sx.fr1 ?_ | with_reducible refine Sx.frl ?_ | with_reducible refine Sx.frt ?_ | with_reducible refine Sx.fre ?_ | with_reducible refine Sx.frz ?_ | with_reducible refine Sx.lcO ?_ | with_reducible refine Sx.itupO ?_ | with_reducible refine Sx.ilistO ?_ | with_reducible refine Sx.irng1O ?_ | with_reducible refine Sx.irng2O ?_ | with_reducible refine Sx.irng3O ?_ | with_reducible refine Sx.lg ?_ | with_reducible refine Sx.mg ?_ | with_reducible refine Sx.whN ?_ | ((with_reducible apply Sx.isOwn); (focus (assumption)); (focus (walk_at "mem"))) | ((with_reducible apply Sx.isTT); (focus (walk_at "mem"))) | ((with_reducible refine Sx.iC ?hc ?_); (case hc => walk_at "side")) | ((with_reducible refine Sx.yes ?hc ?_); (case hc => first | omega | exact rfl)) | ((with_reducible refine Sx.no ?hc ?_); (case hc => first | omega | (intro z; cases z; done))) | ((with_reducible refine Sx.noN ?hc ?_); (case hc => first | omega | exact rfl)) | ((with_reducible refine Sx.yesN ?hc ?_); (case hc => omega)) | ((with_reducible refine Sx.yesNN ?hc ?_); (case hc => first | omega | exact rfl)) | ((with_reducible refine Sx.noNN ?hc ?_); (case hc => omega)) | with_reducible refine Sx.tT ?_ | with_reducible refine Sx.tF ?_ | with_reducible refine Sx.tNT ?_ | with_reducible refine Sx.tNF ?_ | ((with_reducible apply Sx.rpr); (focus (walk_at "dpw")); (focus (walk_at "okd"))))
local macro_rules | `(tactic| walk_at "sx") => `(tactic| repeat (walk_at "sx1"))
local macro_rules | `(tactic| walk_at "mem") => `(tactic| first | assumption | with_reducible exact List.mem_cons_self | ((with_reducible apply List.mem_cons_of_mem); walk_at "mem") | ((with_reducible apply List.mem_append_right); walk_at "mem") | fail "mem")
local macro_rules | `(tactic| walk_at "upd") => `(tactic| first | with_reducible exact Sx.Upd.hd rfl | ((with_reducible apply Sx.Upd.tl); walk_at "upd") | ((with_reducible apply Sx.Upd.ap); walk_at "upd") | fail "upd")
local macro_rules | `(tactic| walk_at "sel") => `(tactic| first | with_reducible exact Sx.Sel.hd rfl | ((with_reducible apply Sx.Sel.tl); walk_at "sel") | ((with_reducible apply Sx.Sel.ap); walk_at "sel") | fail "sel")
local macro_rules | `(tactic| walk_at "rm") => `(tactic| first | with_reducible exact Sx.Rm.hd | ((with_reducible apply Sx.Rm.tl); walk_at "rm") | ((with_reducible apply Sx.Rm.ap); walk_at "rm") | fail "rm")
local macro_rules | `(tactic| walk_at "findr") => `(tactic| first | with_reducible exact Sx.FindR.nil | ((with_reducible apply Sx.FindR.cons); (focus (walk_at "mem")); walk_at "findr") | fail "findr")
local macro_rules | `(tactic| walk_at "find") => `(tactic| first | ((with_reducible apply Sx.Find.mu); (focus (walk_at "sel")); walk_at "find") | ((with_reducible apply Sx.Find.ros); walk_at "findr") | fail "find")
local macro_rules | `(tactic| walk_at "rep") => `(tactic| first | with_reducible exact Sx.Rep.nil | ((with_reducible apply Sx.Rep.ro); walk_at "rep") | ((with_reducible apply Sx.Rep.nt); walk_at "rep") | ((with_reducible apply Sx.Rep.nm); walk_at "rep") | ((with_reducible apply Sx.Rep.mu); (focus (walk_at "upd")); walk_at "rep") | fail "rep")
local macro_rules | `(tactic| walk_at "le") => `(tactic| first | with_reducible exact Sx.Cl.le.rfl | (refine Sx.DrC.le ?_; omega) | fail "le")
local macro_rules | `(tactic| walk_at "sub") => `(tactic| first | with_reducible exact Sx.Sub.rfl | with_reducible exact Sx.Sub.nil | ((with_reducible apply Sx.Sub.cons); (focus (walk_at "rm")); (focus (walk_at "le")); walk_at "sub") | ((with_reducible apply Sx.Sub.ap); walk_at "sub") | ((show Sx.Sub (_ :: _) _); (with_reducible apply Sx.Sub.cons); (focus (walk_at "rm")); (focus (walk_at "le")); walk_at "sub") | ((with_reducible apply Sx.Sub.dr); walk_at "sub") | exact Sx.Sub.rfl | fail "sub")
local macro_rules | `(tactic| walk_at "dpw") => `(tactic| first | with_reducible exact Sx.dpI | with_reducible exact Sx.dpS | with_reducible exact Sx.dpB | with_reducible exact Sx.dpN | ((with_reducible apply Sx.dpT); (focus (walk_at "mem")); walk_at "dpa") | ((with_reducible apply Sx.dpL); (focus (walk_at "mem")); walk_at "dpa") | fail "dpw")
local macro_rules | `(tactic| walk_at "dpa") => `(tactic| first | with_reducible exact Sx.dpNil | ((with_reducible apply Sx.dpCons); (focus (walk_at "dpw")); walk_at "dpa") | with_reducible exact Sx.dpInts | fail "dpa")
local macro_rules | `(tactic| walk_at "sml") => `(tactic| first | exact trivial | (refine Sx.lt600 ?_; omega) | (refine And.intro ?_ ?_; (focus (walk_at "sml")); walk_at "sml") | decide +kernel)
local macro_rules | `(tactic| walk_at "okd") => `(tactic| first | assumption | ((refine Gx.okd ?s ?d ?n); (case s => (simp only [Gx.Sml, Gx.SmlAll]; walk_at "sml")); (case d => (simp only [PyData.depth, PyData.depthAll]; decide)); (case n => (simp only [Gx.nodes, Gx.nodesAll]; decide))) | ((refine Gx.okdS ?s ?d ?n); (case s => (simp only [Gx.SmS, Gx.SmSAll]; walk_at "sml")); (case d => (simp only [PyData.depth, PyData.depthAll]; decide)); (case n => (simp only [Gx.nodes, Gx.nodesAll]; decide))) | fail "okd")
local macro_rules | `(tactic| walk_at "putf") => `(tactic| first | rfl)
local macro_rules | `(tactic| walk_at "do1") => `(tactic| first | ((with_reducible apply w_isMap); (focus (walk_at "mem")); (focus (walk_at "sdw")); (focus (walk_at "sdw"))) | ((with_reducible apply w_step); (focus (omega)); (focus (omega))) | ((with_reducible apply w_join); (focus (walk_at "mem")); (focus (walk_at "mem")); (focus (walk_at "sdw")); (focus (walk_at "sdw")); (focus (walk_at "sdw")); (focus (walk_at "sdw"))) | ((with_reducible apply w_map); (focus (walk_at "mem")); (focus (walk_at "sdw")); (focus (walk_at "sdw")); (focus (walk_at "sdw"))) | ((with_reducible apply w_nextM); (focus (walk_at "mem")); (focus (walk_at "mem")); (focus (rfl)); (focus (rfl)); (focus (first | decide | omega)); (focus (first | decide | omega))) | ((with_reducible apply Sx.do_need); (focus (omega)); (focus (omega))) | with_reducible refine Sx.do_isInt ?_ | ((with_reducible apply Sx.do_isIn); (focus (walk_at "sdw"))) | ((with_reducible apply Sx.do_needX); (focus (omega)); (focus (omega))) | ((with_reducible apply Sx.do_eq); (focus (rfl))) | ((with_reducible apply Sx.do_pre0); (focus (walk_at "find"))) | ((with_reducible apply Sx.do_post0); (focus (walk_at "rep")); (focus (exact fun c h => h))) | ((with_reducible apply Sx.do_preT); (focus (walk_at "find"))) | ((with_reducible apply Sx.do_postT); (focus (walk_at "rep")); (focus (exact fun c h => h))) | with_reducible refine Sx.do_newT ?_ | with_reducible refine Sx.do_newL ?_ | with_reducible refine Sx.do_newI ?_ | ((with_reducible apply Sx.do_set); (focus (walk_at "upd")); (focus (exact trivial))) | with_reducible refine Sx.do_exH ?_ | with_reducible refine Sx.do_assoc ?_ | ((with_reducible apply Sx.do_at); (focus (walk_at "mem"))) | ((with_reducible apply Sx.do_sqt); (focus (walk_at "mem"))) | ((with_reducible apply Sx.do_sql); (focus (walk_at "mem"))) | ((with_reducible apply Sx.do_nm); (focus (walk_at "sdw"))) | with_reducible refine Sx.do_vint ?_ | with_reducible refine Sx.do_rfl ?_ | with_reducible exact Sx.do_no | with_reducible refine Sx.do_xs ?_ | ((with_reducible apply Sx.do_and); (focus (walk_at "sdw"))) | ((with_reducible refine Sx.do_two ?a ?b); (case b => (walk_at "do"; done))) | ((with_reducible refine Sx.do_imp ?_); intro _) | ((with_reducible refine Sx.do_all ?_); intro _) | with_reducible apply Sx.do_ex | ((fail_if_success (with_reducible refine Sx.do_two ?_ ?_)); (with_reducible refine Sx.do_q ?_); walk_at "sx1"))
local macro_rules | `(tactic| walk_at "do") => `(tactic| repeat ((with_reducible show Sx.W _ _ fun _ => Sx.Do _); walk_at "do1"))
local macro_rules | `(tactic| walk_at "sdw") => `(tactic| first | assumption | omega | with_reducible rfl | exact Nat.le_of_ble_eq_true rfl | (refine ⟨?_, ?_⟩; (focus (walk_at "sdw")); walk_at "sdw") | fail "sdw")
theorem all10 {P : V → Prop} {x0 x1 x2 x3 x4 x5 x6 x7 x8 x9 : V} (hx0 : P x0) (hx1 : P x1) (hx2 : P x2) (hx3 : P x3) (hx4 : P x4) (hx5 : P x5) (hx6 : P x6) (hx7 : P x7) (hx8 : P x8) (hx9 : P x9) : ∀ x ∈ [x0, x1, x2, x3, x4, x5, x6, x7, x8, x9], P x := fun x hx => by
  simp only [List.mem_cons, List.not_mem_nil, or_false] at hx
  rcases hx with rfl | rfl | rfl | rfl | rfl | rfl | rfl | rfl | rfl | rfl <;> assumption
theorem all6 {P : V → Prop} {x0 x1 x2 x3 x4 x5 : V} (hx0 : P x0) (hx1 : P x1) (hx2 : P x2) (hx3 : P x3) (hx4 : P x4) (hx5 : P x5) : ∀ x ∈ [x0, x1, x2, x3, x4, x5], P x := fun x hx => by
  simp only [List.mem_cons, List.not_mem_nil, or_false] at hx
  rcases hx with rfl | rfl | rfl | rfl | rfl | rfl <;> assumption
variable {TA1 TA2 : Addr}
abbrev spRefused (TA1 TA2 : Addr) : Sp := fun vs H Q _ => ∃ (d g a : Addr) (p q x : Int), vs = [.ref d, .ref a, .int x] ∧ Sx.Pre H (TLs TA1 TA2) [(d, Sx.DkC "run" g, .mu), (g, Sx.LiC, .mu), (a, Sx.Is (.tup [.int p, .int q]), .ro)] ∧ InM p ∧ InM q ∧ InM x ∧ Sx.Post H (TLs TA1 TA2) [(d, Sx.DkC "run" g, .mu), (g, Sx.LiC, .mu), (a, Sx.Is (.tup [.int p, .int q]), .ro)] [(d, Sx.DkC "run" g, .mu), (g, Sx.LiC, .mu)] fun H' => Q (.bl true) H'
theorem cal__law_refused_right (T : Txt K mg C_DrawError C_BadNumber C_BadState C_BadSteps CO__law_maps_right CO__law_refused_right) (TBp : LamX.TabB base mg CO__law_refused_right TA2 ∧ TA1 ≠ TA2) : Gx.CalG P w K mg base 9 "_law_refused_right" (spRefused TA1 TA2) := by
  obtain ⟨TB, NE⟩ := TBp
  obtain ⟨f, fd, F, b⟩ := T.d__law_refused_right
  obtain ⟨f2, fd2, D__law_said, b__law_said⟩ := T.d__law_said
  refine Gx.calGc F b sc__law_refused_right (fun vs H Q E h => ?_) (fun A outer s H vs Q gd hr h => ?_)
  · obtain ⟨d, g, a, p, q, x, rfl, _⟩ := h; rfl
  · obtain ⟨dw, g, a, p, q, x, rfl, S, hp, hq, hx, z⟩ := h
    have hu := hu_of hr
    have hu64 := hr.units
    refine ⟨_, (pss_cons (ps_set (i := 3) sc__law_refused_right.nd rfl (.inr rfl) (pe_lst (pa_cons pe_non (pa_cons (pe_tup pa_nil) (pa_cons (pe_tup (pa_cons pe_int pa_nil)) (pa_cons (pe_tup (pa_cons pe_int (pa_cons pe_int (pa_cons pe_int pa_nil)))) (pa_cons (pe_lst (pa_cons pe_int (pa_cons pe_int pa_nil))) (pa_cons (pe_tup (pa_cons pe_int (pa_cons (pe_un un_neg pe_int) pa_nil))) (pa_cons (pe_tup (pa_cons pe_int (pa_cons pe_int pa_nil))) (pa_cons (pe_tup (pa_cons pe_bl (pa_cons pe_int pa_nil))) (pa_cons (pe_tup (pa_cons pe_str (pa_cons pe_int pa_nil))) (pa_cons (pe_tup (pa_cons pe_int (pa_cons pe_non pa_nil))) pa_nil))))))))))))
      (pss_cons (ps_set (i := 3) sc__law_refused_right.nd rfl (.inr rfl) (pe_ix ix_list (pv 3) (C8.pe_c (cal__law_next T) hr (by omega) (by rfl) (pa_cons (pv 0) (pa_cons pe_int pa_nil))) (fun _ _ => rfl)))
      (pss_cons (ps_set (i := 4) sc__law_refused_right.nd rfl (.inr rfl) (pe_ix ix_list (pe_lst (pa_cons pe_non (pa_cons (pe_un un_neg pe_int) (pa_cons pe_int (pa_cons pe_bl (pa_cons pe_str (pa_cons (pe_tup (pa_cons pe_int pa_nil)) pa_nil))))))) (C8.pe_c (cal__law_next T) hr (by omega) (by rfl) (pa_cons (pv 0) (pa_cons pe_int pa_nil))) (fun _ _ => rfl)))
      (pss_cons (ps_set (i := 5) sc__law_refused_right.nd rfl (.inr rfl) (pe_ix ix_list (pe_lst (pa_cons pe_non (pa_cons (pe_un un_neg pe_int) (pa_cons pe_int (pa_cons pe_bl (pa_cons pe_str (pa_cons (pe_tup (pa_cons pe_int pa_nil)) pa_nil))))))) (C8.pe_c (cal__law_next T) hr (by omega) (by rfl) (pa_cons (pv 0) (pa_cons pe_int pa_nil))) (fun _ _ => rfl)))
      (pss_cons (ps_set (i := 6) sc__law_refused_right.nd rfl (.inl rfl) (pe_lst (pa_cons (Gx.pe_lam (k := 5) D__law_said b__law_said sc__law_said rfl (.inl (by rfl)) (fun _ => gives_told T rfl rfl gd (hr.mono (by omega))) TB rfl mT1 (hT1 NE) hr (by omega) (by rfl) (LamX.lamS_by (sc := C8.fnScope s__law_refused_right) (by decide +kernel)) (fun _ _ _ _ _ _ _ hr => (Gx.pe_cx (calx_joined T) Gx.takes_lam (fun _ _ _ _ h => h) hr (by omega) (by rfl) (pa_cons (pv 3) (pa_cons (pv 4) pa_nil))))) (pa_cons (LamD.pe_lamD (k := 5) (y := "_law_a") D__law_said b__law_said sc__law_said rfl (.inl (by rfl)) (fun _ => gives_told T rfl rfl gd (hr.mono (by omega))) TB rfl mT1 (hT1 NE) hr (by omega) (by rfl) (LamD.lamS1_by (sc := C8.fnScope s__law_refused_right) (by decide +kernel)) (show ("_law_a" : Str) ∉ (["_law_draw", "_law_one", "_law_x_here", "_law_odd", "_law_wrong", "_law_steps_here", "_law_found", "_law_due"] : List Str) by decide) (fun _ _ _ _ _ _ _ hr => (Gx.pe_cx (calx_joined T) Gx.takes_lam (fun _ _ _ _ h => h) hr (by omega) (by rfl) (pa_cons (pv 1) (pa_cons (pv 3) pa_nil)))) pe_int) pa_nil))))
      (pss_cons (ps_set (i := 6) sc__law_refused_right.nd rfl (.inl rfl) (pe_op op_cat (pv 6) (pe_lst (pa_cons (Gx.pe_lam (k := 5) D__law_said b__law_said sc__law_said rfl (.inl (by rfl)) (fun _ => gives_told T rfl rfl gd (hr.mono (by omega))) TB rfl mT1 (hT1 NE) hr (by omega) (by rfl) (LamX.lamS_by (sc := C8.fnScope s__law_refused_right) (by decide +kernel)) (fun _ _ _ _ _ _ _ hr => (Gx.pe_cx (calx_inverted T) Gx.takes_lam (fun _ _ _ _ h => h) hr (by omega) (by rfl) (pa_cons (pv 3) pa_nil)))) (pa_cons (LamD.pe_lamD (k := 5) (y := "_law_b") D__law_said b__law_said sc__law_said rfl (.inl (by rfl)) (fun _ => gives_told T rfl rfl gd (hr.mono (by omega))) TB rfl mT1 (hT1 NE) hr (by omega) (by rfl) (LamD.lamS1_by (sc := C8.fnScope s__law_refused_right) (by decide +kernel)) (show ("_law_b" : Str) ∉ (["_law_draw", "_law_one", "_law_x_here", "_law_odd", "_law_wrong", "_law_steps_here", "_law_found", "_law_due"] : List Str) by decide) (fun _ _ _ _ _ _ _ hr => (Gx.pe_cx (calx_mapped T) Gx.takes_lam (fun _ _ _ _ h => h) hr (by omega) (by rfl) (pa_cons (pv 3) (pa_cons (pv 4) pa_nil)))) pe_int) pa_nil)))))
      (pss_cons (ps_set (i := 7) sc__law_refused_right.nd rfl (.inl rfl) (pe_op op_cat (pe_op op_rep (pe_lst (pa_cons (pe_tup (pa_cons pe_str (pa_cons (pv 3) pa_nil))) pa_nil)) pe_int) (pe_lst (pa_cons (pe_tup (pa_cons pe_str (pa_cons (pv 4) pa_nil))) (pa_cons (pe_tup (pa_cons pe_str (pa_cons (pv 5) pa_nil))) pa_nil)))))
      (pss_cons (ps_set (i := 6) sc__law_refused_right.nd rfl (.inl rfl) (pe_op op_cat (pv 6) (pe_lst (pa_cons (Gx.pe_lam (k := 5) D__law_said b__law_said sc__law_said rfl (.inl (by rfl)) (fun _ => gives_told T rfl rfl gd (hr.mono (by omega))) TB rfl mT1 (hT1 NE) hr (by omega) (by rfl) (LamX.lamS_by (sc := C8.fnScope s__law_refused_right) (by decide +kernel)) (fun _ _ _ _ _ _ _ hr => (Gx.pe_cx (calx_mapped T) Gx.takes_lam (fun _ _ _ _ h => h) hr (by omega) (by rfl) (pa_cons (pv 1) (pa_cons (pv 4) pa_nil))))) (pa_cons (LamD.pe_lamD (k := 4) (y := "_law_c") D__law_said b__law_said sc__law_said rfl (.inl (by rfl)) (fun _ => gives_told T rfl rfl gd (hr.mono (by omega))) TB rfl mT1 (hT1 NE) hr (by omega) (by rfl) (LamD.lamS1_by (sc := C8.fnScope s__law_refused_right) (by decide +kernel)) (show ("_law_c" : Str) ∉ (["_law_draw", "_law_one", "_law_x_here", "_law_odd", "_law_wrong", "_law_steps_here", "_law_found", "_law_due"] : List Str) by decide) (fun _ _ _ _ _ _ _ hr => (Gx.pe_cx (calx_step_map T) Gx.takes_lam (fun _ _ _ _ h => h) hr (by omega) (by rfl) (pa_cons (pv 5) pa_nil))) pe_int) pa_nil)))))
      (pss_one (ps_ret (pe_and (pe_cmpR op_eq (pe_callB (Gx.call_repr gd hu64) (by rfl) T.b_repr (by decide +kernel) (pa_cons (pv 6) pa_nil)) (pe_callB (Gx.call_repr gd hu64) (by rfl) T.b_repr (by decide +kernel) (pa_cons (pv 7) pa_nil)) (nomark _)) (pe_and (pe_cmpR op_isBl (C8.pe_c (cal_is_map T) hr (by omega) (by rfl) (pa_cons (pv 3) pa_nil)) pe_bl (nomark _)) (pe_one (pe_cmpR op_isBl (C8.pe_c (cal_is_map T) hr (by omega) (by rfl) (pa_cons (pv 4) pa_nil)) pe_bl (nomark _))))))))))))))), ?_⟩
    refine Sx.enter S ?_
    walk_at "sx"
    intro o1
    walk_at "sx"
    intro o2
    walk_at "sx"
    intro o3
    walk_at "sx"
    intro o4
    walk_at "sx"
    intro o5
    walk_at "sx"
    intro o6
    walk_at "sx"
    intro o7
    walk_at "sx"
    intro o8
    walk_at "sx"
    intro o9
    walk_at "sx"
    intro ol
    walk_at "sx"
    intro v v0 v1
    walk_at "sx"
    refine w_ixP (fun H x => Mp H x none) (by walk_at "mem") v0 (by first | exact v1 | (simp; omega)) ?_ fun odd hodd => ?_
    · refine all10 ?_ ?_ ?_ ?_ ?_ ?_ ?_ ?_ ?_ ?_
      · exact ⟨fun H S => .nt (.inl rfl), _, by walk_at "dpw", shN⟩
      · exact ⟨fun H S => .len (S.at (by walk_at "mem")) (by decide), _, by walk_at "dpw", shT (by simp [Gx.SmSAll]) (by simp [PyData.depthAll]) (by simp [Gx.nodesAll])⟩
      · exact ⟨fun H S => .len (S.at (by walk_at "mem")) (by decide), _, by walk_at "dpw", shT (by simp [Gx.SmSAll, Gx.SmS]) (by simp [PyData.depthAll, PyData.depth]) (by simp [Gx.nodesAll, Gx.nodes])⟩
      · exact ⟨fun H S => .len (S.at (by walk_at "mem")) (by decide), _, by walk_at "dpw", shT (by simp [Gx.SmSAll, Gx.SmS]) (by simp [PyData.depthAll, PyData.depth]) (by simp [Gx.nodesAll, Gx.nodes])⟩
      · exact ⟨fun H S => .nt (.inr (.inr (.inr (.inr (.inl ⟨_, _, rfl, S.at (by walk_at "mem")⟩))))), _, by walk_at "dpw", shL (by simp [Gx.SmSAll, Gx.SmS]) (by simp [PyData.depthAll, PyData.depth]) (by simp [Gx.nodesAll, Gx.nodes])⟩
      · exact ⟨fun H S => .bad (S.at (by walk_at "mem")) (.good (by decide)) (.bad (by decide)) (.inr rfl), _, by walk_at "dpw", shT (by simp [Gx.SmSAll, Gx.SmS]) (by simp [PyData.depthAll, PyData.depth]) (by simp [Gx.nodesAll, Gx.nodes])⟩
      · exact ⟨fun H S => .bad (S.at (by walk_at "mem")) (.bad (by decide)) (.good (by decide)) (.inl rfl), _, by walk_at "dpw", shT (by simp [Gx.SmSAll, Gx.SmS]) (by simp [PyData.depthAll, PyData.depth]) (by simp [Gx.nodesAll, Gx.nodes])⟩
      · exact ⟨fun H S => .bad (S.at (by walk_at "mem")) (.non (.inr (.inl ⟨_, rfl⟩))) (.good (by decide)) (.inl rfl), _, by walk_at "dpw", shT (by simp [Gx.SmSAll, Gx.SmS]) (by simp [PyData.depthAll, PyData.depth]) (by simp [Gx.nodesAll, Gx.nodes])⟩
      · exact ⟨fun H S => .bad (S.at (by walk_at "mem")) (.non (.inr (.inr (.inl ⟨_, rfl⟩)))) (.good (by decide)) (.inl rfl), _, by walk_at "dpw", shT (by simpa [Gx.SmSAll, Gx.SmS] using sS1) (by simp [PyData.depthAll, PyData.depth]) (by simp [Gx.nodesAll, Gx.nodes])⟩
      · exact ⟨fun H S => .bad (S.at (by walk_at "mem")) (.good (by decide)) (.non (.inl rfl)) (.inr rfl), _, by walk_at "dpw", shT (by simp [Gx.SmSAll, Gx.SmS]) (by simp [PyData.depthAll, PyData.depth]) (by simp [Gx.nodesAll, Gx.nodes])⟩
    walk_at "sx"
    intro q1
    walk_at "sx"
    intro ql
    walk_at "sx"
    intro v' w0 w1
    walk_at "sx"
    refine w_ixP (fun H x => Mp H x none ∧ Pr.Nm 0 281474976710655 H x none) (by walk_at "mem") w0 (by first | exact w1 | (simp; omega)) ?_ fun wr hwr => ?_
    · refine all6 ?_ ?_ ?_ ?_ ?_ ?_
      · exact ⟨fun H S => ⟨.nt (.inl rfl), .non (.inl rfl)⟩, _, by walk_at "dpw", shN⟩
      · exact ⟨fun H S => ⟨.nt (.inr (.inr (.inl ⟨_, rfl⟩))), .bad (by decide)⟩, _, by walk_at "dpw", shI (by decide)⟩
      · exact ⟨fun H S => ⟨.nt (.inr (.inr (.inl ⟨_, rfl⟩))), .bad (by decide)⟩, _, by walk_at "dpw", shI (by decide)⟩
      · exact ⟨fun H S => ⟨.nt (.inr (.inl ⟨_, rfl⟩)), .non (.inr (.inl ⟨_, rfl⟩))⟩, _, by walk_at "dpw", shB⟩
      · exact ⟨fun H S => ⟨.nt (.inr (.inr (.inr (.inl ⟨_, rfl⟩)))), .non (.inr (.inr (.inl ⟨_, rfl⟩)))⟩, _, by walk_at "dpw", shS sS0⟩
      · exact ⟨fun H S => ⟨.len (S.at (by walk_at "mem")) (by decide), .non (.inr (.inr (.inr (.inl ⟨_, _, rfl, S.at (by walk_at "mem")⟩))))⟩, _, by walk_at "dpw", shT (by simp [Gx.SmSAll, Gx.SmS]) (by simp [PyData.depthAll, PyData.depth]) (by simp [Gx.nodesAll, Gx.nodes])⟩
    walk_at "sx"
    intro r1
    walk_at "sx"
    intro rl
    walk_at "sx"
    intro v2 u0 u1
    walk_at "sx"
    refine w_ixP (fun H x => Pr.Nm 0 18446744073709551616 H x none) (by walk_at "mem") u0 (by first | exact u1 | (simp; omega)) ?_ fun st hst => ?_
    · refine all6 ?_ ?_ ?_ ?_ ?_ ?_
      · exact ⟨fun H S => .non (.inl rfl), _, by walk_at "dpw", shN⟩
      · exact ⟨fun H S => .bad (by decide), _, by walk_at "dpw", shI (by decide)⟩
      · exact ⟨fun H S => .bad (by decide), _, by walk_at "dpw", shI (by decide)⟩
      · exact ⟨fun H S => .non (.inr (.inl ⟨_, rfl⟩)), _, by walk_at "dpw", shB⟩
      · exact ⟨fun H S => .non (.inr (.inr (.inl ⟨_, rfl⟩))), _, by walk_at "dpw", shS sS1⟩
      · exact ⟨fun H S => .non (.inr (.inr (.inr (.inl ⟨_, _, rfl, S.at (by walk_at "mem")⟩)))), _, by walk_at "dpw", shT (by simp [Gx.SmSAll, Gx.SmS]) (by simp [PyData.depthAll, PyData.depth]) (by simp [Gx.nodesAll, Gx.nodes])⟩
    walk_at "sx"
    refine w_told fun E' cont hc hE => ?_
    walk_at "sx"
    refine w_joinB (Pk.sub (by walk_at "sub") hodd).1 (fun H S => ((Pk.sub (by walk_at "sub") hwr).1 H S).1) ?_
    walk_at "do"
    intro d1
    refine hE _ _ _ _ _ _ (kn_number T) (by walk_at "mem") fun f1 => ?_
    walk_at "sx"
    refine w_told fun E' cont hc hE => ?_
    walk_at "sx"
    refine w_joinC (by walk_at "mem") hp hq (Pk.sub (by walk_at "sub") hodd).1 ?_
    walk_at "do"
    intro d2
    refine hE _ _ _ _ _ _ (kn_number T) (by walk_at "mem") fun f2 => ?_
    walk_at "sx"
    intro fl1
    walk_at "sx"
    walk_at "sx"
    refine w_told fun E' cont hc hE => ?_
    walk_at "sx"
    refine w_invB (Pk.sub (by walk_at "sub") hodd).1 ?_
    walk_at "do"
    intro d3
    refine hE _ _ _ _ _ _ (kn_number T) (by walk_at "mem") fun f3 => ?_
    walk_at "sx"
    refine w_told fun E' cont hc hE => ?_
    walk_at "sx"
    refine w_mapB (Pk.sub (by walk_at "sub") hodd).1 (fun H S => ((Pk.sub (by walk_at "sub") hwr).1 H S).2) ?_
    walk_at "do"
    intro d4
    refine hE _ _ _ _ _ _ (kn_number T) (by walk_at "mem") fun f4 => ?_
    walk_at "sx"
    intro fl2
    walk_at "sx"
    intro fl3
    walk_at "sx"
    intro e1
    walk_at "sx"
    intro e2
    walk_at "sx"
    intro e3
    walk_at "sx"
    intro e4
    walk_at "sx"
    intro e5
    walk_at "sx"
    intro e6
    walk_at "sx"
    intro e7
    walk_at "sx"
    walk_at "sx"
    refine w_told fun E' cont hc hE => ?_
    walk_at "sx"
    refine w_mapC (by walk_at "mem") hp hq (fun H S => ((Pk.sub (by walk_at "sub") hwr).1 H S).2) ?_
    walk_at "do"
    intro d5
    refine hE _ _ _ _ _ _ (kn_state T) (by walk_at "mem") fun f5 => ?_
    walk_at "sx"
    refine w_told fun E' cont hc hE => ?_
    walk_at "sx"
    refine w_stepB (Pk.sub (by walk_at "sub") hst).1 ?_
    walk_at "do"
    intro d6
    refine hE _ _ _ _ _ _ (kn_steps T) (by walk_at "mem") fun f6 => ?_
    walk_at "sx"
    intro fl4
    walk_at "sx"
    intro fl5
    walk_at "sx"
    simp only [List.cons_append, List.nil_append]
    obtain ⟨_, dO, hdO, sO⟩ := id hodd
    obtain ⟨_, dW, hdW, sW⟩ := id hwr
    obtain ⟨_, dS, hdS, sS⟩ := id hst
    refine Sx.rpr (Sx.dpL (by walk_at "mem") (Sx.dpCons (Sx.dpT (by walk_at "mem") (Sx.dpCons Sx.dpS (Sx.dpCons (Sx.sub (by walk_at "sub") hdO) Sx.dpNil))) (Sx.dpCons (Sx.dpT (by walk_at "mem") (Sx.dpCons Sx.dpS (Sx.dpCons (Sx.sub (by walk_at "sub") hdO) Sx.dpNil))) (Sx.dpCons (Sx.dpT (by walk_at "mem") (Sx.dpCons Sx.dpS (Sx.dpCons (Sx.sub (by walk_at "sub") hdO) Sx.dpNil))) (Sx.dpCons (Sx.dpT (by walk_at "mem") (Sx.dpCons Sx.dpS (Sx.dpCons (Sx.sub (by walk_at "sub") hdO) Sx.dpNil))) (Sx.dpCons (Sx.dpT (by walk_at "mem") (Sx.dpCons Sx.dpS (Sx.dpCons (Sx.sub (by walk_at "sub") hdW) Sx.dpNil))) (Sx.dpCons (Sx.dpT (by walk_at "mem") (Sx.dpCons Sx.dpS (Sx.dpCons (Sx.sub (by walk_at "sub") hdS) Sx.dpNil))) Sx.dpNil))))))) (okF sO sW sS) ?_
    walk_at "sx"
    refine Sx.rpr (Sx.dpL (by walk_at "mem") (Sx.dpCons (Sx.dpT (by walk_at "mem") (Sx.dpCons Sx.dpS (Sx.dpCons (Sx.sub (by walk_at "sub") hdO) Sx.dpNil))) (Sx.dpCons (Sx.dpT (by walk_at "mem") (Sx.dpCons Sx.dpS (Sx.dpCons (Sx.sub (by walk_at "sub") hdO) Sx.dpNil))) (Sx.dpCons (Sx.dpT (by walk_at "mem") (Sx.dpCons Sx.dpS (Sx.dpCons (Sx.sub (by walk_at "sub") hdO) Sx.dpNil))) (Sx.dpCons (Sx.dpT (by walk_at "mem") (Sx.dpCons Sx.dpS (Sx.dpCons (Sx.sub (by walk_at "sub") hdO) Sx.dpNil))) (Sx.dpCons (Sx.dpT (by walk_at "mem") (Sx.dpCons Sx.dpS (Sx.dpCons (Sx.sub (by walk_at "sub") hdW) Sx.dpNil))) (Sx.dpCons (Sx.dpT (by walk_at "mem") (Sx.dpCons Sx.dpS (Sx.dpCons (Sx.sub (by walk_at "sub") hdS) Sx.dpNil))) Sx.dpNil))))))) (okF sO sW sS) ?_
    walk_at "sx"
    refine Sx.do_two (P1 := fun H => Mp H odd none) (fun H S => (Pk.sub (by walk_at "sub") hodd).1 H S) ?_
    walk_at "do"
    simp only [Option.isSome]
    walk_at "sx"
    refine Sx.do_two (P1 := fun H => Mp H wr none) (fun H S => ((Pk.sub (by walk_at "sub") hwr).1 H S).1) ?_
    walk_at "do"
    simp only [Option.isSome]
    walk_at "sx"
    exact Sx.fin z (by walk_at "sub")
end
end Pf

set_option Elab.async false
set_option linter.all false
set_option maxRecDepth 100000
set_option maxHeartbeats 4000000
set_option exponentiation.threshold 3000
namespace Pf
open PySem PySem.Spec PyProof.Rows L2
section
variable {P : Program} {w : World} {K : PySem.W.Frag} {mg : Str → Option Value} {base : Heap} {C_DrawError C_BadNumber C_BadState C_BadSteps CO__law_maps_right CO__law_refused_right : Addr}
local macro_rules | `(tactic| walk_at "side") => `(tactic| first | ((with_reducible show L2.CMul _ _); first | exact Or.inl ⟨by omega, by omega⟩ | exact Or.inr ⟨by omega, by omega⟩) | ((with_reducible show L2.CPow _ _); exact ⟨by decide, by decide, by decide⟩) | ((with_reducible show L2.CMulW _ _); exact wide_mul (a := 96) (b := 96) (by omega) (by omega) (by decide) (by decide) (by decide)) | ((with_reducible show L2.CDivW _ _); first | exact wide_div (b := 96) (by omega) (by omega) (by decide) (by decide) | exact wide_div (b := 300) (by omega) (by omega) (by decide) (by decide)) | (show (0 : Int) < _; omega) | (show (0 : Int) ≤ _; omega))
local macro_rules | `(tactic| walk_at "rd1") => `(tactic| first | with_reducible refine Rd.seq ?_ | with_reducible refine Rd.asg ?_ | with_reducible refine Rd.nm ?_ | with_reducible refine Rd.ret ?_ | with_reducible refine Rd.drop ?_ | with_reducible refine Rd.ifs ?_ | with_reducible refine Rd.par ?_ | with_reducible refine Rd.par3 ?_ | with_reducible refine Rd.next ?_ | with_reducible refine Rd.fr1 ?_ | with_reducible refine Rd.nxp ?_ | with_reducible refine Rd.rtp ?_ | ((with_reducible show tVar _ _ _ _); refine Rd.var rfl ?_) | with_reducible refine Rd.cst ?_ | with_reducible refine Rd.op ?_ | with_reducible refine Rd.un ?_ | with_reducible refine Rd.i0 ?_ | with_reducible refine Rd.ung ?_ | with_reducible refine Rd.eqI ?_ | with_reducible refine Rd.neI ?_ | with_reducible refine Rd.eqS ?_ | with_reducible refine Rd.neS ?_ | with_reducible refine Rd.test ?_ | with_reducible refine Rd.tstB ?_ | with_reducible refine Rd.isB ?_ | with_reducible refine Rd.not ?_ | with_reducible refine Rd.andT ?_ | with_reducible refine Rd.orT ?_ | with_reducible refine Rd.andV ?_ | with_reducible refine Rd.orV ?_ | with_reducible refine Rd.notV ?_ | with_reducible refine Rd.ifE ?_ | with_reducible refine Rd.chain ?_ | with_reducible refine Rd.nil ?_ | with_reducible refine Rd.cons ?_ | with_reducible refine Rd.call ?_ | with_reducible refine Rd.cb ?_ | with_reducible refine Rd.bm ?_ | with_reducible refine Au.revL ?_ | with_reducible refine Rd.frl ?_ | with_reducible refine Rd.frt ?_ | with_reducible refine Rd.fre ?_ | with_reducible refine Rd.disp ?_ | with_reducible refine Rd.pnil ?_ | with_reducible refine Rd.pcons ?_ | with_reducible refine Rd.gcons ?_ | with_reducible refine Rd.gnil ?_ | with_reducible refine Rd.gsub ?_ | with_reducible refine Rd.setD ?_ | ((with_reducible show gTup _ _ _ _ _ (upd _ _ (HO.tup _)) _); refine Rd.tupNew rfl ?_) | with_reducible refine Rd.fld ?_ | with_reducible refine Rd.meth ?_ | with_reducible refine Rd.make ?_ | with_reducible refine Rd.prop ?_ | with_reducible refine Au.tup ?_ | with_reducible refine Au.lst ?_ | ((with_reducible refine Au.lenOk ?hl ?_); (case hl => exact rfl)) | with_reducible refine Au.nopart ?_ | with_reducible refine Au.part ?_ | with_reducible refine Au.isI ?_ | with_reducible refine Au.sl ?_ | with_reducible refine Au.pr2 ?_ | with_reducible refine Au.pr3 ?_ | with_reducible refine Au.eqB ?_ | with_reducible refine Rd.isInt ?_ | with_reducible refine Rd.isBool ?_ | with_reducible refine Rd.mx2 ?_ | with_reducible refine Rd.mn2 ?_ | ((with_reducible show Rd.rAndM _ _ _ _); first | refine Rd.and1 ?_ | refine Rd.and48 ?_ | refine Rd.and32 ?_ | refine Rd.and64 ?_ | refine Rd.and65 ?_) | ((with_reducible refine Rd.iC ?hc ?_); (case hc => walk_at "side")) | ((with_reducible refine Rd.yes ?hc ?_); (case hc => first | omega | exact rfl)) | ((with_reducible refine Rd.no ?hc ?_); (case hc => omega)) | ((with_reducible refine Rd.noN ?hc ?_); (case hc => first | omega | exact rfl)) | ((with_reducible refine Rd.yesN ?hc ?_); (case hc => omega)) | ((with_reducible refine Rd.yesNN ?hc ?_); (case hc => omega)) | ((with_reducible refine Rd.noNN ?hc ?_); (case hc => omega)) | with_reducible refine iteT ?_ | with_reducible refine iteF ?_ | with_reducible refine Rd.iteNT ?_ | with_reducible refine Rd.iteNF ?_)
local macro_rules | `(tactic| walk_at "rd") => `(tactic| repeat (walk_at "rd1"))
local macro_rules | `(tactic| walk_at "hp") => `(tactic| first | assumption | (apply Au.sm; (focus assumption); (walk_at "hp")) | (apply Au.smp; (focus assumption); (focus (walk_at "hp")); (walk_at "ne")) | (apply Au.smn; (focus assumption); (focus (walk_at "hp")); (focus (intro _ z; cases z; done))) | fail "hp")
local macro_rules | `(tactic| walk_at "ne") => `(tactic| first | assumption | (apply Ne.symm; assumption) | (apply Au.nen; (focus assumption); (walk_at "hp")) | (apply Au.nen'; (focus assumption); (walk_at "hp")) | (apply Au.nek; (focus assumption); (focus assumption); (intro z; cases z; done)) | (apply Au.nek2; (focus assumption); (focus (walk_at "hp")); (intro z; cases z; done)) | fail "ne")
local macro_rules | `(tactic| walk_at "dp") => `(tactic| first | exact Dp.int _ | exact Dp.str _ | exact Dp.bl _ | exact Dp.non | (apply Dp.lst; (focus (apply Rd.sql; walk_at "hp")); (walk_at "dps")) | (apply Dp.tup; (focus (apply Rd.sqt; walk_at "hp")); (walk_at "dps")) | fail "dp")
local macro_rules | `(tactic| walk_at "dps") => `(tactic| first | exact DpAll.nil | (apply DpAll.cons; (focus (walk_at "dp")); (walk_at "dps")) | fail "dps")
local macro_rules | `(tactic| walk_at "shp") => `(tactic| ((simp only [SeqAt.shaped, PyData.canLay0, PyData.canLayAll0, PyData.depth, PyData.depthAll]) <;> first | decide | rfl))
local macro_rules | `(tactic| walk_at "sd") => `(tactic| first | assumption | rfl | omega | (walk_at "hp") | (refine ⟨?_, ?_⟩; (focus (walk_at "sd")); (walk_at "sd")) | fail "sd")
local macro_rules | `(tactic| walk_at "lk") => `(tactic| first | exact Rd.lk1 | rfl | decide +kernel)
local macro_rules | `(tactic| walk_at "rd1") => `(tactic| first | with_reducible refine Pr.dget ?_ | with_reducible refine Pr.dput ?_ | with_reducible refine Pr.sfld ?_ | with_reducible refine Pr.u_isInt ?_ | ((with_reducible show Pr.spNeed _ _ _ _ _ _); refine Pr.u_need (by omega) (by omega) ?_) | ((with_reducible show Pr.spIs _ _ _ _ _ _); refine Pr.u_isIn (by omega) ?_) | ((with_reducible apply Rd.fld1); (focus (walk_at "hp")); (focus assumption); (focus assumption); (focus (walk_at "lk"))) | ((with_reducible apply Au.methO); (focus (walk_at "hp")); (focus (walk_at "lk"))) | ((with_reducible apply Au.propO); (focus (walk_at "hp"))) | ((with_reducible show rIxT _ (V.ref _) (V.int _) _ _); refine Rd.ixT (Rd.sqt (by walk_at "hp")) rfl ?_) | ((with_reducible show rIxL _ (V.ref _) (V.int _) _ _); refine Rd.ixL (Rd.sql (by walk_at "hp")) rfl ?_) | ((with_reducible show Rd.rLenQ _ [V.ref _] _ _); first | refine Rd.lenL (Rd.sql (by walk_at "hp")) ?_ | refine Rd.lenT (Rd.sqt (by walk_at "hp")) ?_) | ((with_reducible show gTup _ _ _ (V.ref _) _ _ _); refine Rd.gtup (Rd.sqt (by walk_at "hp")) rfl ?_) | with_reducible refine Gx.gat ?_ | with_reducible refine Gx.gnx ?_ | with_reducible refine Gx.gthen ?_ | with_reducible refine Gx.gplain ?_ | with_reducible refine Gx.gfr ?_ | with_reducible refine Gx.lg ?_ | with_reducible refine Gx.mg ?_ | with_reducible refine Gx.sme ?_ | with_reducible refine Gx.callSD ?_ | with_reducible refine Gx.methSD ?_)
local macro_rules | `(tactic| walk_at "rd1") => `(tactic| first | with_reducible refine Gx.mkR ?_ | ((with_reducible refine Gx.makeV ?hs ?_); (case hs => rfl)) | with_reducible refine Gx.smeX ?_ | with_reducible refine Gx.cmX ?_ | with_reducible refine Gx.isBl ?_ | with_reducible refine Gx.notBl ?_ | with_reducible refine Gx.xk ?_ | with_reducible refine Gx.fr3 ?_ | with_reducible refine Gx.makeD ?_ | with_reducible refine Gx.frz ?_ | with_reducible refine Gx.lcO ?_ | with_reducible refine Gx.itupO ?_ | with_reducible refine Gx.ilistO ?_ | with_reducible refine Gx.irng1O ?_ | with_reducible refine Gx.ival ?_ | ((with_reducible apply Gx.ivalO); (focus (walk_at "hp")); (focus assumption); (focus assumption); (focus (walk_at "lk"))) | ((with_reducible show Gx.rTupOf _ [V.ref _] _ _); refine Gx.tupOfL (Rd.sql (by walk_at "hp")) ?_) | ((with_reducible show Gx.rLstOf _ [V.ref _] _ _); first | refine Gx.lstOfL (Rd.sql (by walk_at "hp")) ?_ | refine Gx.lstOfT (Rd.sqt (by walk_at "hp")) ?_))
local macro_rules | `(tactic| walk_at "hp") => `(tactic| first | assumption | (apply Pr.smq; (focus assumption); (focus (walk_at "hp")); (focus (walk_at "ne")); (walk_at "ne")))
local macro_rules | `(tactic| walk_at "hp") => `(tactic| first | assumption | (apply smb; (focus assumption); (focus (walk_at "hp")); (focus assumption); assumption) | (apply smbK; (focus assumption); (focus (walk_at "hp")); (focus (walk_at "dr")); (constructor <;> (intro _ z; cases z; done))) | (apply smbN; (focus assumption); (focus (walk_at "hp")); (focus assumption); (walk_at "dr")))
local macro_rules | `(tactic| walk_at "dr") => `(tactic| first | assumption | (apply Draw.ex; (focus assumption); (walk_at "dr")) | (apply Draw.exp; (focus assumption); (focus (walk_at "dr")); (focus (walk_at "nd"))) | fail "dr")
local macro_rules | `(tactic| walk_at "nd") => `(tactic| first | assumption | (apply ndN; (focus assumption); (walk_at "dr")) | fail "nd")
theorem w_lawmap {B : Sx.Bs} {L : List Sx.En} {Q : VK} {E : XK} {n : Int} (n0 : 0 ≤ n) (n1 : n < 73786976294838206464) (z : ∀ t, Sx.W B ((t, Sx.Is (.tup [.int (ML.m1 n.toNat), .int (ML.m2 n.toNat)]), .nt) :: L) fun H => Q (.ref t) H) : Sx.W B L fun H => Sx.Do (spLawMap ([.int n] ++ []) H Q E) :=
  fun H S => ⟨n, rfl, n0, n1, fun t H' a b c => z t H' (S.nw a b c (.inl rfl) fun ps z => by cases z)⟩
theorem m2_mod (n : Nat) : ML.m2 (n % 281474976710656) = ML.m2 n := by
  have a := ML.mapped n 0
  have b := ML.mapped (n % 281474976710656) 0
  rw [ML.mv_mod n 0, ← a, Int.mul_zero, Int.mul_zero, Int.zero_add, Int.zero_add] at b
  have := ML.m2_rng n
  have := ML.m2_rng (n % 281474976710656)
  omega
theorem m1_mod (n : Nat) : ML.m1 (n % 281474976710656) = ML.m1 n := by
  have a := ML.mapped n 1
  have b := ML.mapped (n % 281474976710656) 1
  rw [ML.mv_mod n 1, ← a, Int.mul_one, Int.mul_one, m2_mod] at b
  have := ML.m1_rng n
  have := ML.m1_rng (n % 281474976710656)
  have := ML.m2_rng n
  omega
theorem toM {s : Int} (h : 0 ≤ s) : (s % 281474976710656).toNat = s.toNat % 281474976710656 := by omega
theorem m1I {s : Int} (h : 0 ≤ s) : ML.m1 (s % 281474976710656).toNat = ML.m1 s.toNat := by rw [toM h, m1_mod]
theorem m2I {s : Int} (h : 0 ≤ s) : ML.m2 (s % 281474976710656).toNat = ML.m2 s.toNat := by rw [toM h, m2_mod]
def spLaw (K : PySem.W.Frag) (TA1 TA2 : Addr) : Sp := fun vs H Q _ => ∃ (a : Addr) (ns : List Int), vs = [.ref a] ∧ SqL K H a (ns.map V.int) ∧ ns.length ≤ 63 ∧ LamX.Tabs (TLs TA1 TA2) H ∧ ∀ H', Q (.bl true) H'
local macro_rules | `(tactic| walk_at "sx1") => `(tactic| first | with_reducible refine Sx.seq ?_ | with_reducible refine Sx.asg ?_ | with_reducible refine Sx.nm ?_ | with_reducible refine Sx.next ?_ | ((with_reducible show Sx.W _ _ fun _ => tVar _ _ _ _); refine Sx.var rfl ?_) | with_reducible refine Sx.cst ?_ | with_reducible refine Sx.cons ?_ | with_reducible refine Sx.nil ?_ | with_reducible refine Sx.nxp ?_ | with_reducible refine Sx.op ?_ | with_reducible refine Sx.i0 ?_ | with_reducible refine Sx.tup ?_ | with_reducible refine Sx.lst ?_ | ((with_reducible apply Sx.lenOk); (focus (exact rfl))) | with_reducible refine Sx.newT ?_ | with_reducible refine Sx.newL ?_ | with_reducible refine Sx.call ?_ | ((with_reducible show Sx.W _ _ fun _ => Sx.Do _); walk_at "do1") | with_reducible refine Sx.meth ?_ | with_reducible refine Sx.prop ?_ | with_reducible refine Sx.fld ?_ | with_reducible refine Sx.ret ?_ | with_reducible refine Sx.rtp ?_ | with_reducible refine Sx.bkp ?_ | with_reducible refine Sx.ctp ?_ | with_reducible refine Sx.drop ?_ | with_reducible refine Sx.ifs ?_ | with_reducible refine Sx.par ?_ | with_reducible refine Sx.par3 ?_ | with_reducible refine Sx.pr2 ?_ | with_reducible refine Sx.pr3 ?_ | with_reducible refine Sx.un ?_ | with_reducible refine Sx.ung ?_ | with_reducible refine Sx.eqI ?_ | with_reducible refine Sx.neI ?_ | with_reducible refine Sx.eqS ?_ | with_reducible refine Sx.neS ?_ | with_reducible refine Sx.eqB ?_ | with_reducible refine Sx.isBl ?_ | with_reducible refine Sx.notBl ?_ | with_reducible refine Sx.test ?_ | with_reducible refine Sx.tstB ?_ | with_reducible refine Sx.isB ?_ | with_reducible refine Sx.isI ?_ | with_reducible refine Sx.refl1 ?_ | with_reducible refine Sx.not ?_ | with_reducible refine Sx.andT ?_ | with_reducible refine Sx.orT ?_ | with_reducible refine Sx.andV ?_ | with_reducible refine Sx.orV ?_ | with_reducible refine Sx.notV ?_ | with_reducible refine Sx.ifE ?_ | with_reducible refine Sx.chain ?_ | with_reducible refine Sx.cb ?_ | with_reducible refine Sx.bm ?_ | with_reducible refine Sx.retN ?_ | with_reducible refine Sx.brk ?_ | with_reducible refine Sx.cnt ?_ | with_reducible refine Sx.sme ?_ | with_reducible refine Sx.smeX ?_ | with_reducible refine Sx.cmX ?_ | with_reducible refine Sx.callSD ?_ | with_reducible refine Sx.methSD ?_ | ((with_reducible apply Sx.methO); (focus (walk_at "mem")); (focus (walk_at "lk"))) | ((with_reducible apply Sx.propO); (focus (walk_at "mem"))) | ((with_reducible apply Sx.fld1); (focus (walk_at "mem")); (focus (assumption)); (focus (assumption)); (focus (walk_at "lk"))) | ((with_reducible apply Sx.ivalO); (focus (walk_at "mem")); (focus (assumption)); (focus (assumption)); (focus (walk_at "lk"))) | with_reducible refine Sx.make ?_ | with_reducible refine Sx.mk1 ?_ | with_reducible refine Sx.ival ?_ | with_reducible refine Sx.sfld ?_ | ((with_reducible apply Sx.makeV); (focus (exact rfl))) | ((with_reducible apply Sx.stF); (focus (walk_at "mem")); (focus (assumption)); (focus (assumption)); (focus (exact rfl)); (focus (walk_at "putf")); (focus (walk_at "upd"))) | ((with_reducible apply Sx.ixT); (focus (walk_at "mem")); (focus (rfl))) | ((with_reducible apply Sx.ixL); (focus (walk_at "mem")); (focus (rfl))) | ((with_reducible apply Sx.lenL); (focus (walk_at "mem"))) | ((with_reducible apply Sx.lenT); (focus (walk_at "mem"))) | ((with_reducible apply Sx.tyL); (focus (walk_at "mem"))) | ((with_reducible apply Sx.app); (focus (walk_at "mem")); (focus (exact rfl)); (focus (walk_at "upd"))) | ((with_reducible apply Sx.cat); (focus (walk_at "mem")); (focus (walk_at "mem")); (focus (exact Nat.le_of_ble_eq_true rfl))) | ((with_reducible apply Sx.tupOfL); (focus (walk_at "mem"))) | ((with_reducible apply Sx.lstOfL); (focus (walk_at "mem"))) | ((with_reducible apply Sx.lstOfT); (focus (walk_at "mem"))) | with_reducible refine Sx.nopart ?_ | with_reducible refine Sx.part ?_ | with_reducible refine Sx.sl ?_ | with_reducible refine Sx.revL ?_ | ((with_reducible apply Sx.slL); (focus (walk_at "mem"))) | ((with_reducible apply Sx.gtup); (focus (walk_at "mem")); (focus (exact rfl))) | with_reducible refine Sx.gcons ?_ | with_reducible refine Sx.gnil ?_ | with_reducible refine Sx.gsub ?_ | ((with_reducible show Sx.W _ _ fun _ => Rd.rAndM _ _ _ _); first | refine Sx.and1 ?_ | refine Sx.and48 ?_ | refine Sx.and32 ?_ | refine Sx.and64 ?_ | refine Sx.and65 ?_) | with_reducible refine Sx.isInt ?_ | with_reducible refine Sx.isBool ?_ | with_reducible refine Sx.mx2 ?_ | with_reducible refine Sx.mn2 ?_ | with_reducible refine Sx.fr1 ?_ | with_reducible refine Sx.frl ?_ | with_reducible refine Sx.frt ?_ | with_reducible refine Sx.fre ?_ | with_reducible refine Sx.frz ?_ | with_reducible refine Sx.lcO ?_ | with_reducible refine Sx.itupO ?_ | with_reducible refine Sx.ilistO ?_ | with_reducible refine Sx.irng1O ?_ | with_reducible refine Sx.irng2O ?_ | with_reducible refine Sx.irng3O ?_ | with_reducible refine Sx.lg ?_ | with_reducible refine Sx.mg ?_ | with_reducible refine Sx.whN ?_ | ((with_reducible apply Sx.isOwn); (focus (assumption)); (focus (walk_at "mem"))) | ((with_reducible apply Sx.isTT); (focus (walk_at "mem"))) | ((with_reducible refine Sx.iC ?hc ?_); (case hc => walk_at "side")) | ((with_reducible refine Sx.yes ?hc ?_); (case hc => first | omega | exact rfl)) | ((with_reducible refine Sx.no ?hc ?_); (case hc => first | omega | (intro z; cases z; done))) | ((with_reducible refine Sx.noN ?hc ?_); (case hc => first | omega | exact rfl)) | ((with_reducible refine Sx.yesN ?hc ?_); (case hc => omega)) | ((with_reducible refine Sx.yesNN ?hc ?_); (case hc => first | omega | exact rfl)) | ((with_reducible refine Sx.noNN ?hc ?_); (case hc => omega)) | with_reducible refine Sx.tT ?_ | with_reducible refine Sx.tF ?_ | with_reducible refine Sx.tNT ?_ | with_reducible refine Sx.tNF ?_ | ((with_reducible apply Sx.rpr); (focus (walk_at "dpw")); (focus (walk_at "okd"))))
local macro_rules | `(tactic| walk_at "sx") => `(tactic| repeat (walk_at "sx1"))
local macro_rules | `(tactic| walk_at "mem") => `(tactic| first | assumption | with_reducible exact List.mem_cons_self | ((with_reducible apply List.mem_cons_of_mem); walk_at "mem") | ((with_reducible apply List.mem_append_right); walk_at "mem") | fail "mem")
local macro_rules | `(tactic| walk_at "upd") => `(tactic| first | with_reducible exact Sx.Upd.hd rfl | ((with_reducible apply Sx.Upd.tl); walk_at "upd") | ((with_reducible apply Sx.Upd.ap); walk_at "upd") | fail "upd")
local macro_rules | `(tactic| walk_at "sel") => `(tactic| first | with_reducible exact Sx.Sel.hd rfl | ((with_reducible apply Sx.Sel.tl); walk_at "sel") | ((with_reducible apply Sx.Sel.ap); walk_at "sel") | fail "sel")
local macro_rules | `(tactic| walk_at "rm") => `(tactic| first | with_reducible exact Sx.Rm.hd | ((with_reducible apply Sx.Rm.tl); walk_at "rm") | ((with_reducible apply Sx.Rm.ap); walk_at "rm") | fail "rm")
local macro_rules | `(tactic| walk_at "findr") => `(tactic| first | with_reducible exact Sx.FindR.nil | ((with_reducible apply Sx.FindR.cons); (focus (walk_at "mem")); walk_at "findr") | fail "findr")
local macro_rules | `(tactic| walk_at "find") => `(tactic| first | ((with_reducible apply Sx.Find.mu); (focus (walk_at "sel")); walk_at "find") | ((with_reducible apply Sx.Find.ros); walk_at "findr") | fail "find")
local macro_rules | `(tactic| walk_at "rep") => `(tactic| first | with_reducible exact Sx.Rep.nil | ((with_reducible apply Sx.Rep.ro); walk_at "rep") | ((with_reducible apply Sx.Rep.nt); walk_at "rep") | ((with_reducible apply Sx.Rep.nm); walk_at "rep") | ((with_reducible apply Sx.Rep.mu); (focus (walk_at "upd")); walk_at "rep") | fail "rep")
local macro_rules | `(tactic| walk_at "le") => `(tactic| first | with_reducible exact Sx.Cl.le.rfl | (refine Sx.DrC.le ?_; omega) | fail "le")
local macro_rules | `(tactic| walk_at "sub") => `(tactic| first | with_reducible exact Sx.Sub.rfl | with_reducible exact Sx.Sub.nil | ((with_reducible apply Sx.Sub.cons); (focus (walk_at "rm")); (focus (walk_at "le")); walk_at "sub") | ((with_reducible apply Sx.Sub.ap); walk_at "sub") | ((show Sx.Sub (_ :: _) _); (with_reducible apply Sx.Sub.cons); (focus (walk_at "rm")); (focus (walk_at "le")); walk_at "sub") | ((with_reducible apply Sx.Sub.dr); walk_at "sub") | exact Sx.Sub.rfl | fail "sub")
local macro_rules | `(tactic| walk_at "dpw") => `(tactic| first | with_reducible exact Sx.dpI | with_reducible exact Sx.dpS | with_reducible exact Sx.dpB | with_reducible exact Sx.dpN | ((with_reducible apply Sx.dpT); (focus (walk_at "mem")); walk_at "dpa") | ((with_reducible apply Sx.dpL); (focus (walk_at "mem")); walk_at "dpa") | fail "dpw")
local macro_rules | `(tactic| walk_at "dpa") => `(tactic| first | with_reducible exact Sx.dpNil | ((with_reducible apply Sx.dpCons); (focus (walk_at "dpw")); walk_at "dpa") | with_reducible exact Sx.dpInts | fail "dpa")
local macro_rules | `(tactic| walk_at "sml") => `(tactic| first | exact trivial | (refine Sx.lt600 ?_; omega) | (refine And.intro ?_ ?_; (focus (walk_at "sml")); walk_at "sml") | decide +kernel)
local macro_rules | `(tactic| walk_at "okd") => `(tactic| first | assumption | ((refine Gx.okd ?s ?d ?n); (case s => (simp only [Gx.Sml, Gx.SmlAll]; walk_at "sml")); (case d => (simp only [PyData.depth, PyData.depthAll]; decide)); (case n => (simp only [Gx.nodes, Gx.nodesAll]; decide))) | ((refine Gx.okdS ?s ?d ?n); (case s => (simp only [Gx.SmS, Gx.SmSAll]; walk_at "sml")); (case d => (simp only [PyData.depth, PyData.depthAll]; decide)); (case n => (simp only [Gx.nodes, Gx.nodesAll]; decide))) | fail "okd")
local macro_rules | `(tactic| walk_at "putf") => `(tactic| first | rfl)
local macro_rules | `(tactic| walk_at "do1") => `(tactic| first | ((with_reducible apply w_isMap); (focus (walk_at "mem")); (focus (walk_at "sdw")); (focus (walk_at "sdw"))) | ((with_reducible apply w_step); (focus (omega)); (focus (omega))) | ((with_reducible apply w_join); (focus (walk_at "mem")); (focus (walk_at "mem")); (focus (walk_at "sdw")); (focus (walk_at "sdw")); (focus (walk_at "sdw")); (focus (walk_at "sdw"))) | ((with_reducible apply w_map); (focus (walk_at "mem")); (focus (walk_at "sdw")); (focus (walk_at "sdw")); (focus (walk_at "sdw"))) | ((with_reducible apply w_next); (focus (walk_at "mem")); (focus (walk_at "mem")); (focus (first | decide | omega)); (focus (first | decide | omega))) | ((with_reducible apply w_pick); (focus (walk_at "mem")); (focus (walk_at "mem"))) | ((with_reducible apply w_lawmap); (focus (omega)); (focus (omega))) | ((with_reducible apply w_begun); (focus (assumption)); (focus (assumption))) | ((with_reducible apply Sx.do_need); (focus (omega)); (focus (omega))) | with_reducible refine Sx.do_isInt ?_ | ((with_reducible apply Sx.do_isIn); (focus (walk_at "sdw"))) | ((with_reducible apply Sx.do_needX); (focus (omega)); (focus (omega))) | ((with_reducible apply Sx.do_eq); (focus (rfl))) | ((with_reducible apply Sx.do_pre0); (focus (walk_at "find"))) | ((with_reducible apply Sx.do_post0); (focus (walk_at "rep")); (focus (exact fun c h => h))) | ((with_reducible apply Sx.do_preT); (focus (walk_at "find"))) | ((with_reducible apply Sx.do_postT); (focus (walk_at "rep")); (focus (exact fun c h => h))) | with_reducible refine Sx.do_newT ?_ | with_reducible refine Sx.do_newL ?_ | with_reducible refine Sx.do_newI ?_ | ((with_reducible apply Sx.do_set); (focus (walk_at "upd")); (focus (exact trivial))) | with_reducible refine Sx.do_exH ?_ | with_reducible refine Sx.do_assoc ?_ | ((with_reducible apply Sx.do_at); (focus (walk_at "mem"))) | ((with_reducible apply Sx.do_sqt); (focus (walk_at "mem"))) | ((with_reducible apply Sx.do_sql); (focus (walk_at "mem"))) | ((with_reducible apply Sx.do_nm); (focus (walk_at "sdw"))) | with_reducible refine Sx.do_vint ?_ | with_reducible refine Sx.do_rfl ?_ | with_reducible exact Sx.do_no | with_reducible refine Sx.do_xs ?_ | ((with_reducible apply Sx.do_and); (focus (walk_at "sdw"))) | ((with_reducible refine Sx.do_two ?a ?b); (case b => (walk_at "do"; done))) | ((with_reducible refine Sx.do_imp ?_); intro _) | ((with_reducible refine Sx.do_all ?_); intro _) | with_reducible apply Sx.do_ex | ((fail_if_success (with_reducible refine Sx.do_two ?_ ?_)); (with_reducible refine Sx.do_q ?_); walk_at "sx1"))
local macro_rules | `(tactic| walk_at "do") => `(tactic| repeat ((with_reducible show Sx.W _ _ fun _ => Sx.Do _); walk_at "do1"))
local macro_rules | `(tactic| walk_at "sdw") => `(tactic| first | assumption | omega | with_reducible rfl | exact Nat.le_of_ble_eq_true rfl | (refine ⟨?_, ?_⟩; (focus (walk_at "sdw")); walk_at "sdw") | fail "sdw")
theorem fn_law (T : Txt K mg C_DrawError C_BadNumber C_BadState C_BadSteps CO__law_maps_right CO__law_refused_right) {TA1 TA2 : Addr} (TBp__law_maps_right : LamX.TabB base mg CO__law_maps_right TA1 ∧ TA1 ≠ TA2) (TBp__law_refused_right : LamX.TabB base mg CO__law_refused_right TA2 ∧ TA1 ≠ TA2) {f : Addr} {fd : FuncData} (F : C8.Def K mg "law" s_law f fd) : Gx.FnG P w K mg base 10 f fd ["_law_script"] (spLaw K TA1 TA2) := by
  refine Gx.fnG_of F.fn sc_law (fun vs H Q E h => ?_) (fun cdv A outer s H vs Q gd hr h => ?_)
  · obtain ⟨a, ns, rfl, _⟩ := h; rfl
  · obtain ⟨a, ns, rfl, hS, hl, hT, q⟩ := h
    have hu := hu_of hr
    have hu64 := hr.units
    refine ⟨_, (pss_cons (ps_set (i := 1) sc_law.nd rfl (.inl rfl) (C8.pe_c (cal__law_begun T) hr (by omega) (by rfl) (pa_cons (pv 0) pa_nil)))
      (pss_cons (ps_for PassesOwn.never rfl (pi_range1 rfl T.b_range (pa_cons (pe_op op_add pe_int (pe_callB (Rd.call_mn2 rfl) (by rfl) T.b_min (by decide +kernel) (pa_cons pe_int (pa_cons (pe_op op_fdivW (pe_callB Rd.call_lenQ (by rfl) T.b_len PySem.boot_len (pa_cons (pv 0) pa_nil)) pe_int) pa_nil)))) pa_nil)) (pg_name (i := 2) sc_law.nd rfl (.inl rfl)) (pss_cons (ps_par3 (i := 3) (j := 4) (l := 5) rfl sc_law.nd rfl rfl rfl (by decide) (by decide) (by decide) rfl rfl rfl (pa_cons (C8.pe_c (cal__law_steps T) hr (by omega) (by rfl) (pa_cons (pv 1) pa_nil)) (pa_cons (C8.pe_c (cal__law_steps T) hr (by omega) (by rfl) (pa_cons (pv 1) pa_nil)) (pa_cons (C8.pe_c (cal__law_x T) hr (by omega) (by rfl) (pa_cons (pv 1) pa_nil)) pa_nil))) (by rfl))
      (pss_cons (ps_par (i := 6) (j := 7) rfl sc_law.nd rfl rfl (by decide) rfl rfl (pa_cons (Gx.pe_cx (calx_step_map T) LamX.takes0 (E := fun _ _ _ => False) (fun _ _ _ _ h => h) hr (by omega) (by rfl) (pa_cons (pv 3) pa_nil)) (pa_cons (Gx.pe_cx (calx_step_map T) LamX.takes0 (E := fun _ _ _ => False) (fun _ _ _ _ h => h) hr (by omega) (by rfl) (pa_cons (pv 4) pa_nil)) pa_nil)) (by rfl))
      (pss_cons (ps_if (PW.pt (pw_or (pt_cmpR op_ne (pe_callB (Gx.call_repr gd hu64) (by rfl) T.b_repr (by decide +kernel) (pa_cons (pe_lst (pa_cons (pv 6) (pa_cons (pv 7) pa_nil))) pa_nil)) (pe_callB (Gx.call_repr gd hu64) (by rfl) T.b_repr (by decide +kernel) (pa_cons (pe_lst (pa_cons (C8.pe_c (cal__law_map T) hr (by omega) (by rfl) (pa_cons (pv 3) pa_nil)) (pa_cons (C8.pe_c (cal__law_map T) hr (by omega) (by rfl) (pa_cons (pv 4) pa_nil)) pa_nil))) pa_nil)) (nomark _)) (pw_or1 (pt_not (pt_val (Gx.pe_g (cal__law_maps_right T TBp__law_maps_right) gd hr (by omega) (by rfl) (pa_cons (pv 6) (pa_cons (pv 7) (pa_cons (pv 5) pa_nil))))))))) (pss_one (ps_ret pe_bl)) pss_nil)
      (pss_cons (ps_if (pt_cmpR (op_neD hu64) (Gx.pe_cx (calx_joined T) LamX.takes0 (E := fun _ _ _ => False) (fun _ _ _ _ h => h) hr (by omega) (by rfl) (pa_cons (pv 6) (pa_cons (pv 7) pa_nil))) (C8.pe_c (cal__law_map T) hr (by omega) (by rfl) (pa_cons (pe_op op_mod (pe_op op_add (pv 3) (pv 4)) pe_int) pa_nil)) (nomark _)) (pss_one (ps_ret pe_bl)) pss_nil)
      (pss_cons (ps_par (i := 6) (j := 7) rfl sc_law.nd rfl rfl (by decide) rfl rfl (pa_cons (pe_tup (pa_cons (C8.pe_c (cal__law_x T) hr (by omega) (by rfl) (pa_cons (pv 1) pa_nil)) (pa_cons (C8.pe_c (cal__law_x T) hr (by omega) (by rfl) (pa_cons (pv 1) pa_nil)) pa_nil))) (pa_cons (pe_tup (pa_cons (C8.pe_c (cal__law_x T) hr (by omega) (by rfl) (pa_cons (pv 1) pa_nil)) (pa_cons (C8.pe_c (cal__law_x T) hr (by omega) (by rfl) (pa_cons (pv 1) pa_nil)) pa_nil))) pa_nil)) (by rfl))
      (pss_one (ps_if (PW.pt (pw_or (pt_not (pt_val (Gx.pe_g (cal__law_maps_right T TBp__law_maps_right) gd hr (by omega) (by rfl) (pa_cons (pv 6) (pa_cons (pv 7) (pa_cons (pv 5) pa_nil)))))) (pw_or1 (pt_not (pt_val (Gx.pe_g (cal__law_refused_right T TBp__law_refused_right) gd hr (by omega) (by rfl) (pa_cons (pv 1) (pa_cons (pv 6) (pa_cons (pv 5) pa_nil))))))))) (pss_one (ps_ret pe_bl)) pss_nil))))))))
      (pss_one (ps_ret pe_bl)))), ?_⟩
    refine Sx.enter (Sx.Hs.nilT hT) ?_
    walk_at "sx"
    intro dw g
    walk_at "sx"
    refine Sx.lenLS hS ?_
    walk_at "sx"
    rw [List.length_map]
    generalize hk : (6 + if (ns.length : Int) / 3 < 8 then (ns.length : Int) / 3 else 8 : Int) = kk
    have k0 : 0 ≤ kk ∧ kk ≤ 14 := by split at hk <;> omega
    clear hk
    obtain ⟨n, rfl⟩ := Int.eq_ofNat_of_zero_le k0.1
    refine Sx.frN rfl (by omega) (fun i σ L => ∃ y2 y3 y4 y5 y6 y7, σ = [some (.ref a), some (.ref dw), y2, y3, y4, y5, y6, y7] ∧ L = [(dw, Sx.DkC "run" g, .nm), (g, Sx.LiC, .nm)]) ⟨_, ⟨_, _, _, _, _, _, rfl, rfl⟩, by walk_at "sub"⟩ ?_ ?_
    · rintro i σ L hi ⟨y2, y3, y4, y5, y6, y7, rfl, rfl⟩
      walk_at "sx"
      intro s s0 s1
      walk_at "sx"
      intro m m0 m1
      walk_at "sx"
      intro x x0 x1
      have hx : InM x := ⟨x0, x1⟩
      walk_at "sx"
      rw [m1I s0, m2I s0]
      intro o
      walk_at "sx"
      rw [m1I m0, m2I m0]
      have r1 := m1r s.toNat
      have r2 := m2r s.toNat
      have r3 := m1r m.toNat
      have r4 := m2r m.toNat
      have ⟨g1, g2⟩ := r1
      have ⟨g3, g4⟩ := r2
      have ⟨g5, g6⟩ := r3
      have ⟨g7, g8⟩ := r4
      intro t
      walk_at "sx"
      intro rl
      walk_at "sx"
      intro u1
      walk_at "sx"
      intro u2
      walk_at "sx"
      intro ul
      walk_at "sx"
      rw [ML.join1, ML.join2]
      intro j1
      walk_at "sx"
      rw [m1I (show 0 ≤ s + m by omega), m2I (show 0 ≤ s + m by omega), show (s + m).toNat = s.toNat + m.toNat by omega]
      intro j2
      walk_at "sx"
      refine Sx.neDs (d := .tuple [.int (ML.m1 (s.toNat + m.toNat)), .int (ML.m2 (s.toNat + m.toNat))]) (by walk_at "dpw") (by walk_at "dpw") shpP ?_
      walk_at "sx"
      intro a1 a2 a3
      walk_at "sx"
      intro b1 b2 b3
      walk_at "sx"
      intro w1
      walk_at "sx"
      intro c1 c2 c3
      walk_at "sx"
      intro e1 e2 e3
      have ha : InM a1 := ⟨a2, a3⟩
      have hb : InM b1 := ⟨b2, b3⟩
      have hc : InM c1 := ⟨c2, c3⟩
      have he : InM e1 := ⟨e2, e3⟩
      walk_at "sx"
      intro w2
      walk_at "sx"
      exact Sx.fin_in ⟨_, _, _, _, _, _, rfl, rfl⟩ (by walk_at "sub")
    · rintro σ L ⟨_, _, _, _, _, _, rfl, _⟩
      walk_at "sx"
      exact fun H _ => q H
end
end Pf

set_option Elab.async false
set_option linter.all false
set_option maxRecDepth 100000
set_option maxHeartbeats 4000000
set_option exponentiation.threshold 3000
namespace Pf
open PySem PySem.Spec PyProof.Rows L2
theorem law_mk {l : PySem.W.OpenLaw} {w : World} {K : PySem.W.Frag} {mg : Str → Option Value} {fa C_DrawError C_BadNumber C_BadState C_BadSteps CO__law_maps_right CO__law_refused_right TA1 TA2 : Addr} {h : Heap} (hmg : mg "law" = some (.ref fa)) (T : Txt K mg C_DrawError C_BadNumber C_BadState C_BadSteps CO__law_maps_right CO__law_refused_right)
    (hT : h.get? TA1 = some { cls := .none, data := .fields #[] }) (nT : K.lookup TA1 = none) (hC : PySem.W.CodeHd h CO__law_maps_right TA1)
    (hT' : h.get? TA2 = some { cls := .none, data := .fields #[] }) (nT' : K.lookup TA2 = none) (hC' : PySem.W.CodeHd h CO__law_refused_right TA2) (NE : TA1 ≠ TA2) : Gx.LawG l w K 10 "_law_script" mg fa h := by
  obtain ⟨f, fd, F, b, hb⟩ := T.d_law
  have e := hmg.symm.trans F.mgf
  cases e
  refine ⟨fd, [(CO__law_maps_right, TA1), (CO__law_refused_right, TA2)], spLaw K TA1 TA2, fun p hp => ?_, fun p hp => ?_, fun p hp => ?_, hb, fun H a ns hl _ hH hS => ⟨a, ns, rfl, hS, hl, fun p hp => ?_, fun _ => rfl⟩, fun base _ _ hTB => fn_law T ⟨hTB _ List.mem_cons_self, NE⟩ ⟨hTB _ (List.mem_cons_of_mem _ List.mem_cons_self), NE⟩ F⟩
  · rcases List.mem_cons.mp hp with rfl | hp
    · exact hT
    · cases List.mem_singleton.mp hp; exact hT'
  · rcases List.mem_cons.mp hp with rfl | hp
    · exact nT
    · cases List.mem_singleton.mp hp; exact nT'
  · rcases List.mem_cons.mp hp with rfl | hp
    · exact hC
    · cases List.mem_singleton.mp hp; exact hC'
  · rcases List.mem_cons.mp hp with rfl | hp
    · exact ⟨#[], hH _ List.mem_cons_self, by first | exact .nil | simp [LamX.TriplesOk] | trivial, fun pos cv hc => by simp [codeAmong] at hc⟩
    · cases List.mem_singleton.mp hp
      exact ⟨#[], hH _ (List.mem_cons_of_mem _ List.mem_cons_self), by first | exact .nil | simp [LamX.TriplesOk] | trivial, fun pos cv hc => by simp [codeAmong] at hc⟩
set_option maxHeartbeats 4000000 in
theorem txt_mk {K : PySem.W.Frag} {h : Heap} {mg : Str → Option Value} {f_BadState___init__ f_BadSteps___init__ f_BadNumber___init__ f_is_integer f_need_steps f_s2_is_number f_s2_need_start f_is_map f_s2_need_map f_s2_joined f_s2_step_map f_s2_mapped f_step_map f_joined f_inverted f_mapped f__law_begun f__law_next f__law_x f__law_steps f__law_digits f__law_map f__law_said f__law_maps_right f__law_refused_right f_law CO__law_maps_right CO__law_refused_right C_DrawError C_BadNumber C_BadState C_BadSteps : Addr} {od_BadState___init__ an_BadState___init__ od_BadSteps___init__ an_BadSteps___init__ od_BadNumber___init__ an_BadNumber___init__ od_is_integer an_is_integer od_need_steps an_need_steps od_s2_is_number an_s2_is_number od_s2_need_start an_s2_need_start od_is_map an_is_map od_s2_need_map an_s2_need_map od_s2_joined an_s2_joined od_s2_step_map an_s2_step_map od_s2_mapped an_s2_mapped od_step_map an_step_map od_joined an_joined od_inverted an_inverted od_mapped an_mapped od__law_begun an__law_begun od__law_next an__law_next od__law_x an__law_x od__law_steps an__law_steps od__law_digits an__law_digits od__law_map an__law_map od__law_said an__law_said od__law_maps_right an__law_maps_right od__law_refused_right an__law_refused_right od_law an_law : Option Addr} {sl_BadState___init__ sl_BadSteps___init__ sl_BadNumber___init__ sl_is_integer sl_need_steps sl_s2_is_number sl_s2_need_start sl_is_map sl_s2_need_map sl_s2_joined sl_s2_step_map sl_s2_mapped sl_step_map sl_joined sl_inverted sl_mapped sl__law_begun sl__law_next sl__law_x sl__law_steps sl__law_digits sl__law_map sl__law_said sl__law_maps_right sl__law_refused_right sl_law : Array (Option Value)} {oc_BadState___init__ kV_BadState___init__ dc_BadState___init__ pm_BadState___init__ cd_BadState___init__ ct_BadState___init__ oc_BadSteps___init__ kV_BadSteps___init__ dc_BadSteps___init__ pm_BadSteps___init__ cd_BadSteps___init__ ct_BadSteps___init__ oc_BadNumber___init__ kV_BadNumber___init__ dc_BadNumber___init__ pm_BadNumber___init__ cd_BadNumber___init__ ct_BadNumber___init__ oc_is_integer kV_is_integer dc_is_integer pm_is_integer cd_is_integer ct_is_integer oc_need_steps kV_need_steps dc_need_steps pm_need_steps cd_need_steps ct_need_steps oc_s2_is_number kV_s2_is_number dc_s2_is_number pm_s2_is_number cd_s2_is_number ct_s2_is_number oc_s2_need_start kV_s2_need_start dc_s2_need_start pm_s2_need_start cd_s2_need_start ct_s2_need_start oc_is_map kV_is_map dc_is_map pm_is_map cd_is_map ct_is_map oc_s2_need_map kV_s2_need_map dc_s2_need_map pm_s2_need_map cd_s2_need_map ct_s2_need_map oc_s2_joined kV_s2_joined dc_s2_joined pm_s2_joined cd_s2_joined ct_s2_joined oc_s2_step_map kV_s2_step_map dc_s2_step_map pm_s2_step_map cd_s2_step_map ct_s2_step_map oc_s2_mapped kV_s2_mapped dc_s2_mapped pm_s2_mapped cd_s2_mapped ct_s2_mapped oc_step_map kV_step_map dc_step_map pm_step_map cd_step_map ct_step_map oc_joined kV_joined dc_joined pm_joined cd_joined ct_joined oc_inverted kV_inverted dc_inverted pm_inverted cd_inverted ct_inverted oc_mapped kV_mapped dc_mapped pm_mapped cd_mapped ct_mapped oc__law_begun kV__law_begun dc__law_begun pm__law_begun cd__law_begun ct__law_begun oc__law_next kV__law_next dc__law_next pm__law_next cd__law_next ct__law_next oc__law_x kV__law_x dc__law_x pm__law_x cd__law_x ct__law_x oc__law_steps kV__law_steps dc__law_steps pm__law_steps cd__law_steps ct__law_steps oc__law_digits kV__law_digits dc__law_digits pm__law_digits cd__law_digits ct__law_digits oc__law_map kV__law_map dc__law_map pm__law_map cd__law_map ct__law_map oc__law_said kV__law_said dc__law_said pm__law_said cd__law_said ct__law_said oc__law_maps_right kV__law_maps_right dc__law_maps_right pm__law_maps_right ct__law_maps_right oc__law_refused_right kV__law_refused_right dc__law_refused_right pm__law_refused_right ct__law_refused_right oc_law kV_law dc_law pm_law cd_law ct_law : Value} {tk_MOST_STEPS tk_MODULUS tk_MULTIPLIER tk_ADDEND : Tok} (X : K.In h) (G : h.Ns mainGlobals mg)
    (a_BadState___init__ : PySem.W.findIn K (.ref C_BadState) "__init__" = some (some (.ref f_BadState___init__)))
    (ti_BadState___init__ : PySem.W.typeIn K (.ref f_BadState___init__) = some (.type "function"))
    (l_BadState___init__ : K.lookup f_BadState___init__ = some ⟨oc_BadState___init__, od_BadState___init__, .func (PySem.W.fnOf "__init__" "BadState.__init__" (C8.fnArgs s_BadState___init__) (C8.fnBody s_BadState___init__) (C8.fnScope s_BadState___init__) .none kV_BadState___init__ dc_BadState___init__ pm_BadState___init__ an_BadState___init__ cd_BadState___init__ ct_BadState___init__), sl_BadState___init__⟩)
    (c_BadState___init__ : PySem.W.codeIn K cd_BadState___init__ "BadState.__init__" = true)
    (a_BadSteps___init__ : PySem.W.findIn K (.ref C_BadSteps) "__init__" = some (some (.ref f_BadSteps___init__)))
    (ti_BadSteps___init__ : PySem.W.typeIn K (.ref f_BadSteps___init__) = some (.type "function"))
    (l_BadSteps___init__ : K.lookup f_BadSteps___init__ = some ⟨oc_BadSteps___init__, od_BadSteps___init__, .func (PySem.W.fnOf "__init__" "BadSteps.__init__" (C8.fnArgs s_BadSteps___init__) (C8.fnBody s_BadSteps___init__) (C8.fnScope s_BadSteps___init__) .none kV_BadSteps___init__ dc_BadSteps___init__ pm_BadSteps___init__ an_BadSteps___init__ cd_BadSteps___init__ ct_BadSteps___init__), sl_BadSteps___init__⟩)
    (c_BadSteps___init__ : PySem.W.codeIn K cd_BadSteps___init__ "BadSteps.__init__" = true)
    (a_BadNumber___init__ : PySem.W.findIn K (.ref C_BadNumber) "__init__" = some (some (.ref f_BadNumber___init__)))
    (ti_BadNumber___init__ : PySem.W.typeIn K (.ref f_BadNumber___init__) = some (.type "function"))
    (l_BadNumber___init__ : K.lookup f_BadNumber___init__ = some ⟨oc_BadNumber___init__, od_BadNumber___init__, .func (PySem.W.fnOf "__init__" "BadNumber.__init__" (C8.fnArgs s_BadNumber___init__) (C8.fnBody s_BadNumber___init__) (C8.fnScope s_BadNumber___init__) .none kV_BadNumber___init__ dc_BadNumber___init__ pm_BadNumber___init__ an_BadNumber___init__ cd_BadNumber___init__ ct_BadNumber___init__), sl_BadNumber___init__⟩)
    (c_BadNumber___init__ : PySem.W.codeIn K cd_BadNumber___init__ "BadNumber.__init__" = true)
    (a_is_integer : PySem.W.nsIn K mainGlobals "is_integer" = some (some (.ref f_is_integer)))
    (l_is_integer : K.lookup f_is_integer = some ⟨oc_is_integer, od_is_integer, .func (PySem.W.fnOf "is_integer" "is_integer" (C8.fnArgs s_is_integer) (C8.fnBody s_is_integer) (C8.fnScope s_is_integer) .none kV_is_integer dc_is_integer pm_is_integer an_is_integer cd_is_integer ct_is_integer), sl_is_integer⟩)
    (c_is_integer : PySem.W.codeIn K cd_is_integer "is_integer" = true)
    (k_is_integer : PySem.W.keepIn K (.ref f_is_integer) = true)
    (a_need_steps : PySem.W.nsIn K mainGlobals "need_steps" = some (some (.ref f_need_steps)))
    (l_need_steps : K.lookup f_need_steps = some ⟨oc_need_steps, od_need_steps, .func (PySem.W.fnOf "need_steps" "need_steps" (C8.fnArgs s_need_steps) (C8.fnBody s_need_steps) (C8.fnScope s_need_steps) .none kV_need_steps dc_need_steps pm_need_steps an_need_steps cd_need_steps ct_need_steps), sl_need_steps⟩)
    (c_need_steps : PySem.W.codeIn K cd_need_steps "need_steps" = true)
    (k_need_steps : PySem.W.keepIn K (.ref f_need_steps) = true)
    (a_s2_is_number : PySem.W.nsIn K mainGlobals "s2_is_number" = some (some (.ref f_s2_is_number)))
    (l_s2_is_number : K.lookup f_s2_is_number = some ⟨oc_s2_is_number, od_s2_is_number, .func (PySem.W.fnOf "s2_is_number" "s2_is_number" (C8.fnArgs s_s2_is_number) (C8.fnBody s_s2_is_number) (C8.fnScope s_s2_is_number) .none kV_s2_is_number dc_s2_is_number pm_s2_is_number an_s2_is_number cd_s2_is_number ct_s2_is_number), sl_s2_is_number⟩)
    (c_s2_is_number : PySem.W.codeIn K cd_s2_is_number "s2_is_number" = true)
    (k_s2_is_number : PySem.W.keepIn K (.ref f_s2_is_number) = true)
    (a_s2_need_start : PySem.W.nsIn K mainGlobals "s2_need_start" = some (some (.ref f_s2_need_start)))
    (l_s2_need_start : K.lookup f_s2_need_start = some ⟨oc_s2_need_start, od_s2_need_start, .func (PySem.W.fnOf "s2_need_start" "s2_need_start" (C8.fnArgs s_s2_need_start) (C8.fnBody s_s2_need_start) (C8.fnScope s_s2_need_start) .none kV_s2_need_start dc_s2_need_start pm_s2_need_start an_s2_need_start cd_s2_need_start ct_s2_need_start), sl_s2_need_start⟩)
    (c_s2_need_start : PySem.W.codeIn K cd_s2_need_start "s2_need_start" = true)
    (k_s2_need_start : PySem.W.keepIn K (.ref f_s2_need_start) = true)
    (a_is_map : PySem.W.nsIn K mainGlobals "is_map" = some (some (.ref f_is_map)))
    (l_is_map : K.lookup f_is_map = some ⟨oc_is_map, od_is_map, .func (PySem.W.fnOf "is_map" "is_map" (C8.fnArgs s_is_map) (C8.fnBody s_is_map) (C8.fnScope s_is_map) .none kV_is_map dc_is_map pm_is_map an_is_map cd_is_map ct_is_map), sl_is_map⟩)
    (c_is_map : PySem.W.codeIn K cd_is_map "is_map" = true)
    (k_is_map : PySem.W.keepIn K (.ref f_is_map) = true)
    (a_s2_need_map : PySem.W.nsIn K mainGlobals "s2_need_map" = some (some (.ref f_s2_need_map)))
    (l_s2_need_map : K.lookup f_s2_need_map = some ⟨oc_s2_need_map, od_s2_need_map, .func (PySem.W.fnOf "s2_need_map" "s2_need_map" (C8.fnArgs s_s2_need_map) (C8.fnBody s_s2_need_map) (C8.fnScope s_s2_need_map) .none kV_s2_need_map dc_s2_need_map pm_s2_need_map an_s2_need_map cd_s2_need_map ct_s2_need_map), sl_s2_need_map⟩)
    (c_s2_need_map : PySem.W.codeIn K cd_s2_need_map "s2_need_map" = true)
    (k_s2_need_map : PySem.W.keepIn K (.ref f_s2_need_map) = true)
    (a_s2_joined : PySem.W.nsIn K mainGlobals "s2_joined" = some (some (.ref f_s2_joined)))
    (l_s2_joined : K.lookup f_s2_joined = some ⟨oc_s2_joined, od_s2_joined, .func (PySem.W.fnOf "s2_joined" "s2_joined" (C8.fnArgs s_s2_joined) (C8.fnBody s_s2_joined) (C8.fnScope s_s2_joined) .none kV_s2_joined dc_s2_joined pm_s2_joined an_s2_joined cd_s2_joined ct_s2_joined), sl_s2_joined⟩)
    (c_s2_joined : PySem.W.codeIn K cd_s2_joined "s2_joined" = true)
    (k_s2_joined : PySem.W.keepIn K (.ref f_s2_joined) = true)
    (a_s2_step_map : PySem.W.nsIn K mainGlobals "s2_step_map" = some (some (.ref f_s2_step_map)))
    (l_s2_step_map : K.lookup f_s2_step_map = some ⟨oc_s2_step_map, od_s2_step_map, .func (PySem.W.fnOf "s2_step_map" "s2_step_map" (C8.fnArgs s_s2_step_map) (C8.fnBody s_s2_step_map) (C8.fnScope s_s2_step_map) .none kV_s2_step_map dc_s2_step_map pm_s2_step_map an_s2_step_map cd_s2_step_map ct_s2_step_map), sl_s2_step_map⟩)
    (c_s2_step_map : PySem.W.codeIn K cd_s2_step_map "s2_step_map" = true)
    (k_s2_step_map : PySem.W.keepIn K (.ref f_s2_step_map) = true)
    (a_s2_mapped : PySem.W.nsIn K mainGlobals "s2_mapped" = some (some (.ref f_s2_mapped)))
    (l_s2_mapped : K.lookup f_s2_mapped = some ⟨oc_s2_mapped, od_s2_mapped, .func (PySem.W.fnOf "s2_mapped" "s2_mapped" (C8.fnArgs s_s2_mapped) (C8.fnBody s_s2_mapped) (C8.fnScope s_s2_mapped) .none kV_s2_mapped dc_s2_mapped pm_s2_mapped an_s2_mapped cd_s2_mapped ct_s2_mapped), sl_s2_mapped⟩)
    (c_s2_mapped : PySem.W.codeIn K cd_s2_mapped "s2_mapped" = true)
    (k_s2_mapped : PySem.W.keepIn K (.ref f_s2_mapped) = true)
    (a_step_map : PySem.W.nsIn K mainGlobals "step_map" = some (some (.ref f_step_map)))
    (l_step_map : K.lookup f_step_map = some ⟨oc_step_map, od_step_map, .func (PySem.W.fnOf "step_map" "step_map" (C8.fnArgs s_step_map) (C8.fnBody s_step_map) (C8.fnScope s_step_map) .none kV_step_map dc_step_map pm_step_map an_step_map cd_step_map ct_step_map), sl_step_map⟩)
    (c_step_map : PySem.W.codeIn K cd_step_map "step_map" = true)
    (k_step_map : PySem.W.keepIn K (.ref f_step_map) = true)
    (a_joined : PySem.W.nsIn K mainGlobals "joined" = some (some (.ref f_joined)))
    (l_joined : K.lookup f_joined = some ⟨oc_joined, od_joined, .func (PySem.W.fnOf "joined" "joined" (C8.fnArgs s_joined) (C8.fnBody s_joined) (C8.fnScope s_joined) .none kV_joined dc_joined pm_joined an_joined cd_joined ct_joined), sl_joined⟩)
    (c_joined : PySem.W.codeIn K cd_joined "joined" = true)
    (k_joined : PySem.W.keepIn K (.ref f_joined) = true)
    (a_inverted : PySem.W.nsIn K mainGlobals "inverted" = some (some (.ref f_inverted)))
    (l_inverted : K.lookup f_inverted = some ⟨oc_inverted, od_inverted, .func (PySem.W.fnOf "inverted" "inverted" (C8.fnArgs s_inverted) (C8.fnBody s_inverted) (C8.fnScope s_inverted) .none kV_inverted dc_inverted pm_inverted an_inverted cd_inverted ct_inverted), sl_inverted⟩)
    (c_inverted : PySem.W.codeIn K cd_inverted "inverted" = true)
    (k_inverted : PySem.W.keepIn K (.ref f_inverted) = true)
    (a_mapped : PySem.W.nsIn K mainGlobals "mapped" = some (some (.ref f_mapped)))
    (l_mapped : K.lookup f_mapped = some ⟨oc_mapped, od_mapped, .func (PySem.W.fnOf "mapped" "mapped" (C8.fnArgs s_mapped) (C8.fnBody s_mapped) (C8.fnScope s_mapped) .none kV_mapped dc_mapped pm_mapped an_mapped cd_mapped ct_mapped), sl_mapped⟩)
    (c_mapped : PySem.W.codeIn K cd_mapped "mapped" = true)
    (k_mapped : PySem.W.keepIn K (.ref f_mapped) = true)
    (a__law_begun : PySem.W.nsIn K mainGlobals "_law_begun" = some (some (.ref f__law_begun)))
    (l__law_begun : K.lookup f__law_begun = some ⟨oc__law_begun, od__law_begun, .func (PySem.W.fnOf "_law_begun" "_law_begun" (C8.fnArgs s__law_begun) (C8.fnBody s__law_begun) (C8.fnScope s__law_begun) .none kV__law_begun dc__law_begun pm__law_begun an__law_begun cd__law_begun ct__law_begun), sl__law_begun⟩)
    (c__law_begun : PySem.W.codeIn K cd__law_begun "_law_begun" = true)
    (k__law_begun : PySem.W.keepIn K (.ref f__law_begun) = true)
    (a__law_next : PySem.W.nsIn K mainGlobals "_law_next" = some (some (.ref f__law_next)))
    (l__law_next : K.lookup f__law_next = some ⟨oc__law_next, od__law_next, .func (PySem.W.fnOf "_law_next" "_law_next" (C8.fnArgs s__law_next) (C8.fnBody s__law_next) (C8.fnScope s__law_next) .none kV__law_next dc__law_next pm__law_next an__law_next cd__law_next ct__law_next), sl__law_next⟩)
    (c__law_next : PySem.W.codeIn K cd__law_next "_law_next" = true)
    (k__law_next : PySem.W.keepIn K (.ref f__law_next) = true)
    (a__law_x : PySem.W.nsIn K mainGlobals "_law_x" = some (some (.ref f__law_x)))
    (l__law_x : K.lookup f__law_x = some ⟨oc__law_x, od__law_x, .func (PySem.W.fnOf "_law_x" "_law_x" (C8.fnArgs s__law_x) (C8.fnBody s__law_x) (C8.fnScope s__law_x) .none kV__law_x dc__law_x pm__law_x an__law_x cd__law_x ct__law_x), sl__law_x⟩)
    (c__law_x : PySem.W.codeIn K cd__law_x "_law_x" = true)
    (k__law_x : PySem.W.keepIn K (.ref f__law_x) = true)
    (a__law_steps : PySem.W.nsIn K mainGlobals "_law_steps" = some (some (.ref f__law_steps)))
    (l__law_steps : K.lookup f__law_steps = some ⟨oc__law_steps, od__law_steps, .func (PySem.W.fnOf "_law_steps" "_law_steps" (C8.fnArgs s__law_steps) (C8.fnBody s__law_steps) (C8.fnScope s__law_steps) .none kV__law_steps dc__law_steps pm__law_steps an__law_steps cd__law_steps ct__law_steps), sl__law_steps⟩)
    (c__law_steps : PySem.W.codeIn K cd__law_steps "_law_steps" = true)
    (k__law_steps : PySem.W.keepIn K (.ref f__law_steps) = true)
    (a__law_digits : PySem.W.nsIn K mainGlobals "_law_digits" = some (some (.ref f__law_digits)))
    (l__law_digits : K.lookup f__law_digits = some ⟨oc__law_digits, od__law_digits, .func (PySem.W.fnOf "_law_digits" "_law_digits" (C8.fnArgs s__law_digits) (C8.fnBody s__law_digits) (C8.fnScope s__law_digits) .none kV__law_digits dc__law_digits pm__law_digits an__law_digits cd__law_digits ct__law_digits), sl__law_digits⟩)
    (c__law_digits : PySem.W.codeIn K cd__law_digits "_law_digits" = true)
    (k__law_digits : PySem.W.keepIn K (.ref f__law_digits) = true)
    (a__law_map : PySem.W.nsIn K mainGlobals "_law_map" = some (some (.ref f__law_map)))
    (l__law_map : K.lookup f__law_map = some ⟨oc__law_map, od__law_map, .func (PySem.W.fnOf "_law_map" "_law_map" (C8.fnArgs s__law_map) (C8.fnBody s__law_map) (C8.fnScope s__law_map) .none kV__law_map dc__law_map pm__law_map an__law_map cd__law_map ct__law_map), sl__law_map⟩)
    (c__law_map : PySem.W.codeIn K cd__law_map "_law_map" = true)
    (k__law_map : PySem.W.keepIn K (.ref f__law_map) = true)
    (a__law_said : PySem.W.nsIn K mainGlobals "_law_said" = some (some (.ref f__law_said)))
    (l__law_said : K.lookup f__law_said = some ⟨oc__law_said, od__law_said, .func (PySem.W.fnOf "_law_said" "_law_said" (C8.fnArgs s__law_said) (C8.fnBody s__law_said) (C8.fnScope s__law_said) .none kV__law_said dc__law_said pm__law_said an__law_said cd__law_said ct__law_said), sl__law_said⟩)
    (c__law_said : PySem.W.codeIn K cd__law_said "_law_said" = true)
    (k__law_said : PySem.W.keepIn K (.ref f__law_said) = true)
    (a__law_maps_right : PySem.W.nsIn K mainGlobals "_law_maps_right" = some (some (.ref f__law_maps_right)))
    (l__law_maps_right : K.lookup f__law_maps_right = some ⟨oc__law_maps_right, od__law_maps_right, .func (PySem.W.fnOf "_law_maps_right" "_law_maps_right" (C8.fnArgs s__law_maps_right) (C8.fnBody s__law_maps_right) (C8.fnScope s__law_maps_right) .none kV__law_maps_right dc__law_maps_right pm__law_maps_right an__law_maps_right (.ref CO__law_maps_right) ct__law_maps_right), sl__law_maps_right⟩)
    (c__law_maps_right : PySem.W.codeIn K (.ref CO__law_maps_right) "_law_maps_right" = true)
    (k__law_maps_right : PySem.W.keepIn K (.ref f__law_maps_right) = true)
    (a__law_refused_right : PySem.W.nsIn K mainGlobals "_law_refused_right" = some (some (.ref f__law_refused_right)))
    (l__law_refused_right : K.lookup f__law_refused_right = some ⟨oc__law_refused_right, od__law_refused_right, .func (PySem.W.fnOf "_law_refused_right" "_law_refused_right" (C8.fnArgs s__law_refused_right) (C8.fnBody s__law_refused_right) (C8.fnScope s__law_refused_right) .none kV__law_refused_right dc__law_refused_right pm__law_refused_right an__law_refused_right (.ref CO__law_refused_right) ct__law_refused_right), sl__law_refused_right⟩)
    (c__law_refused_right : PySem.W.codeIn K (.ref CO__law_refused_right) "_law_refused_right" = true)
    (k__law_refused_right : PySem.W.keepIn K (.ref f__law_refused_right) = true)
    (a_law : PySem.W.nsIn K mainGlobals "law" = some (some (.ref f_law)))
    (l_law : K.lookup f_law = some ⟨oc_law, od_law, .func (PySem.W.fnOf "law" "law" (C8.fnArgs s_law) (C8.fnBody s_law) (C8.fnScope s_law) .none kV_law dc_law pm_law an_law cd_law ct_law), sl_law⟩)
    (c_law : PySem.W.codeIn K cd_law "law" = true)
    (k_law : PySem.W.keepIn K (.ref f_law) = true)
    (e_MOST_STEPS : PySem.W.nsIn K mainGlobals "MOST_STEPS" = some (some (.int 18446744073709551616 tk_MOST_STEPS)))
    (e_MODULUS : PySem.W.nsIn K mainGlobals "MODULUS" = some (some (.int 281474976710656 tk_MODULUS)))
    (e_MULTIPLIER : PySem.W.nsIn K mainGlobals "MULTIPLIER" = some (some (.int 205891132094649 tk_MULTIPLIER)))
    (e_ADDEND : PySem.W.nsIn K mainGlobals "ADDEND" = some (some (.int 11 tk_ADDEND)))
    (q_DrawError : PySem.W.nsIn K mainGlobals "DrawError" = some (some (.ref C_DrawError)))
    (rd_DrawError : PySem.W.readsIn K C_DrawError (.type "type") = true)
    (rg_DrawError : PySem.W.specialIn K (.ref C_DrawError) "__getattribute__" = some (some (.builtin "type.__getattribute__")))
    (fi_DrawError : PySem.W.findCls K (.ref C_DrawError) (.type "type") "__init__" = some (.val (.builtin "ValueError.__init__")))
    (eb_BadNumber : PySem.W.subIn K (.ref C_BadNumber) (.type "BaseException") = some true)
    (hb_BadNumber : PySem.W.hasDictIn K C_BadNumber = true)
    (tb_BadNumber : PySem.W.typeIn K (.ref C_BadNumber) = some (.type "type"))
    (eb_BadState : PySem.W.subIn K (.ref C_BadState) (.type "BaseException") = some true)
    (hb_BadState : PySem.W.hasDictIn K C_BadState = true)
    (tb_BadState : PySem.W.typeIn K (.ref C_BadState) = some (.type "type"))
    (eb_BadSteps : PySem.W.subIn K (.ref C_BadSteps) (.type "BaseException") = some true)
    (hb_BadSteps : PySem.W.hasDictIn K C_BadSteps = true)
    (tb_BadSteps : PySem.W.typeIn K (.ref C_BadSteps) = some (.type "type"))
    (ha_BadNumber : PySem.W.findIn K (.ref C_BadNumber) "__class__" = some (some (.builtin "object.__class__")))
    (hn_BadNumber : PySem.W.specialIn K (.builtin "object.__class__") "__get__" = some (some (.builtin "getset_descriptor.__get__")))
    (ht_BadNumber : PySem.W.takesIn K (.builtin "object.__class__") = some true)
    (hm_BadNumber : PySem.W.mroIn K C_BadNumber (.type "object") = some true)
    (sb_BadNumber_BadNumber : PySem.W.subIn K (.ref C_BadNumber) (.ref C_BadNumber) = some true)
    (sb_BadNumber_BadState : PySem.W.subIn K (.ref C_BadNumber) (.ref C_BadState) = some false)
    (sb_BadNumber_BadSteps : PySem.W.subIn K (.ref C_BadNumber) (.ref C_BadSteps) = some false)
    (ob_BadNumber_BadState : PySem.W.kitOne K (.ref C_BadNumber) (.ref C_BadState) = some false)
    (ob_BadNumber_BadSteps : PySem.W.kitOne K (.ref C_BadNumber) (.ref C_BadSteps) = some false)
    (ha_BadState : PySem.W.findIn K (.ref C_BadState) "__class__" = some (some (.builtin "object.__class__")))
    (hn_BadState : PySem.W.specialIn K (.builtin "object.__class__") "__get__" = some (some (.builtin "getset_descriptor.__get__")))
    (ht_BadState : PySem.W.takesIn K (.builtin "object.__class__") = some true)
    (hm_BadState : PySem.W.mroIn K C_BadState (.type "object") = some true)
    (sb_BadState_BadNumber : PySem.W.subIn K (.ref C_BadState) (.ref C_BadNumber) = some false)
    (sb_BadState_BadState : PySem.W.subIn K (.ref C_BadState) (.ref C_BadState) = some true)
    (sb_BadState_BadSteps : PySem.W.subIn K (.ref C_BadState) (.ref C_BadSteps) = some false)
    (ob_BadState_BadNumber : PySem.W.kitOne K (.ref C_BadState) (.ref C_BadNumber) = some false)
    (ob_BadState_BadSteps : PySem.W.kitOne K (.ref C_BadState) (.ref C_BadSteps) = some false)
    (ha_BadSteps : PySem.W.findIn K (.ref C_BadSteps) "__class__" = some (some (.builtin "object.__class__")))
    (hn_BadSteps : PySem.W.specialIn K (.builtin "object.__class__") "__get__" = some (some (.builtin "getset_descriptor.__get__")))
    (ht_BadSteps : PySem.W.takesIn K (.builtin "object.__class__") = some true)
    (hm_BadSteps : PySem.W.mroIn K C_BadSteps (.type "object") = some true)
    (sb_BadSteps_BadNumber : PySem.W.subIn K (.ref C_BadSteps) (.ref C_BadNumber) = some false)
    (sb_BadSteps_BadState : PySem.W.subIn K (.ref C_BadSteps) (.ref C_BadState) = some false)
    (sb_BadSteps_BadSteps : PySem.W.subIn K (.ref C_BadSteps) (.ref C_BadSteps) = some true)
    (ob_BadSteps_BadNumber : PySem.W.kitOne K (.ref C_BadSteps) (.ref C_BadNumber) = some false)
    (ob_BadSteps_BadState : PySem.W.kitOne K (.ref C_BadSteps) (.ref C_BadState) = some false)
    (q_BadNumber : PySem.W.nsIn K mainGlobals "BadNumber" = some (some (.ref C_BadNumber)))
    (in_BadNumber : PySem.W.excInitIn K C_BadNumber [.type "ValueError", .type "Exception", .type "BaseException", .type "object"] "ValueError.__new__" = true)
    (ov_BadNumber : PySem.W.excOver K C_BadNumber [.type "ValueError", .type "Exception", .type "BaseException", .type "object"] = true)
    (hd_BadNumber : PySem.W.hasDictIn K C_BadNumber = true)
    (sa_BadNumber : PySem.W.findIn K (.ref C_BadNumber) "__setattr__" = some (some (.builtin "object.__setattr__")))
    (ex_BadNumber : PySem.W.subIn K (.ref C_BadNumber) (.type "BaseException") = some true)
    (ty_BadNumber : PySem.W.typeIn K (.ref C_BadNumber) = some (.type "type"))
    (kc_BadNumber : PySem.W.keepIn K (.ref C_BadNumber) = true)
    (ga_BadNumber : PySem.W.findIn K (.ref C_BadNumber) "__getattribute__" = some (some (.builtin "BaseException.__getattribute__")))
    (gg_BadNumber : PySem.W.findIn K (.ref C_BadNumber) "__getattr__" = some none)
    (na_BadNumber : PySem.W.findIn K (.ref C_BadNumber) "given" = some none)
    (tk_BadNumber : PySem.W.takerIn K C_BadNumber "given" = some none)
    (sb_BadNumber : PySem.W.subIn K (.ref C_BadNumber) (.ref C_BadNumber) = some true)
    (q_BadState : PySem.W.nsIn K mainGlobals "BadState" = some (some (.ref C_BadState)))
    (in_BadState : PySem.W.excInitIn K C_BadState [.type "ValueError", .type "Exception", .type "BaseException", .type "object"] "ValueError.__new__" = true)
    (ov_BadState : PySem.W.excOver K C_BadState [.type "ValueError", .type "Exception", .type "BaseException", .type "object"] = true)
    (hd_BadState : PySem.W.hasDictIn K C_BadState = true)
    (sa_BadState : PySem.W.findIn K (.ref C_BadState) "__setattr__" = some (some (.builtin "object.__setattr__")))
    (ex_BadState : PySem.W.subIn K (.ref C_BadState) (.type "BaseException") = some true)
    (ty_BadState : PySem.W.typeIn K (.ref C_BadState) = some (.type "type"))
    (kc_BadState : PySem.W.keepIn K (.ref C_BadState) = true)
    (ga_BadState : PySem.W.findIn K (.ref C_BadState) "__getattribute__" = some (some (.builtin "BaseException.__getattribute__")))
    (gg_BadState : PySem.W.findIn K (.ref C_BadState) "__getattr__" = some none)
    (na_BadState : PySem.W.findIn K (.ref C_BadState) "given" = some none)
    (tk_BadState : PySem.W.takerIn K C_BadState "given" = some none)
    (sb_BadState : PySem.W.subIn K (.ref C_BadState) (.ref C_BadState) = some true)
    (q_BadSteps : PySem.W.nsIn K mainGlobals "BadSteps" = some (some (.ref C_BadSteps)))
    (in_BadSteps : PySem.W.excInitIn K C_BadSteps [.type "ValueError", .type "Exception", .type "BaseException", .type "object"] "ValueError.__new__" = true)
    (ov_BadSteps : PySem.W.excOver K C_BadSteps [.type "ValueError", .type "Exception", .type "BaseException", .type "object"] = true)
    (hd_BadSteps : PySem.W.hasDictIn K C_BadSteps = true)
    (sa_BadSteps : PySem.W.findIn K (.ref C_BadSteps) "__setattr__" = some (some (.builtin "object.__setattr__")))
    (ex_BadSteps : PySem.W.subIn K (.ref C_BadSteps) (.type "BaseException") = some true)
    (ty_BadSteps : PySem.W.typeIn K (.ref C_BadSteps) = some (.type "type"))
    (kc_BadSteps : PySem.W.keepIn K (.ref C_BadSteps) = true)
    (ga_BadSteps : PySem.W.findIn K (.ref C_BadSteps) "__getattribute__" = some (some (.builtin "BaseException.__getattribute__")))
    (gg_BadSteps : PySem.W.findIn K (.ref C_BadSteps) "__getattr__" = some none)
    (na_BadSteps : PySem.W.findIn K (.ref C_BadSteps) "given" = some none)
    (tk_BadSteps : PySem.W.takerIn K C_BadSteps "given" = some none)
    (sb_BadSteps : PySem.W.subIn K (.ref C_BadSteps) (.ref C_BadSteps) = some true)
    (z_bool : PySem.W.nsIn K mainGlobals "bool" = some none)
    (z_enumerate : PySem.W.nsIn K mainGlobals "enumerate" = some none)
    (z_int : PySem.W.nsIn K mainGlobals "int" = some none)
    (z_isinstance : PySem.W.nsIn K mainGlobals "isinstance" = some none)
    (z_len : PySem.W.nsIn K mainGlobals "len" = some none)
    (z_max : PySem.W.nsIn K mainGlobals "max" = some none)
    (z_min : PySem.W.nsIn K mainGlobals "min" = some none)
    (z_range : PySem.W.nsIn K mainGlobals "range" = some none)
    (z_repr : PySem.W.nsIn K mainGlobals "repr" = some none)
    (z_tuple : PySem.W.nsIn K mainGlobals "tuple" = some none)
    : Txt K mg C_DrawError C_BadNumber C_BadState C_BadSteps CO__law_maps_right CO__law_refused_right :=
  { d_BadState___init__ := ⟨f_BadState___init__, _, a_BadState___init__, ti_BadState___init__, ⟨⟨oc_BadState___init__, od_BadState___init__, .none, kV_BadState___init__, dc_BadState___init__, pm_BadState___init__, an_BadState___init__, cd_BadState___init__, ct_BadState___init__, sl_BadState___init__, rfl, l_BadState___init__, c_BadState___init__⟩⟩, C8.Fun.binds (x := "__init__") (qual := "BadState.__init__") (st := s_BadState___init__) (f := f_BadState___init__) ⟨⟨oc_BadState___init__, od_BadState___init__, .none, kV_BadState___init__, dc_BadState___init__, pm_BadState___init__, an_BadState___init__, cd_BadState___init__, ct_BadState___init__, sl_BadState___init__, rfl, l_BadState___init__, c_BadState___init__⟩⟩ rfl (fun _ _ _ _ _ _ us hl => match us, hl with | [_, _], _ => rfl)⟩,
    d_BadSteps___init__ := ⟨f_BadSteps___init__, _, a_BadSteps___init__, ti_BadSteps___init__, ⟨⟨oc_BadSteps___init__, od_BadSteps___init__, .none, kV_BadSteps___init__, dc_BadSteps___init__, pm_BadSteps___init__, an_BadSteps___init__, cd_BadSteps___init__, ct_BadSteps___init__, sl_BadSteps___init__, rfl, l_BadSteps___init__, c_BadSteps___init__⟩⟩, C8.Fun.binds (x := "__init__") (qual := "BadSteps.__init__") (st := s_BadSteps___init__) (f := f_BadSteps___init__) ⟨⟨oc_BadSteps___init__, od_BadSteps___init__, .none, kV_BadSteps___init__, dc_BadSteps___init__, pm_BadSteps___init__, an_BadSteps___init__, cd_BadSteps___init__, ct_BadSteps___init__, sl_BadSteps___init__, rfl, l_BadSteps___init__, c_BadSteps___init__⟩⟩ rfl (fun _ _ _ _ _ _ us hl => match us, hl with | [_, _], _ => rfl)⟩,
    d_BadNumber___init__ := ⟨f_BadNumber___init__, _, a_BadNumber___init__, ti_BadNumber___init__, ⟨⟨oc_BadNumber___init__, od_BadNumber___init__, .none, kV_BadNumber___init__, dc_BadNumber___init__, pm_BadNumber___init__, an_BadNumber___init__, cd_BadNumber___init__, ct_BadNumber___init__, sl_BadNumber___init__, rfl, l_BadNumber___init__, c_BadNumber___init__⟩⟩, C8.Fun.binds (x := "__init__") (qual := "BadNumber.__init__") (st := s_BadNumber___init__) (f := f_BadNumber___init__) ⟨⟨oc_BadNumber___init__, od_BadNumber___init__, .none, kV_BadNumber___init__, dc_BadNumber___init__, pm_BadNumber___init__, an_BadNumber___init__, cd_BadNumber___init__, ct_BadNumber___init__, sl_BadNumber___init__, rfl, l_BadNumber___init__, c_BadNumber___init__⟩⟩ rfl (fun _ _ _ _ _ _ us hl => match us, hl with | [_, _], _ => rfl)⟩,
    d_is_integer := ⟨f_is_integer, _, ⟨⟨⟨oc_is_integer, od_is_integer, .none, kV_is_integer, dc_is_integer, pm_is_integer, an_is_integer, cd_is_integer, ct_is_integer, sl_is_integer, rfl, l_is_integer, c_is_integer⟩⟩, PySem.W.mg_of X G a_is_integer, k_is_integer⟩, C8.Fun.binds (x := "is_integer") (qual := "is_integer") (st := s_is_integer) (f := f_is_integer) ⟨⟨oc_is_integer, od_is_integer, .none, kV_is_integer, dc_is_integer, pm_is_integer, an_is_integer, cd_is_integer, ct_is_integer, sl_is_integer, rfl, l_is_integer, c_is_integer⟩⟩ rfl (fun _ _ _ _ _ _ us hl => match us, hl with | [_], _ => rfl)⟩,
    d_need_steps := ⟨f_need_steps, _, ⟨⟨⟨oc_need_steps, od_need_steps, .none, kV_need_steps, dc_need_steps, pm_need_steps, an_need_steps, cd_need_steps, ct_need_steps, sl_need_steps, rfl, l_need_steps, c_need_steps⟩⟩, PySem.W.mg_of X G a_need_steps, k_need_steps⟩, C8.Fun.binds (x := "need_steps") (qual := "need_steps") (st := s_need_steps) (f := f_need_steps) ⟨⟨oc_need_steps, od_need_steps, .none, kV_need_steps, dc_need_steps, pm_need_steps, an_need_steps, cd_need_steps, ct_need_steps, sl_need_steps, rfl, l_need_steps, c_need_steps⟩⟩ rfl (fun _ _ _ _ _ _ us hl => match us, hl with | [_], _ => rfl)⟩,
    d_s2_is_number := ⟨f_s2_is_number, _, ⟨⟨⟨oc_s2_is_number, od_s2_is_number, .none, kV_s2_is_number, dc_s2_is_number, pm_s2_is_number, an_s2_is_number, cd_s2_is_number, ct_s2_is_number, sl_s2_is_number, rfl, l_s2_is_number, c_s2_is_number⟩⟩, PySem.W.mg_of X G a_s2_is_number, k_s2_is_number⟩, C8.Fun.binds (x := "s2_is_number") (qual := "s2_is_number") (st := s_s2_is_number) (f := f_s2_is_number) ⟨⟨oc_s2_is_number, od_s2_is_number, .none, kV_s2_is_number, dc_s2_is_number, pm_s2_is_number, an_s2_is_number, cd_s2_is_number, ct_s2_is_number, sl_s2_is_number, rfl, l_s2_is_number, c_s2_is_number⟩⟩ rfl (fun _ _ _ _ _ _ us hl => match us, hl with | [_], _ => rfl)⟩,
    d_s2_need_start := ⟨f_s2_need_start, _, ⟨⟨⟨oc_s2_need_start, od_s2_need_start, .none, kV_s2_need_start, dc_s2_need_start, pm_s2_need_start, an_s2_need_start, cd_s2_need_start, ct_s2_need_start, sl_s2_need_start, rfl, l_s2_need_start, c_s2_need_start⟩⟩, PySem.W.mg_of X G a_s2_need_start, k_s2_need_start⟩, C8.Fun.binds (x := "s2_need_start") (qual := "s2_need_start") (st := s_s2_need_start) (f := f_s2_need_start) ⟨⟨oc_s2_need_start, od_s2_need_start, .none, kV_s2_need_start, dc_s2_need_start, pm_s2_need_start, an_s2_need_start, cd_s2_need_start, ct_s2_need_start, sl_s2_need_start, rfl, l_s2_need_start, c_s2_need_start⟩⟩ rfl (fun _ _ _ _ _ _ us hl => match us, hl with | [_], _ => rfl)⟩,
    d_is_map := ⟨f_is_map, _, ⟨⟨⟨oc_is_map, od_is_map, .none, kV_is_map, dc_is_map, pm_is_map, an_is_map, cd_is_map, ct_is_map, sl_is_map, rfl, l_is_map, c_is_map⟩⟩, PySem.W.mg_of X G a_is_map, k_is_map⟩, C8.Fun.binds (x := "is_map") (qual := "is_map") (st := s_is_map) (f := f_is_map) ⟨⟨oc_is_map, od_is_map, .none, kV_is_map, dc_is_map, pm_is_map, an_is_map, cd_is_map, ct_is_map, sl_is_map, rfl, l_is_map, c_is_map⟩⟩ rfl (fun _ _ _ _ _ _ us hl => match us, hl with | [_], _ => rfl)⟩,
    d_s2_need_map := ⟨f_s2_need_map, _, ⟨⟨⟨oc_s2_need_map, od_s2_need_map, .none, kV_s2_need_map, dc_s2_need_map, pm_s2_need_map, an_s2_need_map, cd_s2_need_map, ct_s2_need_map, sl_s2_need_map, rfl, l_s2_need_map, c_s2_need_map⟩⟩, PySem.W.mg_of X G a_s2_need_map, k_s2_need_map⟩, C8.Fun.binds (x := "s2_need_map") (qual := "s2_need_map") (st := s_s2_need_map) (f := f_s2_need_map) ⟨⟨oc_s2_need_map, od_s2_need_map, .none, kV_s2_need_map, dc_s2_need_map, pm_s2_need_map, an_s2_need_map, cd_s2_need_map, ct_s2_need_map, sl_s2_need_map, rfl, l_s2_need_map, c_s2_need_map⟩⟩ rfl (fun _ _ _ _ _ _ us hl => match us, hl with | [_], _ => rfl)⟩,
    d_s2_joined := ⟨f_s2_joined, _, ⟨⟨⟨oc_s2_joined, od_s2_joined, .none, kV_s2_joined, dc_s2_joined, pm_s2_joined, an_s2_joined, cd_s2_joined, ct_s2_joined, sl_s2_joined, rfl, l_s2_joined, c_s2_joined⟩⟩, PySem.W.mg_of X G a_s2_joined, k_s2_joined⟩, C8.Fun.binds (x := "s2_joined") (qual := "s2_joined") (st := s_s2_joined) (f := f_s2_joined) ⟨⟨oc_s2_joined, od_s2_joined, .none, kV_s2_joined, dc_s2_joined, pm_s2_joined, an_s2_joined, cd_s2_joined, ct_s2_joined, sl_s2_joined, rfl, l_s2_joined, c_s2_joined⟩⟩ rfl (fun _ _ _ _ _ _ us hl => match us, hl with | [_, _], _ => rfl)⟩,
    d_s2_step_map := ⟨f_s2_step_map, _, ⟨⟨⟨oc_s2_step_map, od_s2_step_map, .none, kV_s2_step_map, dc_s2_step_map, pm_s2_step_map, an_s2_step_map, cd_s2_step_map, ct_s2_step_map, sl_s2_step_map, rfl, l_s2_step_map, c_s2_step_map⟩⟩, PySem.W.mg_of X G a_s2_step_map, k_s2_step_map⟩, C8.Fun.binds (x := "s2_step_map") (qual := "s2_step_map") (st := s_s2_step_map) (f := f_s2_step_map) ⟨⟨oc_s2_step_map, od_s2_step_map, .none, kV_s2_step_map, dc_s2_step_map, pm_s2_step_map, an_s2_step_map, cd_s2_step_map, ct_s2_step_map, sl_s2_step_map, rfl, l_s2_step_map, c_s2_step_map⟩⟩ rfl (fun _ _ _ _ _ _ us hl => match us, hl with | [_], _ => rfl)⟩,
    d_s2_mapped := ⟨f_s2_mapped, _, ⟨⟨⟨oc_s2_mapped, od_s2_mapped, .none, kV_s2_mapped, dc_s2_mapped, pm_s2_mapped, an_s2_mapped, cd_s2_mapped, ct_s2_mapped, sl_s2_mapped, rfl, l_s2_mapped, c_s2_mapped⟩⟩, PySem.W.mg_of X G a_s2_mapped, k_s2_mapped⟩, C8.Fun.binds (x := "s2_mapped") (qual := "s2_mapped") (st := s_s2_mapped) (f := f_s2_mapped) ⟨⟨oc_s2_mapped, od_s2_mapped, .none, kV_s2_mapped, dc_s2_mapped, pm_s2_mapped, an_s2_mapped, cd_s2_mapped, ct_s2_mapped, sl_s2_mapped, rfl, l_s2_mapped, c_s2_mapped⟩⟩ rfl (fun _ _ _ _ _ _ us hl => match us, hl with | [_, _], _ => rfl)⟩,
    d_step_map := ⟨f_step_map, _, ⟨⟨⟨oc_step_map, od_step_map, .none, kV_step_map, dc_step_map, pm_step_map, an_step_map, cd_step_map, ct_step_map, sl_step_map, rfl, l_step_map, c_step_map⟩⟩, PySem.W.mg_of X G a_step_map, k_step_map⟩, C8.Fun.binds (x := "step_map") (qual := "step_map") (st := s_step_map) (f := f_step_map) ⟨⟨oc_step_map, od_step_map, .none, kV_step_map, dc_step_map, pm_step_map, an_step_map, cd_step_map, ct_step_map, sl_step_map, rfl, l_step_map, c_step_map⟩⟩ rfl (fun _ _ _ _ _ _ us hl => match us, hl with | [_], _ => rfl)⟩,
    d_joined := ⟨f_joined, _, ⟨⟨⟨oc_joined, od_joined, .none, kV_joined, dc_joined, pm_joined, an_joined, cd_joined, ct_joined, sl_joined, rfl, l_joined, c_joined⟩⟩, PySem.W.mg_of X G a_joined, k_joined⟩, C8.Fun.binds (x := "joined") (qual := "joined") (st := s_joined) (f := f_joined) ⟨⟨oc_joined, od_joined, .none, kV_joined, dc_joined, pm_joined, an_joined, cd_joined, ct_joined, sl_joined, rfl, l_joined, c_joined⟩⟩ rfl (fun _ _ _ _ _ _ us hl => match us, hl with | [_, _], _ => rfl)⟩,
    d_inverted := ⟨f_inverted, _, ⟨⟨⟨oc_inverted, od_inverted, .none, kV_inverted, dc_inverted, pm_inverted, an_inverted, cd_inverted, ct_inverted, sl_inverted, rfl, l_inverted, c_inverted⟩⟩, PySem.W.mg_of X G a_inverted, k_inverted⟩, C8.Fun.binds (x := "inverted") (qual := "inverted") (st := s_inverted) (f := f_inverted) ⟨⟨oc_inverted, od_inverted, .none, kV_inverted, dc_inverted, pm_inverted, an_inverted, cd_inverted, ct_inverted, sl_inverted, rfl, l_inverted, c_inverted⟩⟩ rfl (fun _ _ _ _ _ _ us hl => match us, hl with | [_], _ => rfl)⟩,
    d_mapped := ⟨f_mapped, _, ⟨⟨⟨oc_mapped, od_mapped, .none, kV_mapped, dc_mapped, pm_mapped, an_mapped, cd_mapped, ct_mapped, sl_mapped, rfl, l_mapped, c_mapped⟩⟩, PySem.W.mg_of X G a_mapped, k_mapped⟩, C8.Fun.binds (x := "mapped") (qual := "mapped") (st := s_mapped) (f := f_mapped) ⟨⟨oc_mapped, od_mapped, .none, kV_mapped, dc_mapped, pm_mapped, an_mapped, cd_mapped, ct_mapped, sl_mapped, rfl, l_mapped, c_mapped⟩⟩ rfl (fun _ _ _ _ _ _ us hl => match us, hl with | [_, _], _ => rfl)⟩,
    d__law_begun := ⟨f__law_begun, _, ⟨⟨⟨oc__law_begun, od__law_begun, .none, kV__law_begun, dc__law_begun, pm__law_begun, an__law_begun, cd__law_begun, ct__law_begun, sl__law_begun, rfl, l__law_begun, c__law_begun⟩⟩, PySem.W.mg_of X G a__law_begun, k__law_begun⟩, C8.Fun.binds (x := "_law_begun") (qual := "_law_begun") (st := s__law_begun) (f := f__law_begun) ⟨⟨oc__law_begun, od__law_begun, .none, kV__law_begun, dc__law_begun, pm__law_begun, an__law_begun, cd__law_begun, ct__law_begun, sl__law_begun, rfl, l__law_begun, c__law_begun⟩⟩ rfl (fun _ _ _ _ _ _ us hl => match us, hl with | [_], _ => rfl)⟩,
    d__law_next := ⟨f__law_next, _, ⟨⟨⟨oc__law_next, od__law_next, .none, kV__law_next, dc__law_next, pm__law_next, an__law_next, cd__law_next, ct__law_next, sl__law_next, rfl, l__law_next, c__law_next⟩⟩, PySem.W.mg_of X G a__law_next, k__law_next⟩, C8.Fun.binds (x := "_law_next") (qual := "_law_next") (st := s__law_next) (f := f__law_next) ⟨⟨oc__law_next, od__law_next, .none, kV__law_next, dc__law_next, pm__law_next, an__law_next, cd__law_next, ct__law_next, sl__law_next, rfl, l__law_next, c__law_next⟩⟩ rfl (fun _ _ _ _ _ _ us hl => match us, hl with | [_, _], _ => rfl)⟩,
    d__law_x := ⟨f__law_x, _, ⟨⟨⟨oc__law_x, od__law_x, .none, kV__law_x, dc__law_x, pm__law_x, an__law_x, cd__law_x, ct__law_x, sl__law_x, rfl, l__law_x, c__law_x⟩⟩, PySem.W.mg_of X G a__law_x, k__law_x⟩, C8.Fun.binds (x := "_law_x") (qual := "_law_x") (st := s__law_x) (f := f__law_x) ⟨⟨oc__law_x, od__law_x, .none, kV__law_x, dc__law_x, pm__law_x, an__law_x, cd__law_x, ct__law_x, sl__law_x, rfl, l__law_x, c__law_x⟩⟩ rfl (fun _ _ _ _ _ _ us hl => match us, hl with | [_], _ => rfl)⟩,
    d__law_steps := ⟨f__law_steps, _, ⟨⟨⟨oc__law_steps, od__law_steps, .none, kV__law_steps, dc__law_steps, pm__law_steps, an__law_steps, cd__law_steps, ct__law_steps, sl__law_steps, rfl, l__law_steps, c__law_steps⟩⟩, PySem.W.mg_of X G a__law_steps, k__law_steps⟩, C8.Fun.binds (x := "_law_steps") (qual := "_law_steps") (st := s__law_steps) (f := f__law_steps) ⟨⟨oc__law_steps, od__law_steps, .none, kV__law_steps, dc__law_steps, pm__law_steps, an__law_steps, cd__law_steps, ct__law_steps, sl__law_steps, rfl, l__law_steps, c__law_steps⟩⟩ rfl (fun _ _ _ _ _ _ us hl => match us, hl with | [_], _ => rfl)⟩,
    d__law_digits := ⟨f__law_digits, _, ⟨⟨⟨oc__law_digits, od__law_digits, .none, kV__law_digits, dc__law_digits, pm__law_digits, an__law_digits, cd__law_digits, ct__law_digits, sl__law_digits, rfl, l__law_digits, c__law_digits⟩⟩, PySem.W.mg_of X G a__law_digits, k__law_digits⟩, C8.Fun.binds (x := "_law_digits") (qual := "_law_digits") (st := s__law_digits) (f := f__law_digits) ⟨⟨oc__law_digits, od__law_digits, .none, kV__law_digits, dc__law_digits, pm__law_digits, an__law_digits, cd__law_digits, ct__law_digits, sl__law_digits, rfl, l__law_digits, c__law_digits⟩⟩ rfl (fun _ _ _ _ _ _ us hl => match us, hl with | [_], _ => rfl)⟩,
    d__law_map := ⟨f__law_map, _, ⟨⟨⟨oc__law_map, od__law_map, .none, kV__law_map, dc__law_map, pm__law_map, an__law_map, cd__law_map, ct__law_map, sl__law_map, rfl, l__law_map, c__law_map⟩⟩, PySem.W.mg_of X G a__law_map, k__law_map⟩, C8.Fun.binds (x := "_law_map") (qual := "_law_map") (st := s__law_map) (f := f__law_map) ⟨⟨oc__law_map, od__law_map, .none, kV__law_map, dc__law_map, pm__law_map, an__law_map, cd__law_map, ct__law_map, sl__law_map, rfl, l__law_map, c__law_map⟩⟩ rfl (fun _ _ _ _ _ _ us hl => match us, hl with | [_], _ => rfl)⟩,
    d__law_said := ⟨f__law_said, _, ⟨⟨⟨oc__law_said, od__law_said, .none, kV__law_said, dc__law_said, pm__law_said, an__law_said, cd__law_said, ct__law_said, sl__law_said, rfl, l__law_said, c__law_said⟩⟩, PySem.W.mg_of X G a__law_said, k__law_said⟩, C8.Fun.binds (x := "_law_said") (qual := "_law_said") (st := s__law_said) (f := f__law_said) ⟨⟨oc__law_said, od__law_said, .none, kV__law_said, dc__law_said, pm__law_said, an__law_said, cd__law_said, ct__law_said, sl__law_said, rfl, l__law_said, c__law_said⟩⟩ rfl (fun _ _ _ _ _ _ us hl => match us, hl with | [_], _ => rfl)⟩,
    d__law_maps_right := ⟨f__law_maps_right, _, ⟨⟨oc__law_maps_right, od__law_maps_right, .none, kV__law_maps_right, dc__law_maps_right, pm__law_maps_right, an__law_maps_right, ct__law_maps_right, sl__law_maps_right, rfl, l__law_maps_right, c__law_maps_right⟩, PySem.W.mg_of X G a__law_maps_right, k__law_maps_right⟩, C8.Fun.binds (x := "_law_maps_right") (qual := "_law_maps_right") (st := s__law_maps_right) (f := f__law_maps_right) ⟨⟨oc__law_maps_right, od__law_maps_right, .none, kV__law_maps_right, dc__law_maps_right, pm__law_maps_right, an__law_maps_right, (.ref CO__law_maps_right), ct__law_maps_right, sl__law_maps_right, rfl, l__law_maps_right, c__law_maps_right⟩⟩ rfl (fun _ _ _ _ _ _ us hl => match us, hl with | [_, _, _], _ => rfl)⟩,
    d__law_refused_right := ⟨f__law_refused_right, _, ⟨⟨oc__law_refused_right, od__law_refused_right, .none, kV__law_refused_right, dc__law_refused_right, pm__law_refused_right, an__law_refused_right, ct__law_refused_right, sl__law_refused_right, rfl, l__law_refused_right, c__law_refused_right⟩, PySem.W.mg_of X G a__law_refused_right, k__law_refused_right⟩, C8.Fun.binds (x := "_law_refused_right") (qual := "_law_refused_right") (st := s__law_refused_right) (f := f__law_refused_right) ⟨⟨oc__law_refused_right, od__law_refused_right, .none, kV__law_refused_right, dc__law_refused_right, pm__law_refused_right, an__law_refused_right, (.ref CO__law_refused_right), ct__law_refused_right, sl__law_refused_right, rfl, l__law_refused_right, c__law_refused_right⟩⟩ rfl (fun _ _ _ _ _ _ us hl => match us, hl with | [_, _, _], _ => rfl)⟩,
    d_law := ⟨f_law, _, ⟨⟨⟨oc_law, od_law, .none, kV_law, dc_law, pm_law, an_law, cd_law, ct_law, sl_law, rfl, l_law, c_law⟩⟩, PySem.W.mg_of X G a_law, k_law⟩, C8.Fun.binds (x := "law") (qual := "law") (st := s_law) (f := f_law) ⟨⟨oc_law, od_law, .none, kV_law, dc_law, pm_law, an_law, cd_law, ct_law, sl_law, rfl, l_law, c_law⟩⟩ rfl (fun _ _ _ _ _ _ us hl => match us, hl with | [_], _ => rfl), fun s v => .of_eq rfl⟩,
    c_MOST_STEPS := ⟨_, PySem.W.mg_of X G e_MOST_STEPS, _, rfl⟩,
    c_MODULUS := ⟨_, PySem.W.mg_of X G e_MODULUS, _, rfl⟩,
    c_MULTIPLIER := ⟨_, PySem.W.mg_of X G e_MULTIPLIER, _, rfl⟩,
    c_ADDEND := ⟨_, PySem.W.mg_of X G e_ADDEND, _, rfl⟩,
    k_DrawError := ⟨_, PySem.W.mg_of X G q_DrawError, rfl⟩,
    g_DrawError := PySem.W.mg_of X G q_DrawError,
    r_DrawError := ⟨rd_DrawError, rg_DrawError⟩,
    i_DrawError := fi_DrawError,
    mm_BadNumber := fun h => PySem.W.exm_ref eb_BadNumber hb_BadNumber tb_BadNumber h,
    mm_BadState := fun h => PySem.W.exm_ref eb_BadState hb_BadState tb_BadState h,
    mm_BadSteps := fun h => PySem.W.exm_ref eb_BadSteps hb_BadSteps tb_BadSteps h,
    e_BadNumber := ⟨ga_BadNumber, gg_BadNumber, ex_BadNumber, hd_BadNumber, ha_BadNumber, hn_BadNumber, ht_BadNumber, hm_BadNumber⟩,
    s_BadNumber_BadNumber := sb_BadNumber_BadNumber,
    s_BadNumber_BadState := sb_BadNumber_BadState,
    s_BadNumber_BadSteps := sb_BadNumber_BadSteps,
    o_BadNumber_BadState := ob_BadNumber_BadState,
    o_BadNumber_BadSteps := ob_BadNumber_BadSteps,
    e_BadState := ⟨ga_BadState, gg_BadState, ex_BadState, hd_BadState, ha_BadState, hn_BadState, ht_BadState, hm_BadState⟩,
    s_BadState_BadNumber := sb_BadState_BadNumber,
    s_BadState_BadState := sb_BadState_BadState,
    s_BadState_BadSteps := sb_BadState_BadSteps,
    o_BadState_BadNumber := ob_BadState_BadNumber,
    o_BadState_BadSteps := ob_BadState_BadSteps,
    e_BadSteps := ⟨ga_BadSteps, gg_BadSteps, ex_BadSteps, hd_BadSteps, ha_BadSteps, hn_BadSteps, ht_BadSteps, hm_BadSteps⟩,
    s_BadSteps_BadNumber := sb_BadSteps_BadNumber,
    s_BadSteps_BadState := sb_BadSteps_BadState,
    s_BadSteps_BadSteps := sb_BadSteps_BadSteps,
    o_BadSteps_BadNumber := ob_BadSteps_BadNumber,
    o_BadSteps_BadState := ob_BadSteps_BadState,
    k_BadNumber := ⟨_, PySem.W.mg_of X G q_BadNumber, rfl⟩,
    g_BadNumber := PySem.W.mg_of X G q_BadNumber,
    y_BadNumber := ⟨⟨"ValueError", "ValueError.__new__", _, PySem.F.excBase_ValueError, PySem.F.store_ValueError, in_BadNumber, ov_BadNumber⟩, hd_BadNumber, sa_BadNumber, ex_BadNumber, ty_BadNumber, kc_BadNumber⟩,
    f_BadNumber := ⟨ga_BadNumber, gg_BadNumber, ex_BadNumber, hd_BadNumber⟩,
    n_BadNumber_given := na_BadNumber,
    t_BadNumber_given := tk_BadNumber,
    m_BadNumber := PySem.W.exm_ref ex_BadNumber hd_BadNumber ty_BadNumber sb_BadNumber,
    k_BadState := ⟨_, PySem.W.mg_of X G q_BadState, rfl⟩,
    g_BadState := PySem.W.mg_of X G q_BadState,
    y_BadState := ⟨⟨"ValueError", "ValueError.__new__", _, PySem.F.excBase_ValueError, PySem.F.store_ValueError, in_BadState, ov_BadState⟩, hd_BadState, sa_BadState, ex_BadState, ty_BadState, kc_BadState⟩,
    f_BadState := ⟨ga_BadState, gg_BadState, ex_BadState, hd_BadState⟩,
    n_BadState_given := na_BadState,
    t_BadState_given := tk_BadState,
    m_BadState := PySem.W.exm_ref ex_BadState hd_BadState ty_BadState sb_BadState,
    k_BadSteps := ⟨_, PySem.W.mg_of X G q_BadSteps, rfl⟩,
    g_BadSteps := PySem.W.mg_of X G q_BadSteps,
    y_BadSteps := ⟨⟨"ValueError", "ValueError.__new__", _, PySem.F.excBase_ValueError, PySem.F.store_ValueError, in_BadSteps, ov_BadSteps⟩, hd_BadSteps, sa_BadSteps, ex_BadSteps, ty_BadSteps, kc_BadSteps⟩,
    f_BadSteps := ⟨ga_BadSteps, gg_BadSteps, ex_BadSteps, hd_BadSteps⟩,
    n_BadSteps_given := na_BadSteps,
    t_BadSteps_given := tk_BadSteps,
    m_BadSteps := PySem.W.exm_ref ex_BadSteps hd_BadSteps ty_BadSteps sb_BadSteps,
    b_bool := PySem.W.mg_none_of X G z_bool,
    b_enumerate := PySem.W.mg_none_of X G z_enumerate,
    b_int := PySem.W.mg_none_of X G z_int,
    b_isinstance := PySem.W.mg_none_of X G z_isinstance,
    b_len := PySem.W.mg_none_of X G z_len,
    b_max := PySem.W.mg_none_of X G z_max,
    b_min := PySem.W.mg_none_of X G z_min,
    b_range := PySem.W.mg_none_of X G z_range,
    b_repr := PySem.W.mg_none_of X G z_repr,
    b_tuple := PySem.W.mg_none_of X G z_tuple }
end Pf
open PySem PySem.W PyProof.Rows
set_option maxRecDepth 100000 in
set_option maxHeartbeats 0 in
theorem PySem.Challenge.cw_drawstate_k12_maps_of_steps_holds : PySem.Challenge.rw_drawstate_k12_maps_of_steps.Holds := by
  w_on; o_law; k_head; (case hw => w_witness2)
  k_fill
  refine Gx.walkG (l := PySem.Challenge.rw_drawstate_k12_maps_of_steps) (k := 10) (x := "_law_script") rfl rfl ⟨rfl, by decide, by decide⟩ (fun w h Y => PySem.W.km_in_of Y) ?F
  case F =>
    intro w mg fa h Y KX G hmg
    refine' Pf.law_mk hmg (Pf.txt_mk KX G ?a_BadState___init__ ?ti_BadState___init__ ?l_BadState___init__ ?c_BadState___init__ ?a_BadSteps___init__ ?ti_BadSteps___init__ ?l_BadSteps___init__ ?c_BadSteps___init__ ?a_BadNumber___init__ ?ti_BadNumber___init__ ?l_BadNumber___init__ ?c_BadNumber___init__ ?a_is_integer ?l_is_integer ?c_is_integer ?k_is_integer ?a_need_steps ?l_need_steps ?c_need_steps ?k_need_steps ?a_s2_is_number ?l_s2_is_number ?c_s2_is_number ?k_s2_is_number ?a_s2_need_start ?l_s2_need_start ?c_s2_need_start ?k_s2_need_start ?a_is_map ?l_is_map ?c_is_map ?k_is_map ?a_s2_need_map ?l_s2_need_map ?c_s2_need_map ?k_s2_need_map ?a_s2_joined ?l_s2_joined ?c_s2_joined ?k_s2_joined ?a_s2_step_map ?l_s2_step_map ?c_s2_step_map ?k_s2_step_map ?a_s2_mapped ?l_s2_mapped ?c_s2_mapped ?k_s2_mapped ?a_step_map ?l_step_map ?c_step_map ?k_step_map ?a_joined ?l_joined ?c_joined ?k_joined ?a_inverted ?l_inverted ?c_inverted ?k_inverted ?a_mapped ?l_mapped ?c_mapped ?k_mapped ?a__law_begun ?l__law_begun ?c__law_begun ?k__law_begun ?a__law_next ?l__law_next ?c__law_next ?k__law_next ?a__law_x ?l__law_x ?c__law_x ?k__law_x ?a__law_steps ?l__law_steps ?c__law_steps ?k__law_steps ?a__law_digits ?l__law_digits ?c__law_digits ?k__law_digits ?a__law_map ?l__law_map ?c__law_map ?k__law_map ?a__law_said ?l__law_said ?c__law_said ?k__law_said ?a__law_maps_right ?l__law_maps_right ?c__law_maps_right ?k__law_maps_right ?a__law_refused_right ?l__law_refused_right ?c__law_refused_right ?k__law_refused_right ?a_law ?l_law ?c_law ?k_law ?e_MOST_STEPS ?e_MODULUS ?e_MULTIPLIER ?e_ADDEND ?q_DrawError ?rd_DrawError ?rg_DrawError ?fi_DrawError ?eb_BadNumber ?hb_BadNumber ?tb_BadNumber ?eb_BadState ?hb_BadState ?tb_BadState ?eb_BadSteps ?hb_BadSteps ?tb_BadSteps ?ha_BadNumber ?hn_BadNumber ?ht_BadNumber ?hm_BadNumber ?sb_BadNumber_BadNumber ?sb_BadNumber_BadState ?sb_BadNumber_BadSteps ?ob_BadNumber_BadState ?ob_BadNumber_BadSteps ?ha_BadState ?hn_BadState ?ht_BadState ?hm_BadState ?sb_BadState_BadNumber ?sb_BadState_BadState ?sb_BadState_BadSteps ?ob_BadState_BadNumber ?ob_BadState_BadSteps ?ha_BadSteps ?hn_BadSteps ?ht_BadSteps ?hm_BadSteps ?sb_BadSteps_BadNumber ?sb_BadSteps_BadState ?sb_BadSteps_BadSteps ?ob_BadSteps_BadNumber ?ob_BadSteps_BadState ?q_BadNumber ?in_BadNumber ?ov_BadNumber ?hd_BadNumber ?sa_BadNumber ?ex_BadNumber ?ty_BadNumber ?kc_BadNumber ?ga_BadNumber ?gg_BadNumber ?na_BadNumber ?tk_BadNumber ?sb_BadNumber ?q_BadState ?in_BadState ?ov_BadState ?hd_BadState ?sa_BadState ?ex_BadState ?ty_BadState ?kc_BadState ?ga_BadState ?gg_BadState ?na_BadState ?tk_BadState ?sb_BadState ?q_BadSteps ?in_BadSteps ?ov_BadSteps ?hd_BadSteps ?sa_BadSteps ?ex_BadSteps ?ty_BadSteps ?kc_BadSteps ?ga_BadSteps ?gg_BadSteps ?na_BadSteps ?tk_BadSteps ?sb_BadSteps ?z_bool ?z_enumerate ?z_int ?z_isinstance ?z_len ?z_max ?z_min ?z_range ?z_repr ?z_tuple) (PySem.W.km_tabs_of Y 231 (by simp)) (by kernel_rfl) (PySem.W.codeHd_of_K KX ?hc0) (PySem.W.km_tabs_of Y 238 (by simp)) (by kernel_rfl) (PySem.W.codeHd_of_K KX ?hc1) (by decide)
    (case q_DrawError => k_is)
    (case q_BadNumber => k_is)
    (case q_BadState => k_is)
    (case q_BadSteps => k_is)
    (case a_BadState___init__ => k_is)
    (case ti_BadState___init__ => k_is)
    (case l_BadState___init__ => k_is)
    (case c_BadState___init__ => k_is)
    (case a_BadSteps___init__ => k_is)
    (case ti_BadSteps___init__ => k_is)
    (case l_BadSteps___init__ => k_is)
    (case c_BadSteps___init__ => k_is)
    (case a_BadNumber___init__ => k_is)
    (case ti_BadNumber___init__ => k_is)
    (case l_BadNumber___init__ => k_is)
    (case c_BadNumber___init__ => k_is)
    (case a_is_integer => k_is)
    (case l_is_integer => k_is)
    (case c_is_integer => k_is)
    (case k_is_integer => k_is)
    (case a_need_steps => k_is)
    (case l_need_steps => k_is)
    (case c_need_steps => k_is)
    (case k_need_steps => k_is)
    (case a_s2_is_number => k_is)
    (case l_s2_is_number => k_is)
    (case c_s2_is_number => k_is)
    (case k_s2_is_number => k_is)
    (case a_s2_need_start => k_is)
    (case l_s2_need_start => k_is)
    (case c_s2_need_start => k_is)
    (case k_s2_need_start => k_is)
    (case a_is_map => k_is)
    (case l_is_map => k_is)
    (case c_is_map => k_is)
    (case k_is_map => k_is)
    (case a_s2_need_map => k_is)
    (case l_s2_need_map => k_is)
    (case c_s2_need_map => k_is)
    (case k_s2_need_map => k_is)
    (case a_s2_joined => k_is)
    (case l_s2_joined => k_is)
    (case c_s2_joined => k_is)
    (case k_s2_joined => k_is)
    (case a_s2_step_map => k_is)
    (case l_s2_step_map => k_is)
    (case c_s2_step_map => k_is)
    (case k_s2_step_map => k_is)
    (case a_s2_mapped => k_is)
    (case l_s2_mapped => k_is)
    (case c_s2_mapped => k_is)
    (case k_s2_mapped => k_is)
    (case a_step_map => k_is)
    (case l_step_map => k_is)
    (case c_step_map => k_is)
    (case k_step_map => k_is)
    (case a_joined => k_is)
    (case l_joined => k_is)
    (case c_joined => k_is)
    (case k_joined => k_is)
    (case a_inverted => k_is)
    (case l_inverted => k_is)
    (case c_inverted => k_is)
    (case k_inverted => k_is)
    (case a_mapped => k_is)
    (case l_mapped => k_is)
    (case c_mapped => k_is)
    (case k_mapped => k_is)
    (case a__law_begun => k_is)
    (case l__law_begun => k_is)
    (case c__law_begun => k_is)
    (case k__law_begun => k_is)
    (case a__law_next => k_is)
    (case l__law_next => k_is)
    (case c__law_next => k_is)
    (case k__law_next => k_is)
    (case a__law_x => k_is)
    (case l__law_x => k_is)
    (case c__law_x => k_is)
    (case k__law_x => k_is)
    (case a__law_steps => k_is)
    (case l__law_steps => k_is)
    (case c__law_steps => k_is)
    (case k__law_steps => k_is)
    (case a__law_digits => k_is)
    (case l__law_digits => k_is)
    (case c__law_digits => k_is)
    (case k__law_digits => k_is)
    (case a__law_map => k_is)
    (case l__law_map => k_is)
    (case c__law_map => k_is)
    (case k__law_map => k_is)
    (case a__law_said => k_is)
    (case l__law_said => k_is)
    (case c__law_said => k_is)
    (case k__law_said => k_is)
    (case a__law_maps_right => k_is)
    (case l__law_maps_right => k_is)
    (case c__law_maps_right => k_is)
    (case k__law_maps_right => k_is)
    (case a__law_refused_right => k_is)
    (case l__law_refused_right => k_is)
    (case c__law_refused_right => k_is)
    (case k__law_refused_right => k_is)
    (case a_law => k_is)
    (case l_law => k_is)
    (case c_law => k_is)
    (case k_law => k_is)
    (case e_MOST_STEPS => k_is)
    (case e_MODULUS => k_is)
    (case e_MULTIPLIER => k_is)
    (case e_ADDEND => k_is)
    (case rd_DrawError => k_is)
    (case rg_DrawError => k_is)
    (case fi_DrawError => k_is)
    (case eb_BadNumber => k_is)
    (case hb_BadNumber => k_is)
    (case tb_BadNumber => k_is)
    (case eb_BadState => k_is)
    (case hb_BadState => k_is)
    (case tb_BadState => k_is)
    (case eb_BadSteps => k_is)
    (case hb_BadSteps => k_is)
    (case tb_BadSteps => k_is)
    (case ha_BadNumber => k_is)
    (case hn_BadNumber => k_is)
    (case ht_BadNumber => k_is)
    (case hm_BadNumber => k_is)
    (case sb_BadNumber_BadNumber => k_is)
    (case sb_BadNumber_BadState => k_is)
    (case sb_BadNumber_BadSteps => k_is)
    (case ob_BadNumber_BadState => kernel_rfl)
    (case ob_BadNumber_BadSteps => kernel_rfl)
    (case ha_BadState => k_is)
    (case hn_BadState => k_is)
    (case ht_BadState => k_is)
    (case hm_BadState => k_is)
    (case sb_BadState_BadNumber => k_is)
    (case sb_BadState_BadState => k_is)
    (case sb_BadState_BadSteps => k_is)
    (case ob_BadState_BadNumber => kernel_rfl)
    (case ob_BadState_BadSteps => kernel_rfl)
    (case ha_BadSteps => k_is)
    (case hn_BadSteps => k_is)
    (case ht_BadSteps => k_is)
    (case hm_BadSteps => k_is)
    (case sb_BadSteps_BadNumber => k_is)
    (case sb_BadSteps_BadState => k_is)
    (case sb_BadSteps_BadSteps => k_is)
    (case ob_BadSteps_BadNumber => kernel_rfl)
    (case ob_BadSteps_BadState => kernel_rfl)
    (case in_BadNumber => kernel_rfl)
    (case ov_BadNumber => kernel_rfl)
    (case hd_BadNumber => k_is)
    (case sa_BadNumber => k_is)
    (case ex_BadNumber => k_is)
    (case ty_BadNumber => k_is)
    (case kc_BadNumber => k_is)
    (case ga_BadNumber => k_is)
    (case gg_BadNumber => k_is)
    (case na_BadNumber => k_is)
    (case tk_BadNumber => k_is)
    (case sb_BadNumber => k_is)
    (case in_BadState => kernel_rfl)
    (case ov_BadState => kernel_rfl)
    (case hd_BadState => k_is)
    (case sa_BadState => k_is)
    (case ex_BadState => k_is)
    (case ty_BadState => k_is)
    (case kc_BadState => k_is)
    (case ga_BadState => k_is)
    (case gg_BadState => k_is)
    (case na_BadState => k_is)
    (case tk_BadState => k_is)
    (case sb_BadState => k_is)
    (case in_BadSteps => kernel_rfl)
    (case ov_BadSteps => kernel_rfl)
    (case hd_BadSteps => k_is)
    (case sa_BadSteps => k_is)
    (case ex_BadSteps => k_is)
    (case ty_BadSteps => k_is)
    (case kc_BadSteps => k_is)
    (case ga_BadSteps => k_is)
    (case gg_BadSteps => k_is)
    (case na_BadSteps => k_is)
    (case tk_BadSteps => k_is)
    (case sb_BadSteps => k_is)
    (case z_bool => k_is)
    (case z_enumerate => k_is)
    (case z_int => k_is)
    (case z_isinstance => k_is)
    (case z_len => k_is)
    (case z_max => k_is)
    (case z_min => k_is)
    (case z_range => k_is)
    (case z_repr => k_is)
    (case z_tuple => k_is)
    (case hc0 => kernel_rfl)
    (case hc1 => kernel_rfl)
#print axioms PySem.Challenge.cw_drawstate_k12_maps_of_steps_holds
