import PyProof.Rows.All
import Wide.All
import OpenK.AllK
import Wide.FinOn
import HandS.ForMost
import HandS.Exc
import HandS.Codes
import HandS.Wide
import HandS.WideBits
import HandS.IsInst
import HandS.Property
import HandS.Style
import HandS.Flow
import HandS.Small
import HandS.Lambda
import HandS.EndTab
import HandS.GenCall
import HandS.GenList
import KE.KOpsOwn
import HandS.ClsMeth
import HandS.TupAny
import HandS.ExcInit
import HandS.ExcField
import HandS.ExcIs
import HandS.Walk
import KE.KExcInit
import HandS.CallSlots
import HandS.Defaults
import HandS.TryMany
import HandS.Zip
import KE.KTryMore
import PyProof.StrLawsRepr
import PySem.Challenge.RW_drawstate_k18_linear_seeds
set_option Elab.async false
set_option linter.all false
set_option maxRecDepth 100000
set_option maxHeartbeats 4000000
namespace Gx
open PySem PySem.Spec PyProof.Rows L2
/-! ### repr of data: where no repr is under way -/
mutual
theorem dpNoDict {K : PySem.W.Frag} {H : Hp} : ∀ (d : PyData) (x : V), Dp K H x d → d.hasDict = false
  | .none, _, _ => by simp only [PyData.hasDict]
  | .bool _, _, _ => by simp only [PyData.hasDict]
  | .int _, _, _ => by simp only [PyData.hasDict]
  | .str _, _, _ => by simp only [PyData.hasDict]
  | .list ds, _, h => by
    cases h with
    | lst _ ha =>
      simp only [PyData.hasDict]
      exact dpNoDictAll ds _ ha
  | .tuple ds, _, h => by
    cases h with
    | tup _ ha =>
      simp only [PyData.hasDict]
      exact dpNoDictAll ds _ ha
  | .dict _, _, h => nomatch h
theorem dpNoDictAll {K : PySem.W.Frag} {H : Hp} : ∀ (ds : List PyData) (xs : List V), DpAll K H xs ds → PyData.hasDictAll ds = false
  | [], _, _ => by simp only [PyData.hasDictAll]
  | d :: ds, _, h => by
    cases h with
    | cons h1 h2 =>
      simp only [PyData.hasDictAll, Bool.or_eq_false_iff]
      exact ⟨dpNoDict d _ h1, dpNoDictAll ds _ h2⟩
end
def rRepr (K : PySem.W.Frag) : List V → Hp → VK → Prop := fun xs H Q => ∃ (x : V) (d : PyData), xs = [x] ∧ Dp K H x d ∧ d.showable = true ∧ d.depth ≤ 60 ∧ d.shown.length ≤ sizeLine ∧ Q (.str d.shown) H
theorem call_repr {X : Cx} (hg : X.A.guards = some []) (hu : X.A.units + 64 < cLine) : CallR X (.builtin "repr") (rRepr X.K) := by
  intro pins s σ H xs us Q I r h
  obtain ⟨x, d, rfl, hd, hs, hdep, hsz, q⟩ := h
  obtain ⟨u, rfl, ru⟩ := vals1 r
  obtain ⟨as, rd⟩ := Dp.reads I d x u hd ru
  have nd := dpNoDict d x hd
  cases hd with
  | non =>
    cases ru
    exact PySem.P.repr_of_none ⟨.str _, H, I.tok _, ⟨_, rfl⟩, q⟩
  | bl b =>
    cases ru
    exact PySem.P.repr_of_bool ⟨.str _, H, I.tok _, ⟨_, rfl⟩, q⟩
  | int i =>
    obtain ⟨t, rfl⟩ := ru
    exact PySem.P.repr_of_int (of_decide_eq_true (by simpa [PyData.showable] using hs)) ⟨.str _, H, I.tok _, ⟨_, rfl⟩, q⟩
  | str z =>
    obtain ⟨t, rfl⟩ := ru
    exact PySem.P.repr_of_str (hsz := hsz) ⟨.str _, H, I.tok _, ⟨_, rfl⟩, q⟩
  | lst h1 h2 =>
    cases ru
    exact repr_of_reads' rd hs (PyData.noDict_hsm nd) hg (by omega) (fun _ _ e => e) (fun h' t tk hk => ⟨.str _, H, I.kept hk, ⟨_, rfl⟩, q⟩) hsz
  | tup h1 h2 =>
    cases ru
    exact repr_of_reads' rd hs (PyData.noDict_hsm nd) hg (by omega) (fun _ _ e => e) (fun h' t tk hk => ⟨.str _, H, I.kept hk, ⟨_, rfl⟩, q⟩) hsz
/-! ### a def whose promise is kept where no repr is under way -/
structure FnG (P : Program) (w : World) (K : PySem.W.Frag) (mg : Str → Option Value) (base : Heap) (k : Nat) (f : Addr) (fd : FuncData) (ps : List Str) (sp : Sp) : Prop where
  len : ∀ vs H Q E, sp vs H Q E → vs.length = ps.length
  run : ∀ (A : Around) (outer : List Env) (s : Shared) (H : Hp) (args : Args) (us : List Value) (vs : List V) (Q : VK), A.guards = some [] → Room k A → Env0 P w K mg base A outer s H →
    BindsTo s fd args (ps.zip us) → Vals vs us → sp vs H Q C8.E0 → codeAny (model P w) A (.call (.ref f) args) (CR C8.CX0 outer P w H s Q C8.E0) s
structure CalG (P : Program) (w : World) (K : PySem.W.Frag) (mg : Str → Option Value) (base : Heap) (k : Nat) (x : Str) (sp : Sp) : Prop where
  ex : ∃ (f : Addr) (fd : FuncData) (ps : List Str), FnG P w K mg base k f fd ps sp ∧ mg x = some (.ref f) ∧ PySem.W.keepIn K (.ref f) = true ∧ Binds K fd ps []
section
variable {P : Program} {w : World} {K : PySem.W.Frag} {mg : Str → Option Value} {base : Heap}
theorem fnG_of {x qual : Str} {st : Stmt} {f : Addr} {fd : FuncData} {N ps : List Str} {k : Nat} {sp : Sp} (F : C8.Fun K x qual st f fd) (S : FnScope N ps (C8.fnScope st)) (len : ∀ vs H Q E, sp vs H Q E → vs.length = ps.length)
    (hbody : ∀ (cdv : Value) (A : Around) (outer : List Env) (s : Shared) (H : Hp) (vs : List V) (Q : VK), A.guards = some [] → Room k (A.deeper (envOfC qual (C8.fnScope st) s.heap.objs.size f cdv)) → sp vs H Q C8.E0 →
      ∃ t, PSs (cxOf C8.CX0 P w K mg base N qual (C8.fnScope st) f cdv A outer s H C8.E0).nox (C8.fnBody st) t ∧ t { nx := fun _ H' => Q .non H', rt := Q } (start N vs) H) : FnG P w K mg base (k + 1) f fd ps sp := by
  obtain ⟨oc, od, dV, kV, doc, pm, an, cdv, ct, osl, rfl, lk, hcd⟩ := F.ex
  refine ⟨len, fun A outer s H args us vs Q hg hr e0 hb r hsp => ?_⟩
  refine LamX.run_ofS (CX := C8.CX0) (E := C8.E0) lk hcd S hr e0 hb r (len _ _ _ _ hsp) fun hr' => ?_
  obtain ⟨t, h, q⟩ := hbody cdv A outer s H vs Q hg hr' hsp
  exact ⟨t, h.nox, q⟩
theorem calG {x : Str} {st : Stmt} {f : Addr} {fd : FuncData} {N ps : List Str} {k : Nat} {sp : Sp} (F : C8.Def K mg x st f fd) (b : Binds K fd ps []) (S : FnScope N ps (C8.fnScope st)) (len : ∀ vs H Q E, sp vs H Q E → vs.length = ps.length)
    (hbody : ∀ (cdv : Value) (A : Around) (outer : List Env) (s : Shared) (H : Hp) (vs : List V) (Q : VK), A.guards = some [] → Room k (A.deeper (envOfC x (C8.fnScope st) s.heap.objs.size f cdv)) → sp vs H Q C8.E0 →
      ∃ t, PSs (cxOf C8.CX0 P w K mg base N x (C8.fnScope st) f cdv A outer s H C8.E0).nox (C8.fnBody st) t ∧ t { nx := fun _ H' => Q .non H', rt := Q } (start N vs) H) : CalG P w K mg base (k + 1) x sp :=
  ⟨f, fd, ps, fnG_of F.fn S len hbody, F.mgf, F.kp, b⟩
end
section
variable {X : Cx} {k j : Nat} {x : Str} {sp : Sp} {p pos : Pos} {e : Expr} {es : List Expr} {t : TA}
theorem runG {f : Addr} {fd : FuncData} {ps : List Str} {pins : List (Addr × Obj)} {σ : L2.St} {H : Hp} {s : Shared} {Q : VK} {us : List Value} {vs : List V} (F : FnG X.prog X.w X.K X.mg X.base k f fd ps sp) (gd : X.A.guards = some []) (hr : Room k X.A) (hb : Binds X.K fd ps [])
    (I : Inv X pins σ H s) (r : Vals vs us) (h : sp vs H Q C8.E0) : wpAny (model X.prog X.w) X.A (call (.ref f) us) (EP X pins σ Q) X.xe s := by
  have hl : us.length = ps.length := r.length.symm.trans (F.len _ _ _ _ h)
  have hbt : BindsTo s fd ⟨us, []⟩ (ps.zip us) := by
    have z := hb s us I.kIn (by rw [List.append_nil]; exact hl)
    rw [List.append_nil] at z
    exact z
  have go := F.run X.A X.stack s H ⟨us, []⟩ us vs Q gd hr I.env0 hbt r h
  refine wpAny_call (codeAny_mono go fun res s2 hres => ?_)
  match res, hres with
  | .ok (.ret u), hq => exact I.after hq
  | .ok .next, hq => exact hq.elim
  | .ok .brk, hq => exact hq.elim
  | .ok .cont, hq => exact hq.elim
  | .error er, hq => exact (show False from hq).elim
theorem pe_g (c : CalG X.prog X.w X.K X.mg X.base k x sp) (gd : X.A.guards = some []) (hr : Room j X.A) (hk : k ≤ j) (hgl : Gl X x) (ha : PA X (e :: es) t)
    (hdb : (x == ("__debug__" : Str)) = false := by decide) (hst : starEach (e :: es) X.env = (false, eval e X.env) :: starEach es X.env := by rfl)
    (hpl : (backTo pos (starEach es X.env)).any (·.1) = false := by rfl) : PE X (.Call (.Name x p) (e :: es) [] pos) (tCall sp [] C8.E0 t) := by
  obtain ⟨f, fd, ps, F, hm, kp, b⟩ := c.ex
  constructor
  intro pins s σ H Q I h
  refine wpAny_Call_Name_kw (ld_glob I hgl hm ?_ hdb)
  refine PySem.W.callWith_K (h₀ := X.base) I.ok.mod.kin kp ?_ hst hpl
  refine thn (ha.run pos pins s σ H _ I h) fun us s1 got => ?_
  obtain ⟨vs, H1, I1, r, q⟩ := got
  refine ⟨I1.kIn, runG F gd (hr.mono hk) b I1 r ?_⟩
  have z : sp (vs ++ []) H1 Q C8.E0 := q
  rw [List.append_nil] at z
  exact z
end
end Gx

set_option Elab.async false
set_option linter.all false
set_option maxRecDepth 100000
set_option maxHeartbeats 4000000
namespace Gx
open PySem PySem.Spec PyProof.Rows L2
/-! ### a property by its getter's promise -/
structure PrpC (P : Program) (w : World) (K : PySem.W.Frag) (mg : Str → Option Value) (base : Heap) (k : Nat) (C : Addr) (nm : Str) (sp : Sp) : Prop where
  ex : ∃ (p f : Addr) (fd : FuncData) (ps : List Str), Cls K C ∧ PropOf K C nm p f ∧ FnOk P w K mg base C8.CX0 k f fd ps sp ∧ Binds K fd ps []
theorem prp0 {P : Program} {w : World} {K : PySem.W.Frag} {mg : Str → Option Value} {base : Heap} {nm qual : Str} {C p : Addr} {st : Stmt} {f : Addr} {fd : FuncData} {N ps : List Str} {k : Nat} {sp : Sp} (c : Cls K C) (pr : PropOf K C nm p f) (F : C8.Fun K nm qual st f fd) (b : Binds K fd ps [])
    (S : FnScope N ps (C8.fnScope st)) (len : ∀ vs H Q E, sp vs H Q E → vs.length = ps.length)
    (hbody : ∀ (cdv : Value) (A : Around) (outer : List Env) (s : Shared) (H : Hp) (vs : List V) (Q : VK) (E : XK), Room k (A.deeper (envOfC qual (C8.fnScope st) s.heap.objs.size f cdv)) → sp vs H Q E →
      ∃ t, PSs (cxOf C8.CX0 P w K mg base N qual (C8.fnScope st) f cdv A outer s H E).nox (C8.fnBody st) t ∧ t { nx := fun _ H' => Q .non H', rt := Q } (start N vs) H) : PrpC P w K mg base (k + 1) C nm sp :=
  ⟨p, f, fd, ps, c, pr, C8.fn0 F S len hbody, b⟩
theorem pe_propC {X : Cx} {k j : Nat} {C : Addr} {nm : Str} {sp : Sp} {e : Expr} {ta : TE} {pos : Pos} (he : PE X e ta) (c : PrpC X.prog X.w X.K X.mg X.base k C nm sp) (hr : Room j X.A) (hk : k + 1 ≤ j) (hab : attributeBase e nm X.env (eval e X.env) = eval e X.env) :
    PE X (.Attribute e nm pos) (tProp C sp [] C8.E0 ta) := by
  obtain ⟨p, f, fd, ps, cl, pr, F, b⟩ := c.ex
  exact pe_prop he cl pr F (hr.mono hk) b .nil C8.pass0 hab
/-! ### the end of a law: its def is called where no repr is under way; cs: the code objects that make lambdas, with their tables -/
section
variable {P : Program} {w : World} {K : PySem.W.Frag} {mg mb : Str → Option Value} {k : Nat} {fa a : Addr} {cs : List (Addr × Addr)} {fd : FuncData} {x : Str} {sp : Sp} {t : Shared} {vs : List Value} {ns : List Int}
/-- the abstract heap at the law's call: the script and the tables -/
structure Hp0 (P : Program) (w : World) (K : PySem.W.Frag) (cs : List (Addr × Addr)) (a : Addr) (ns : List Int) (h : Heap) (H : Hp) : Prop where
  tab : ∀ p ∈ cs, H p.2 = some (.tbl #[])
  only : ∀ b, H b = none ∨ b ∈ cs.map (·.2) ∨ ∃ o xs, H b = some (.frz o (.lst xs))
  seq : SqL K H a (ns.map V.int)
  ok : HOk P w H h
  dom : ∀ b, H b ≠ none → b = a ∨ b ∈ cs.map (·.2)
  scr : H a ≠ none → K.lookup a = none
theorem hp0 (KX : K.In t.heap) (hT : ∀ p ∈ cs, t.heap.get? p.2 = some { cls := .none, data := .fields #[] }) (ha : t.heap.get? a = some { cls := .type "list", data := .seq vs.toArray }) (hi : IntsAre vs ns) (hl : ns.length ≤ sizeLine) :
    ∃ H, Hp0 P w K cs a ns t.heap H := by
  have rv := vals_ints hi
  have isT : ∀ b ∈ cs.map (·.2), t.heap.get? b = some { cls := .none, data := .fields #[] } := fun b hb => by
    obtain ⟨p, hp, rfl⟩ := List.mem_map.mp hb
    exact hT p hp
  have aT : a ∉ cs.map (·.2) := fun z => by
    have q := isT a z
    rw [ha] at q
    cases congrArg Obj.data (Option.some.inj q)
  have mem : ∀ p ∈ cs, p.2 ∈ cs.map (·.2) := fun p hp => List.mem_map.mpr ⟨p, hp, rfl⟩
  cases hk : K.lookup a with
  | some o =>
    have e := KX a o hk
    rw [ha] at e
    cases e
    refine ⟨fun b => if b ∈ cs.map (·.2) then some (.tbl #[]) else none, fun p hp => if_pos (mem p hp), fun b => ?_,
      .inr ⟨_, vs.toArray, _, hk, rfl, rfl, rfl, by rw [List.size_toArray, hi.length]; exact hl, by simpa using rv⟩, fun b u z => ?_, fun b z => ?_, fun z => absurd (if_neg aT) z⟩
    · by_cases hb : b ∈ cs.map (·.2)
      · exact .inr (.inl hb)
      · exact .inl (if_neg hb)
    · by_cases hb : b ∈ cs.map (·.2)
      · cases (if_pos hb).symm.trans z
        exact isT b hb
      · cases (if_neg hb).symm.trans z
    · by_cases hb : b ∈ cs.map (·.2)
      · exact .inr hb
      · exact absurd (if_neg hb) z
  | none =>
    refine ⟨fun b => if b = a then some (.frz { cls := .type "list", data := .seq vs.toArray } (.lst (ns.map V.int))) else if b ∈ cs.map (·.2) then some (.tbl #[]) else none,
      fun p hp => ?_, fun b => ?_, .inl (.inr ⟨{ cls := .type "list", data := .seq vs.toArray }, if_pos rfl⟩), fun b u z => ?_, fun b z => ?_, fun _ => hk⟩
    · have np : ¬ p.2 = a := fun z => aT (z ▸ mem p hp)
      exact (if_neg np).trans (if_pos (mem p hp))
    · by_cases hb : b = a
      · exact .inr (.inr ⟨_, _, if_pos hb⟩)
      · by_cases hc : b ∈ cs.map (·.2)
        · exact .inr (.inl hc)
        · exact .inl ((if_neg hb).trans (if_neg hc))
    · by_cases hb : b = a
      · cases (if_pos hb).symm.trans z
        subst hb
        exact ⟨ha, by rw [List.length_map]; exact hl, vs, _, rv, ha⟩
      · have z1 := (if_neg hb).symm.trans z
        by_cases hc : b ∈ cs.map (·.2)
        · cases (if_pos hc).symm.trans z1
          exact isT b hc
        · cases (if_neg hc).symm.trans z1
    · by_cases hb : b = a
      · exact .inl hb
      · by_cases hc : b ∈ cs.map (·.2)
        · exact .inr hc
        · exact absurd ((if_neg hb).trans (if_neg hc)) z
theorem callG (KX : K.In t.heap) (hns : t.heap.Ns mainGlobals mg) (hb : t.heap.Ns builtinsNs mb) (hbb : ∀ x : Str, x ≠ "__name__" → mb x = bootBuiltins x) (hlim : t.heap.NoLimit) (hg : t.gens = #[])
    (hT : ∀ p ∈ cs, t.heap.get? p.2 = some { cls := .none, data := .fields #[] }) (nT : ∀ p ∈ cs, K.lookup p.2 = none) (C : ∀ p ∈ cs, PySem.W.CodeHd t.heap p.1 p.2)
    (hbm : ∃ (bm : Addr) (ob : Obj), mg "__builtins__" = some (.ref bm) ∧ bm ≠ builtinsNs ∧ t.heap.get? bm = some ob ∧ ob.cls = .type "module" ∧ ob.dict = some builtinsNs ∧ ob.data = .plain)
    (ha : t.heap.get? a = some { cls := .type "list", data := .seq vs.toArray }) (hi : IntsAre vs ns) (hl : ns.length ≤ sizeLine) (hr : Room k callerA)
    (F : ∀ base : Heap, K.In base → base.Ns mainGlobals mg → (∀ p ∈ cs, LamX.TabB base mg p.1 p.2) → FnG P w K mg base k fa fd [x] sp) (hbind : ∀ (s : Shared) (u : Value), BindsTo s fd ⟨[u], []⟩ [(x, u)])
    (hsp : ∀ H : Hp, (∀ p ∈ cs, H p.2 = some (.tbl #[])) → SqL K H a (ns.map V.int) → sp [.ref a] H (fun v _ => v = .bl true) C8.E0) :
    codeAny (model P w) callerA (.call (.ref fa) ⟨[.ref a], []⟩) (fun r s' => r = .ok (.ret (.bool true)) ∧ OldK t.heap s'.heap ∧ s'.os = t.os ∧ AllBare s'.gens) t := by
  obtain ⟨H, Z⟩ := hp0 (P := P) (w := w) KX hT ha hi hl
  have see : ∀ {b : Addr} {o : Obj}, t.heap.get? b = some o → H b = none → (hidT t.heap H).get? b = some o := fun e n => hidT_get e n
  -- what is neither a list nor a table is not tracked
  have off : ∀ {b : Addr} {o : Obj}, t.heap.get? b = some o → (∀ ws n, o.data ≠ .seq ws n) → o.data ≠ .fields #[] → H b = none := fun {b o} e h1 h2 => by
    cases q : H b with
    | none => rfl
    | some u =>
      rcases Z.dom b (by rw [q]; simp) with e1 | e1
      · rw [e1, ha] at e
        cases e
        exact (h1 _ _ rfl).elim
      · obtain ⟨p, hp, rfl⟩ := List.mem_map.mp e1
        rw [hT p hp] at e
        cases e
        exact (h2 rfl).elim
  have offD : ∀ {b : Addr} {o : Obj} {es : Array DictEntry} {ep : Nat}, t.heap.get? b = some o → o.data = .dict es ep → H b = none := fun {b o es ep} e d =>
    off e (fun ws n z => by rw [d] at z; cases z) (fun z => by rw [d] at z; cases z)
  have nsOk : ∀ {b : Addr} {m : Str → Option Value}, t.heap.Ns b m → (hidT t.heap H).Ns b m := fun {b m} hh => by
    obtain ⟨o, es, ep, e, d, r⟩ := hh
    exact ⟨o, es, ep, see e (offD e d), d, r⟩
  have kOk : K.In (hidT t.heap H) := fun b o e => by
    refine see (KX b o e) ?_
    cases q : H b with
    | none => rfl
    | some u =>
      rcases Z.dom b (by rw [q]; simp) with e1 | e1
      · subst e1
        rw [Z.scr (by rw [q]; simp)] at e
        cases e
      · obtain ⟨p, hp, rfl⟩ := List.mem_map.mp e1
        rw [nT p hp] at e
        cases e
  have lim : (hidT t.heap H).NoLimit := by
    obtain ⟨mc, h1, h2⟩ := hlim
    exact ⟨mc, nsOk h1, h2⟩
  have hM : L2.Mod K mg (hidT t.heap H) := ⟨kOk, nsOk hns, ⟨mb, nsOk hb, hbb⟩, lim⟩
  have TB : ∀ p ∈ cs, LamX.TabB (hidT t.heap H) mg p.1 p.2 := fun p hp => by
    have hp2 := hT p hp
    refine ⟨?_, ?_, fun z => ?_⟩
    · obtain ⟨o, us, file, tf, flags, tg, inF, text, tt, e1, r1, r2, r3, r4, r5, r6, r7, r8, hne⟩ := C p hp
      refine ⟨o, us, file, tf, flags, tg, inF, text, tt, see e1 (off e1 (fun ws n z => ?_) fun z => ?_), r1, r2, r3, r4, r5, r6, r7, r8, hne⟩
      · rw [r2] at z; cases z
      · rw [r2] at z; cases z; simp at r3
    · obtain ⟨bm, ob, b1, b2, b3, b4, b5, b6⟩ := hbm
      refine ⟨bm, ob, b1, b2, fun q => ?_, fun q => ?_, see b3 (off b3 (fun ws n z => ?_) fun z => ?_), b4, b5, b6⟩
      · obtain ⟨o, es, ep, e, hd, _⟩ := hns
        rw [q, e] at b3; cases b3; rw [hd] at b6; cases b6
      · rw [q, hp2] at b3; cases b3; cases b6
      · rw [b6] at z; cases z
      · rw [b6] at z; cases z
    · obtain ⟨o, es, ep, e, hd, _⟩ := hns
      rw [z, hp2] at e; cases e; cases hd
  have nil : ∀ b : Addr, b ∉ ([] : List Addr) := fun b z => by simp at z
  have e0 : Env0 P w K mg (hidT t.heap H) callerA [] t H := ⟨rfl, hM, fun b o e => of_hidT e, Nat.le_of_eq (hidT_size _ _), trivial, fun b z => absurd z (nil b), Z.ok, .of_eq hg⟩
  have go := (F _ kOk (nsOk hns) TB).run callerA [] t H ⟨[.ref a], []⟩ [.ref a] [.ref a] _ rfl hr e0 (hbind t (.ref a)) (.cons rfl .nil) (hsp H Z.tab Z.seq)
  refine codeAny_mono go fun res s2 hres => ?_
  match res, hres with
  | .ok .next, h => exact h.elim
  | .ok .brk, h => exact h.elim
  | .ok .cont, h => exact h.elim
  | .error e, h => exact (show False from h).elim
  | .ok (.ret u), h =>
    obtain ⟨v, H', os, bare, un, ok2, r', q⟩ := h
    obtain rfl : v = .bl true := q
    obtain rfl : u = Value.bool true := r'
    have same : ∀ b o, b ∉ cs.map (·.2) → t.heap.get? b = some o → s2.heap.get? b = some o := fun b o nb e => by
      rcases Z.only b with z | z | ⟨ob, xs, z⟩
      · exact un.keep b o e z (nil b) (nil b)
      · exact absurd z nb
      · obtain ⟨e1, _⟩ := Z.ok b _ z
        obtain ⟨e2, _⟩ := ok2 b _ (un.frzs b ob _ z)
        rw [e] at e1
        cases e1
        exact e2
    have grown : ∀ p ∈ cs, ∃ more : Array Value, s2.heap.get? p.2 = some { cls := .none, data := .fields more } := fun p hp => by
      obtain ⟨more, z⟩ := un.tbls p.2 #[] (Z.tab p hp)
      exact ⟨_, ok2 p.2 _ z⟩
    refine ⟨rfl, ⟨fun b o e => ?_, fun b o e => ?_⟩, os, bare⟩
    · by_cases hb : b ∈ cs.map (·.2)
      · obtain ⟨p, hp, rfl⟩ := List.mem_map.mp hb
        obtain ⟨more, hm⟩ := grown p hp
        rw [hT p hp] at e
        cases e
        exact .inr (.inl ⟨((C p hp).tab (hT p hp)).isCodeTable, rfl, #[], more, rfl, by rw [Array.empty_append]; exact hm⟩)
      · exact .inl (same b o hb e)
    · by_cases hb : b ∈ cs.map (·.2)
      · obtain ⟨p, hp, rfl⟩ := List.mem_map.mp hb
        obtain ⟨more, hm⟩ := grown p hp
        exact ⟨_, hm⟩
      · exact ⟨o, same b o hb e⟩
end
/-- what is known of the law's promise -/
def LawG (l : PySem.W.OpenLaw) (w : World) (K : PySem.W.Frag) (k : Nat) (x : Str) (mg : Str → Option Value) (fa : Addr) (h : Heap) : Prop :=
  ∃ (fd : FuncData) (cs : List (Addr × Addr)) (sp : Sp), (∀ p ∈ cs, h.get? p.2 = some { cls := .none, data := .fields #[] }) ∧ (∀ p ∈ cs, K.lookup p.2 = none) ∧ (∀ p ∈ cs, PySem.W.CodeHd h p.1 p.2) ∧
    (∀ (s : Shared) (u : Value), BindsTo s fd ⟨[u], []⟩ [(x, u)]) ∧
    (∀ (H : Hp) (a : Addr) (ns : List Int), ns.length ≤ 63 → (∀ z ∈ ns, Builtin.Int.intBits z ≤ 1048576) → (∀ p ∈ cs, H p.2 = some (.tbl #[])) → SqL K H a (ns.map V.int) → sp [.ref a] H (fun v _ => v = .bl true) C8.E0) ∧
    ∀ base : Heap, K.In base → base.Ns mainGlobals mg → (∀ p ∈ cs, LamX.TabB base mg p.1 p.2) → FnG l.prog w K mg base k fa fd [x] sp
theorem walkG {l : PySem.W.OpenLaw} {k : Nat} {q : Program} {loose : List Str} {XP : (Str → Option Value) → Heap → Prop} {YP : World → Heap → Prop} {d : DefRec} {K : Params → PySem.W.Frag} {x : Str}
    (hn : l.most = some 63) (hdf : d.params.defaults = []) (hr : Room k callerA) (hY : ∀ (w : World) (h : Heap), YP w h → (K w.params).In h)
    (F : ∀ (w : World) (mg : Str → Option Value) (fa : Addr) (h : Heap), YP w h → (K w.params).In h → h.Ns mainGlobals mg → mg d.name = some (.ref fa) → LawG l w (K w.params) k x mg fa h) :
    PySem.W.WalkO q loose XP YP l.row.toRowW d [] (fun f vs => PySem.call f vs) := by
  refine Att.attach_callB hn hdf ?_
  intro w s0 t mg mb fa o pm cd doc a vs ns G Y ho hd hcd hmg hobj hints hlen hbits hg
  have KX := hY w _ Y
  obtain ⟨fd, cs, sp, hT, nT, C, hb, hsp, hF⟩ := F w mg fa _ Y KX G.T.g hmg
  exact callG KX G.T.g G.T.b G.T.builtins G.T.nolimit hg hT nT C G.T.bmain hobj hints (Nat.le_trans hlen (by decide)) hr hF hb fun H hH hS => hsp H a ns hlen hbits hH hS
end Gx

set_option Elab.async false
set_option linter.all false
set_option maxRecDepth 100000
set_option maxHeartbeats 4000000
namespace Rd
open PySem PySem.Spec PyProof.Rows L2
/-! ### readings, step by step: each row takes one reading apart -/
section
variable {D : Ends} {σ : L2.St} {H H1 : Hp} {Q : VK} {QB : Bool → Hp → Prop} {QA : List V → Hp → Prop} {t1 t2 : TS} {te ta tb tc : TE} {t u : TT} {i j : Nat} {v x y : V} {m n : Int} {r r2 : R2} {K : PySem.W.Frag} {A B : Prop} {b : Bool} {p : Prop}
theorem seq (h : t1 { D with nx := t2 D } σ H) : tSeq t1 t2 D σ H := h
theorem next (h : D.nx σ H) : tNext D σ H := h
theorem asg {g : TG} (h : te σ H fun x H1 => g x σ H1 D.nx) : tAsg te g D σ H := h
theorem nm {Qs : L2.St → Hp → Prop} (h : Qs (σ.set i (some v)) H) : gName i v σ H Qs := h
theorem ret (h : te σ H D.rt) : tRet te D σ H := h
theorem drop (h : te σ H fun _ H1 => D.nx σ H1) : tDrop te D σ H := h
theorem ifs (h : t σ H fun b H1 => if b = true then t1 D σ H1 else t2 D σ H1) : tIfS t t1 t2 D σ H := h
theorem par {ta : TA} (h : ta σ H fun vs H1 => ∃ v w, vs = [v, w] ∧ D.nx ((σ.set i (some v)).set j (some w)) H1) : tPar i j ta D σ H := h
theorem par3 {l : Nat} {ta : TA} (h : ta σ H fun vs H1 => ∃ u v w, vs = [u, v, w] ∧ D.nx (((σ.set i (some u)).set j (some v)).set l (some w)) H1) : tPar3 i j l ta D σ H := h
theorem var (h : σ[i]? = some (some v)) (k : Q v H) : tVar i σ H Q := ⟨v, h, k⟩
theorem cst (k : Q v H) : tC v σ H Q := k
theorem op (h : ta σ H fun x H1 => tb σ H1 fun y H2 => r x y H2 Q) : tOp r ta tb σ H Q := h
theorem un {g : V → Hp → VK → Prop} (h : ta σ H fun x H1 => g x H1 Q) : tUn g ta σ H Q := h
theorem ung {g : Int → V} (h : Q (g m) H) : rU g (.int m) H Q := ⟨m, rfl, h⟩
theorem i0 {g : Int → Int → V} (h : Q (g m n) H) : rI0 g (.int m) (.int n) H Q := ⟨m, n, rfl, rfl, h⟩
theorem iC {C : Int → Int → Prop} {g : Int → Int → V} (hc : C m n) (h : Q (g m n) H) : rI C g (.int m) (.int n) H Q := ⟨m, n, rfl, rfl, hc, h⟩
theorem eqI (h : Q (.bl (decide (m = n))) H) : rEq (.int m) (.int n) H Q := ⟨rfl, by
  have e : decide (V.int m = V.int n) = decide (m = n) := by
    by_cases z : m = n
    · subst z; simp
    · rw [decide_eq_false z, decide_eq_false (fun q => z (V.int.inj q))]
  rw [e]; exact h⟩
theorem neI (h : Q (.bl (!decide (m = n))) H) : rNe (.int m) (.int n) H Q := ⟨rfl, by
  have e : decide (V.int m = V.int n) = decide (m = n) := by
    by_cases z : m = n
    · subst z; simp
    · rw [decide_eq_false z, decide_eq_false (fun q => z (V.int.inj q))]
  rw [e]; exact h⟩
theorem eqS {a c : Str} (h : Q (.bl (decide (a = c))) H) : rEq (.str a) (.str c) H Q := ⟨rfl, by
  have e : decide (V.str a = V.str c) = decide (a = c) := by
    by_cases z : a = c
    · subst z; simp
    · rw [decide_eq_false z, decide_eq_false (fun q => z (V.str.inj q))]
  rw [e]; exact h⟩
theorem neS {a c : Str} (h : Q (.bl (!decide (a = c))) H) : rNe (.str a) (.str c) H Q := ⟨rfl, by
  have e : decide (V.str a = V.str c) = decide (a = c) := by
    by_cases z : a = c
    · subst z; simp
    · rw [decide_eq_false z, decide_eq_false (fun q => z (V.str.inj q))]
  rw [e]; exact h⟩
theorem test (h : te σ H fun x H' => ∃ k, x = .bl k ∧ QB k H') : tTest te σ H QB := h
theorem tstB (h : te σ H fun x H' => ∃ k, x = .bl k ∧ QB k H') : tB te σ H QB := h
theorem isB {QC : Bool → Prop} (h : QC b) : ∃ k, V.bl b = .bl k ∧ QC k := ⟨b, rfl, h⟩
theorem nxp {f g c d} (h : f σ H) : (Ends.mk f g c d).nx σ H := h
theorem rtp {f g c d} (h : g v H) : (Ends.mk f g c d).rt v H := h
theorem bkp {f g c d} (h : c σ H) : (Ends.mk f g c d).bk σ H := h
theorem ctp {f g c d} (h : d σ H) : (Ends.mk f g c d).ct σ H := h
theorem not (h : t σ H fun c H1 => QB (!c) H1) : tNot t σ H QB := h
theorem andT (h : t σ H fun c H1 => if c = true then u σ H1 QB else QB false H1) : tAnd t u σ H QB := h
theorem orT (h : t σ H fun c H1 => if c = true then QB true H1 else u σ H1 QB) : tOr t u σ H QB := h
theorem andV (h : ta σ H fun x H1 => ∃ c, x = .bl c ∧ if c = true then tb σ H1 Q else Q (.bl false) H1) : tAndV ta tb σ H Q := h
theorem orV (h : ta σ H fun x H1 => ∃ c, x = .bl c ∧ if c = true then Q (.bl true) H1 else tb σ H1 Q) : tOrV ta tb σ H Q := h
theorem notV (h : ta σ H fun x H1 => ∃ c, x = .bl c ∧ Q (.bl (!c)) H1) : tNotV ta σ H Q := h
theorem ifE (h : t σ H fun c H1 => if c = true then ta σ H1 Q else tb σ H1 Q) : tIf t ta tb σ H Q := h
theorem chain (h : ta σ H fun x H1 => tb σ H1 fun y H2 => r x y H2 fun z H3 => ∃ k, z = .bl k ∧ (if k = true then tc σ H3 fun w' H4 => r2 y w' H4 Q else Q (.bl false) H3)) : tChain r r2 ta tb tc σ H Q := h
theorem nil (h : QA [] H) : tNil σ H QA := h
theorem cons {tr : TA} (h : ta σ H fun x H1 => tr σ H1 fun xs H2 => QA (x :: xs) H2) : tCons ta tr σ H QA := h
theorem call {sp : Sp} {E : XK} {tr : TA} (h : tr σ H fun vs H1 => sp (vs ++ []) H1 Q E) : tCall sp [] E tr σ H Q := h
theorem cb {g : List V → Hp → VK → Prop} {tr : TA} (h : tr σ H fun vs H1 => g vs H1 Q) : tCB g tr σ H Q := h
theorem tup {tr : TA} (h : tr σ H fun xs H1 => xs.length ≤ sizeLine ∧ ∀ p, H1 p = none → Q (.ref p) (upd H1 p (.tup xs))) : tTup tr σ H Q := h
theorem lst {tr : TA} (h : tr σ H fun xs H1 => xs.length ≤ sizeLine ∧ ∀ p, H1 p = none → Q (.ref p) (upd H1 p (.lst xs))) : tLst tr σ H Q := h
theorem yes (c : p) [Decidable p] (h : A) : if decide p = true then A else B := by
  rw [decide_eq_true c, if_pos rfl]
  exact h
theorem no (c : ¬ p) [Decidable p] (h : B) : if decide p = true then A else B := by
  rw [decide_eq_false c, if_neg Bool.false_ne_true]
  exact h
theorem yesN (c : ¬ p) [Decidable p] (h : A) : if (!decide p) = true then A else B := by
  rw [decide_eq_false c]
  exact iteT h
theorem noN (c : p) [Decidable p] (h : B) : if (!decide p) = true then A else B := by
  rw [decide_eq_true c]
  exact iteF h
theorem both [Decidable p] (h1 : p → A) (h2 : ¬ p → B) : if decide p = true then A else B := by
  by_cases c : p
  · exact yes c (h1 c)
  · exact no c (h2 c)
theorem bothN [Decidable p] (h1 : ¬ p → A) (h2 : p → B) : if (!decide p) = true then A else B := by
  by_cases c : p
  · exact noN c (h2 c)
  · exact yesN c (h1 c)
end
theorem iteNT {A B : Prop} (h : B) : if (!true) = true then A else B := iteF h
theorem iteNF {A B : Prop} (h : A) : if (!false) = true then A else B := iteT h
theorem yesNN {A B p : Prop} [Decidable p] (c : p) (h : A) : if (!(!decide p)) = true then A else B := by
  rw [decide_eq_true c]
  exact iteT h
theorem noNN {A B p : Prop} [Decidable p] (c : ¬ p) (h : B) : if (!(!decide p)) = true then A else B := by
  rw [decide_eq_false c]
  exact iteF h
/-! ### readings with a name -/
def rAndM : R2 := fun x y H Q => ∃ (i : Int) (k : Nat), x = .int i ∧ y = .int (2 ^ k - 1) ∧ Q (.int (i % 2 ^ k)) H
theorem op_andM {X : Cx} : OpR X (binaryOp .BitAnd) rAndM := L2.op_andM
theorem andM {i m : Int} {H : Hp} {Q : VK} (k : Nat) (e : m = 2 ^ k - 1) (h : Q (.int (i % 2 ^ k)) H) : rAndM (.int i) (.int m) H Q := ⟨i, k, rfl, congrArg V.int e, h⟩
theorem and48 {i : Int} {H : Hp} {Q : VK} (h : Q (.int (i % 281474976710656)) H) : rAndM (.int i) (.int (281474976710656 - 1)) H Q := andM 48 (by decide) h
theorem and32 {i : Int} {H : Hp} {Q : VK} (h : Q (.int (i % 4294967296)) H) : rAndM (.int i) (.int (4294967296 - 1)) H Q := andM 32 (by decide) h
theorem and64 {i : Int} {H : Hp} {Q : VK} (h : Q (.int (i % 18446744073709551616)) H) : rAndM (.int i) (.int (18446744073709551616 - 1)) H Q := andM 64 (by decide) h
theorem and65 {i : Int} {H : Hp} {Q : VK} (h : Q (.int (i % 36893488147419103232)) H) : rAndM (.int i) (.int (36893488147419103232 - 1)) H Q := andM 65 (by decide) h
theorem and1 {i : Int} {H : Hp} {Q : VK} (h : Q (.int (i % 2)) H) : rAndM (.int i) (.int 1) H Q := andM 1 (by decide) h
def rShl1 : R2 := fun x y H Q => ∃ k : Nat, x = .int 1 ∧ y = .int (k : Int) ∧ k ≤ 134217727 ∧ Q (.int (2 ^ k)) H
theorem op_oneShl {X : Cx} : OpR X (binaryOp .LShift) rShl1 := L2.op_oneShl
theorem shl1 {k : Nat} {H : Hp} {Q : VK} (hk : k ≤ 134217727) (h : Q (.int (2 ^ k)) H) : rShl1 (.int 1) (.int (k : Int)) H Q := ⟨k, rfl, rfl, hk, h⟩
def rLenQ (K : PySem.W.Frag) : List V → Hp → VK → Prop := fun xs H Q => ∃ p ys, xs = [.ref p] ∧ (SqL K H p ys ∨ SqT K H p ys) ∧ Q (.int ys.length) H
theorem call_lenQ {X : Cx} : CallR X (.builtin "len") (rLenQ X.K) := call_len_seq
theorem lenL {K : PySem.W.Frag} {p : Addr} {ys : List V} {H : Hp} {Q : VK} (h : SqL K H p ys) (q : Q (.int ys.length) H) : rLenQ K [.ref p] H Q := ⟨p, ys, rfl, .inl h, q⟩
theorem lenT {K : PySem.W.Frag} {p : Addr} {ys : List V} {H : Hp} {Q : VK} (h : SqT K H p ys) (q : Q (.int ys.length) H) : rLenQ K [.ref p] H Q := ⟨p, ys, rfl, .inr h, q⟩
def rMax2 : List V → Hp → VK → Prop := fun xs H Q => ∃ i j, xs = [.int i, .int j] ∧ Q (.int (if j > i then j else i)) H
theorem call_mx2 {X : Cx} (hc : X.calm = true) : CallR X (.builtin "max") rMax2 := call_max2 hc
theorem mx2 {i j : Int} {H : Hp} {Q : VK} (q : Q (.int (if j > i then j else i)) H) : rMax2 [.int i, .int j] H Q := ⟨i, j, rfl, q⟩
def rMin2 : List V → Hp → VK → Prop := fun xs H Q => ∃ i j, xs = [.int i, .int j] ∧ Q (.int (if j < i then j else i)) H
theorem call_mn2 {X : Cx} (hc : X.calm = true) : CallR X (.builtin "min") rMin2 := call_min2 hc
theorem mn2 {i j : Int} {H : Hp} {Q : VK} (q : Q (.int (if j < i then j else i)) H) : rMin2 [.int i, .int j] H Q := ⟨i, j, rfl, q⟩
/-! ### isinstance of an int -/
theorem kit_int_int (K : PySem.W.Frag) : PySem.W.kitOne K (.type "int") (.type "int") = some true := by first | rfl | decide +kernel | kernel_rfl
theorem kit_int_bool (K : PySem.W.Frag) : PySem.W.kitOne K (.type "int") (.type "bool") = some false := by first | rfl | decide +kernel | kernel_rfl
theorem kit_self (K : PySem.W.Frag) (C : Addr) : PySem.W.kitOne K (.ref C) (.ref C) = some true := by
  unfold PySem.W.kitOne
  simp
theorem isInt {K : PySem.W.Frag} {n : Int} {H : Hp} {Q : VK} (q : Q (.bl true) H) : rIsi K [.int n, .ty "int"] H Q := ⟨_, _, .type "int", _, true, rfl, .ty _, .base (.int n), kit_int_int K, q⟩
theorem isBool {K : PySem.W.Frag} {n : Int} {H : Hp} {Q : VK} (q : Q (.bl false) H) : rIsi K [.int n, .ty "bool"] H Q := ⟨_, _, .type "int", _, false, rfl, .ty _, .base (.int n), kit_int_bool K, q⟩
theorem isOwn {K : PySem.W.Frag} {C a dx : Addr} {fs : List (Str × V)} {H : Hp} {Q : VK} (c : C8.InsC K C) (h : H a = some (.ins C dx fs)) (q : Q (.bl true) H) : rIsi K [.ref a, .ref C] H Q :=
  ⟨_, _, .ref C, .ref C, true, rfl, .own C, .base (.ins h c.cl c.ha c.hn c.htk c.hm), c.me, q⟩
/-! ### tuples, lists, fields -/
theorem sqt {K : PySem.W.Frag} {H : Hp} {a : Addr} {xs : List V} (h : H a = some (.tup xs)) : SqT K H a xs := .inl (.inl h)
theorem ixT {K : PySem.W.Frag} {p : Addr} {xs : List V} {i : Int} {v : V} {H : Hp} {Q : VK} (h : SqT K H p xs) (a : atI xs i = some v) (q : Q v H) : rIxT K (.ref p) (.int i) H Q := ⟨p, xs, i, v, rfl, rfl, h, a, q⟩
theorem ixL {K : PySem.W.Frag} {p : Addr} {xs : List V} {i : Int} {v : V} {H : Hp} {Q : VK} (h : SqL K H p xs) (a : atI xs i = some v) (q : Q v H) : rIxL K (.ref p) (.int i) H Q := ⟨p, xs, i, v, rfl, rfl, h, a, q⟩
theorem fld {K : PySem.W.Frag} {ta : TE} {f : Str} {σ : L2.St} {H : Hp} {Q : VK} (h : ta σ H fun x H1 => ∃ a C dx fs v, x = .ref a ∧ H1 a = some (.ins C dx fs) ∧ Cls K C ∧ NoAttr K C f ∧ fs.lookup f = some v ∧ Q v H1) : tFld K ta f σ H Q := h
theorem sql {K : PySem.W.Frag} {H : Hp} {a : Addr} {xs : List V} (h : H a = some (.lst xs)) : SqL K H a xs := .inl (.inl h)
theorem lk1 {f : Str} {v : V} : [(f, v)].lookup f = some v := by simp [List.lookup]
theorem lk_ne {f g : Str} {v : V} (h : ¬ g = f) : [(f, v)].lookup g = none := by
  have e : (g == f) = false := by simpa using h
  simp [List.lookup, e]
theorem fld1 {K : PySem.W.Frag} {f : Str} {H : Hp} {Q : V → Prop} {a C dx : Addr} {fs : List (Str × V)} {v : V} (h : H a = some (.ins C dx fs)) (c : Cls K C) (n : NoAttr K C f) (l : fs.lookup f = some v) (q : Q v) :
    ∃ a' C' dx' fs' v', V.ref a = .ref a' ∧ H a' = some (.ins C' dx' fs') ∧ Cls K C' ∧ NoAttr K C' f ∧ fs'.lookup f = some v' ∧ Q v' := ⟨a, C, dx, fs, v, rfl, h, c, n, l, q⟩
theorem meth {C : Addr} {m : Str} {sp : Sp} {E : XK} {ta : TE} {t : TA} {σ : L2.St} {H : Hp} {Q : VK} (h : ta σ H fun x H1 => ∃ a dx fs, x = .ref a ∧ H1 a = some (.ins C dx fs) ∧ fs.lookup m = none ∧ t σ H1 fun vs H2 => sp (x :: (vs ++ [])) H2 Q E) : tMeth C m sp [] E ta t σ H Q := h
theorem make {C : Addr} {sp : Sp} {E : XK} {t : TA} {σ : L2.St} {H : Hp} {Q : VK} (h : t σ H fun vs H1 => ∀ x dx, H1 x = none → H1 dx = none → dx ≠ x →
  sp (.ref x :: (vs ++ [])) (upd (upd H1 dx (.own x)) x (.ins C dx [])) (fun v H2 => v = .non ∧ Q (.ref x) H2) E) : tMake C sp [] E t σ H Q := h
theorem prop {C : Addr} {sp : Sp} {E : XK} {ta : TE} {σ : L2.St} {H : Hp} {Q : VK} (h : ta σ H fun x H1 => ∃ a dx fs, x = .ref a ∧ H1 a = some (.ins C dx fs) ∧ sp (.ref a :: []) H1 Q E) : tProp C sp [] E ta σ H Q := h
theorem gtup {K : PySem.W.Frag} {n : Nat} {t : TGs} {a : Addr} {xs : List V} {σ : L2.St} {H : Hp} {Q : L2.St → Hp → Prop} (h : SqT K H a xs) (hl : xs.length = n) (q : t xs σ H Q) : gTup K n t (.ref a) σ H Q := ⟨a, xs, rfl, h, hl, q⟩
theorem gcons {t : TG} {u : TGs} {v : V} {r : List V} {σ : L2.St} {H : Hp} {Q : L2.St → Hp → Prop} (h : t v σ H fun σ' H' => u r σ' H' Q) : gCons t u (v :: r) σ H Q := ⟨v, r, rfl, h⟩
theorem gnil {σ : L2.St} {H : Hp} {Q : L2.St → Hp → Prop} (h : Q σ H) : gNil [] σ H Q := ⟨rfl, h⟩
theorem gsub {to ti : TE} {t : TSet} {v : V} {σ : L2.St} {H : Hp} {Q : L2.St → Hp → Prop} (h : to σ H fun o H1 => ti σ H1 fun i H2 => t o i v H2 fun H3 => Q σ H3) : gSub to ti t v σ H Q := h
theorem setD {o i v : V} {H : Hp} {Q : Hp → Prop} (h : ∃ a H', o = .ref a ∧ DPut H a i v H' ∧ Q H') : rSetD o i v H Q := h
theorem setL {p : Addr} {xs : List V} {k : Int} {j : Nat} {v : V} {H : Hp} {Q : Hp → Prop} (h : H p = some (.lst xs)) (hj : ixN xs.length k = some j) (q : Q (upd H p (.lst (xs.set j v)))) : rSetL (.ref p) (.int k) v H Q := ⟨p, xs, k, j, rfl, rfl, h, hj, q⟩
theorem tupNew {K : PySem.W.Frag} {n : Nat} {t : TGs} {p : Addr} {xs : List V} {σ : L2.St} {H : Hp} {Q : L2.St → Hp → Prop} (hl : xs.length = n) (q : t xs σ (upd H p (.tup xs)) Q) : gTup K n t (.ref p) σ (upd H p (.tup xs)) Q := gtup (sqt upd_same) hl q
theorem cut {t u : TS} {D : Ends} {σ : L2.St} {H : Hp} (Mid : L2.St → Hp → Prop) (h1 : t { D with nx := Mid } σ H) (h2 : ∀ σ' H', Mid σ' H' → u D σ' H') : C8.tCut t u D σ H := ⟨Mid, h1, h2⟩
theorem bm {K : PySem.W.Frag} {T : String} {r : V → List V → Hp → VK → Prop} {to : TE} {t : TA} {σ : L2.St} {H : Hp} {Q : VK} (h : to σ H fun x H1 => tyV K T x H1 ∧ t σ H1 fun xs H2 => r x xs H2 Q) : tBM K T r to t σ H Q := h
theorem tyL {K : PySem.W.Frag} {H : Hp} {p : Addr} {xs : List V} (h : H p = some (.lst xs)) : tyV K "list" (.ref p) H := Or.inl ⟨rfl, _, Or.inl (Or.inl h)⟩
theorem app {H : Hp} {Q : VK} {l : Addr} {xs : List V} {y : V} (h : H l = some (.lst xs)) (hl : xs.length < 100000) (q : Q .non (upd H l (.lst (xs ++ [y])))) : rAppend (.ref l) [y] H Q := ⟨l, xs, y, rfl, rfl, h, Nat.lt_of_lt_of_le hl (by decide), q⟩
theorem revL {K : PySem.W.Frag} {te : TE} {σ : L2.St} {H : Hp} {Q : VK} (h : te σ H fun x H1 => ∃ a xs, x = .ref a ∧ SqL K H1 a xs ∧ ∀ p, H1 p = none → Q (.ref p) (upd H1 p (.lst xs.reverse))) : tRevL K te σ H Q := h
theorem frl {K : PySem.W.Frag} {tl : TE} {g : TG} {tb : TS} {D : Ends} {σ : L2.St} {H : Hp} (h : tl σ H fun x H1 => ∃ a, x = .ref a ∧ (∃ xs, SqL K H1 a xs) ∧ ∃ W : Nat → Nat → L2.St → Hp → Prop, (∃ m, W 0 m σ H1) ∧ ∀ i m σ H, W i m σ H →
    ((Itl K a).stop i H ∧ D.nx σ H) ∨ ((Itl K a).go i H ∧ ∃ N : L2.St → Hp → Prop, (∀ σ' H', N σ' H' → ∃ m', m' < m ∧ W (i + 1) m' σ' H') ∧ ∀ x H', (Itl K a).yld i H x H' → g x σ H' fun σ2 H2 => tb { D with nx := N, ct := N, bk := D.nx } σ2 H2)) :
    tFor (iList K tl) g tb D σ H := h
theorem frt {K : PySem.W.Frag} {tl : TE} {g : TG} {tb : TS} {D : Ends} {σ : L2.St} {H : Hp} (h : tl σ H fun x H1 => ∃ a, x = .ref a ∧ (∃ xs, SqT K H1 a xs) ∧ ∃ W : Nat → Nat → L2.St → Hp → Prop, (∃ m, W 0 m σ H1) ∧ ∀ i m σ H, W i m σ H →
    ((Itt K a).stop i H ∧ D.nx σ H) ∨ ((Itt K a).go i H ∧ ∃ N : L2.St → Hp → Prop, (∀ σ' H', N σ' H' → ∃ m', m' < m ∧ W (i + 1) m' σ' H') ∧ ∀ x H', (Itt K a).yld i H x H' → g x σ H' fun σ2 H2 => tb { D with nx := N, ct := N, bk := D.nx } σ2 H2)) :
    tFor (iTup K tl) g tb D σ H := h
theorem fre {K : PySem.W.Frag} {ta : TA} {g : TG} {tb : TS} {D : Ends} {σ : L2.St} {H : Hp} (h : ta σ H fun vs H1 => ∃ a xs, vs = [.ref a] ∧ SqL K H1 a xs ∧ ∃ W : Nat → Nat → L2.St → Hp → Prop, (∃ m, W 0 m σ H1) ∧ ∀ i m σ H, W i m σ H →
    ((Ite K a).stop i H ∧ D.nx σ H) ∨ ((Ite K a).go i H ∧ ∃ N : L2.St → Hp → Prop, (∀ σ' H', N σ' H' → ∃ m', m' < m ∧ W (i + 1) m' σ' H') ∧ ∀ x H', (Ite K a).yld i H x H' → g x σ H' fun σ2 H2 => tb { D with nx := N, ct := N, bk := D.nx } σ2 H2)) :
    tFor (iEnum K ta) g tb D σ H := h
theorem disp {trs : List (TE × TE)} {σ : L2.St} {H : Hp} {Q : VK} (h : ∀ p, H p = none → tPairs trs σ (upd H p (.dK [])) fun ps H2 => H2 p = some (.dK []) ∧ ∃ kvs : List (Key × V), ps = kvs.map (fun kv => (kV kv.1, kv.2)) ∧ kvs.length ≤ 15 ∧ Q (.ref p) (upd H2 p (.dK (mergeK [] kvs)))) : tDisp trs σ H Q := h
theorem pnil {σ : L2.St} {H : Hp} {Q : List (V × V) → Hp → Prop} (h : Q [] H) : tPairs [] σ H Q := h
theorem pcons {tk tv : TE} {r : List (TE × TE)} {σ : L2.St} {H : Hp} {Q : List (V × V) → Hp → Prop} (h : tk σ H fun x H1 => tv σ H1 fun y H2 => tPairs r σ H2 fun ps H3 => Q ((x, y) :: ps) H3) : tPairs ((tk, tv) :: r) σ H Q := h
/-! ### loops -/
theorem whl {c : TT} {tb : TS} {D : Ends} {σ : L2.St} {H : Hp} (W : Nat → L2.St → Hp → Prop) (m : Nat) (w0 : W m σ H) (hs : ∀ m σ H, W m σ H → c σ H fun b H1 => if b = true then ∃ N : L2.St → Hp → Prop, (∀ σ' H', N σ' H' → ∃ m', m' < m ∧ W m' σ' H') ∧
    tb { D with nx := N, ct := N, bk := D.nx } σ H1 else D.nx σ H1) : tWhile c tb D σ H := ⟨W, ⟨m, w0⟩, hs⟩
theorem fr1 {ta : TA} {g : TG} {tb : TS} {D : Ends} {σ : L2.St} {H : Hp} (h : ta σ H fun vs H1 => ∃ j : Int, vs = [.int j] ∧ -(2 ^ 62) ≤ j ∧ j < 2 ^ 62 ∧ ∃ W : Nat → Nat → L2.St → Hp → Prop, (∃ m, W 0 m σ H1) ∧ ∀ i m σ H, W i m σ H →
    ((Itr 0 j.toNat).stop i H ∧ D.nx σ H) ∨ ((Itr 0 j.toNat).go i H ∧ ∃ N : L2.St → Hp → Prop, (∀ σ' H', N σ' H' → ∃ m', m' < m ∧ W (i + 1) m' σ' H') ∧ ∀ x H', (Itr 0 j.toNat).yld i H x H' → g x σ H' fun σ2 H2 => tb { D with nx := N, ct := N, bk := D.nx } σ2 H2)) :
    tFor (iRng1 ta) g tb D σ H := h
/-- range(n), the turn told as a number -/
theorem frN {n : Nat} {k : Int} {g : TG} {tb : TS} {D : Ends} {σ : L2.St} {H : Hp} (hk : k = (n : Int)) (hn : n ≤ 1000000) (Pv : Nat → L2.St → Hp → Prop) (h0 : Pv 0 σ H)
    (hs : ∀ i σ H, i < n → Pv i σ H → g (.int (i : Int)) σ H fun σ2 H2 => tb { D with nx := Pv (i + 1), ct := Pv (i + 1), bk := D.nx } σ2 H2) (hd : ∀ σ H, Pv n σ H → D.nx σ H) :
    ∃ j : Int, [V.int k] = [.int j] ∧ -(2 ^ 62) ≤ j ∧ j < 2 ^ 62 ∧ ∃ W : Nat → Nat → L2.St → Hp → Prop, (∃ m, W 0 m σ H) ∧ ∀ i m σ H, W i m σ H →
    ((Itr 0 j.toNat).stop i H ∧ D.nx σ H) ∨ ((Itr 0 j.toNat).go i H ∧ ∃ N : L2.St → Hp → Prop, (∀ σ' H', N σ' H' → ∃ m', m' < m ∧ W (i + 1) m' σ' H') ∧ ∀ x H', (Itr 0 j.toNat).yld i H x H' → g x σ H' fun σ2 H2 => tb { D with nx := N, ct := N, bk := D.nx } σ2 H2) := by
  subst hk
  refine ⟨(n : Int), rfl, by omega, by omega, ?_⟩
  rw [Int.toNat_natCast]
  refine for_range (n := n) Pv h0 (fun i σ H hi hp => ?_) hd
  have e := hs i σ H hi hp
  rw [Int.zero_add]
  exact e
/-- all that was tracked stands -/
abbrev Ex := L2.Same
theorem ex_new {H : Hp} {p : Addr} {o : HO} (h : H p = none) : Ex H (upd H p o) := fun b z e => by
  rw [upd_ne (ne_of_none e h)]
  exact e
theorem ex_mut {H H' : Hp} {p : Addr} {o : HO} (e : Ex H H') (h : H p = none) : Ex H (upd H' p o) := fun b z q => by
  rw [upd_ne (ne_of_none q h)]
  exact e b z q
theorem ex_t {K : PySem.W.Frag} {H H' : Hp} {a : Addr} {xs : List V} (e : Ex H H') (h : SqT K H a xs) : SqT K H' a xs := by
  rcases h with (h | ⟨o, h⟩) | h
  · exact .inl (.inl (e _ _ h))
  · exact .inl (.inr ⟨o, e _ _ h⟩)
  · exact .inr h
theorem ex_l {K : PySem.W.Frag} {H H' : Hp} {a : Addr} {xs : List V} (e : Ex H H') (h : SqL K H a xs) : SqL K H' a xs := e.seq h
end Rd

set_option Elab.async false
set_option linter.all false
set_option maxRecDepth 100000
set_option maxHeartbeats 1000000
/-! a for loop in a generator's body -/
namespace Gx
open PySem PySem.Spec PyProof.Rows L2 GenW
def hX (env : Env) (x : Value) : Sem PySem.Fin := (do noteFrame x env; theTreesLotGoes x : Sem Unit).wrap (fun _ => .raise x) .raise id id
theorem seg_forLoop {prog : Program} {w : World} {A : Around} {R : GenEnd} {Y : Protocol} {n : Nat} {s₀ s : Shared} {fs : List Frame} {env : Env} {tg : Expr} {it : Value} {body : List Stmt}
    (h : wpAny (model prog w) (A.over (.forLoop tg it body [] env) fs) (pyNext it) (fun r s1 => match r with
      | none => Seg (model prog w) A R Y n s₀ (.forLoop tg it body [] env) (.pure (.again (.block [] env))) fs s1
      | some v => wpAny (model prog w) (A.over (.forLoop tg it body [] env) fs) (letOwnedTupleGo tg it v) (fun _ s2 =>
          wpAny (model prog w) (A.over (.forLoop tg it body [] env) fs) (assign tg env v) (fun _ s3 =>
            Seg (model prog w) A R Y n s₀ (.forLoop tg it body [] env) ((execs body env).wrap (fun f => match f with
              | .next | .cont => .pure (.again (.forLoop tg it body [] env))
              | .brk => .pure (.done .next)
              | .ret v => .pure (.done (.ret v))) (hX env) id id) fs s3)
            (fun x s' => Seg (model prog w) A R Y n s₀ (.forLoop tg it body [] env) (hX env x) fs s') s2)
          (fun x s' => Seg (model prog w) A R Y n s₀ (.forLoop tg it body [] env) (hX env x) fs s') s1)
      (fun x s' => Seg (model prog w) A R Y n s₀ (.forLoop tg it body [] env) (hX env x) fs s') s) :
    Seg (model prog w) A R Y n s₀ (.forLoop tg it body [] env) ((model prog w).den (.forLoop tg it body [] env)) fs s := by
  have hh : ∀ e, (do noteFrame e env; theTreesLotGoes e : Sem Unit).bind (fun _ => (.raise e : Sem PySem.Fin)) = hX env e := fun e => Sem.bind_eq_wrap _ _
  show Seg _ A R Y n s₀ _ ((forTurn tg it body [] env).onRaise (fun x => do noteFrame x env; theTreesLotGoes x)) fs s
  unfold forTurn
  rw [Sem.onRaise_eq_wrap]
  refine seg_bind_wrap (wpAny_standAt ?_)
  refine seg_bind_wrap (wpAny_onRaise (wpAny_mono h (fun r s1 h1 => ?_) fun x s' hx => wpAny_standAt ?_))
  · cases r with
    | none => exact h1
    | some v =>
      refine seg_bind_wrap (wpAny_mono h1 (fun _ s2 h2 => ?_) fun x s' hx => ?_)
      · refine seg_bind_wrap (wpAny_mono h2 (fun _ s3 h3 => ?_) fun x s' hx => ?_)
        · rw [Sem.bind_eq_wrap', Sem.wrap_wrap]
          rw [Sem.wrap_congr (execs body env) _ _ (K' := fun f => match f with
              | .next | .cont => .pure (.again (.forLoop tg it body [] env))
              | .brk => .pure (.done .next)
              | .ret v => .pure (.done (.ret v))) (H' := hX env) (fun f => by cases f <;> rfl) (fun e => by exact hh e)]
          exact h3
        · rw [← hh] at hx; exact hx
      · rw [← hh] at hx; exact hx
  · rw [← hh] at hx; exact hx
def tGFor (wi : TI) (g : TG) (tb : TGn) : TGn := fun D ys σ H => wi σ H fun J H1 => ∃ W : Nat → Nat → List V → L2.St → Hp → Prop, (∃ m, W 0 m ys σ H1) ∧ ∀ i m ys σ H, W i m ys σ H →
  (J.stop i H ∧ D.nx ys σ H) ∨ (J.go i H ∧ ∃ N : List V → L2.St → Hp → Prop, (∀ ys' σ' H', N ys' σ' H' → ∃ m', m' < m ∧ W (i + 1) m' ys' σ' H') ∧
    ∀ x H', J.yld i H x H' → g x σ H' fun σ2 H2 => tb { D with nx := N, ct := N, bk := D.nx } ys σ2 H2)
section
variable {X : Cx}
theorem gs_for {tg iter : Expr} {body : List Stmt} {pos : Pos} {wi : TI} {g : TG} {tb : TGn} (hp : PassesOwn (model X.prog X.w) X.A X.env X.xe) (hc : X.calm = true) (hi : PI X tg iter wi) (hg : PG X tg g) (hb : GSs X body tb)
    (hs : ∀ x, foldedSetIterable iter X.env x = pure x := by intro _; rfl) : GS X (.For tg iter body [] pos) (tGFor wi g tb) := by
  refine ⟨fun A S ip R n ys s₀ c fs K J gd lv s σ H D gc hn k hI ht => ?_⟩
  obtain ⟨acc0, cc0, r0, I0⟩ := hI
  rw [exec_For]
  refine seg_bind_wrap (wpAny_standAt ?_)
  refine seg_bind_wrap ?_
  rw [gc.over]
  refine wpAny_mono (hi.run _ s σ H _ I0 ht) (fun v s1 h1 => ?_) fun x s' hx => k.exc n s₀ x s' hx
  refine seg_bind_wrap (wpAny_of_eq (hs v) ?_)
  refine seg_bind_wrap (wpAny_standAt ?_)
  refine seg_bind_wrap (wpAny_holding ?_)
  rw [gc.over]
  refine wpAny_mono h1 (fun itv s2 h2 => ?_) fun x s' hx => k.exc n s₀ x s' hx
  obtain ⟨it, fp, tn, JJ, H2, e, I2, T, st2, f2, W, ⟨m0, w0⟩, turn⟩ := h2
  subst e
  refine seg_call fun p => ?_
  have gl := fun (kk : Result → Sem PySem.Fin) => gc_loop (k := kk) (c' := .forLoop tg (.ref it) body [] X.env) (l := lv []) (kp := []) (p := p) gc rfl rfl
  have glb := fun (kk : Result → Sem PySem.Fin) => gc_loop (k := kk) (c' := .block [] X.env) (l := lv []) (kp := []) (p := p) gc rfl rfl
  -- the objects of the iterator
  have stat : ∀ {acc : Array Value} {cc : Nat} {H' : Hp}, (∀ b ∈ fp, H' b = none) → ∀ b ∈ fp, FpOk X ((S, lstObj acc cc) :: ip) H' b := fun {acc cc H'} hn b hb => by
    obtain ⟨_, q1, q2, q3, q4, q5⟩ := f2 b hb
    refine ⟨hn b hb, q1, q2, q3, q4, fun p hp => ?_⟩
    rcases List.mem_append.mp hp with z | z
    · exact q5 p (List.mem_append_left _ z)
    · rcases List.mem_cons.mp z with z | z
      · rw [z]; exact q5 (S, lstObj acc0 cc0) (List.mem_append_right _ List.mem_cons_self)
      · exact q5 p (List.mem_append_right _ (List.mem_cons_of_mem _ z))
  have fpS : ∀ b ∈ fp, b ≠ S := fun b hb z => (f2 b hb).2.2.2.2.2 (S, lstObj acc0 cc0) (List.mem_append_right _ List.mem_cons_self) z.symm
  have loop : ∀ (m n : Nat) (i : Nat) (ys : List V) (s₀ s : Shared) (σ : L2.St) (H : Hp), n + ys.length = sizeLine → W i m ys σ H → GI X S ip ys σ H s → tn i s.heap → (∀ b ∈ fp, H b = none) →
      Seg (model X.prog X.w) A R (GY X S) n s₀ (.forLoop tg (.ref it) body [] X.env) ((model X.prog X.w).den (.forLoop tg (.ref it) body [] X.env))
        (.ret (fun r => ((match r with | .ok f => (.pure f : Sem Flow) | .error e => .raise e).onRaise (cameBack X.env)).wrap K J gd lv) none (gd false) (lv []) c p [] :: fs) s := by
    intro m
    induction m using Nat.strongRecOn with
    | ind m ih =>
      intro n i ys s₀ s σ H hn w hI hst hfr
      have ee : ∀ (n : Nat) (s₀ : Shared) (x : Value) (s' : Shared), X.xe x s' → Seg (model X.prog X.w) A R (GY X S) n s₀ (.forLoop tg (.ref it) body [] X.env) (hX X.env x)
          (.ret (fun r => ((match r with | .ok f => (.pure f : Sem Flow) | .error e => .raise e).onRaise (cameBack X.env)).wrap K J gd lv) none (gd false) (lv []) c p [] :: fs) s' := fun n s₀ x s' hx => by
        refine seg_wrap ?_
        rw [(gl _).over]
        refine wpAny_bind (wpAny_mono (hp x s' hx) (fun _ s'' hcb => wpAny_theTreesLotGoes ?_) fun y s'' hcb => ?_)
        · exact seg_leaf (.error x) (seg_cameBack gc k hcb)
        · exact seg_leaf (.error y) (seg_cameBack gc k hcb)
      refine seg_forLoop ?_
      rw [(gl _).over]
      obtain ⟨acc, cc, r, I⟩ := hI
      rcases turn i m ys σ H w with ⟨stop, qn⟩ | ⟨go, N, hN, step⟩
      · refine wpAny_mono (T.done X rfl rfl rfl hc i _ s σ H X.xe I (stat hfr) hst stop) (fun q s4 ⟨hr, I4⟩ => ?_) fun x s' hx => ee n s₀ x s' hx
        subst hr
        refine seg_again rfl ?_
        show Seg _ _ _ _ n s₀ (.block [] X.env) (((execs [] X.env).onRaise _) >>= fun f => pure (.done f)) _ s4
        exact seg_leaf (.ok .next) (k.ok n ys s₀ s4 .next hn ⟨σ, H, ⟨acc, cc, r, I4⟩, qn⟩)
      · refine wpAny_mono (T.item X rfl rfl rfl hc i _ s σ H X.xe I (stat hfr) hst go) (fun q s4 ⟨u, hr, h4⟩ => ?_) fun x s' hx => ee n s₀ x s' hx
        subst hr
        refine wpAny_mono h4 (fun _ s5 ⟨x, H5, I5, r5, y5, st5, fr5⟩ => ?_) fun x s' hx => ee n s₀ x s' hx
        have I5' := I5.pinned (stat fr5) (T.obj _ _ st5)
        refine wpAny_mono (hg.run _ s5 σ H5 x u _ I5' r5 (step x H5 y5)) (fun _ s6 ⟨σ6, H6, I6, q6⟩ => ?_) fun x s' hx => ee n s₀ x s' hx
        have gip : ∀ p ∈ ip ++ pinsAt fp s5.heap, p.1 ≠ S := fun p hp => by
          rcases List.mem_append.mp hp with z | z
          · exact gc.ip p z
          · exact fpS _ (of_pinsAt z).1
        have un : ∀ {ys' : List V} {σ' : L2.St} {H' : Hp} {s' : Shared}, GI X S (ip ++ pinsAt fp s5.heap) ys' σ' H' s' → GI X S ip ys' σ' H' s' ∧ tn (i + 1) s'.heap ∧ ∀ b ∈ fp, H' b = none := fun {ys' σ' H' s'} hI => by
          obtain ⟨acc, cc, r, I⟩ := hI
          have pn := fun b hb o e => I.pin (b, o) (List.mem_append_right _ (List.mem_cons_of_mem _ (List.mem_append_right _ (mem_pinsAt (fp := fp) (h := s5.heap) (b := b) (o := o) hb e))))
          refine ⟨⟨acc, cc, r, I.pins_of fun p hp => I.pin p (List.mem_append_right _ ?_)⟩, T.keep _ _ _ st5 fun b hb o e => (pn b hb o e).1, fun b hb => ?_⟩
          · rcases List.mem_cons.mp hp with z | z
            · exact z ▸ List.mem_cons_self
            · exact List.mem_cons_of_mem _ (List.mem_append_left _ z)
          · obtain ⟨o, e, d⟩ := T.obj _ _ st5 b hb
            exact (pn b hb o e).2.1
        refine hb.run A S (ip ++ pinsAt fp s5.heap) R n ys s₀ _ _ _ _ id id s6 σ6 H6 { D with nx := N, ct := N, bk := D.nx } ⟨gc.pn, gip, gc.apart, (gl _).over, (gl _).split, (gl _).guard, rfl⟩ hn ⟨fun n' ys' s₀' s7 f hn' hs => ?_, fun n' s₀' x s3 hx => ee n' s₀' x s3 hx⟩ ⟨acc, cc, r, I6⟩ q6
        cases f with
        | next =>
          obtain ⟨σ7, H7, I7, n7⟩ := hs
          obtain ⟨I8, st8, fr8⟩ := un I7
          obtain ⟨m', hm, w7⟩ := hN ys' σ7 H7 n7
          exact seg_again rfl (ih m' hm n' (i + 1) ys' s₀' s7 σ7 H7 hn' w7 I8 st8 fr8)
        | cont =>
          obtain ⟨σ7, H7, I7, n7⟩ := hs
          obtain ⟨I8, st8, fr8⟩ := un I7
          obtain ⟨m', hm, w7⟩ := hN ys' σ7 H7 n7
          exact seg_again rfl (ih m' hm n' (i + 1) ys' s₀' s7 σ7 H7 hn' w7 I8 st8 fr8)
        | brk =>
          obtain ⟨σ7, H7, I7, n7⟩ := hs
          exact seg_leaf (.ok .next) (k.ok n' ys' s₀' s7 .next hn' ⟨σ7, H7, (un I7).1, n7⟩)
        | ret v =>
          obtain ⟨x7, σ7, H7, I7, r7, n7⟩ := hs
          exact seg_leaf (.ok (.ret v)) (k.ok n' ys' s₀' s7 (.ret v) hn' ⟨x7, σ7, H7, (un I7).1, r7, n7⟩)
  exact loop m0 n 0 ys s₀ s2 σ H2 hn w0 ⟨acc0, cc0, r0, I2⟩ st2 fun b hb => (f2 b hb).1
/-- over a range -/
theorem gfor_range {lo : Int} {n : Nat} {g : TG} {tb : TGn} {D : GEnds} {ys : List V} {σ : L2.St} {H : Hp} (Pv : Nat → List V → L2.St → Hp → Prop) (h0 : Pv 0 ys σ H)
    (hs : ∀ i ys σ H, i < n → Pv i ys σ H → g (.int (lo + i)) σ H fun σ2 H2 => tb { D with nx := Pv (i + 1), ct := Pv (i + 1), bk := D.nx } ys σ2 H2) (hd : ∀ ys σ H, Pv n ys σ H → D.nx ys σ H) :
    ∃ W : Nat → Nat → List V → L2.St → Hp → Prop, (∃ m, W 0 m ys σ H) ∧ ∀ i m ys σ H, W i m ys σ H →
      ((Itr lo n).stop i H ∧ D.nx ys σ H) ∨ ((Itr lo n).go i H ∧ ∃ N : List V → L2.St → Hp → Prop, (∀ ys' σ' H', N ys' σ' H' → ∃ m', m' < m ∧ W (i + 1) m' ys' σ' H') ∧ ∀ x H', (Itr lo n).yld i H x H' → g x σ H' fun σ2 H2 => tb { D with nx := N, ct := N, bk := D.nx } ys σ2 H2) := by
  refine ⟨fun i m ys σ H => m = n - i ∧ i ≤ n ∧ Pv i ys σ H, ⟨n, by simp, Nat.zero_le _, h0⟩, ?_⟩
  rintro i m ys σ H ⟨rfl, hi, p⟩
  by_cases hlt : i < n
  · refine .inr ⟨hlt, Pv (i + 1), fun ys' σ' H' p' => ⟨n - (i + 1), by omega, rfl, hlt, p'⟩, fun x H' y => ?_⟩
    obtain ⟨rfl, rfl⟩ := y
    exact hs i ys σ _ hlt p
  · have e : i = n := by omega
    subst e
    exact .inl ⟨Nat.le_refl _, hd ys σ H p⟩
end
end Gx

set_option Elab.async false
set_option linter.all false
set_option maxRecDepth 100000
set_option maxHeartbeats 1000000
/-! an operator of one's own class, a static method, list() of a generator method -/
namespace Gx
open PySem PySem.Spec PyProof.Rows L2 GenW
/-! ### an own operator, the right side an int -/
structure OwnOp (K : PySem.W.Frag) (C : Addr) (nm : String) : Prop where
  sf : PySem.W.selfFirst K C = true
  r : PySem.W.findIn K (.ref C) (dunderR nm) = some none
  l1 : ∃ fo, PySem.W.findIn K (.type "int") (PySem.dunder nm) = some fo
  l2 : ∃ ro, PySem.W.findIn K (.type "int") (dunderR nm) = some ro
  sub : PySem.W.subIn K (.type "int") (.ref C) = some false
def rOwn (C : Addr) (sp : Sp) : V → V → Hp → VK → Prop := fun x y H Q => ∃ (a dx : Addr) (fs : List (Str × V)) (n : Int), x = .ref a ∧ y = .int n ∧ H a = some (.ins C dx fs) ∧ sp ([x, y] ++ []) H (fun v H' => (∃ b, v = .ref b) ∧ Q v H') C8.E0
section
variable {X : Cx} {k j : Nat} {C : Addr} {m : Str} {sp : Sp}
theorem op_own {op : Operator} (c : C8.Met X.prog X.w X.K X.mg X.base k C m sp []) (hr : Room j X.A) (hk : k ≤ j) (o : OwnOp X.K C op.info.2) (hm : PySem.dunder op.info.2 = m) : OpR X (binaryOp op) (rOwn C sp) := by
  intro pins s σ H x y v u Q I rx ry h
  obtain ⟨a, dx, fs, n, rfl, rfl, ha, q⟩ := h
  obtain rfl : v = Value.ref a := rx
  obtain ⟨f, fd, ps, ds, hc, me, F, b, d⟩ := c.ex
  obtain ⟨mA, O, rr, _, _, _⟩ := ins_get I.hok ha
  obtain ⟨od, J, hl⟩ := O.look
  obtain ⟨m0, fr⟩ := I.fr
  obtain ⟨fo, h1⟩ := o.l1
  obtain ⟨ro, h2⟩ := o.l2
  obtain ⟨t, rfl⟩ := id ry
  subst hm
  refine PySem.W.ksp_binT fr I.mod.kin J (T := "int") rfl o.sf me.at_ me.fn o.r (.inl rfl) h1 h2 o.sub ?_
  refine thn (run_fn (us := [.ref a, .int n t]) (vs := [.ref a, .int n]) F (hr.mono hk) b d C8.pass0 I (.cons rfl (.cons ry .nil)) q) fun v s1 hv => ?_
  obtain ⟨x, H1, I1, r1, ⟨b1, rfl⟩, q1⟩ := hv
  obtain rfl : v = Value.ref b1 := r1
  exact (⟨.ref b1, H1, I1, rfl, q1⟩ : EP X pins σ Q (.ref b1) s1)
end
/-! ### a static method of a class, by the class -/
structure SMet (P : Program) (w : World) (K : PySem.W.Frag) (mg : Str → Option Value) (base : Heap) (k : Nat) (C : Addr) (m : Str) (sp : Sp) : Prop where
  ex : ∃ (mc : Value) (p f : Addr) (fd : FuncData) (ps : List Str) (rest : List Value), ClX.CRead K C mc ∧ PySem.W.findCls K (.ref C) mc m = some (.get (.builtin "staticmethod.__get__") (.ref p) .none (.ref C)) ∧
    PySem.W.recIn K p "staticmethod" = some (.ref f :: rest) ∧ PySem.W.keepIn K (.ref f) = true ∧ FnOk P w K mg base C8.CX0 k f fd ps sp ∧ Binds K fd ps []
structure SAt (K : PySem.W.Frag) (C : Addr) (m : Str) (f : Addr) : Prop where
  ex : ∃ (mc : Value) (p : Addr) (rest : List Value), ClX.CRead K C mc ∧ PySem.W.findCls K (.ref C) mc m = some (.get (.builtin "staticmethod.__get__") (.ref p) .none (.ref C)) ∧ PySem.W.recIn K p "staticmethod" = some (.ref f :: rest) ∧ PySem.W.keepIn K (.ref f) = true
theorem smet0 {P : Program} {w : World} {K : PySem.W.Frag} {mg : Str → Option Value} {base : Heap} {m qual : Str} {C : Addr} {st : Stmt} {f : Addr} {fd : FuncData} {N ps : List Str} {k : Nat} {sp : Sp} (me : SAt K C m f) (F : C8.Fun K m qual st f fd) (b : Binds K fd ps []) (S : FnScope N ps (C8.fnScope st))
    (len : ∀ vs H Q E, sp vs H Q E → vs.length = ps.length)
    (hbody : ∀ (cdv : Value) (A : Around) (outer : List Env) (s : Shared) (H : Hp) (vs : List V) (Q : VK) (E : XK), Room k (A.deeper (envOfC qual (C8.fnScope st) s.heap.objs.size f cdv)) → sp vs H Q E →
      ∃ t, PSs (cxOf C8.CX0 P w K mg base N qual (C8.fnScope st) f cdv A outer s H E).nox (C8.fnBody st) t ∧ t { nx := fun _ H' => Q .non H', rt := Q } (start N vs) H) : SMet P w K mg base (k + 1) C m sp := by
  obtain ⟨mc, p, rest, r, a, b1, kp⟩ := me.ex
  exact ⟨mc, p, f, fd, ps, rest, r, a, b1, kp, C8.fn0 F S len hbody, b⟩
def tSMeth (C : Addr) (sp : Sp) (ta : TE) (t : TA) : TE := fun σ H Q => ta σ H fun x H1 => x = .ref C ∧ t σ H1 fun vs H2 => sp (vs ++ []) H2 Q C8.E0
section
variable {X : Cx} {k j : Nat} {C : Addr} {m : Str} {sp : Sp} {pos apos : Pos} {e o : Expr} {es : List Expr} {ta : TE} {t : TA} {pl : Sem Bool}
theorem pe_sm (c : SMet X.prog X.w X.K X.mg X.base k C m sp) (hr : Room j X.A) (hk : k ≤ j) (he : PE X o ta) (ha : PA X (e :: es) t)
    (hst : starEach (e :: es) X.env = (false, eval e X.env) :: starEach es X.env := by rfl) (hpl : (backTo pos (starEach es X.env)).any (·.1) = false := by rfl)
    (ht : eval (.Call (.Attribute o m apos) (e :: es) [] pos) X.env = (do
      let ov ← eval o X.env
      standAt apos.atName
      let (f, first) ← holding [ov] (getMethod ov m pl)
      callWith pos f first (backTo pos (starEach (e :: es) X.env)) (backToKw pos (keywordEach [] X.env))) := by rfl) :
    PE X (.Call (.Attribute o m apos) (e :: es) [] pos) (tSMeth C sp ta t) := by
  obtain ⟨mc, p, f, fd, ps, rest, r, a, b1, kp, F, b⟩ := c.ex
  refine ⟨fun pins s σ H Q I h => ?_⟩
  refine PySem.W.methodCall_KW (pl := pl) (thn (he.run pins s σ H _ I h) fun u s1 ⟨x, H1, I1, rx, ex, q⟩ => ?_) ht
  subst ex
  obtain rfl : u = Value.ref C := rx
  refine PySem.W.method_cls I1.kIn r.ga (PySem.W.cls_bind I1.kIn r.rd a (wpAny_call (PySem.W.sm_get (s := { s1 with toks := s1.toks + 1 }) I1.kIn b1 (PySem.W.handed_on rfl ?_))))
  have I2 : Inv X pins σ H1 { s1 with toks := s1.toks + 1 } := I1.tok _
  refine PySem.W.callWith_K (first := []) (h₀ := X.base) I.ok.mod.kin kp (thn (ha.run pos pins _ σ H1 _ I2 q) fun us s2 ⟨vs, H2, I3, rv, q2⟩ => ⟨I3.kIn, ?_⟩) hst hpl
  exact run_fn F (hr.mono hk) b .nil C8.pass0 I3 rv q2
end
/-! ### a generator method -/
structure GMet (P : Program) (w : World) (K : PySem.W.Frag) (mg : Str → Option Value) (base : Heap) (k : Nat) (C : Addr) (m : Str) (sp : SpG) : Prop where
  ex : ∃ (f : Addr) (fd : FuncData) (ps : List Str), Cls K C ∧ Meth K C m f ∧ GFn P w K mg base k f fd ps sp ∧ Binds K fd ps []
def gscC (N P : List Str) (sc : Scope) : Bool :=
  decide (sc.kind = .function) && !sc.isCoroutine && sc.isGenerator && decide N.Nodup && decide (N.take P.length = P) && P.all (fun x => decide (sc.names.lookup x = some .local) || decide (sc.names.lookup x = some .cell)) && sc.names.all (fun y => !decide (y.2 = .free))
theorem gscope_by {N P : List Str} {sc : Scope} (h : gscC N P sc = true) : GScope N P sc := by
  simp only [gscC, Bool.and_eq_true, decide_eq_true_eq, Bool.not_eq_true', List.all_eq_true, Bool.or_eq_true, decide_eq_false_iff_not] at h
  obtain ⟨⟨⟨⟨⟨⟨h1, h2⟩, h3⟩, h4⟩, h5⟩, h6⟩, h7⟩ := h
  exact ⟨h1, h2, h3, h4, h5, h6, h7⟩
theorem gmet0 {P : Program} {w : World} {K : PySem.W.Frag} {mg : Str → Option Value} {base : Heap} {m qual : Str} {C : Addr} {st : Stmt} {f : Addr} {fd : FuncData} {N ps : List Str} {k : Nat} {sp : SpG} (c : Cls K C) (me : Meth K C m f) (F : C8.Fun K m qual st f fd) (b : Binds K fd ps [])
    (S : GScope N ps (C8.fnScope st)) (len : ∀ vs H Q E, sp vs H Q E → vs.length = ps.length)
    (hbody : ∀ (cdv : Value) (A : Around) (outer : List Env) (s : Shared) (H : Hp) (vs : List V) (Q : List V → Hp → Prop) (E : XK) (pn : List (Addr × Obj)), Room k (A.deeper (envOfC qual (C8.fnScope st) s.heap.objs.size f cdv)) → sp vs H Q E →
      ∃ t, GSs (gcxOf P w K mg base N qual (C8.fnScope st) f cdv A outer s H E pn) (C8.fnBody st) t ∧ t { nx := fun ys _ H' => Q ys H', rt := fun ys v H' => v = .non ∧ Q ys H' } [] (start N vs) H) : GMet P w K mg base (k + 1) C m sp := by
  obtain ⟨oc, od, dV, kV, doc, pm, an, cdv, ct, osl, rfl, lk, hcd⟩ := F.ex
  exact ⟨f, _, ps, c, me, gfn_of lk hcd S len (hbody cdv), b⟩
theorem pass0G {X : Cx} : Passes (CX X.prog X.w) X C8.E0 := fun _ _ _ _ _ _ _ h => by
  obtain ⟨a, B, H', cls, d, _, _, _, _, _, _, _, z⟩ := h
  exact z.elim
section
variable {X : Cx} {k j : Nat} {C : Addr} {m : Str} {sp : SpG} {p pos pos' apos : Pos} {e o : Expr} {es : List Expr} {ta : TE} {t : TA} {pl : Sem Bool}
/-- list(o.m(..)) -/
theorem pe_listM (c : GMet X.prog X.w X.K X.mg X.base k C m sp) (hr : Room j X.A) (hk : k + 3 ≤ j) (he : PE X o ta) (ha : PA X (e :: es) t) (hg : Gl X "list") (hmg : X.mg "list" = none)
    (hst : starEach (e :: es) X.env = (false, eval e X.env) :: starEach es X.env := by rfl) (hpl : (backTo pos' (starEach es X.env)).any (·.1) = false := by rfl)
    (ht : eval (.Call (.Attribute o m apos) (e :: es) [] pos') X.env = (do
      let ov ← eval o X.env
      standAt apos.atName
      let (f, first) ← holding [ov] (getMethod ov m pl)
      callWith pos' f first (backTo pos' (starEach (e :: es) X.env)) (backToKw pos' (keywordEach [] X.env))) := by rfl)
    (hst2 : starEach [.Call (.Attribute o m apos) (e :: es) [] pos'] X.env = (false, eval (.Call (.Attribute o m apos) (e :: es) [] pos') X.env) :: starEach [] X.env := by rfl) :
    PE X (.Call (.Name "list" p) [.Call (.Attribute o m apos) (e :: es) [] pos'] [] pos) (tListG (tMethG C m sp [] C8.E0 ta t)) := by
  obtain ⟨f, fd, ps, hc, hm, F, b⟩ := c.ex
  exact pe_listG (pgen_meth (pl := pl) he hc hm F (hr.mono (by omega)) b .nil ha hst hpl ht) pass0G (fun _ _ _ z => z.elim) (hr.mono hk) hg hmg (by rfl) (by decide) (by decide) hst2
end
end Gx
namespace Gx
open PySem PySem.Spec PyProof.Rows L2 GenW
theorem isTup {K : PySem.W.Frag} {a : Addr} {xs : List V} {H : Hp} {Q : VK} (h : H a = some (.tup xs)) (q : Q (.bl true) H) : rIsi K [.ref a, .ty "tuple"] H Q :=
  ⟨_, _, .type "tuple", _, true, rfl, .ty _, .base (.tup h), by first | rfl | decide +kernel | kernel_rfl, q⟩
section
variable {t u : TGn} {tp : TS} {te : TE} {D : GEnds} {ys : List V} {σ : L2.St} {H : Hp}
theorem gthen (h : t { D with nx := fun ys' σ' H' => u D ys' σ' H' } ys σ H) : tGThen t u D ys σ H := h
theorem gplain (h : tp (D.at ys) σ H) : tPlain tp D ys σ H := h
theorem gat (h : D.nx ys σ H) : (D.at ys).nx σ H := h
theorem gnx {f g c d} (h : f ys σ H) : (GEnds.mk f g c d).nx ys σ H := h
theorem sfld {K : PySem.W.Frag} {to te : TE} {f : Str} {D : Ends} (h : te σ H fun y H1 => to σ H1 fun x H2 => ∃ a C dx fs, x = .ref a ∧ H2 a = some (.ins C dx fs) ∧ Cls K C ∧ NoAttr K C f ∧ fs.length < 1000 ∧ D.nx σ (upd H2 a (.ins C dx (putF f y fs)))) : sFld K to te f D σ H := h
theorem lg {tg : TGen} {Q : VK} (h : tg σ H fun out H2 => ∀ p, H2 p = none → Q (.ref p) (upd H2 p (.lst out))) : tListG tg σ H Q := h
theorem mg {C : Addr} {m : Str} {sp : SpG} {E : XK} {ta : TE} {t : TA} {cont : List V → Hp → Prop} (h : ta σ H fun x H1 => ∃ a dx fs, x = .ref a ∧ H1 a = some (.ins C dx fs) ∧ fs.lookup m = none ∧ t σ H1 fun vs H2 => sp (x :: (vs ++ [])) H2 cont E) : tMethG C m sp [] E ta t σ H cont := h
theorem sme {C : Addr} {sp : Sp} {ta : TE} {t : TA} {Q : VK} (h : ta σ H fun x H1 => x = .ref C ∧ t σ H1 fun vs H2 => sp (vs ++ []) H2 Q C8.E0) : tSMeth C sp ta t σ H Q := h
theorem gnil (h : D.nx ys σ H) : tG0 D ys σ H := h
theorem gy (hl : ys.length < sizeLine) (h : te σ H fun x H1 => D.nx (ys ++ [x]) σ H1) : tGYield te D ys σ H := ⟨hl, h⟩
theorem gfr {ta : TA} {g : TG} {tb : TGn} (h : ta σ H fun vs H1 => ∃ j : Int, vs = [.int j] ∧ -(2 ^ 62) ≤ j ∧ j < 2 ^ 62 ∧ ∃ W : Nat → Nat → List V → L2.St → Hp → Prop, (∃ m, W 0 m ys σ H1) ∧ ∀ i m ys σ H, W i m ys σ H →
  ((Itr 0 j.toNat).stop i H ∧ D.nx ys σ H) ∨ ((Itr 0 j.toNat).go i H ∧ ∃ N : List V → L2.St → Hp → Prop, (∀ ys' σ' H', N ys' σ' H' → ∃ m', m' < m ∧ W (i + 1) m' ys' σ' H') ∧
    ∀ x H', (Itr 0 j.toNat).yld i H x H' → g x σ H' fun σ2 H2 => tb { D with nx := N, ct := N, bk := D.nx } ys σ2 H2)) : tGFor (iRng1 ta) g tb D ys σ H := h
end
end Gx
namespace Gx
open PySem PySem.Spec PyProof.Rows L2 GenW
/-- a new object's heap by a name -/
theorem newo {H : Hp} {p : Addr} {o : HO} (hp : H p = none) : ∃ H1, H1 = upd H p o ∧ Rd.Ex H H1 ∧ H1 p = some o := ⟨_, rfl, Rd.ex_new hp, upd_same⟩
/-- f() -/
theorem pe_c0 {X : Cx} {k j : Nat} {x : Str} {sp : Sp} {p pos : Pos} (c : C8.Cal X.prog X.w X.K X.mg X.base k x sp []) (hr : Room j X.A) (hk : k ≤ j) (hg : Gl X x) (hdb : (x == ("__debug__" : Str)) = false := by decide) :
    PE X (.Call (.Name x p) [] [] pos) (tCall sp [] C8.E0 tNil) := by
  obtain ⟨f, fd, ps, ds, F, hm, kp, b, d⟩ := c.ex
  exact pe_call0 F (hr.mono hk) hg hm kp b d C8.pass0 hdb
end Gx

set_option Elab.async false
set_option linter.all false
set_option maxRecDepth 100000
set_option maxHeartbeats 1000000
/-! t[::-1] of a tuple of four -/
namespace Gx
open PySem PySem.Spec PyProof.Rows L2 GenW HT
section
variable {prog : Program} {w : World} {A : Around} {E : Value → Shared → Prop} {s : Shared}
theorem cutBack {sl : Addr} {x y z : Value} {Q : Int × Int × Nat → Shared → Prop} (hs : s.heap.IsSliceOf sl x y z) (px : IsPart x none) (py : IsPart y none) (pz : IsPart z (some (-1))) (h : Q (3, -1, 4) s) :
    wpAny (model prog w) A (Builtin.Slice.sliceApplied (.ref sl) (pure ((4 : Nat) : Int))) Q E s := by
  obtain ⟨ob, e1, _, e2⟩ := id hs
  unfold Builtin.Slice.sliceApplied Builtin.Slice.sliceFields
  refine wpAny_bind (wpAny_bind (wpAny_field e1 e2 (x := x) rfl (wpAny_bind (wpAny_field e1 e2 (x := y) rfl (wpAny_bind (wpAny_field e1 e2 (x := z) rfl (wpAny_pure ?_)))))))
  refine wpAny_bind (slicePart_ pz ?_)
  show wpAny _ _ (if ((-1 : Int) == 0) = true then _ else _) _ _ s
  rw [if_neg (show ¬ (((-1 : Int) == 0) = true) by decide)]
  exact wpAny_bind (slicePart_ px (wpAny_bind (slicePart_ py (wpAny_bind (wpAny_pure (wpAny_pure h))))))
theorem itemBack {t sl : Addr} {a b c d x y z : Value} {Q : Value → Shared → Prop} (ht : IsTup s.heap t #[a, b, c, d]) (hs : s.heap.IsSliceOf sl x y z) (px : IsPart x none) (py : IsPart y none) (pz : IsPart z (some (-1)))
    (h : Q (.ref s.heap.objs.size) { s with heap := s.heap.push { cls := .type "tuple", data := .seq #[d, c, b, a] } }) : wpAny (model prog w) A (getItem (.ref t) (.ref sl)) Q E s := by
  obtain ⟨ob, e1, e0, _⟩ := id hs
  have ty : s.TypeIs (.ref sl) "slice" := ⟨ob, e1, e0⟩
  unfold getItem
  try with_reducible refine wpAny_holding ?_
  first | refine wpAny_bind (wpAny_pure ?_) | skip
  refine wpAny_bind (wpAny_sequenceKey ht.typeIs (by decide) (wpAny_bind (wpAny_callSpecial?_slot (name := Str.ofString "__getitem__") ht.typeIs PyProof.Rows.slot_tuple_getitem
    (wpAny_call_entry PyProof.Rows.slot_tuple_getitem ht.typeIs entry_tuple_getitem ?_ (args_tuple_getitem _ _)))))
  show wpAny _ _ (Builtin.Tuple.tupleItemsOf (.ref t) >>= _) _ _ s
  refine wpAny_bind (tupleItemsOf_ ht (wpAny_bind (wpAny_typeOf ty ?_)))
  rw [if_pos (show (Value.type "slice" == Value.type "slice") = true by decide)]
  refine wpAny_bind (cutBack hs px py pz ?_)
  show wpAny _ _ (if ((3 : Int) == 0 && (-1 : Int) == 1 && (4 : Nat) == 4) = true then _ else _) _ _ s
  rw [if_neg (show ¬ (((3 : Int) == 0 && (-1 : Int) == 1 && (4 : Nat) == 4) = true) by decide)]
  have sz : sizeOk (.seq #[d, c, b, a]) := Nat.le_of_ble_eq_true rfl
  show wpAny _ _ (Builtin.Tuple.tupleExact #[d, c, b, a] >>= _) _ _ s
  first
    | exact wpAny_bind (m := Builtin.Tuple.tupleExact _) (wpAny_newObj_type (wpAny_pure ⟨_, rfl, wpAny_pure h⟩) sz)
    | exact wpAny_bind (m := Builtin.Tuple.tupleExact _) (wpAny_newObj_type (wpAny_bind (wpAny_pure (wpAny_pure ⟨_, rfl, wpAny_pure h⟩))) sz)
end
def tRevT (K : PySem.W.Frag) (te : TE) : TE := fun σ H Q => te σ H fun x H1 => ∃ a v1 v2 v3 v4, x = .ref a ∧ SqT K H1 a [v1, v2, v3, v4] ∧ ∀ p, H1 p = none → Q (.ref p) (upd H1 p (.tup [v4, v3, v2, v1]))
theorem pe_revT {X : Cx} {e : Expr} {te : TE} {k : Nat} {p1 p2 p3 pos : Pos} (he : PE X e te) : PE X (.Subscript e (.Slice none none (some (.UnaryOp .USub (.Constant (.int 1) k p1) p2)) p3) pos) (tRevT X.K te) := by
  refine ⟨fun pins s σ H Q I h => Subscript_ (thn (he.run pins s σ H _ I h) fun v s1 ⟨x, H1, I1, r1, a, v1, v2, v3, v4, ex, hx, q⟩ => ?_)⟩
  subst ex
  cases r1
  have neg1 : PO X (some (.UnaryOp .USub (.Constant (.int 1) k p1) p2)) (tPart (tUn (rU fun i => .int (-i)) (tC (.int 1)))) := po_some (pe_un un_neg pe_int)
  refine wpAny_Slice (thn (po_none.run pins s1 σ H1 (fun o H2 => o = none ∧ H2 = H1) I1 ⟨rfl, rfl⟩) fun y1 s2 ⟨o1, H2, I2, t1, c1, c2⟩ => ?_)
  subst c1 c2
  refine thn (po_none.run pins s2 σ H2 (fun o H3 => o = none ∧ H3 = H2) I2 ⟨rfl, rfl⟩) fun y2 s3 ⟨o2, H3, I3, t2, c1, c2⟩ => ?_
  subst c1 c2
  refine thn (neg1.run pins s3 σ H3 (fun o H4 => o = some (-1) ∧ H4 = H3) I3 ⟨1, rfl, -1, rfl, rfl, rfl⟩) fun y3 s4 ⟨o3, H4, I4, t3, c1, c2⟩ => ?_
  subst c1 c2
  have I5 : Inv X pins σ H4 { s4 with heap := s4.heap.push { cls := .type "slice", data := .fields #[y1, y2, y3] } } := I4.kept (t' := s4.toks) fun b ob z => Heap.get?_push_of_some _ z
  obtain ⟨its, r, ht, hz⟩ := I5.tuple hx
  cases r with
  | cons ra r => cases r with
    | cons rb r => cases r with
      | cons rc r => cases r with
        | cons rd r =>
          cases r
          show wpAny (model X.prog X.w) X.A (subscriptTail e _ (.ref a) (.ref s4.heap.objs.size)) (EP X pins σ Q) X.xe _
          refine tail_any (ops := [.ref a, .ref s4.heap.objs.size]) ht.typeIs PyProof.Rows.slot_tuple_getitem.lookup ?_ (by with_unfolding_all rfl)
          refine itemBack ht (Heap.IsSliceOf.new _ y1 y2 y3) t1 t2 t3 ?_
          refine ⟨.ref _, _, I5.laid (t' := s4.toks) (o := .tup [v4, v3, v2, v1]) (fun b ob z => Heap.get?_push_of_some _ z) (Nat.le_refl _) ?_, rfl, q _ (I5.hok.fresh (Nat.le_refl _))⟩
          exact ⟨Nat.le_of_ble_eq_true rfl, _, .cons rd (.cons rc (.cons rb (.cons ra .nil))), IsTup.new _ _⟩
theorem revT {K : PySem.W.Frag} {te : TE} {σ : L2.St} {H : Hp} {Q : VK} (h : te σ H fun x H1 => ∃ a v1 v2 v3 v4, x = .ref a ∧ SqT K H1 a [v1, v2, v3, v4] ∧ ∀ p, H1 p = none → Q (.ref p) (upd H1 p (.tup [v4, v3, v2, v1]))) : tRevT K te σ H Q := h
end Gx

set_option Elab.async false
set_option linter.all false
set_option maxRecDepth 100000
set_option maxHeartbeats 1000000
/-! own exceptions that call their base's __init__ by the base's name, and defs that may raise them -/
namespace Gx
open PySem PySem.Spec PyProof.Rows L2 GenW
section
variable {X : Cx} {x : Str} {e : Expr} {es : List Expr} {ta : TA} {p p1 p2 pos : Pos}
/-- B.__init__(self, ..), B an own class over ValueError without an __init__ of its own -/
theorem pe_binit {pl : Sem Bool} {B : Addr} {mc : Value} (hg : Gl X x) (hm : X.mg x = some (.ref B)) (r : ClX.CRead X.K B mc) (hv : PySem.W.findCls X.K (.ref B) mc "__init__" = some (.val (.builtin "ValueError.__init__"))) (ha : PA X (e :: es) ta)
    (hdb : (x == ("__debug__" : Str)) = false := by decide)
    (hc : eval (.Call (.Attribute (.Name x p1) "__init__" p2) (e :: es) [] pos) X.env = (do
      let ov ← eval (.Name x p1) X.env
      standAt p2.atName
      let (f, first) ← holding [ov] (getMethod ov "__init__" pl)
      callWith pos f first (backTo pos (starEach (e :: es) X.env)) (backToKw pos (keywordEach [] X.env))) := by rfl)
    (he : starEach (e :: es) X.env = (false, eval e X.env) :: starEach es X.env := by rfl) (hpl : (backTo pos (starEach es X.env)).any (·.1) = false := by rfl) :
    PE X (.Call (.Attribute (.Name x p1) "__init__" p2) (e :: es) [] pos) (tVeI X.K ta) := by
  refine ⟨fun pins s σ H Q I h => PySem.W.methodCall_KW (ld_glob I hg hm ?_ hdb) hc⟩
  refine PySem.W.method_cls I.kIn r.ga (PySem.W.cls_value I.kIn r.rd hv (by decide +kernel) ?_)
  refine PyProof.Rows.callWith_method1 (thn (ha.run pos pins _ σ H _ (I.tok _) h) fun us s1 ⟨vs, H1, I1, r1, a, C, ws, ev, hl, T, ea, q⟩ => ?_) he hpl
  subst ev
  cases r1 with
  | @cons _ u _ ur ra rr =>
    obtain rfl : u = Value.ref a := ra
    exact oinit_ok T I1 ea (by rw [← Paired.length rr, sizeLine_eq]; omega) fun s' J => ⟨.non, H1, J, rfl, q⟩
end
/-- the promise of such a class's __init__ -/
def spExc (C : Addr) (fl : Str) : Sp := fun vs H Q _ => ∃ (p : Addr) (v : V), vs = [.ref p, v] ∧ H p = some (exo p C none) ∧ ∀ dx, H dx = none → dx ≠ p → Q .non (upd (upd H dx (exd dx [(fl, v)])) p (exo p C (some dx)))
structure ExcMk (P : Program) (w : World) (K : PySem.W.Frag) (mg : Str → Option Value) (base : Heap) (k : Nat) (x : Str) (C : Addr) (fl : Str) : Prop where
  ex : ∃ (f : Addr) (fd : FuncData) (ps : List Str), OexC K C ∧ PySem.W.findIn K (.ref C) "__init__" = some (some (.ref f)) ∧ PySem.W.typeIn K (.ref f) = some (.type "function") ∧ FnOk P w K mg base C8.CX0 k f fd ps (spExc C fl) ∧ Binds K fd ps [] ∧ mg x = some (.ref C)
section
variable {X : Cx} {x : Str} {e : Expr} {ta : TA} {p pos : Pos} {k j : Nat} {C : Addr} {fl : Str}
theorem pmk_ex (c : ExcMk X.prog X.w X.K X.mg X.base k x C fl) (hr : Room j X.A) (hk : k + 1 ≤ j) (hg : Gl X x) (ha : PA X [e] ta) (hdb : (x == ("__debug__" : Str)) = false := by decide)
    (he : starEach [e] X.env = (false, eval e X.env) :: starEach [] X.env := by rfl) (hpl : (backTo pos (starEach [] X.env)).any (·.1) = false := by rfl) : PMk X (.Call (.Name x p) [e] [] pos) (tMkO C (spExc C fl) [] ta) := by
  obtain ⟨f, fd, ps, T, i, t, F, b, hm⟩ := c.ex
  exact pmk_oex T i t F (hr.mono hk) b .nil C8.pass0 hg hm ha hdb he hpl
end
/-- the exception is made: its dict holds the value -/
theorem mkO {C : Addr} {fl : Str} {v : V} {H : Hp} {Q : XK} (q : ∀ d H', H d = none → Rd.Ex H H' → H' d = some (.xd [(fl, v)]) → Q (.ref C) (some d) H') :
    [v].length ≤ 1000 ∧ ∀ a, H a = none → spExc C fl (.ref a :: ([v] ++ [])) (upd H a (exo a C none))
      (fun r H2 => r = .non ∧ ∃ (d : Addr) (fs : List (Str × V)), H2 a = some (exo a C (some d)) ∧ H2 d = some (exd d fs) ∧ H d = none ∧ Q (.ref C) (some d) (upd (del H2 a) d (.xd fs))) (fun _ _ _ => False) := by
  refine ⟨Nat.le_of_ble_eq_true rfl, fun a ha => ⟨a, v, rfl, upd_same, fun dx hd ne => ⟨rfl, dx, [(fl, v)], upd_same, ?_, ?_, ?_⟩⟩⟩
  · rw [upd_ne ne, upd_same]
  · rw [upd_ne ne] at hd; exact hd
  · have hd' : H dx = none := by rw [upd_ne ne] at hd; exact hd
    refine q dx _ hd' (fun c o h => ?_) upd_same
    have n1 : c ≠ a := ne_of_none h ha
    have n2 : c ≠ dx := ne_of_none h hd'
    rw [upd_ne n2, del_ne n1, upd_ne n1, upd_ne n2, upd_ne n1]
    exact h
/-! ### a def that may raise -/
structure CalX (P : Program) (w : World) (K : PySem.W.Frag) (mg : Str → Option Value) (base : Heap) (k : Nat) (x : Str) (sp : Sp) : Prop where
  ex : ∃ (f : Addr) (fd : FuncData) (ps : List Str), FnOk P w K mg base (CX P w) k f fd ps sp ∧ mg x = some (.ref f) ∧ PySem.W.keepIn K (.ref f) = true ∧ Binds K fd ps []
theorem takes_cx {P : Program} {w : World} {K : PySem.W.Frag} {mg : Str → Option Value} {base : Heap} {N : List Str} {qual : Str} {scope : Scope} {f : Addr} {cd : Value} {A : Around} {outer : List Env} {s : Shared} {H : Hp} {E : XK} :
    Takes (cxOf (CX P w) P w K mg base N qual scope f cd A outer s H E) (fun cls d _ H' => E cls d H') := takes_of rfl rfl rfl rfl
theorem calX {P : Program} {w : World} {K : PySem.W.Frag} {mg : Str → Option Value} {base : Heap} {x : Str} {st : Stmt} {f : Addr} {fd : FuncData} {N ps : List Str} {k : Nat} {sp : Sp} (F : C8.Def K mg x st f fd) (b : Binds K fd ps []) (S : FnScope N ps (C8.fnScope st)) (len : ∀ vs H Q E, sp vs H Q E → vs.length = ps.length)
    (hbody : ∀ (cdv : Value) (A : Around) (outer : List Env) (s : Shared) (H : Hp) (vs : List V) (Q : VK) (E : XK), Room k (A.deeper (envOfC x (C8.fnScope st) s.heap.objs.size f cdv)) → sp vs H Q E →
      ∃ t, PSs (cxOf (CX P w) P w K mg base N x (C8.fnScope st) f cdv A outer s H E) (C8.fnBody st) t ∧ t { nx := fun _ H' => Q .non H', rt := Q } (start N vs) H) : CalX P w K mg base (k + 1) x sp := by
  obtain ⟨oc, od, dV, kV, doc, pm, an, cdv, ct, osl, rfl, lk, hcd⟩ := F.fn.ex
  exact ⟨f, _, ps, fn_of lk hcd S len (hbody cdv), F.mgf, F.kp, b⟩
section
variable {X : Cx} {k j : Nat} {x : Str} {sp : Sp} {p pos : Pos} {e : Expr} {es : List Expr} {t : TA} {W : WX} {E : XK}
theorem pe_cx (c : CalX X.prog X.w X.K X.mg X.base k x sp) (tk : Takes X W) (hW : ∀ cls d σ H, E cls d H → W cls d σ H) (hr : Room j X.A) (hk : k ≤ j) (hg : Gl X x) (ha : PA X (e :: es) t)
    (hdb : (x == ("__debug__" : Str)) = false := by decide) (he : starEach (e :: es) X.env = (false, eval e X.env) :: starEach es X.env := by rfl) (hpl : (backTo pos (starEach es X.env)).any (·.1) = false := by rfl) :
    PE X (.Call (.Name x p) (e :: es) [] pos) (tCall sp [] E t) := by
  obtain ⟨f, fd, ps, F, hm, kp, b⟩ := c.ex
  exact pe_call F (hr.mono hk) hg hm kp b .nil (passes_call tk hW) ha hdb he hpl
end
end Gx

set_option Elab.async false
set_option linter.all false
set_option maxRecDepth 100000
set_option maxHeartbeats 1000000
/-! isinstance of a caught exception that has a dict -/
namespace Gx
open PySem PySem.Spec PySem.Calls PyProof.Rows PySem.W
section
variable {prog : Program} {w : World} {A : Around} {E : Value → Shared → Prop} {s : Shared} {K : Frag} {a D : Addr} {oa odict : Obj}
/-- e.__class__ -/
theorem cls_of_exc {Q : Option Value → Shared → Prop} (G : L2.ExcC K D) (KI : K.In s.heap) (J : InstAt s.heap a oa D (some odict)) (q : Q (some (.ref D)) { s with toks := s.toks + 1 }) : wpAny (model prog w) A (getAttr? (.ref a) "__class__") Q E s := by
  have some1 : (clsIn K D).isSome = true := by
    obtain ⟨_, e, _⟩ := any_some G.hd
    rw [e]; rfl
  have found := findObj_data (od := odict) some1 G.ha G.hn G.ht
  obtain ⟨hp, gs, dr, tk, oss⟩ := s
  have M1 : Looks (model prog w) hp (typeOf (.ref a)) (.ref D) := J.type
  have M2 := looks_findIn (M := model prog w) KI G.hg
  have M3 := looks_findIn (M := model prog w) KI G.hk
  have M4 := looks_find (M := model prog w) KI J found
  have M5 : Looks (model prog w) hp (isInstance (.ref a) (.type "BaseException")) true := M1.andThen (looks_subIn KI G.hs)
  have other : (Value.builtin "BaseException.__getattribute__" == Value.builtin "object.__getattribute__") = false := by decide +kernel
  have b1 : (onTheHeap (Value.ref D) && Value.builtin "BaseException.__getattribute__" == Value.builtin "object.__getattribute__") = false := by rw [other]; rfl
  unfold getAttr? getAttrBy? getAttrBy
  refine wpAny_bind (wpAny_mkText (wpAny_bind (wpAny_attempt (wpAny_holding (wpAny_bind (M1.at (wpAny_bind (M2.at ?a1))))))))
  case a1 =>
    show wpAny _ _ (if (onTheHeap (Value.ref D) && Value.builtin "BaseException.__getattribute__" == Value.builtin "object.__getattribute__") = true then _ else _) _ _ _
    rw [b1, if_neg Bool.false_ne_true]
    unfold getAttrByItsOwn hookBefore
    refine wpAny_bind ?a2
    case a2 =>
      rw [if_pos (show onTheHeap (Value.ref D) = true from rfl)]
      refine M3.at (wpAny_bind (wpAny_attempt (wpAny_holding ?a3)))
      case a3 =>
        unfold callGetattribute
        rw [show (false && onTheHeap (Value.builtin "BaseException.__getattribute__")) = false from rfl, if_neg Bool.false_ne_true]
        unfold boundAndCalled
        rw [PySem.F.excAttr_ValueError.ga.bind (.ref a)]
        refine wpAny_bind (wpAny_pure ?a4)
        case a4 =>
          show wpAny _ _ (call (.builtin "BaseException.__getattribute__") [.ref a, .str "__class__" tk]) _ _ _
          refine wpAny_call (codeAny_call_builtin PySem.F.excAttr_ValueError.ga.plain PySem.F.entry_bexc_ga (@check_slot (model prog w) _ _ ⟨hp, gs, dr, tk + 1, oss⟩ "BaseException.__getattribute__" "BaseException" "__getattribute__" (.ref a) [.str "__class__" tk] [] _
            (by decide +kernel) (by decide +kernel) M5 (PySem.F.args_bexc_ga (.ref a) (.str "__class__" tk)) ?a5))
          case a5 =>
            unfold Builtin.«object.__getattribute__»
            refine wpAny_bind (wpAny_of_eq (a := ((Value.ref a : Value), [Value.str "__class__" tk])) (by first | rfl | (simp only [slotArgs]; rfl)) (wpAny_bind (wpAny_pure (wpAny_bind (M1.at (wpAny_bind (M4.at ?a6)))))))
            case a6 =>
              show wpAny _ _ (holding [Value.builtin "object.__class__"] (call (.builtin "getset_descriptor.__get__") [.builtin "object.__class__", .ref a, .ref D]) >>= ret) _ _ _
              refine wpAny_bind (wpAny_holding (wpAny_call (class_get (s := ⟨hp, gs, dr, tk + 1, oss⟩) KI J G.hm (wpAny_pure ?a7))))
              case a7 =>
                show wpAny _ _ (handedOut (.ref D)) _ _ _
                rw [handedOut_of (v := .ref D) rfl]
                first
                  | exact wpAny_pure (wpAny_pure q)
                  | exact wpAny_pure q
                  | exact wpAny_pure (wpAny_bind (wpAny_pure (wpAny_pure q)))
theorem kit_exc (G : L2.ExcC K D) : KitX K (.ref a) (.ref D) (fun h => InstAt h a oa D (some odict)) := by
  have atK : ∃ c d cd sl, K.lookup D = some ⟨c, d, .cls cd, sl⟩ := by
    obtain ⟨_, e, _⟩ := any_some G.hd
    unfold clsIn at e
    split at e
    · exact ⟨_, _, _, _, by assumption⟩
    · cases e
  obtain ⟨c, d, cd, sl, eD⟩ := atK
  refine ⟨fun _ _ _ J => J.type, fun _ _ KI _ => ?_, fun h tp dd its n sl' KI e => ?_, fun KI J q => cls_of_exc G KI J q⟩
  · intro A' Q' E' s' k q
    unfold isType loadHead
    exact wpAny_bind (wpAny_loadPart (k _ _ (KI _ _ eD)) (wpAny_pure q))
  · refine Bool.eq_false_iff.mpr fun z => ?_
    obtain rfl : D = tp := Value.ref.inj (beq_iff_eq.mp z)
    cases (KI _ _ eD).symm.trans e
end
open L2
/-- isinstance(e, c), e the exception that the suite holds -/
theorem call_isX {X : Cx} {a D dd : Addr} {oe : Obj} {pn : List (Addr × Obj)} (G : ExcC X.K D) (hz : Zc (.ref D) (some dd) oe) (hf : ∃ vs, oe.data = .fields vs) :
    CallR (X.suite a ((a, oe) :: pn)) (.builtin "isinstance") (fun xs H Q => (∃ fs, H dd = some (.xd fs)) ∧ rIsE X.K D a xs H Q) := by
  intro pins s σ H xs us Q I r h
  obtain ⟨⟨fs, hd⟩, c, cv, b, rfl, hcv, e, q⟩ := h
  cases r with
  | cons rx rr =>
    cases rr with
    | cons rt rr =>
      cases rr
      cases rx
      obtain rfl := hcv _ rt
      obtain ⟨at_, _⟩ := I.pin (a, oe) (List.mem_append_left _ List.mem_cons_self)
      obtain ⟨vs, hv⟩ := hf
      obtain ⟨mA, ns, _⟩ := (show ObjOk X.prog X.w H s.heap dd (.xd fs) from I.hok dd _ hd)
      obtain ⟨od, ho, _⟩ := lookIn_ns ns
      have J : PySem.W.InstAt s.heap a oe D (some od) := ⟨at_, hz.1, by unfold PySem.W.notCls; rw [hv] <;> rfl, by rw [hz.2]; exact ho⟩
      exact PySem.W.kia_one (kit_exc G) I.kIn J e (fun z => nomatch z) fun tk => ⟨.bl b, H, I.kept (t' := tk) fun _ _ z => z, rfl, q⟩
end Gx

set_option Elab.async false
set_option linter.all false
set_option maxRecDepth 100000
set_option maxHeartbeats 1000000
/-! a def that makes lambdas: its code object is known -/
namespace Gx
open PySem PySem.Spec PyProof.Rows L2
structure LamDef (K : PySem.W.Frag) (mg : Str → Option Value) (x : Str) (st : Stmt) (f c : Addr) (fd : FuncData) : Prop where
  ex : ∃ (oc : Value) (od : Option Addr) (dV kV doc pm : Value) (an : Option Addr) (ct : Value) (osl : Array (Option Value)),
    fd = PySem.W.fnOf x x (C8.fnArgs st) (C8.fnBody st) (C8.fnScope st) dV kV doc pm an (.ref c) ct ∧ K.lookup f = some ⟨oc, od, .func fd, osl⟩ ∧ PySem.W.codeIn K (.ref c) x = true
  mgf : mg x = some (.ref f)
  kp : PySem.W.keepIn K (.ref f) = true
theorem calGc {P : Program} {w : World} {K : PySem.W.Frag} {mg : Str → Option Value} {base : Heap} {x : Str} {st : Stmt} {f c : Addr} {fd : FuncData} {N ps : List Str} {k : Nat} {sp : Sp} (F : LamDef K mg x st f c fd) (b : Binds K fd ps []) (S : FnScope N ps (C8.fnScope st))
    (len : ∀ vs H Q E, sp vs H Q E → vs.length = ps.length)
    (hbody : ∀ (A : Around) (outer : List Env) (s : Shared) (H : Hp) (vs : List V) (Q : VK), A.guards = some [] → Room k (A.deeper (envOfC x (C8.fnScope st) s.heap.objs.size f (.ref c))) → sp vs H Q C8.E0 →
      ∃ t, PSs (cxOf C8.CX0 P w K mg base N x (C8.fnScope st) f (.ref c) A outer s H C8.E0).nox (C8.fnBody st) t ∧ t { nx := fun _ H' => Q .non H', rt := Q } (start N vs) H) : CalG P w K mg base (k + 1) x sp := by
  obtain ⟨oc, od, dV, kV, doc, pm, an, ct, osl, rfl, lk, hcd⟩ := F.ex
  refine ⟨f, _, ps, ⟨len, fun A outer s H args us vs Q hg hr e0 hb r hsp => LamX.run_ofS (CX := C8.CX0) (E := C8.E0) lk hcd S hr e0 hb r (len _ _ _ _ hsp) fun hr' => ?_⟩, F.mgf, F.kp, b⟩
  obtain ⟨t, h, q⟩ := hbody A outer s H vs Q hg hr' hsp
  exact ⟨t, h.nox, q⟩
theorem takes_lam {X : Cx} {A : Around} {outer : List Env} {s : Shared} {H : Hp} {E : XK} {scope : Scope} {f c : Addr} : Takes (LamX.lamCx X A outer s H E scope f c) (fun cls d _ H' => E cls d H') := takes_of rfl rfl rfl rfl
/-- x(lambda: body), x a def that calls what it gets -/
theorem pe_lam {X : Cx} {T : List (Addr × Str)} {TT : (XK → Hp → VK → Prop) → Hp → VK → Prop} {x a : Str} {st : Stmt} {g c tb : Addr} {k j : Nat} {fd : FuncData} {Ng : List Str} {params : Arguments} {body : Expr} {scope : Scope} {t : XK → TE} {p lpos pos : Pos}
    (D : C8.Def X.K X.mg x st g fd) (b : Binds X.K fd [a] []) (Sg : FnScope Ng [a] (C8.fnScope st)) (hNg : Ng[0]? = some a) (hva : Vis (C8.fnScope st) a) (hG : ∀ cdg, LamX.GivesTo X Ng x (C8.fnScope st) g cdg (C8.fnBody st) a (X.env.qual ++ "<lambda>") TT)
    (TB : LamX.TabB X.base X.mg c tb) (hcode : X.env.code = .ref c) (hmT : (tb, X.env.qual ++ "<lambda>") ∈ T) (hu : ∀ p ∈ T, p.1 = tb → p.2 = X.env.qual ++ "<lambda>") (hr : Room j X.A) (hk : k + 2 ≤ j) (hg : Gl X x) (L : LamX.LamS X.env.scope scope)
    (hbody : ∀ (A : Around) (outer : List Env) (s : Shared) (H : Hp) (E : XK) (f c' : Addr), Room k (A.deeper (LamX.lamEnv X scope s.heap.objs.size f c')) → PE (LamX.lamCx X A outer s H E scope f c') body (t E))
    (hdef : defaultsOf params X.env = ([], []) := by rfl) (hbind : ∀ (q : Str) (cl : List (Str × Addr)) (pm cv ctv : Value), bindArgs (PySem.W.kla_fn "<lambda>" q params body scope cl pm cv ctv) ⟨[], []⟩ = pure [] := by intros; rfl)
    (hdb : (x == ("__debug__" : Str)) = false := by decide) (hd : (a == ("__debug__" : Str)) = false := by decide) (hcd : (a == ("__classdict__" : Str)) = false := by decide) :
    PE X (.Call (.Name x p) [.Lambda params body scope lpos] [] pos) (LamX.tLam T TT t) := by
  obtain ⟨oc, od, dV, kV, doc, pm, an, cdv, ct, osl, rfl, lk, hc⟩ := D.fn.ex
  exact LamX.pe_lamcall hg D.mgf D.kp lk hc b Sg hNg hva (hG cdv) TB hcode hmT hu (hr.mono hk) L hdef hbind hbody hdb hd hcd
end Gx

set_option Elab.async false
set_option linter.all false
set_option maxRecDepth 100000
set_option maxHeartbeats 1000000
/-! repr of data, or of the empty dict -/
namespace Gx
open PySem PySem.Spec PyProof.Rows L2
def rReprD (K : PySem.W.Frag) : List V → Hp → VK → Prop := fun xs H Q => rRepr K xs H Q ∨ ∃ a, xs = [.ref a] ∧ H a = some (.dK []) ∧ Q (.str "{}") H
theorem call_reprD {X : Cx} (hg : X.A.guards = some []) (hu : X.A.units + 64 < cLine) : CallR X (.builtin "repr") (rReprD X.K) := by
  intro pins s σ H xs us Q I r h
  rcases h with h | ⟨a, rfl, ha, q⟩
  · exact call_repr hg hu pins s σ H xs us Q I r h
  obtain ⟨u, rfl, ru⟩ := vals1 r
  cases ru
  obtain ⟨_, nsm, vs, kv, o, es, ep, h1, h2, h3, h4⟩ := (show ObjOk X.prog X.w H s.heap a (.dK []) from I.hok a _ ha)
  cases kv
  have e : es.toList = [] := by
    have z := h4.2.1
    generalize es.toList = l at z
    cases l with
    | nil => rfl
    | cons p l => cases z
  have rd : Reads s.heap (.ref a) (.dict []) (a :: [] ++ []) := .dict (kvs := []) h1 h2.1 h3 (by rw [e]; exact .nil) (by rw [e]; exact .nil)
  have nsm' : sysModules ∉ a :: [] ++ [] := fun z => by
    rcases List.mem_cons.mp z with z | z
    · rw [← z] at nsm; simp at nsm
    · cases z
  exact repr_of_reads' rd (by decide) (fun _ => nsm') hg (by show X.A.units + 2 < cLine; omega) (fun _ _ z => z) (fun h' t tk hk => ⟨.str "{}", H, I.kept hk, ⟨_, rfl⟩, q⟩) (by decide +kernel)
end Gx

set_option Elab.async false
set_option linter.all false
set_option maxRecDepth 100000
set_option maxHeartbeats 4000000
set_option exponentiation.threshold 2000
namespace Gx
open PySem PySem.Spec PyProof.Rows L2
/-! ### texts of data: how long they are -/
mutual
def Sml : PyData → Prop
  | .none => True
  | .bool _ => True
  | .int i => i.natAbs < 2 ^ 600
  | .str _ => False
  | .list xs => SmlAll xs
  | .tuple xs => SmlAll xs
  | .dict _ => False
def SmlAll : List PyData → Prop
  | [] => True
  | x :: xs => Sml x ∧ SmlAll xs
end
mutual
def nodes : PyData → Nat
  | .list xs => nodesAll xs + 1
  | .tuple xs => nodesAll xs + 1
  | .none => 1
  | .bool _ => 1
  | .int _ => 1
  | .str _ => 1
  | .dict _ => 1
def nodesAll : List PyData → Nat
  | [] => 0
  | x :: xs => nodes x + nodesAll xs
end
theorem log_lt {n k : Nat} (hk : 0 < k) (h : n < 2 ^ k) : n.log2 < k := PySem.Flt.log2_lt_of hk h
mutual
theorem sml_show : ∀ d : PyData, Sml d → d.showable = true
  | .none, _ => by simp only [PyData.showable]
  | .bool _, _ => by simp only [PyData.showable]
  | .int i, h => by
    simp only [PyData.showable, decide_eq_true_eq]
    exact Nat.lt_trans (log_lt (by decide) (show i.natAbs < 2 ^ 600 from by simpa only [Sml] using h)) (by decide)
  | .str _, h => by simp only [Sml] at h
  | .list xs, h => by
    simp only [PyData.showable]
    exact sml_showAll xs (by simpa only [Sml] using h)
  | .tuple xs, h => by
    simp only [PyData.showable]
    exact sml_showAll xs (by simpa only [Sml] using h)
  | .dict _, h => by simp only [Sml] at h
theorem sml_showAll : ∀ xs : List PyData, SmlAll xs → PyData.showableAll xs = true
  | [], _ => by simp only [PyData.showableAll]
  | x :: xs, h => by
    simp only [SmlAll] at h
    simp only [PyData.showableAll, Bool.and_eq_true]
    exact ⟨sml_show x h.1, sml_showAll xs h.2⟩
end
mutual
theorem sml_len : ∀ d : PyData, Sml d → d.shown.length + 2 ≤ 612 * nodes d
  | .none, _ => by simp only [nodes, PyData.shown]; decide
  | .bool b, _ => by cases b <;> simp only [nodes, PyData.shown] <;> decide
  | .int i, h => by
    have z : (toString i).length ≤ 601 := int_text_length_le (by decide) (log_lt (by decide) (show i.natAbs < 2 ^ 600 from by simpa only [Sml] using h))
    have e : (PyData.shown (.int i)).length = (toString i).length := by simp only [PyData.shown]; exact PySem.ofString_length _
    rw [e]
    simp only [nodes]
    omega
  | .str _, h => by simp only [Sml] at h
  | .list xs, h => by
    simp only [PyData.shown, nodes]
    have a := listText_len_le (PyData.shownAll xs)
    have b := sml_lenAll xs (by simpa only [Sml] using h)
    omega
  | .tuple xs, h => by
    simp only [PyData.shown, nodes]
    have a := tupleText_len_le (PyData.shownAll xs)
    have b := sml_lenAll xs (by simpa only [Sml] using h)
    omega
  | .dict _, h => by simp only [Sml] at h
theorem sml_lenAll : ∀ xs : List PyData, SmlAll xs → ((PyData.shownAll xs).map (·.length)).sum + 2 * (PyData.shownAll xs).length ≤ 612 * nodesAll xs
  | [], _ => by simp [PyData.shownAll, nodesAll]
  | x :: xs, h => by
    simp only [SmlAll] at h
    have a := sml_len x h.1
    have b := sml_lenAll xs h.2
    simp only [PyData.shownAll, nodesAll, List.map_cons, List.sum_cons, List.length_cons]
    omega
end
/-- what repr asks of the data -/
structure Okd (d : PyData) : Prop where
  sh : d.showable = true
  dp : d.depth ≤ 60
  ln : d.shown.length ≤ sizeLine
theorem okd {d : PyData} (h : Sml d) (hd : d.depth ≤ 60) (hn : nodes d ≤ 20000) : Okd d := ⟨sml_show d h, hd, by
  have := sml_len d h
  have e : sizeLine = 16777216 := sizeLine_eq
  omega⟩
theorem rpr {K : PySem.W.Frag} {H : Hp} {Q : VK} {x : V} (d : PyData) (h : Dp K H x d) (o : Okd d) (q : Q (.str d.shown) H) : rRepr K [x] H Q := ⟨x, d, rfl, h, o.sh, o.dp, o.ln, q⟩
theorem okInt {i : Int} (h : i.natAbs < 2 ^ 600) : Okd (.int i) := okd (by simpa only [Sml] using h) (by simp only [PyData.depth]; omega) (by simp only [nodes]; omega)
/-! ### three pairs -/
section
variable {k1 k2 k3 : Key} {a b c v : V}
theorem val1 : valV [(k1, a), (k2, b), (k3, c)] k1 = some a := valV_pos rfl
theorem val2 (h : ¬ k1 = k2) : valV [(k1, a), (k2, b), (k3, c)] k2 = some b := (valV_neg (p := (k1, a)) h).trans (valV_pos rfl)
theorem val3 (h : ¬ k1 = k3) (h2 : ¬ k2 = k3) : valV [(k1, a), (k2, b), (k3, c)] k3 = some c := (valV_neg (p := (k1, a)) h).trans ((valV_neg (p := (k2, b)) h2).trans (valV_pos rfl))
theorem put1 (h : ¬ k2 = k1) (h3 : ¬ k3 = k1) : putK [(k1, a), (k2, b), (k3, c)] k1 v = [(k1, v), (k2, b), (k3, c)] := by simp [putK, h, h3]
theorem put2 (h : ¬ k1 = k2) (h3 : ¬ k3 = k2) : putK [(k1, a), (k2, b), (k3, c)] k2 v = [(k1, a), (k2, v), (k3, c)] := by simp [putK, h, h3]
theorem put3 (h : ¬ k1 = k3) (h3 : ¬ k2 = k3) : putK [(k1, a), (k2, b), (k3, c)] k3 v = [(k1, a), (k2, b), (k3, v)] := by simp [putK, h, h3]
theorem merge3 (h : ¬ k1 = k2) (h2 : ¬ k1 = k3) (h3 : ¬ k2 = k3) : mergeK [] [(k1, a), (k2, b), (k3, c)] = [(k1, a), (k2, b), (k3, c)] := by
  have e1 : putK [] k1 a = [(k1, a)] := by simp [putK]
  have e2 : putK [(k1, a)] k2 b = [(k1, a), (k2, b)] := by simp [putK, h]
  have e3 : putK [(k1, a), (k2, b)] k3 c = [(k1, a), (k2, b), (k3, c)] := by simp [putK, h2, h3]
  simp only [mergeK, List.foldl_cons, List.foldl_nil, e1, e2, e3]
end
/-! ### an item of a written list -/
theorem pick {l : List Int} {P : Int → Prop} (h : ∀ x ∈ l, P x) {i : Int} (h0 : 0 ≤ i) (h1 : i < (l.length : Int)) : ∃ x, P x ∧ atI (l.map V.int) i = some (.int x) := by
  obtain ⟨n, rfl⟩ := Int.eq_ofNat_of_zero_le h0
  have hl : n < l.length := by omega
  refine ⟨l[n], h _ (List.getElem_mem hl), ?_⟩
  refine atI_nat ?_
  rw [List.getElem?_map, List.getElem?_eq_getElem hl]
  rfl
theorem dpInts {K : PySem.W.Frag} {H : Hp} : ∀ ns : List Int, DpAll K H (ns.map V.int) (ns.map PyData.int)
  | [] => .nil
  | n :: ns => .cons (.int n) (dpInts ns)
theorem canInts : ∀ ns : List Int, PyData.canLayAll0 (ns.map PyData.int) = true
  | [] => rfl
  | n :: ns => by simp only [List.map_cons, PyData.canLayAll0, PyData.canLay0, canInts ns, Bool.and_self]
theorem depInts : ∀ ns : List Int, PyData.depthAll (ns.map PyData.int) = 0
  | [] => rfl
  | n :: ns => by simp only [List.map_cons, PyData.depthAll, PyData.depth, depInts ns]; omega
theorem shpInts (ns : List Int) : SeqAt.shaped (.list (ns.map PyData.int)) = true := by
  simp only [SeqAt.shaped, PyData.canLay0, canInts, PyData.depth, depInts]
  decide
theorem eqInts : ∀ ns ms : List Int, PyData.eqvAll (ns.map PyData.int) (ms.map PyData.int) = decide (ns = ms)
  | [], [] => rfl
  | [], _ :: _ => rfl
  | _ :: _, [] => rfl
  | n :: ns, m :: ms => by
    simp only [List.map_cons, PyData.eqvAll, PyData.eqv, eqInts ns ms]
    by_cases h : n = m
    · subst h; simp
    · simp [h]
/-- two lists of ints compared -/
theorem eqL {K : PySem.W.Frag} {H : Hp} {Q : VK} {p q : Addr} {ns ms : List Int} (h1 : SqL K H p (ns.map V.int)) (h2 : SqL K H q (ms.map V.int)) (k : Q (.bl (decide (ns = ms))) H) : rEqD K (.ref p) (.ref q) H Q :=
  ⟨_, _, .lst h1 (dpInts ns), .lst h2 (dpInts ms), shpInts ns, shpInts ms, by
    have e : PyData.eqv (.list (ns.map PyData.int)) (.list (ms.map PyData.int)) = decide (ns = ms) := by simp only [PyData.eqv, eqInts]
    rw [e]; exact k⟩
theorem neL {K : PySem.W.Frag} {H : Hp} {Q : VK} {p q : Addr} {ns ms : List Int} (h1 : SqL K H p (ns.map V.int)) (h2 : SqL K H q (ms.map V.int)) (k : Q (.bl (!decide (ns = ms))) H) : rNeD K (.ref p) (.ref q) H Q :=
  ⟨_, _, .lst h1 (dpInts ns), .lst h2 (dpInts ms), shpInts ns, shpInts ms, by
    have e : PyData.eqv (.list (ns.map PyData.int)) (.list (ms.map PyData.int)) = decide (ns = ms) := by simp only [PyData.eqv, eqInts]
    rw [e]; exact k⟩
end Gx

set_option Elab.async false
set_option linter.all false
set_option maxRecDepth 100000
set_option maxHeartbeats 4000000
/-! what a heap keeps: words for a search over the steps -/
namespace Au
open PySem PySem.Spec PyProof.Rows L2
def ExP (p : Addr) (H H' : Hp) : Prop := ∀ c o, H c = some o → c ≠ p → H' c = some o
theorem ExP.refl {p : Addr} (H : Hp) : ExP p H H := fun _ _ e _ => e
theorem ExP.of {p : Addr} {H H' : Hp} (e : Rd.Ex H H') : ExP p H H' := fun c o h _ => e c o h
theorem ExP.trans {p : Addr} {H H1 H2 : Hp} (a : ExP p H H1) (b : ExP p H1 H2) : ExP p H H2 := fun c o h n => b c o (a c o h n) n
section
variable {H H' : Hp} {p b c : Addr} {o o' z : HO}
theorem sm (e : Rd.Ex H H') (h : H b = some z) : H' b = some z := e _ _ h
theorem smp (e : ExP p H H') (h : H b = some z) (n : b ≠ p) : H' b = some z := e _ _ h n
theorem smn (e : LamX.ExtN H H') (h : H b = some z) (n : ∀ ps, z ≠ .tbl ps) : H' b = some z := e _ _ h n
/-- b was there when p was not -/
theorem nen (n : H p = none) (h : H b = some z) : b ≠ p := ne_of_none h n
theorem nen' (n : H p = none) (h : H b = some z) : p ≠ b := fun e => ne_of_none h n e.symm
theorem nek (h1 : H b = some o) (h2 : H p = some o') (n : o ≠ o') : b ≠ p := fun e => n (by rw [e, h2] at h1; exact (Option.some.inj h1).symm)
theorem nek2 (h2 : H p = some o') (h1 : H b = some o) (n : o ≠ o') : b ≠ p := nek h1 h2 n
theorem alloc {Q : VK} (q : ∀ p H', H p = none → Rd.Ex H H' → H' p = some o → Q (.ref p) H') : ∀ p, H p = none → Q (.ref p) (upd H p o) := fun p hp => q p _ hp (Rd.ex_new hp) upd_same
theorem mutd {Q : Hp → Prop} (q : ∀ H', ExP p H H' → H' p = some o → Q H') : Q (upd H p o) := q _ (fun c z h n => by rw [upd_ne n]; exact h) upd_same
end
/-! ### data -/
section
variable {K : PySem.W.Frag} {H : Hp} {Q : VK} {x y : V} {d e : PyData}
theorem eqD (h1 : Dp K H x d) (h2 : Dp K H y e) (s1 : SeqAt.shaped d = true) (s2 : SeqAt.shaped e = true) (q : Q (.bl (PyData.eqv d e)) H) : rEqD K x y H Q := ⟨d, e, h1, h2, s1, s2, q⟩
theorem neD (h1 : Dp K H x d) (h2 : Dp K H y e) (s1 : SeqAt.shaped d = true) (s2 : SeqAt.shaped e = true) (q : Q (.bl (!PyData.eqv d e)) H) : rNeD K x y H Q := ⟨d, e, h1, h2, s1, s2, q⟩
theorem eqDs (h1 : Dp K H x d) (h2 : Dp K H y d) (s1 : SeqAt.shaped d = true) (q : Q (.bl true) H) : rEqD K x y H Q := ⟨d, d, h1, h2, s1, s1, by
  rw [PySem.SeqAt.eqv_refl d (SeqAt.canLay_of_shaped s1)]; exact q⟩
theorem neDs (h1 : Dp K H x d) (h2 : Dp K H y d) (s1 : SeqAt.shaped d = true) (q : Q (.bl false) H) : rNeD K x y H Q := ⟨d, d, h1, h2, s1, s1, by
  rw [PySem.SeqAt.eqv_refl d (SeqAt.canLay_of_shaped s1)]; exact q⟩
end
theorem cat {H : Hp} {Q : VK} {l b : Addr} {xs zs : List V} (h1 : H l = some (.lst xs)) (h2 : H b = some (.lst zs)) (hl : xs.length + zs.length ≤ 1000) (q : ∀ p H', H p = none → Rd.Ex H H' → H' p = some (.lst (xs ++ zs)) → Q (.ref p) H') : rCat (.ref l) (.ref b) H Q :=
  ⟨l, b, xs, zs, rfl, rfl, h1, h2, Nat.le_trans hl (Nat.le_of_ble_eq_true rfl), fun p hp => q p _ hp (Rd.ex_new hp) upd_same⟩
theorem rep {H : Hp} {Q : VK} {l : Addr} {k : Int} {xs : List V} (h1 : H l = some (.lst xs)) (hk : 0 ≤ k ∧ k < 100) (hl : xs.length ≤ 10) (q : ∀ p H', H p = none → Rd.Ex H H' → H' p = some (.lst (List.replicate k.toNat xs).flatten) → Q (.ref p) H') : rRep (.ref l) (.int k) H Q :=
  ⟨l, k, xs, rfl, rfl, h1, by omega, by omega, Nat.le_trans (Nat.mul_le_mul hl (show k.toNat ≤ 100 by omega)) (Nat.le_of_ble_eq_true rfl), fun p hp => q p _ hp (Rd.ex_new hp) upd_same⟩
theorem app {H : Hp} {Q : VK} {l : Addr} {xs : List V} {y : V} (h : H l = some (.lst xs)) (hl : xs.length < 100000) (q : ∀ H', ExP l H H' → H' l = some (.lst (xs ++ [y])) → Q .non H') : rAppend (.ref l) [y] H Q := Rd.app h hl (q _ (fun c z h n => by rw [upd_ne n]; exact h) upd_same)
/-! ### readings with new objects told by a new heap -/
def NewO (H : Hp) (o : HO) (Q : VK) : Prop := ∀ p, H p = none → Q (.ref p) (upd H p o)
section
variable {σ : L2.St} {H : Hp} {Q : VK} {K : PySem.W.Frag} {tr : TA} {te ti : TE} {o : HO} {a C dx : Addr} {fs : List (Str × V)} {xs : List V} {v : V}
theorem new (q : ∀ p H', H p = none → Rd.Ex H H' → H' p = some o → Q (.ref p) H') : NewO H o Q := fun p hp => q p _ hp (Rd.ex_new hp) upd_same
theorem tup (h : tr σ H fun xs H1 => xs.length ≤ sizeLine ∧ NewO H1 (.tup xs) Q) : tTup tr σ H Q := h
theorem lst (h : tr σ H fun xs H1 => xs.length ≤ sizeLine ∧ NewO H1 (.lst xs) Q) : tLst tr σ H Q := h
theorem lenOk {n : Nat} {A : Prop} (h : Nat.ble n 1000 = true) (q : A) : n ≤ sizeLine ∧ A := ⟨Nat.le_trans (Nat.le_of_ble_eq_true h) (Nat.le_of_ble_eq_true rfl), q⟩
theorem revL (h : te σ H fun x H1 => ∃ a xs, x = .ref a ∧ SqL K H1 a xs ∧ NewO H1 (.lst xs.reverse) Q) : tRevL K te σ H Q := h
theorem nopart {Q : Option Int → Hp → Prop} (h : Q none H) : tNoPart σ H Q := h
theorem part {Q : Option Int → Hp → Prop} (h : te σ H fun x H1 => ∃ i, x = .int i ∧ Q (some i) H1) : tPart te σ H Q := h
theorem isI {n : Int} {QC : Int → Prop} (h : QC n) : ∃ i, V.int n = .int i ∧ QC i := ⟨n, rfl, h⟩
theorem sl {r : V → Option Int → Option Int → Hp → VK → Prop} {tl th : TO} (h : te σ H fun x H1 => tl σ H1 fun l H2 => th σ H2 fun u H3 => r x l u H3 Q) : L2.tSl r te tl th σ H Q := h
theorem slL {lo hi : Option Int} (h : SqL K H a xs) (q : NewO H (.lst (cutV xs lo hi)) Q) : rSlL K (.ref a) lo hi H Q := ⟨a, xs, rfl, h, q⟩
theorem sum {ns : List Int} (h : SqL K H a (ns.map V.int)) (q : Q (.int ns.sum) H) : rSum K [.ref a] H Q := ⟨a, ns, rfl, h, q⟩
theorem pr2 {x y : V} {A : V → V → Prop} (h : A x y) : ∃ v w, [x, y] = [v, w] ∧ A v w := ⟨x, y, rfl, h⟩
theorem pr3 {x y z : V} {A : V → V → V → Prop} (h : A x y z) : ∃ u v w, [x, y, z] = [u, v, w] ∧ A u v w := ⟨x, y, z, rfl, h⟩
theorem methO {C : Addr} {m : Str} {A : Prop} (h : H a = some (.ins C dx fs)) (l : fs.lookup m = none) (q : A) : ∃ a' dx' fs', V.ref a = .ref a' ∧ H a' = some (.ins C dx' fs') ∧ fs'.lookup m = none ∧ A := ⟨a, dx, fs, rfl, h, l, q⟩
theorem propO {C : Addr} {A : Addr → Prop} (h : H a = some (.ins C dx fs)) (q : A a) : ∃ a' dx' fs', V.ref a = .ref a' ∧ H a' = some (.ins C dx' fs') ∧ A a' := ⟨a, dx, fs, rfl, h, q⟩
end
theorem eqB {a c : Bool} {H : Hp} {Q : VK} (h : Q (.bl (decide (a = c))) H) : rEq (.bl a) (.bl c) H Q := ⟨rfl, by
  have e : decide (V.bl a = V.bl c) = decide (a = c) := by
    by_cases z : a = c
    · subst z; simp
    · rw [decide_eq_false z, decide_eq_false (fun q => z (V.bl.inj q))]
  rw [e]; exact h⟩
end Au

set_option maxRecDepth 100000
namespace ML
/-! ### the linear source: x to (A * x + 11) modulo M -/
def A : Int := 205891132094649
def M : Int := 281474976710656
def S : Nat → Int
  | 0 => 0
  | n + 1 => A * S n + 1
theorem pow_ge (n : Nat) : A ^ n = 1 + (A - 1) * S n := by
  induction n with
  | zero => simp [S]
  | succ n ih => rw [Int.pow_succ, ih]; simp only [S]; grind
theorem S_add (a b : Nat) : S (a + b) = A ^ b * S a + S b := by
  induction b with
  | zero => simp [S]
  | succ b ih => rw [← Nat.add_assoc]; simp only [S]; rw [ih, Int.pow_succ]; grind
/-- the state after n steps, as an integer -/
def raw (n : Nat) (x : Int) : Int := A ^ n * x + 11 * S n
theorem raw_add (a b : Nat) (x : Int) : raw (a + b) x = raw b (raw a x) := by
  unfold raw
  rw [S_add, Int.pow_add]
  grind
theorem raw_sub (n : Nat) (x : Int) : raw n x - x = S n * ((A - 1) * x + 11) := by
  unfold raw
  rw [pow_ge]
  grind
def mv (n : Nat) (x : Int) : Int := raw n x % 281474976710656
def m1 (n : Nat) : Int := A ^ n % 281474976710656
def m2 (n : Nat) : Int := 11 * S n % 281474976710656
theorem m1_rng (n : Nat) : 0 ≤ m1 n ∧ m1 n < 281474976710656 := by unfold m1; omega
theorem m2_rng (n : Nat) : 0 ≤ m2 n ∧ m2 n < 281474976710656 := by unfold m2; omega
theorem mv_rng (n : Nat) (x : Int) : 0 ≤ mv n x ∧ mv n x < 281474976710656 := by unfold mv; omega
theorem mul_add_mod (a b x m : Int) : ((a % m) * x + b % m) % m = (a * x + b) % m := by
  rw [Int.add_emod, Int.emod_emod_of_dvd _ (Int.dvd_refl m), Int.mul_emod, Int.emod_emod_of_dvd _ (Int.dvd_refl m), ← Int.mul_emod, ← Int.add_emod]
theorem mul_add_mod2 (a b x m : Int) : (a * (x % m) + b % m) % m = (a * x + b) % m := by
  rw [Int.mul_comm, mul_add_mod, Int.mul_comm]
theorem mul_mod2 (a x m : Int) : ((a % m) * (x % m)) % m = (a * x) % m := by rw [← Int.mul_emod]
theorem mapped (n : Nat) (x : Int) : (m1 n * x + m2 n) % 281474976710656 = mv n x := by
  unfold m1 m2 mv raw
  exact mul_add_mod _ _ _ _
theorem join1 (a b : Nat) : m1 a * m1 b % 281474976710656 = m1 (a + b) := by
  unfold m1
  rw [mul_mod2, Int.pow_add]
theorem join2 (a b : Nat) : (m2 a * m1 b + m2 b) % 281474976710656 = m2 (a + b) := by
  unfold m2 m1
  rw [mul_add_mod2, S_add, Int.add_emod, Int.mul_emod, Int.emod_emod_of_dvd _ (Int.dvd_refl _), ← Int.mul_emod, ← Int.add_emod]
  congr 1
  grind
theorem mv_add (a b : Nat) (x : Int) : mv b (mv a x) = mv (a + b) x := by
  unfold mv
  rw [raw_add]
  unfold raw
  rw [Int.add_emod, Int.mul_emod, Int.emod_emod_of_dvd _ (Int.dvd_refl _), ← Int.mul_emod, ← Int.add_emod]
theorem mv_zero {x : Int} (h0 : 0 ≤ x) (h1 : x < 281474976710656) : mv 0 x = x := by
  unfold mv raw S
  rw [Int.pow_zero]
  omega
theorem m_zero : m1 0 = 1 ∧ m2 0 = 0 := by
  constructor <;> rfl
theorem m_one : m1 1 = 205891132094649 ∧ m2 1 = 11 := by
  constructor <;> rfl
/-! ### digits and periods -/
theorem S_double (n : Nat) : S (2 * n) = S n * (2 * (1 + 102945566047324 * S n)) := by
  rw [Nat.two_mul, S_add, pow_ge]
  have e : A - 1 = 205891132094648 := by decide
  rw [e]
  grind
theorem S_odd (n : Nat) : S (2 * n + 1) % 2 = 1 := by
  show (A * S (2 * n) + 1) % 2 = 1
  rw [S_double]
  have : A * (S n * (2 * (1 + 102945566047324 * S n))) = 2 * (A * (S n * (1 + 102945566047324 * S n))) := by grind
  rw [this]
  omega
theorem dvd_odd {k : Nat} {a c : Int} (h : c % 2 = 1) : (2 ^ k : Int) ∣ a * c ↔ (2 ^ k : Int) ∣ a := by
  constructor
  · intro hd
    induction k with
    | zero => exact Int.one_dvd _
    | succ k ih =>
      have h1 : (2 ^ k : Int) ∣ a * c := Int.dvd_trans ⟨2, by rw [Int.pow_succ]⟩ hd
      obtain ⟨z, hz⟩ := ih h1
      obtain ⟨y, hy⟩ := hd
      have p : (0 : Int) < 2 ^ k := Int.pow_pos (by decide)
      have e : (2 : Int) ^ k * (z * c) = 2 ^ k * (2 * y) := by rw [Int.pow_succ] at hy; grind
      have e2 := Int.eq_of_mul_eq_mul_left (Int.ne_of_gt p) e
      have hz2 : z % 2 = 0 := by
        have h5 : (z * c) % 2 = 0 := by omega
        rw [Int.mul_emod, h] at h5
        omega
      exact ⟨z / 2, by rw [Int.pow_succ, hz]; have : z = 2 * (z / 2) := by omega
                       rw [Int.mul_assoc, ← this]⟩
  · intro hd
    obtain ⟨z, hz⟩ := hd
    exact ⟨z * c, by rw [hz, Int.mul_assoc]⟩
theorem S_dvd : ∀ (k n : Nat), (2 ^ k : Int) ∣ S n ↔ (2 ^ k : Nat) ∣ n
  | 0, n => ⟨fun _ => ⟨n, by simp⟩, fun _ => Int.one_dvd _⟩
  | k + 1, n => by
    rcases Nat.mod_two_eq_zero_or_one n with h | h
    · have e : n = 2 * (n / 2) := by omega
      rw [e, S_double]
      have ih := S_dvd k (n / 2)
      have od : (1 + 102945566047324 * S (n / 2)) % 2 = 1 := by omega
      constructor
      · intro hd
        have h2 : (2 ^ k : Int) ∣ S (n / 2) * (1 + 102945566047324 * S (n / 2)) := by
          obtain ⟨y, hy⟩ := hd
          exact ⟨y, by
            rw [Int.pow_succ] at hy
            have : (2 : Int) * (S (n / 2) * (1 + 102945566047324 * S (n / 2))) = 2 * (2 ^ k * y) := by grind
            exact Int.eq_of_mul_eq_mul_left (by decide) this⟩
        obtain ⟨z, hz⟩ := ih.mp ((dvd_odd od).mp h2)
        exact ⟨z, by rw [Nat.pow_succ, hz]; simp only [Nat.mul_comm, Nat.mul_left_comm]⟩
      · rintro ⟨z, hz⟩
        have h3 : (2 ^ k : Nat) ∣ n / 2 := ⟨z, by
          rw [Nat.pow_succ, Nat.mul_comm (2 ^ k) 2, Nat.mul_assoc] at hz
          omega⟩
        obtain ⟨y, hy⟩ := ih.mpr h3
        exact ⟨y * (1 + 102945566047324 * S (n / 2)), by rw [Int.pow_succ]; rw [hy]; grind⟩
    · have e : n = 2 * (n / 2) + 1 := by omega
      constructor
      · intro hd
        have h1 := S_odd (n / 2)
        rw [← e] at h1
        obtain ⟨y, hy⟩ := hd
        rw [Int.pow_succ, Int.mul_comm _ 2, Int.mul_assoc] at hy
        omega
      · rintro ⟨z, hz⟩
        rw [Nat.pow_succ, Nat.mul_comm (2 ^ k) 2, Nat.mul_assoc] at hz
        omega
/-- n steps leave the lowest k digits as they are exactly if 2 ^ k divides n -/
theorem low_iff (k n : Nat) (x : Int) : (2 ^ k : Int) ∣ raw n x - x ↔ (2 ^ k : Nat) ∣ n := by
  rw [raw_sub, dvd_odd (by have : A - 1 = 205891132094648 := by decide
                           rw [this]; omega)]
  exact S_dvd k n
theorem mv_low {k : Nat} (hk : k ≤ 48) (n : Nat) (x : Int) : (2 ^ k : Int) ∣ mv n x - x ↔ (2 ^ k : Nat) ∣ n := by
  rw [← low_iff k n x]
  have e : (2 ^ k : Int) ∣ raw n x - mv n x := by
    unfold mv
    have h1 : (281474976710656 : Int) ∣ raw n x - raw n x % 281474976710656 := ⟨raw n x / 281474976710656, by omega⟩
    have h2 : (2 ^ k : Int) ∣ 281474976710656 := ⟨2 ^ (48 - k), by rw [← Int.pow_add, show k + (48 - k) = 48 by omega]; decide⟩
    exact Int.dvd_trans h2 h1
  constructor
  · intro h
    have := Int.dvd_add e h
    rwa [show raw n x - mv n x + (mv n x - x) = raw n x - x by omega] at this
  · intro h
    have := Int.dvd_sub h e
    rwa [show raw n x - x - (raw n x - mv n x) = mv n x - x by omega] at this
/-- at most one number of steps leads from x to y -/
theorem mv_inj {a b : Nat} {x : Int} (h : mv a x = mv b x) : (a : Int) % 281474976710656 = (b : Int) % 281474976710656 := by
  have key : ∀ {a b : Nat}, a ≤ b → mv a x = mv b x → (281474976710656 : Nat) ∣ b - a := fun {a b} hab h => by
    have e : mv (b - a) (mv a x) = mv b x := by rw [mv_add]; congr 1; omega
    have d : (2 ^ 48 : Int) ∣ mv (b - a) (mv a x) - mv a x := by
      rw [e, ← h]
      exact ⟨0, by omega⟩
    exact (mv_low (Nat.le_refl 48) _ _).mp d
  rcases Nat.le_total a b with hab | hab
  · obtain ⟨z, hz⟩ := key hab h
    omega
  · obtain ⟨z, hz⟩ := key hab h.symm
    omega
theorem mv_period (n : Nat) {x : Int} (h0 : 0 ≤ x) (h1 : x < 281474976710656) : mv (281474976710656 * n) x = x := by
  have d : (2 ^ 48 : Int) ∣ mv (281474976710656 * n) x - x := (mv_low (Nat.le_refl 48) _ _).mpr ⟨n, by rfl⟩
  have r := mv_rng (281474976710656 * n) x
  obtain ⟨z, hz⟩ := d
  have : (2 ^ 48 : Int) = 281474976710656 := by decide
  rw [this] at hz
  omega
theorem mv_mod (n : Nat) (x : Int) : mv (n % 281474976710656) x = mv n x := by
  have e : n = 281474976710656 * (n / 281474976710656) + n % 281474976710656 := by omega
  have r := mv_rng (n % 281474976710656) x
  calc mv (n % 281474976710656) x = mv (281474976710656 * (n / 281474976710656)) (mv (n % 281474976710656) x) := (mv_period _ r.1 r.2).symm
    _ = mv (n % 281474976710656 + 281474976710656 * (n / 281474976710656)) x := mv_add _ _ _
    _ = mv n x := by congr 1; omega
end ML

namespace ML
/-- 2 ^ i steps lead from a number that is right up to digit i to one that is right up to the next -/
theorem flip {i : Nat} (hi : i < 48) {s y : Int} (h : (2 ^ i : Int) ∣ s - y) (hn : ¬ (2 ^ (i + 1) : Int) ∣ s - y) : (2 ^ (i + 1) : Int) ∣ mv (2 ^ i) s - y := by
  obtain ⟨u, hu⟩ := h
  obtain ⟨v, hv⟩ := (mv_low (by omega : i ≤ 48) (2 ^ i) s).mpr (Nat.dvd_refl _)
  have nv : ¬ (2 ^ (i + 1) : Int) ∣ mv (2 ^ i) s - s := fun z => by
    have d := (mv_low (by omega : i + 1 ≤ 48) (2 ^ i) s).mp z
    have := Nat.le_of_dvd (Nat.pow_pos (by decide)) d
    rw [Nat.pow_succ] at this
    have := Nat.pow_pos (n := i) (show 0 < 2 by decide)
    omega
  have od : ∀ {d z : Int}, d = 2 ^ i * z → ¬ (2 ^ (i + 1) : Int) ∣ d → z % 2 = 1 := fun {d z} e n => by
    rcases Int.emod_two_eq z with q | q
    · refine absurd ⟨z / 2, ?_⟩ n
      rw [e, Int.pow_succ, Int.mul_assoc, show 2 * (z / 2) = z by omega]
    · exact q
  have h1 := od hu hn
  have h2 := od hv nv
  refine ⟨(u + v) / 2, ?_⟩
  have e : mv (2 ^ i) s - y = 2 ^ i * (u + v) := by rw [Int.mul_add, ← hu, ← hv]; omega
  rw [e, Int.pow_succ, Int.mul_assoc, show 2 * ((u + v) / 2) = u + v by omega]
theorem mod_eq_iff {m a b : Nat} : a % m = b % m ↔ (m : Int) ∣ (a : Int) - b := by
  constructor
  · intro h
    refine ⟨(a / m : Nat) - (b / m : Nat), ?_⟩
    have e1 := Nat.div_add_mod a m
    have e2 := Nat.div_add_mod b m
    rw [h] at e1
    have e3 : ((m * (a / m) + b % m : Nat) : Int) - ((m * (b / m) + b % m : Nat) : Int) = (a : Int) - b := by rw [e1, e2]
    rw [← e3, Int.mul_sub]
    push_cast
    omega
  · intro h
    have h2 := Int.emod_eq_emod_iff_emod_sub_eq_zero.mpr (Int.emod_eq_zero_of_dvd h)
    have h3 : ((a % m : Nat) : Int) = ((b % m : Nat) : Int) := by rw [Int.natCast_emod, Int.natCast_emod]; exact h2
    exact Int.ofNat.inj h3
/-- the digit i of the exclusive or tells whether two numbers that are equal below it differ there -/
theorem bit_xor {i : Nat} {a b : Nat} (h : (2 ^ i : Int) ∣ (a : Int) - b) : (a ^^^ b) / 2 ^ i % 2 = 1 ↔ ¬ (2 ^ (i + 1) : Int) ∣ (a : Int) - b := by
  have hm : a % 2 ^ i = b % 2 ^ i := mod_eq_iff.mpr (by push_cast; exact h)
  have hx : ∀ x : Nat, x / 2 ^ i % 2 = (x.testBit i).toNat := fun x => by
    rw [Nat.testBit_eq_decide_div_mod_eq]
    rcases Nat.mod_two_eq_zero_or_one (x / 2 ^ i) with q | q <;> rw [q] <;> rfl
  have hs : (2 ^ (i + 1) : Int) ∣ (a : Int) - b ↔ a % 2 ^ (i + 1) = b % 2 ^ (i + 1) := by
    rw [mod_eq_iff]; push_cast; exact Iff.rfl
  rw [hs, Nat.mod_pow_succ, Nat.mod_pow_succ, hm, hx, hx, hx, Nat.testBit_xor]
  have p := Nat.pow_pos (n := i) (show 0 < 2 by decide)
  cases a.testBit i <;> cases b.testBit i <;> simp <;> omega
end ML
namespace ML
/-! ### digits from the lowest on -/
def lsb (n : Nat) : List Int := if n = 0 then [] else ((n % 2 : Nat) : Int) :: lsb (n / 2)
termination_by n
decreasing_by omega
theorem lsb_zero : lsb 0 = [] := by rw [lsb]; rfl
theorem lsb_pos {n : Nat} (h : 0 < n) : lsb n = ((n % 2 : Nat) : Int) :: lsb (n / 2) := by
  rw [lsb, if_neg (by omega)]
theorem lsb_len : ∀ (k n : Nat), n < 2 ^ k → (lsb n).length ≤ k
  | 0, n, h => by
    have : n = 0 := by simpa using h
    subst this
    rw [lsb_zero]
    exact Nat.le_refl _
  | k + 1, n, h => by
    by_cases hn : n = 0
    · subst hn; rw [lsb_zero]; exact Nat.zero_le _
    · rw [lsb_pos (by omega), List.length_cons]
      have := lsb_len k (n / 2) (by rw [Nat.pow_succ] at h; omega)
      omega
theorem lsb_bit : ∀ (k n : Nat), n < 2 ^ k → ∀ d ∈ lsb n, d = 0 ∨ d = 1
  | 0, n, h => by
    have : n = 0 := by simpa using h
    subst this
    rw [lsb_zero]
    intro d hd
    cases hd
  | k + 1, n, h => by
    by_cases hn : n = 0
    · subst hn; rw [lsb_zero]; intro d hd; cases hd
    · rw [lsb_pos (by omega)]
      intro d hd
      rcases List.mem_cons.mp hd with e | e
      · subst e; omega
      · exact lsb_bit k (n / 2) (by rw [Nat.pow_succ] at h; omega) d e
/-- the number that digits write, the highest first -/
def valD (l : List Int) : Nat := l.foldl (fun a d => 2 * a + d.toNat) 0
theorem valD_snoc (l : List Int) (d : Int) : valD (l ++ [d]) = 2 * valD l + d.toNat := by
  unfold valD
  rw [List.foldl_append]
  rfl
theorem val_lsb : ∀ (k n : Nat), n < 2 ^ k → valD (lsb n).reverse = n
  | 0, n, h => by
    have : n = 0 := by simpa using h
    subst this
    rw [lsb_zero]
    rfl
  | k + 1, n, h => by
    by_cases hn : n = 0
    · subst hn; rw [lsb_zero]; rfl
    · rw [lsb_pos (by omega), List.reverse_cons, valD_snoc, val_lsb k (n / 2) (by rw [Nat.pow_succ] at h; omega)]
      omega
theorem dbl1 (k : Nat) : m1 k * m1 k % 281474976710656 = m1 (2 * k) := by rw [join1, Nat.two_mul]
theorem dbl2 (k : Nat) : (m1 k + 1) * m2 k % 281474976710656 = m2 (2 * k) := by
  rw [Nat.two_mul, ← join2]
  congr 1
  grind
theorem inc1 (k : Nat) : 205891132094649 * m1 k % 281474976710656 = m1 (k + 1) := by
  rw [← join1, m_one.1, Int.mul_comm]
theorem inc2 (k : Nat) : (205891132094649 * m2 k + 11) % 281474976710656 = m2 (k + 1) := by
  rw [← join2, m_one.1, m_one.2, Int.mul_comm]
end ML

set_option linter.all false
/-! the mixing of words, in plain numbers -/
namespace MX
def xs (k n : Nat) : Nat := n ^^^ (n / 2 ^ k)
def F : Nat := 3486784401
def U : Nat := 3396732273
theorem FU : F * U % 4294967296 = 1 := by decide
def tmp (n : Nat) : Nat := xs 16 (xs 13 n * F % 4294967296)
def utm (n : Nat) : Nat := let y := xs 16 n * U % 4294967296; y ^^^ (y / 2 ^ 13) ^^^ (y / 2 ^ 26)
theorem div_xor (a b k : Nat) : (a ^^^ b) / 2 ^ k = (a / 2 ^ k) ^^^ (b / 2 ^ k) := by
  simp only [← Nat.shiftRight_eq_div_pow, Nat.shiftRight_xor_distrib]
theorem div_div (a j k : Nat) : a / 2 ^ j / 2 ^ k = a / 2 ^ (j + k) := by rw [Nat.div_div_eq_div_mul, ← Nat.pow_add]
theorem small {a k : Nat} (h : a < 2 ^ k) : a / 2 ^ k = 0 := Nat.div_eq_of_lt h
theorem xor_lt {a b : Nat} (ha : a < 2 ^ 32) (hb : b < 2 ^ 32) : a ^^^ b < 2 ^ 32 := Nat.xor_lt_two_pow ha hb
theorem div_lt {a k : Nat} (ha : a < 2 ^ 32) : a / 2 ^ k < 2 ^ 32 := Nat.lt_of_le_of_lt (Nat.div_le_self _ _) ha
theorem xs_lt {k n : Nat} (h : n < 2 ^ 32) : xs k n < 2 ^ 32 := xor_lt h (div_lt h)
theorem xx (a b : Nat) : a ^^^ b ^^^ b = a := by rw [Nat.xor_assoc, Nat.xor_self, Nat.xor_zero]
theorem xs16 {n : Nat} (h : n < 2 ^ 32) : xs 16 (xs 16 n) = n := by
  unfold xs
  rw [div_xor, div_div, small h, Nat.xor_zero, xx]
theorem lift13 {n : Nat} (h : n < 2 ^ 32) : xs 13 n ^^^ (xs 13 n / 2 ^ 13) ^^^ (xs 13 n / 2 ^ 26) = n := by
  have h39 : n / 2 ^ 39 = 0 := small (Nat.lt_of_lt_of_le h (by decide))
  unfold xs
  rw [div_xor, div_xor, div_div, div_div]
  show n ^^^ n / 2 ^ 13 ^^^ (n / 2 ^ 13 ^^^ n / 2 ^ 26) ^^^ (n / 2 ^ 26 ^^^ n / 2 ^ 39) = n
  rw [h39, Nat.xor_zero, ← Nat.xor_assoc (n ^^^ n / 2 ^ 13), xx, xx]
theorem drop13 {y : Nat} (h : y < 2 ^ 32) : xs 13 (y ^^^ (y / 2 ^ 13) ^^^ (y / 2 ^ 26)) = y := by
  have h39 : y / 2 ^ 39 = 0 := small (Nat.lt_of_lt_of_le h (by decide))
  unfold xs
  rw [div_xor, div_xor, div_div, div_div]
  show y ^^^ y / 2 ^ 13 ^^^ y / 2 ^ 26 ^^^ (y / 2 ^ 13 ^^^ y / 2 ^ 26 ^^^ y / 2 ^ 39) = y
  rw [h39, Nat.xor_zero, Nat.xor_assoc y, xx]
theorem mulFU {a : Nat} (h : a < 2 ^ 32) : a * F % 4294967296 * U % 4294967296 = a := by
  rw [Nat.mod_mul_mod, Nat.mul_assoc, ← Nat.mul_mod_mod, FU, Nat.mul_one, Nat.mod_eq_of_lt h]
theorem mulUF {a : Nat} (h : a < 2 ^ 32) : a * U % 4294967296 * F % 4294967296 = a := by
  rw [Nat.mod_mul_mod, Nat.mul_assoc, Nat.mul_comm U F, ← Nat.mul_mod_mod, FU, Nat.mul_one, Nat.mod_eq_of_lt h]
theorem mod_lt (a : Nat) : a % 4294967296 < 2 ^ 32 := Nat.mod_lt _ (by decide)
theorem tmp_lt (n : Nat) : tmp n < 2 ^ 32 := xs_lt (mod_lt _)
theorem utm_lt (n : Nat) : utm n < 2 ^ 32 := xor_lt (xor_lt (mod_lt _) (div_lt (mod_lt _))) (div_lt (mod_lt _))
theorem utm_tmp {n : Nat} (h : n < 2 ^ 32) : utm (tmp n) = n := by
  unfold utm tmp
  rw [xs16 (mod_lt _), mulFU (xs_lt h)]
  exact lift13 h
theorem tmp_utm {n : Nat} (h : n < 2 ^ 32) : tmp (utm n) = n := by
  unfold utm tmp
  rw [drop13 (mod_lt _), mulUF (xs_lt h), xs16 h]
/-- the rounds -/
def fe (s : Nat) (p : Nat × Nat) : Nat × Nat := (p.2, p.1 ^^^ tmp ((p.2 + 1000003 * s) % 4294967296))
def bk (s : Nat) (p : Nat × Nat) : Nat × Nat := (p.2 ^^^ tmp ((p.1 + 1000003 * s) % 4294967296), p.1)
theorem bk_fe (s : Nat) (p : Nat × Nat) : bk s (fe s p) = p := by simp [bk, fe, xx]
theorem fe_bk (s : Nat) (p : Nat × Nat) : fe s (bk s p) = p := by simp [bk, fe, xx]
def ok (p : Nat × Nat) : Prop := p.1 < 2 ^ 32 ∧ p.2 < 2 ^ 32
theorem ok_fe {s : Nat} {p : Nat × Nat} (h : ok p) : ok (fe s p) := ⟨h.2, xor_lt h.1 (tmp_lt _)⟩
theorem ok_bk {s : Nat} {p : Nat × Nat} (h : ok p) : ok (bk s p) := ⟨xor_lt h.2 (tmp_lt _), h.1⟩
def spl (n : Nat) : Nat × Nat := (n / 4294967296, n % 4294967296)
def cat (p : Nat × Nat) : Nat := p.1 * 4294967296 + p.2
theorem ok_spl {n : Nat} (h : n < 2 ^ 64) : ok (spl n) := ⟨by show n / 4294967296 < 2 ^ 32; omega, mod_lt n⟩
theorem cat_spl (n : Nat) : cat (spl n) = n := by unfold cat spl; show n / 4294967296 * 4294967296 + n % 4294967296 = n; omega
theorem spl_cat {p : Nat × Nat} (h : ok p) : spl (cat p) = p := by
  obtain ⟨a, b⟩ := p
  obtain ⟨h1, h2⟩ := h
  show ((a * 4294967296 + b) / 4294967296, (a * 4294967296 + b) % 4294967296) = (a, b)
  have : b < 4294967296 := h2
  rw [show (a * 4294967296 + b) / 4294967296 = a by omega, show (a * 4294967296 + b) % 4294967296 = b by omega]
theorem cat_lt {p : Nat × Nat} (h : ok p) : cat p < 2 ^ 64 := by
  obtain ⟨h1, h2⟩ := h
  unfold cat
  omega
def mix (n : Nat) : Nat := cat (fe 4 (fe 3 (fe 2 (fe 1 (spl n)))))
def unm (n : Nat) : Nat := cat (bk 1 (bk 2 (bk 3 (bk 4 (spl n)))))
theorem unm_mix {n : Nat} (h : n < 2 ^ 64) : unm (mix n) = n := by
  unfold unm mix
  rw [spl_cat (ok_fe (ok_fe (ok_fe (ok_fe (ok_spl h))))), bk_fe, bk_fe, bk_fe, bk_fe, cat_spl]
theorem mix_unm {n : Nat} (h : n < 2 ^ 64) : mix (unm n) = n := by
  unfold unm mix
  rw [spl_cat (ok_bk (ok_bk (ok_bk (ok_bk (ok_spl h))))), fe_bk, fe_bk, fe_bk, fe_bk, cat_spl]
theorem mix_lt {n : Nat} (h : n < 2 ^ 64) : mix n < 2 ^ 64 := cat_lt (ok_fe (ok_fe (ok_fe (ok_fe (ok_spl h)))))
theorem unm_lt {n : Nat} (h : n < 2 ^ 64) : unm n < 2 ^ 64 := cat_lt (ok_bk (ok_bk (ok_bk (ok_bk (ok_spl h)))))
/-- one bit more of an exclusive or -/
theorem xor_bit (a b i : Nat) : (a ^^^ b) % 2 ^ (i + 1) = (a ^^^ b) % 2 ^ i + (if a / 2 ^ i % 2 ≠ b / 2 ^ i % 2 then 2 ^ i else 0) := by
  have e : (a ^^^ b) / 2 ^ i % 2 = if a / 2 ^ i % 2 ≠ b / 2 ^ i % 2 then 1 else 0 := by
    rw [div_xor]
    generalize a / 2 ^ i = x
    generalize b / 2 ^ i = y
    have h1 : (x ^^^ y) % 2 = (x % 2) ^^^ (y % 2) := by
      have := Nat.xor_mod_two_pow (a := x) (b := y) (n := 1)
      simpa using this
    rw [h1]
    rcases Nat.mod_two_eq_zero_or_one x with hx | hx <;> rcases Nat.mod_two_eq_zero_or_one y with hy | hy <;> rw [hx, hy] <;> decide
  rw [Nat.pow_succ, Nat.mod_mul, e]
  split <;> omega
end MX

set_option Elab.async false
set_option linter.all false
set_option maxRecDepth 100000
set_option maxHeartbeats 4000000
set_option exponentiation.threshold 2000
/-! promises that no law's own text stands in -/
namespace Pr
open PySem PySem.Spec PyProof.Rows L2
/-! ### dicts, new objects, fields -/
section
variable {σ : L2.St} {H : Hp} {Q : VK} {K : PySem.W.Frag} {d a C dx : Addr} {kvs kvs' : List (Key × V)} {x : Str} {v : V} {fs : List (Str × V)} {D : Ends}
theorem u_get {Q : V → Prop} (h : H d = some (.dK kvs)) (e : valV kvs (Sum.inr x) = some v) (q : Q v) : ∃ a v', V.ref d = .ref a ∧ DGet H a (.str x) (some v') ∧ Q v' :=
  ⟨d, v, rfl, by rw [← e]; exact DGet.k (k := Sum.inr x) h, q⟩
theorem dget {td ty : TE} (h : td σ H fun x H1 => ty σ H1 fun y H2 => ∃ a v, x = .ref a ∧ DGet H2 a y (some v) ∧ Q v H2) : tDGet td ty σ H Q := h
theorem dput {td ty tv : TE} (h : tv σ H fun v H1 => td σ H1 fun x H2 => ty σ H2 fun y H3 => ∃ a H4, x = .ref a ∧ DPut H3 a y v H4 ∧ D.nx σ H4) : sDPut td ty tv D σ H := h
theorem u_put {Q : Hp → Prop} (h : H d = some (.dK kvs)) (hl : kvs.length < 1000) (e : putK kvs (Sum.inr x) v = kvs') (q : Q (upd H d (.dK kvs'))) : ∃ a H4, V.ref d = .ref a ∧ DPut H a (.str x) v H4 ∧ Q H4 :=
  ⟨d, _, rfl, DPut.k (k := Sum.inr x) h (small1000 (by omega)), by rw [e]; exact q⟩
/-- o.f = v -/
theorem stF {f : Str} {y : V} {fs' : List (Str × V)} (h : H a = some (.ins C dx fs)) (c : Cls K C) (n : NoAttr K C f) (l : Nat.ble fs.length 100 = true) (e : putF f y fs = fs') (q : ∀ H', Au.ExP a H H' → H' a = some (.ins C dx fs') → D.nx σ H') :
    ∃ a' C' dx' fs'', V.ref a = .ref a' ∧ H a' = some (.ins C' dx' fs'') ∧ Cls K C' ∧ NoAttr K C' f ∧ fs''.length < 1000 ∧ D.nx σ (upd H a' (.ins C' dx' (putF f y fs''))) :=
  ⟨a, C, dx, fs, rfl, h, c, n, Nat.lt_of_le_of_lt (Nat.le_of_ble_eq_true l) (by decide), by rw [e]; exact q _ (fun c z h n => by rw [upd_ne n]; exact h) upd_same⟩
theorem sfld {to te : TE} {f : Str} (h : te σ H fun y H1 => to σ H1 fun x H2 => ∃ a C dx fs, x = .ref a ∧ H2 a = some (.ins C dx fs) ∧ Cls K C ∧ NoAttr K C f ∧ fs.length < 1000 ∧ D.nx σ (upd H2 a (.ins C dx (putF f y fs)))) : sFld K to te f D σ H := h
end
/-- the heap in which an object is made -/
theorem ex_make {H : Hp} {x dx : Addr} {o o' : HO} (hx : H x = none) (hdx : H dx = none) : Rd.Ex H (upd (upd H dx o) x o') := fun b z e => by
  rw [upd_ne (ne_of_none e hx), upd_ne (ne_of_none e hdx)]
  exact e
theorem ex_made {H H' : Hp} {x dx : Addr} {o o' : HO} (hx : H x = none) (hdx : H dx = none) (m : Au.ExP x (upd (upd H dx o) x o') H') : Rd.Ex H H' := fun b z e => m b z (ex_make hx hdx b z e) (ne_of_none e hx)
/-! ### numbers -/
def NonInt (H : Hp) (v : V) : Prop := v = .non ∨ (∃ b, v = .bl b) ∨ (∃ s, v = .str s) ∨ (∃ a xs, v = .ref a ∧ H a = some (.tup xs)) ∨ (∃ a xs, v = .ref a ∧ H a = some (.lst xs)) ∨ ∃ a kvs, v = .ref a ∧ H a = some (.dK kvs)
theorem kit_t (K : PySem.W.Frag) : PySem.W.kitOne K (.type "NoneType") (.type "int") = some false ∧ PySem.W.kitOne K (.type "bool") (.type "int") = some true ∧ PySem.W.kitOne K (.type "bool") (.type "bool") = some true ∧ PySem.W.kitOne K (.type "str") (.type "int") = some false ∧
    PySem.W.kitOne K (.type "tuple") (.type "int") = some false ∧ PySem.W.kitOne K (.type "list") (.type "int") = some false ∧ PySem.W.kitOne K (.type "dict") (.type "int") = some false := by
  refine ⟨?_, ?_, ?_, ?_, ?_, ?_, ?_⟩ <;> first | rfl | decide +kernel | kernel_rfl
def spIsInt : Sp := fun vs H Q _ => ∃ v, vs = [v] ∧ ((∃ n : Int, v = .int n ∧ Q (.bl true) H) ∨ (NonInt H v ∧ Q (.bl false) H))
theorem u_isInt {n : Int} {H : Hp} {Q : VK} {E : XK} (h : Q (.bl true) H) : spIsInt ([.int n] ++ []) H Q E := ⟨.int n, rfl, .inl ⟨n, rfl, h⟩⟩
theorem u_isNon {v : V} {H : Hp} {Q : VK} {E : XK} (n : NonInt H v) (h : Q (.bl false) H) : spIsInt ([v] ++ []) H Q E := ⟨v, rfl, .inr ⟨n, h⟩⟩
def spNeed (lo hi : Int) : Sp := fun vs H Q _ => ∃ n : Int, vs = [.int n] ∧ lo ≤ n ∧ n ≤ hi ∧ Q .non H
theorem u_need {lo hi n : Int} {H : Hp} {Q : VK} {E : XK} (h1 : lo ≤ n) (h2 : n ≤ hi) (h : Q .non H) : spNeed lo hi ([.int n] ++ []) H Q E := ⟨n, rfl, h1, h2, h⟩
/-- is the value a number in its bounds -/
def spIs (lo hi : Int) : Sp := fun vs H Q _ => ∃ v, vs = [v] ∧ ((∃ n : Int, v = .int n ∧ Q (.bl (decide (lo ≤ n ∧ n ≤ hi))) H) ∨ (NonInt H v ∧ Q (.bl false) H))
theorem u_isIn {lo hi n : Int} {H : Hp} {Q : VK} {E : XK} (h : lo ≤ n ∧ n ≤ hi) (q : Q (.bl true) H) : spIs lo hi ([.int n] ++ []) H Q E := ⟨_, rfl, .inl ⟨n, rfl, by rw [decide_eq_true h]; exact q⟩⟩
theorem u_isOut {lo hi n : Int} {H : Hp} {Q : VK} {E : XK} (h : ¬ (lo ≤ n ∧ n ≤ hi)) (q : Q (.bl false) H) : spIs lo hi ([.int n] ++ []) H Q E := ⟨_, rfl, .inl ⟨n, rfl, by rw [decide_eq_false h]; exact q⟩⟩
/-! ### linear sources -/
def MapAt (K : PySem.W.Frag) (H : Hp) (a : Addr) (n : Nat) : Prop := SqT K H a [.int (ML.m1 n), .int (ML.m2 n)]
theorem MapAt.ex {K : PySem.W.Frag} {H H' : Hp} {a : Addr} {n : Nat} (e : Rd.Ex H H') (h : MapAt K H a n) : MapAt K H' a n := Rd.ex_t e h
def spJoined (K : PySem.W.Frag) : Sp := fun vs H Q _ => ∃ (a b : Addr) (n m : Nat), vs = [.ref a, .ref b] ∧ MapAt K H a n ∧ MapAt K H b m ∧
  ∀ t H', H t = none → Rd.Ex H H' → H' t = some (.tup [.int (ML.m1 (n + m)), .int (ML.m2 (n + m))]) → Q (.ref t) H'
def spMapped (K : PySem.W.Frag) : Sp := fun vs H Q _ => ∃ (a : Addr) (n : Nat) (x : Int), vs = [.ref a, .int x] ∧ MapAt K H a n ∧ 0 ≤ x ∧ x < 281474976710656 ∧ Q (.int (ML.mv n x)) H
def spMap (K : PySem.W.Frag) : Sp := fun vs H Q _ => ∃ n : Int, vs = [.int n] ∧ ∀ t H', Rd.Ex H H' → MapAt K H' t (n % 281474976710656).toNat → Q (.ref t) H'
def spMoved : Sp := fun vs H Q _ => ∃ x n : Int, vs = [.int x, .int n] ∧ 0 ≤ x ∧ x < 281474976710656 ∧ ∀ H', Rd.Ex H H' → Q (.int (ML.mv (n % 281474976710656).toNat x)) H'
theorem u_moved {x n : Int} {H : Hp} {Q : VK} {E : XK} (h : 0 ≤ x ∧ x < 281474976710656) (q : ∀ H', Rd.Ex H H' → Q (.int (ML.mv (n % 281474976710656).toNat x)) H') : spMoved ([.int x, .int n] ++ []) H Q E := ⟨x, n, rfl, h.1, h.2, q⟩
def spDist0 : Sp := fun vs H Q _ => ∃ x y : Int, vs = [.int x, .int y] ∧ (0 ≤ x ∧ x < 281474976710656 ∧ 0 ≤ y ∧ y < 281474976710656) ∧ ∀ (H' : Hp) (n : Nat), Rd.Ex H H' → n < 281474976710656 → ML.mv n x = y → Q (.int n) H'
theorem u_dist0 {x y : Int} {H : Hp} {Q : VK} {E : XK} (h : 0 ≤ x ∧ x < 281474976710656 ∧ 0 ≤ y ∧ y < 281474976710656) (q : ∀ (H' : Hp) (n : Nat), Rd.Ex H H' → n < 281474976710656 → ML.mv n x = y → Q (.int n) H') : spDist0 ([.int x, .int y] ++ []) H Q E := ⟨x, y, rfl, h, q⟩
abbrev LinO (C dx : Addr) (x : Int) : HO := .ins C dx [("s2_x", .int x)]
def spInit1 (C : Addr) : Sp := fun vs H Q _ => ∃ (p dx : Addr) (x : Int), vs = [.ref p, .int x] ∧ (0 ≤ x ∧ x < 281474976710656) ∧ H p = some (.ins C dx []) ∧ ∀ H', Au.ExP p H H' → H' p = some (LinO C dx x) → Q .non H'
theorem u_lin {C : Addr} {H : Hp} {Q : Addr → Hp → Prop} {E : XK} {n : Int} (h1 : 0 ≤ n ∧ n < 281474976710656) (h : ∀ p dx H', H p = none → Rd.Ex H H' → H' p = some (LinO C dx n) → Q p H') :
    ∀ x dx, H x = none → H dx = none → dx ≠ x → spInit1 C (.ref x :: ([.int n] ++ [])) (upd (upd H dx (.own x)) x (.ins C dx [])) (fun v H2 => v = .non ∧ Q x H2) E := fun x dx hx hdx hne =>
  ⟨x, dx, n, rfl, h1, upd_same, fun H' m k => ⟨rfl, h x dx H' hx (ex_made hx hdx m) k⟩⟩
def spState1 (C : Addr) : Sp := fun vs H Q _ => ∃ (p dx : Addr) (x : Int), vs = [.ref p] ∧ H p = some (LinO C dx x) ∧ ∀ t H', H t = none → Rd.Ex H H' → H' t = some (.tup [.int x]) → Q (.ref t) H'
theorem u_state1 {C p dx : Addr} {x : Int} {H : Hp} {Q : VK} {E : XK} (h : H p = some (LinO C dx x)) (q : ∀ t H', H t = none → Rd.Ex H H' → H' t = some (.tup [.int x]) → Q (.ref t) H') : spState1 C [.ref p] H Q E := ⟨p, dx, x, rfl, h, q⟩
def spAhead1 (C : Addr) (g : Int → Int) : Sp := fun vs H Q _ => ∃ (p dx : Addr) (x n : Int), vs = [.ref p, .int n] ∧ H p = some (LinO C dx x) ∧ (0 ≤ x ∧ x < 281474976710656) ∧ (0 ≤ n ∧ n ≤ 18446744073709551616) ∧
  ∀ p' dx' H', H p' = none → Rd.Ex H H' → H' p' = some (LinO C dx' (ML.mv (g n % 281474976710656).toNat x)) → Q (.ref p') H'
theorem u_ahead1 {C p dx : Addr} {x n : Int} {g : Int → Int} {H : Hp} {Q : VK} {E : XK} (h : H p = some (LinO C dx x) ∧ (0 ≤ x ∧ x < 281474976710656) ∧ (0 ≤ n ∧ n ≤ 18446744073709551616))
    (q : ∀ p' dx' H', H p' = none → Rd.Ex H H' → H' p' = some (LinO C dx' (ML.mv (g n % 281474976710656).toNat x)) → Q (.ref p') H') : spAhead1 C g (.ref p :: ([.int n] ++ [])) H Q E := ⟨p, dx, x, n, rfl, h.1, h.2.1, h.2.2, q⟩
def spDistance (C : Addr) : Sp := fun vs H Q _ => ∃ (p o dx dy : Addr) (x y : Int), vs = [.ref p, .ref o] ∧ (H p = some (LinO C dx x) ∧ H o = some (LinO C dy y) ∧ 0 ≤ x ∧ x < 281474976710656 ∧ 0 ≤ y ∧ y < 281474976710656) ∧
  ∀ (H' : Hp) (n : Nat), Rd.Ex H H' → n < 281474976710656 → ML.mv n x = y → Q (.int n) H'
theorem u_distance {C p o dx dy : Addr} {x y : Int} {H : Hp} {Q : VK} {E : XK} (h : H p = some (LinO C dx x) ∧ H o = some (LinO C dy y) ∧ 0 ≤ x ∧ x < 281474976710656 ∧ 0 ≤ y ∧ y < 281474976710656)
    (q : ∀ (H' : Hp) (n : Nat), Rd.Ex H H' → n < 281474976710656 → ML.mv n x = y → Q (.int n) H') : spDistance C ([.ref p, .ref o] ++ []) H Q E := ⟨p, o, dx, dy, x, y, rfl, h, q⟩
end Pr

set_option Elab.async false
set_option linter.all false
set_option maxRecDepth 100000
set_option maxHeartbeats 4000000
namespace Gx
open PySem PySem.Spec PyProof.Rows L2
/-! ### an attribute as a target among several -/
def gFld (K : PySem.W.Frag) (to : TE) (f : Str) : TG := fun v σ H Q => to σ H fun x H1 => ∃ a C dx fs, x = .ref a ∧ H1 a = some (.ins C dx fs) ∧ Cls K C ∧ NoAttr K C f ∧ fs.length < 1000 ∧ Q σ (upd H1 a (.ins C dx (putF f v fs)))
theorem pg_fld {X : Cx} {o : Expr} {to : TE} {f : Str} {pos : Pos} (ho : PE X o to) : PG X (.Attribute o f pos) (gFld X.K to f) := by
  refine ⟨fun pins s σ H v u Q I r h => ?_⟩
  rw [assign_Attribute]
  refine wpAny_bind (wpAny_holding (thn (ho.run pins s σ H _ I h) fun ov s1 ⟨x, H1, I1, r1, a, C, dx, fs, ex, ea, c, n, l, q⟩ => ?_))
  subst ex
  obtain rfl : ov = Value.ref a := r1
  refine wpAny_bind (wpAny_standAt (wpAny_bind (wpAny_holding (setattr_ok I1 ea c n l r fun s3 I3 => ?_))))
  exact wpAny_release ⟨σ, _, I3, q⟩
theorem gfld {K : PySem.W.Frag} {to : TE} {f : Str} {v : V} {σ : L2.St} {H : Hp} {Q : L2.St → Hp → Prop} (h : to σ H fun x H1 => ∃ a C dx fs, x = .ref a ∧ H1 a = some (.ins C dx fs) ∧ Cls K C ∧ NoAttr K C f ∧ fs.length < 1000 ∧ Q σ (upd H1 a (.ins C dx (putF f v fs)))) : gFld K to f v σ H Q := h
theorem stG {K : PySem.W.Frag} {H : Hp} {a C dx : Addr} {fs fs' : List (Str × V)} {f : Str} {y : V} {Q : Hp → Prop} (h : H a = some (.ins C dx fs)) (c : Cls K C) (n : NoAttr K C f) (l : Nat.ble fs.length 100 = true) (e : putF f y fs = fs') (q : ∀ H', Au.ExP a H H' → H' a = some (.ins C dx fs') → Q H') :
    ∃ a' C' dx' fs'', V.ref a = .ref a' ∧ H a' = some (.ins C' dx' fs'') ∧ Cls K C' ∧ NoAttr K C' f ∧ fs''.length < 1000 ∧ Q (upd H a' (.ins C' dx' (putF f y fs''))) :=
  ⟨a, C, dx, fs, rfl, h, c, n, Nat.lt_of_le_of_lt (Nat.le_of_ble_eq_true l) (by decide), by rw [e]; exact q _ (fun c z h n => by rw [upd_ne n]; exact h) upd_same⟩
theorem gfldV {K : PySem.W.Frag} {H : Hp} {a C dx : Addr} {fs fs' : List (Str × V)} {f : Str} {v : V} {σ : L2.St} {i : Nat} {Q : L2.St → Hp → Prop} (hv : σ[i]? = some (some (.ref a))) (h : H a = some (.ins C dx fs)) (c : Cls K C) (n : NoAttr K C f) (l : Nat.ble fs.length 100 = true) (e : putF f v fs = fs')
    (q : ∀ H', Au.ExP a H H' → H' a = some (.ins C dx fs') → Q σ H') : gFld K (tVar i) f v σ H Q :=
  ⟨_, hv, a, C, dx, fs, rfl, h, c, n, Nat.lt_of_le_of_lt (Nat.le_of_ble_eq_true l) (by decide), by rw [e]; exact q _ (fun c z h n => by rw [upd_ne n]; exact h) upd_same⟩
/-! ### isinstance with a tuple of own classes -/
theorem isTupYes {K : PySem.W.Frag} {C D a dx tp : Addr} {fs : List (Str × V)} {H : Hp} {Q : VK} {b : Bool} (c : C8.InsC K C) (ht : H tp = some (.tup [.ref D, .ref D'])) (h : H a = some (.ins C dx fs)) (k : PySem.W.kitAny K (.ref C) [.ref D, .ref D'] = some b) (q : Q (.bl b) H) : rIsiT K [.ref a, .ref tp] H Q :=
  ⟨_, tp, _, .ref C, _, b, rfl, ht, .cons (.own D) (.cons (.own D') .nil), .base (.ins h c.cl c.ha c.hn c.htk c.hm), k, q⟩
theorem isOwnB {K : PySem.W.Frag} {C D a dx : Addr} {fs : List (Str × V)} {H : Hp} {Q : VK} {b : Bool} (c : C8.InsC K C) (h : H a = some (.ins C dx fs)) (k : PySem.W.kitOne K (.ref C) (.ref D) = some b) (q : Q (.bl b) H) : rIsi K [.ref a, .ref D] H Q :=
  ⟨_, _, .ref C, .ref D, b, rfl, .own D, .base (.ins h c.cl c.ha c.hn c.htk c.hm), k, q⟩
end Gx

set_option Elab.async false
set_option linter.all false
set_option maxRecDepth 100000
set_option maxHeartbeats 1000000
/-! own exceptions over any built-in class (LookupError, RuntimeError, ..), made by an own __init__ of one field -/
namespace Gx
open PySem PySem.Spec PyProof.Rows L2 GenW Builtin Builtin.ObjectAttr
structure YexC (K : PySem.W.Frag) (C : Addr) (initId : String) : Prop where
  cls : ∃ (B newId : String) (bmB : List Value), ExcBaseFacts B newId initId bmB ∧ PySem.StoreFacts B bmB "object.__setattr__" "object" ∧ PySem.W.excInitIn K C bmB newId = true ∧ PySem.W.excOver K C bmB = true
  hd : PySem.W.hasDictIn K C = true
  sa : PySem.W.findIn K (.ref C) "__setattr__" = some (some (.builtin "object.__setattr__"))
  exC : PySem.W.subIn K (.ref C) (.type "BaseException") = some true
  tyC : PySem.W.typeIn K (.ref C) = some (.type "type")
  kC : PySem.W.keepIn K (.ref C) = true
section
variable {X : Cx} {pins : List (Addr × Obj)} {σ : L2.St} {H : Hp} {s : Shared} {a C dx : Addr} {f : Str} {y : V} {u : Value} {initId : String} {A : Around} {E : Value → Shared → Prop}
theorem ostY {Q : Unit → Shared → Prop} (T : YexC X.K C initId) (I : Inv X pins σ H s) (ea : H a = some (exo a C none)) (tf : PySem.W.takerIn X.K C f = some none) (ry : RelV y u)
    (next : ∀ dx s', H dx = none → dx ≠ a → Inv X pins σ (upd (upd H dx (exd dx [(f, y)])) a (exo a C (some dx))) s' → Q () s') : wpAny (model X.prog X.w) A (setAttr (.ref a) f u) Q E s := by
  obtain ⟨B, newId, bmB, FB, SF, hin, hov⟩ := T.cls
  obtain ⟨t1, ho⟩ := exo_at I.hok ea
  obtain ⟨cd, hcd, hdict⟩ := PySem.W.any_some T.hd
  have lcd : PySem.W.Looks (model X.prog X.w) s.heap (classData C) cd := PySem.W.looks_clsIn I.kIn hcd
  obtain ⟨hp, g, dr, t, os⟩ := s
  have inst : PySem.W.InstAt hp a ({ cls := .ref C, dict := none, data := .fields #[.ref t1, .none, .none, .none, .bool false, .none] } : Obj) C none := ⟨ho, rfl, rfl, trivial⟩
  refine PySem.W.set_plain I.kIn (od := none) inst T.sa (PySem.W.osa_openX SF I.kIn inst hov tf fun b => ?_)
  obtain ⟨c1, c2, c3, c4, c5, c6, c7, c8, c9, c10, c11⟩ := cd
  have c6t : c6 = true := hdict
  subst c6t
  have apart : a ≠ hp.objs.size := Nat.ne_of_lt (Heap.lt_size ho)
  show wpAny _ _ (storeInOwnDict _ _ _ _ _ _) _ _ _
  unfold storeInOwnDict ownDictForStores
  repeat (first | with_reducible refine PySem.HandSPX.store_in_new ?_ ?_ | with_reducible refine wpAny_loadPart_at ho ?_ | with_reducible refine lcd.at ?_ | wp_step)
  · exact ⟨_, #[], _, (Heap.get?_update_ne _ _ _ _ (Ne.symm apart)).trans (Heap.get?_push_at rfl rfl), rfl, fun en hen => absurd hen (by simp), fun _ => rfl⟩
  intro h' tk' ns' sb
  have free : H hp.objs.size = none := I.hok.fresh (Nat.le_refl _)
  have off : ∀ {b : Addr}, H b = none → b ≠ a := fun {b} hb z => by rw [z, ea] at hb; cases hb
  have low : ∀ {b : Addr} {o : Obj}, hp.get? b = some o → b ≠ hp.objs.size := fun {b o} hb => Nat.ne_of_lt (Heap.lt_size hb)
  have stays : ∀ b o, b ≠ a → hp.get? b = some o → h'.get? b = some o := fun b o hb ho => by
    rw [sb.2 b (low ho), Heap.get?_update_ne _ _ _ _ hb]
    exact Heap.get?_push_of_some _ ho
  have atA : h'.get? a = some ({ cls := .ref C, dict := some hp.objs.size, data := .fields #[.ref t1, .none, .none, .none, .bool false, .none] } : Obj) := by
    rw [sb.2 a apart]
    exact Heap.get?_update_self _ (Heap.get?_push_of_some _ ho) rfl
  have nTup : ∀ {b : Addr} {xs : List V}, H b = some (.tup xs) → b ≠ a := fun {b xs} hb z => by rw [z, ea] at hb; exact exo_tup (Option.some.inj hb)
  have nFrz : ∀ {b : Addr} {o : Obj} {v : HO}, H b = some (.frz o v) → b ≠ a := fun {b o v} hb z => by rw [z, ea] at hb; exact exo_frz (Option.some.inj hb)
  have nTbl : ∀ {b : Addr} {ps : Array Value}, H b = some (.tbl ps) → b ≠ a := fun {b ps} hb z => by rw [z, ea] at hb; exact exo_tbl (Option.some.inj hb)
  have nOwn : ∀ {b c : Addr}, H b = some (.own c) → b ≠ a := fun {b c} hb z => by rw [z, ea] at hb; exact exo_own (Option.some.inj hb)
  have both : ∀ {b : Addr} {o : HO}, H b = some o → b ≠ a → upd (upd H hp.objs.size (exd hp.objs.size [(f, y)])) a (exo a C (some hp.objs.size)) b = some o := fun {b o} hb n => by
    rw [upd_ne n, upd_ne (ne_of_none hb free)]
    exact hb
  have U : Un X.fs [] H (upd (upd H hp.objs.size (exd hp.objs.size [(f, y)])) a (exo a C (some hp.objs.size))) hp h' := by
    refine ⟨fun b o ho hb _ _ => stays b o (off hb) ho, fun b o ho hb _ _ => ⟨o.slots, stays b o (off hb) ho⟩, fun b o ho hb _ => ?_, fun b o ho _ => ?_, fun b xs hb => both hb (nTup hb), fun b o v hb => both hb (nFrz hb), fun b ps hb => ⟨#[], by rw [Array.append_empty]; exact both hb (nTbl hb)⟩⟩
    · rw [upd_ne (off hb), upd_ne (low ho)]; exact hb
    · by_cases z : b = a
      · exact ⟨_, z ▸ atA⟩
      · exact ⟨o, stays b o z ho⟩
  refine next hp.objs.size _ free (Ne.symm apart) (I.un (t' := tk') U fun b o hb => ?_)
  by_cases z : b = a
  · rw [z, upd_same] at hb
    cases hb
    rw [z]
    exact exo_ok atA
  rw [upd_ne z] at hb
  by_cases z2 : b = hp.objs.size
  · rw [z2, upd_same] at hb
    cases hb
    rw [z2]
    exact exd_ok ns' (relO_put (fs := []) ry fun _ => True.intro)
  rw [upd_ne z2] at hb
  refine (I.hok b o hb).stay (fun c v hc hv => stays c v ?_ hv) (fun c hc => both hc (nOwn hc)) fun c xs hc => both hc (nTup hc)
  rcases hc with hc | hc
  · exact hc ▸ z
  · exact nOwn hc
theorem initY {us : List Value} {Q : Value → Shared → Prop} (T : YexC X.K C initId) (I : Inv X pins σ H s) (ea : H a = some (exo a C none)) (hl : us.length ≤ sizeLine) (next : ∀ s', Inv X pins σ H s' → Q .none s') :
    wpAny (model X.prog X.w) A (call (.builtin initId) (.ref a :: us)) Q E s := by
  obtain ⟨B, newId, bmB, FB, SF, hin, hov⟩ := T.cls
  obtain ⟨nm, N, qn, bs, bm, hdct, sn, sub, ab, col, dd, k0, k1, k2, k3, k5, hC, hT⟩ := PySem.W.excInit_of I.kIn hin
  obtain ⟨t1, ho⟩ := exo_at I.hok ea
  obtain ⟨hp, g, dr, t, os⟩ := s
  refine wpAny_call (PySem.HandSPX.init_base FB hT hC ho hl fun h' t2 kept hx => ?_)
  have same : upd H a (exo a C none) = H := funext fun b => by
    by_cases z : b = a
    · rw [z, upd_same, ea]
    · rw [upd_ne z]
  have J := I.write (t' := t) (x := a) (e := a) (o := exo a C none) (by rw [ea]; trivial) (.inl rfl) kept ⟨_, hx⟩ (exo_ok hx)
  rw [same] at J
  exact next _ J
end
/-! ### readings -/
def tBI (K : PySem.W.Frag) (initId : String) (ta : TA) : TE := fun σ H Q => ta σ H fun vs H1 => ∃ (a C : Addr) (ws : List V), vs = .ref a :: ws ∧ ws.length ≤ 1000 ∧ YexC K C initId ∧ H1 a = some (exo a C none) ∧ Q .non H1
def tOstY (K : PySem.W.Frag) (initId : String) (f : Str) (to te : TE) : TS := fun D σ H => te σ H fun y H1 => to σ H1 fun x H2 => ∃ a C : Addr, x = .ref a ∧ YexC K C initId ∧ PySem.W.takerIn K C f = some none ∧
  H2 a = some (exo a C none) ∧ ∀ dx, H2 dx = none → dx ≠ a → D.nx σ (upd (upd H2 dx (exd dx [(f, y)])) a (exo a C (some dx)))
section
variable {X : Cx} {x f : Str} {e o : Expr} {es : List Expr} {ta : TA} {to te : TE} {p p' p1 p2 pos : Pos} {initId : String}
/-- B.__init__(self, ..), B an own class over a built-in one, without an __init__ of its own -/
theorem pe_bi {pl : Sem Bool} {B : Addr} {mc : Value} (hg : Gl X x) (hm : X.mg x = some (.ref B)) (r : ClX.CRead X.K B mc) (hv : PySem.W.findCls X.K (.ref B) mc "__init__" = some (.val (.builtin initId))) (hh : PySem.W.handedIn (.builtin initId) = true) (ha : PA X (e :: es) ta)
    (hdb : (x == ("__debug__" : Str)) = false := by decide)
    (hc : eval (.Call (.Attribute (.Name x p1) "__init__" p2) (e :: es) [] pos) X.env = (do
      let ov ← eval (.Name x p1) X.env
      standAt p2.atName
      let (f, first) ← holding [ov] (getMethod ov "__init__" pl)
      callWith pos f first (backTo pos (starEach (e :: es) X.env)) (backToKw pos (keywordEach [] X.env))) := by rfl)
    (he : starEach (e :: es) X.env = (false, eval e X.env) :: starEach es X.env := by rfl) (hpl : (backTo pos (starEach es X.env)).any (·.1) = false := by rfl) :
    PE X (.Call (.Attribute (.Name x p1) "__init__" p2) (e :: es) [] pos) (tBI X.K initId ta) := by
  refine ⟨fun pins s σ H Q I h => PySem.W.methodCall_KW (ld_glob I hg hm ?_ hdb) hc⟩
  refine PySem.W.method_cls I.kIn r.ga (PySem.W.cls_value I.kIn r.rd hv hh ?_)
  refine PyProof.Rows.callWith_method1 (thn (ha.run pos pins _ σ H _ (I.tok _) h) fun us s1 got => ?_) he hpl
  obtain ⟨vs, H1, I1, r1, a, C, ws, ev, hl, T, ea, q⟩ := got
  subst ev
  cases r1 with
  | @cons _ u _ ur ra rr =>
    obtain rfl : u = Value.ref a := ra
    exact initY T I1 ea (by rw [← Paired.length rr, sizeLine_eq]; omega) fun s' J => ⟨.non, H1, J, rfl, q⟩
theorem ps_ostY (ho : PE X o to) (he : PE X e te) (hs : swapsWith e (some (.Attribute o f p')) pos.line X.env = pure false := by rfl) : PS X (.Assign [.Attribute o f p'] e pos) (tOstY X.K initId f to te) := by
  refine ⟨fun pins s σ H D I h => plainObj_wpAny_Assign_Attribute (thn (he.run pins s σ H _ I h) fun v s1 got => ?_) hs⟩
  obtain ⟨y, H1, I1, r1, q1⟩ := got
  refine thn (ho.run pins s1 σ H1 _ I1 q1) fun u s2 got => ?_
  obtain ⟨z, H2, I2, r2, a, C, ez, T, tf, ea, q⟩ := got
  subst ez
  obtain rfl : u = Value.ref a := r2
  exact ostY T I2 ea tf r1 fun dx s' n ne J => ⟨σ, _, J, q dx n ne⟩
/-- C(e, ..), C's own __init__ keeping sp -/
theorem pmkY {CX : CXT} {C fI : Addr} {k : Nat} {fd : FuncData} {ps : List Str} {sp : Sp} (T : YexC X.K C initId) (iC : PySem.W.findIn X.K (.ref C) "__init__" = some (some (.ref fI))) (tI : PySem.W.typeIn X.K (.ref fI) = some (.type "function"))
    (F1 : FnOk X.prog X.w X.K X.mg X.base CX k fI fd ps sp) (hr : Room (k + 1) X.A) (hb : Binds X.K fd ps []) (hx : Passes CX X (fun _ _ _ => False)) (hg : Gl X x) (hm : X.mg x = some (.ref C)) (ha : PA X (e :: es) ta)
    (hdb : (x == ("__debug__" : Str)) = false := by decide) (he : starEach (e :: es) X.env = (false, eval e X.env) :: starEach es X.env := by rfl) (hpl : (backTo pos (starEach es X.env)).any (·.1) = false := by rfl) :
    PMk X (.Call (.Name x p) (e :: es) [] pos) (tMkO C sp [] ta) := by
  intro pins s σ H Q I h
  obtain ⟨B, newId, bmB, FB, SF, hin, hov⟩ := T.cls
  refine wpAny_Call_Name_kw (ld_glob I hg hm (PySem.W.callWith_K (h₀ := X.base) I.ok.mod.kin T.kC (thn (ha.run pos pins s σ H _ I h) fun us s1 got => ?_) he hpl) hdb)
  obtain ⟨vs, H1, I1, r1, hz, q1⟩ := got
  refine ⟨I1.kIn, ?_⟩
  obtain ⟨nm, N, qn, bs, bm, hdct, sn, sub, ab, col, dd, k0, k1, k2, k3, k5, hC, hT⟩ := PySem.W.excInit_of I1.kIn hin
  show wpAny _ _ (call (.ref C) us) _ _ _
  obtain ⟨hp, g, dr, tk, os⟩ := s1
  generalize hE : hp.objs.size + 1 = ex at *
  have above : hp.objs.size ≤ ex := by omega
  have fresh : H1 ex = none := I1.hok.fresh above
  have wish := q1 ex fresh
  have old : ∀ b o, hp.get? b = some o → ((hp.push (PySem.W.kdv_tup us)).push (PySem.HandSPX.excO C hp.objs.size)).get? b = some o := fun b o hb => Heap.get?_push_of_some _ (Heap.get?_push_of_some _ hb)
  have made : ((hp.push (PySem.W.kdv_tup us)).push (PySem.HandSPX.excO C hp.objs.size)).get? ex = some (PySem.HandSPX.excO C hp.objs.size) := by subst hE; heap_get
  have J : Inv X pins σ (upd H1 ex (exo ex C none)) ⟨(hp.push (PySem.W.kdv_tup us)).push (PySem.HandSPX.excO C hp.objs.size), g, dr, tk, os⟩ := I1.laid (t' := tk) old above (exo_ok made)
  have vals : Vals (V.ref ex :: (vs ++ [])) (Value.ref ex :: (us ++ [])) := .cons rfl (r1.append .nil)
  have len : (Value.ref ex :: us ++ []).length = ps.length := (F1.len _ _ _ _ wish ▸ vals.length).symm
  have lus : us.length ≤ sizeLine := by rw [← Paired.length r1, sizeLine_eq]; omega
  have go := F1.run _ X.stack _ _ ⟨Value.ref ex :: us, []⟩ (Value.ref ex :: (us ++ [])) _ _ (fun _ _ _ => False) (hr.make C us []) (J.env0.make C us []) (by rw [← List.cons_append]; exact hb _ (Value.ref ex :: us) J.kIn len) vals wish
  subst hE
  refine wpAny_call (PySem.HandSPX.call_own FB hT hC (PySem.W.looks_findIn I1.kIn iC) (fun self => PySem.W.bind_fn I1.kIn self tI) lus (codeAny_mono go fun r s' res => ?_))
  match r, res with
  | .error er, res => exact hx pins σ _ _ er s' J res
  | .ok (.ret u), res =>
    obtain ⟨v, H2, os2, bare2, un2, hok2, rv, ev, d, fs, e1, e2, e3, q2⟩ := res
    subst ev
    obtain ⟨h2, g2, d2, t2, os'⟩ := s'
    exact ⟨rv, mk_end (raises_own T.exC T.tyC) I1 above old un2 hok2 os2 bare2 e1 e2 e3 q2⟩
  | .ok .next, res => exact False.elim res
  | .ok .brk, res => exact False.elim res
  | .ok .cont, res => exact False.elim res
end
/-- an own exception class and what its __init__ promises -/
structure ExcMkY (P : Program) (w : World) (K : PySem.W.Frag) (mg : Str → Option Value) (base : Heap) (k : Nat) (x : Str) (C : Addr) (fl : Str) : Prop where
  ex : ∃ (f : Addr) (fd : FuncData) (ps : List Str) (initId : String), YexC K C initId ∧ PySem.W.findIn K (.ref C) "__init__" = some (some (.ref f)) ∧ PySem.W.typeIn K (.ref f) = some (.type "function") ∧ FnOk P w K mg base C8.CX0 k f fd ps (spExc C fl) ∧ Binds K fd ps [] ∧ mg x = some (.ref C)
theorem pmk_exY {X : Cx} {x : Str} {e : Expr} {ta : TA} {p pos : Pos} {k j : Nat} {C : Addr} {fl : Str} (c : ExcMkY X.prog X.w X.K X.mg X.base k x C fl) (hr : Room j X.A) (hk : k + 1 ≤ j) (hg : Gl X x) (ha : PA X [e] ta) (hdb : (x == ("__debug__" : Str)) = false := by decide)
    (he : starEach [e] X.env = (false, eval e X.env) :: starEach [] X.env := by rfl) (hpl : (backTo pos (starEach [] X.env)).any (·.1) = false := by rfl) : PMk X (.Call (.Name x p) [e] [] pos) (tMkO C (spExc C fl) [] ta) := by
  obtain ⟨f, fd, ps, initId, T, i, t, F, b, hm⟩ := c.ex
  exact pmkY T i t F (hr.mono hk) b C8.pass0 hg hm ha hdb he hpl
end Gx

set_option Elab.async false
set_option linter.all false
set_option maxRecDepth 100000
set_option maxHeartbeats 1000000
/-! defs and methods that may raise: called where it passes on, and within a try -/
namespace Gx
open PySem PySem.Spec PyProof.Rows L2 GenW
structure MetX (P : Program) (w : World) (K : PySem.W.Frag) (mg : Str → Option Value) (base : Heap) (k : Nat) (C : Addr) (m : Str) (sp : Sp) : Prop where
  ex : ∃ (f : Addr) (fd : FuncData) (ps : List Str), Cls K C ∧ Meth K C m f ∧ FnOk P w K mg base (CX P w) k f fd ps sp ∧ Binds K fd ps []
theorem metX {P : Program} {w : World} {K : PySem.W.Frag} {mg : Str → Option Value} {base : Heap} {m qual : Str} {C : Addr} {st : Stmt} {f : Addr} {fd : FuncData} {N ps : List Str} {k : Nat} {sp : Sp} (c : Cls K C) (me : Meth K C m f) (F : C8.Fun K m qual st f fd) (b : Binds K fd ps [])
    (S : FnScope N ps (C8.fnScope st)) (len : ∀ vs H Q E, sp vs H Q E → vs.length = ps.length)
    (hbody : ∀ (cdv : Value) (A : Around) (outer : List Env) (s : Shared) (H : Hp) (vs : List V) (Q : VK) (E : XK), Room k (A.deeper (envOfC qual (C8.fnScope st) s.heap.objs.size f cdv)) → sp vs H Q E →
      ∃ t, PSs (cxOf (CX P w) P w K mg base N qual (C8.fnScope st) f cdv A outer s H E) (C8.fnBody st) t ∧ t { nx := fun _ H' => Q .non H', rt := Q } (start N vs) H) : MetX P w K mg base (k + 1) C m sp := by
  obtain ⟨oc, od, dV, kV, doc, pm, an, cdv, ct, osl, rfl, lk, hcd⟩ := F.ex
  exact ⟨f, _, ps, c, me, fn_of lk hcd S len (hbody cdv), b⟩
section
variable {X : Cx} {k j : Nat} {C : Addr} {x m : Str} {sp : Sp} {p pos apos : Pos} {e o : Expr} {es : List Expr} {ta : TE} {t : TA} {W : WX} {E : XK} {pl : Sem Bool}
theorem pe_cx0 (c : CalX X.prog X.w X.K X.mg X.base k x sp) (tk : Takes X W) (hW : ∀ cls d σ H, E cls d H → W cls d σ H) (hr : Room j X.A) (hk : k ≤ j) (hg : Gl X x) (hdb : (x == ("__debug__" : Str)) = false := by decide) :
    PE X (.Call (.Name x p) [] [] pos) (tCall sp [] E tNil) := by
  obtain ⟨f, fd, ps, F, hm, kp, b⟩ := c.ex
  exact pe_call0 F (hr.mono hk) hg hm kp b .nil (passes_call tk hW) hdb
theorem pe_mx (c : MetX X.prog X.w X.K X.mg X.base k C m sp) (tk : Takes X W) (hW : ∀ cls d σ H, E cls d H → W cls d σ H) (hr : Room j X.A) (hk : k ≤ j) (he : PE X o ta) (ha : PA X (e :: es) t)
    (hst : starEach (e :: es) X.env = (false, eval e X.env) :: starEach es X.env := by rfl) (hpl : (backTo pos (starEach es X.env)).any (·.1) = false := by rfl)
    (ht : eval (.Call (.Attribute o m apos) (e :: es) [] pos) X.env = (do
      let ov ← eval o X.env
      standAt apos.atName
      let (f, first) ← holding [ov] (getMethod ov m pl)
      callWith pos f first (backTo pos (starEach (e :: es) X.env)) (backToKw pos (keywordEach [] X.env))) := by rfl) :
    PE X (.Call (.Attribute o m apos) (e :: es) [] pos) (tMeth C m sp [] E ta t) := by
  obtain ⟨f, fd, ps, hc, hm, F, b⟩ := c.ex
  exact pe_meth (pl := pl) he hc hm F (hr.mono hk) b .nil (passes_call tk hW) ha hst hpl ht
theorem pe_mx0 (c : MetX X.prog X.w X.K X.mg X.base k C m sp) (tk : Takes X W) (hW : ∀ cls d σ H, E cls d H → W cls d σ H) (hr : Room j X.A) (hk : k ≤ j) (he : PE X o ta)
    (ht : eval (.Call (.Attribute o m apos) [] [] pos) X.env = (do
      let ov ← eval o X.env
      standAt apos.atName
      let (f, first) ← holding [ov] (getMethod ov m pl)
      callWith pos f first (backTo pos (starEach [] X.env)) (backToKw pos (keywordEach [] X.env))) := by rfl) :
    PE X (.Call (.Attribute o m apos) [] [] pos) (tMeth C m sp [] E ta tNil) := by
  obtain ⟨f, fd, ps, hc, hm, F, b⟩ := c.ex
  exact pe_meth0 (pl := pl) he hc hm F (hr.mono hk) b .nil (passes_call tk hW) ht
/-- within a try: what is raised is wished for at the slots as they are -/
theorem pe_cs (c : CalX X.prog X.w X.K X.mg X.base k x sp) (tk : Takes X W) (hr : Room j X.A) (hk : k ≤ j) (hg : Gl X x) (ha : PA X (e :: es) t)
    (hdb : (x == ("__debug__" : Str)) = false := by decide) (he : starEach (e :: es) X.env = (false, eval e X.env) :: starEach es X.env := by rfl) (hpl : (backTo pos (starEach es X.env)).any (·.1) = false := by rfl) :
    PE X (.Call (.Name x p) (e :: es) [] pos) (tCallSD sp [] (WE W) t) := by
  obtain ⟨f, fd, ps, F, hm, kp, b⟩ := c.ex
  exact pe_callSD F (hr.mono hk) hg hm kp b .nil (fun σ => passAt tk σ) ha hdb he hpl
def tMethS (C : Addr) (m : Str) (sp : Sp) (E : L2.St → XK) (ta : TE) (t : TA) : TE := fun σ H Q => ta σ H fun x H1 => ∃ a dx fs, x = .ref a ∧ H1 a = some (.ins C dx fs) ∧ fs.lookup m = none ∧ t σ H1 fun vs H2 => sp (x :: (vs ++ [])) H2 Q (E σ)
theorem pe_ms (c : MetX X.prog X.w X.K X.mg X.base k C m sp) (tk : Takes X W) (hr : Room j X.A) (hk : k ≤ j) (he : PE X o ta) (ha : PA X (e :: es) t)
    (hst : starEach (e :: es) X.env = (false, eval e X.env) :: starEach es X.env := by rfl) (hpl : (backTo pos (starEach es X.env)).any (·.1) = false := by rfl)
    (ht : eval (.Call (.Attribute o m apos) (e :: es) [] pos) X.env = (do
      let ov ← eval o X.env
      standAt apos.atName
      let (f, first) ← holding [ov] (getMethod ov m pl)
      callWith pos f first (backTo pos (starEach (e :: es) X.env)) (backToKw pos (keywordEach [] X.env))) := by rfl) :
    PE X (.Call (.Attribute o m apos) (e :: es) [] pos) (tMethS C m sp (WE W) ta t) := by
  obtain ⟨f, fd, ps, hc, hm, F, b⟩ := c.ex
  refine ⟨fun pins s σ H Q I h => PySem.W.methodCall_KW (pl := pl) (thn (he.run pins s σ H _ I h) fun u s1 got => ?_) ht⟩
  obtain ⟨x, H1, I1, rx, a, dx, fs, ex, ea, l, q⟩ := got
  subst ex
  obtain rfl : u = Value.ref a := rx
  refine getmeth_ok I1 ea hc hm l (PySem.W.callWith_K (first := [.ref a]) (h₀ := X.base) I.ok.mod.kin hm.kp (thn (ha.run pos pins s1 σ H1 _ I1 q) fun us s2 got => ?_) hst hpl)
  obtain ⟨vs, H2, I2, r, q2⟩ := got
  exact ⟨I2.kIn, run_fnSD (us := .ref a :: us) (vs := .ref a :: vs) (E := WE W) F (hr.mono hk) b .nil (passAt tk σ) I2 (.cons rfl r) q2⟩
theorem pe_ms0 (c : MetX X.prog X.w X.K X.mg X.base k C m sp) (tk : Takes X W) (hr : Room j X.A) (hk : k ≤ j) (he : PE X o ta)
    (ht : eval (.Call (.Attribute o m apos) [] [] pos) X.env = (do
      let ov ← eval o X.env
      standAt apos.atName
      let (f, first) ← holding [ov] (getMethod ov m pl)
      callWith pos f first (backTo pos (starEach [] X.env)) (backToKw pos (keywordEach [] X.env))) := by rfl) :
    PE X (.Call (.Attribute o m apos) [] [] pos) (tMethS C m sp (WE W) ta tNil) := by
  obtain ⟨f, fd, ps, hc, hm, F, b⟩ := c.ex
  refine ⟨fun pins s σ H Q I h => PySem.W.methodCall_KW (pl := pl) (thn (he.run pins s σ H _ I h) fun u s1 got => ?_) ht⟩
  obtain ⟨x, H1, I1, rx, a, dx, fs, ex, ea, l, q⟩ := got
  subst ex
  obtain rfl : u = Value.ref a := rx
  exact getmeth_ok I1 ea hc hm l (PySem.W.callWith_K0 (first := [.ref a]) I1.kIn hm.kp (run_fnSD (us := [.ref a]) (vs := [.ref a]) (E := WE W) F (hr.mono hk) b .nil (passAt tk σ) I1 (.cons rfl .nil) q))
end
section
variable {σ : L2.St} {H : Hp} {Q : VK} {sp : Sp} {C : Addr} {m : Str} {ta : TE} {tr : TA} {E : L2.St → XK}
theorem callSD (h : tr σ H fun vs H1 => sp (vs ++ []) H1 Q (E σ)) : tCallSD sp [] E tr σ H Q := h
theorem methSD (h : ta σ H fun x H1 => ∃ a dx fs, x = .ref a ∧ H1 a = some (.ins C dx fs) ∧ fs.lookup m = none ∧ tr σ H1 fun vs H2 => sp (x :: (vs ++ [])) H2 Q (E σ)) : tMethS C m sp E ta tr σ H Q := h
/-- e.f in an except suite -/
theorem xf {a C dd : Addr} {cls : Value} {d : Option Addr} {f : Str} {te : TE} (h : te σ H fun x H1 => x = .ref a ∧ cls = .ref C ∧ ∃ (dd : Addr) (fs : List (Str × V)) (v : V), d = some dd ∧ H1 dd = some (.xd fs) ∧ fs.lookup f = some v ∧ Q v H1) : tXf a cls d C f te σ H Q := h
end
/-- what `except X as n` wishes, X the very class that is raised -/
theorem asYes {K : PySem.W.Frag} {C : Addr} {i : Nat} {ts : Addr → Value → Option Addr → TS} {Wout : WX} {D : Ends} {d : Option Addr} {σ : L2.St} {H : Hp} (m : PySem.W.exmOne K (.ref C) c = some true)
    (h : ∀ a, H a = none → ts a (.ref C) d { nx := fun σ' H' => D.nx (σ'.set i none) H', rt := D.rt, bk := fun σ' H' => D.bk (σ'.set i none) H', ct := fun σ' H' => D.ct (σ'.set i none) H' } (σ.set i (some (.ref a))) H) : wAs K c i ts Wout D (.ref C) d σ H :=
  ⟨true, m, fun _ => h, fun z => by cases z⟩
/-- a new exception of one field -/
theorem mkY {C : Addr} {fl : Str} {v : V} {H : Hp} {Q : XK} (q : ∀ d H', H d = none → Rd.Ex H H' → H' d = some (.xd [(fl, v)]) → Q (.ref C) (some d) H') :
    [v].length ≤ 1000 ∧ ∀ a, H a = none → spExc C fl (.ref a :: ([v] ++ [])) (upd H a (exo a C none))
      (fun r H2 => r = .non ∧ ∃ (d : Addr) (fs : List (Str × V)), H2 a = some (exo a C (some d)) ∧ H2 d = some (exd d fs) ∧ H d = none ∧ Q (.ref C) (some d) (upd (del H2 a) d (.xd fs))) (fun _ _ _ => False) := mkO q
end Gx

set_option Elab.async false
set_option linter.all false
set_option maxRecDepth 100000
set_option maxHeartbeats 1000000
/-! a class's constant read through an instance; readings -/
namespace Gx
open PySem PySem.Spec PyProof.Rows L2 GenW
structure IVal (K : PySem.W.Frag) (C : Addr) (f : Str) (v : V) : Prop where
  ex : ∃ u, PySem.W.findIn K (.ref C) f = some (some u) ∧ PySem.W.specialIn K u "__get__" = some none ∧ PySem.W.handedIn u = true ∧ RelV v u
  cp : PySem.W.copiedNames.contains f = false
def tIVal (K : PySem.W.Frag) (ta : TE) (f : Str) : TE := fun σ H Q => ta σ H fun x H1 => ∃ a C dx fs v, x = .ref a ∧ H1 a = some (.ins C dx fs) ∧ Cls K C ∧ IVal K C f v ∧ fs.lookup f = none ∧ Q v H1
theorem pe_ival {X : Cx} {e : Expr} {ta : TE} {f : Str} {pos : Pos} (he : PE X e ta) (hb : attributeBase e f X.env (eval e X.env) = eval e X.env := by rfl) : PE X (.Attribute e f pos) (tIVal X.K ta f) := by
  refine ⟨fun pins s σ H Q I h => attr_of hb (thn (he.run pins s σ H _ I h) fun u s1 got => ?_)⟩
  obtain ⟨x, H1, I1, rx, a, C, dx, fs, v, ex, ea, c, k, l, q⟩ := got
  subst ex
  obtain rfl : u = Value.ref a := rx
  obtain ⟨mA, O, rel, _, _, _⟩ := ins_get I1.hok ea
  obtain ⟨od, J, hl⟩ := O.look
  obtain ⟨w, h1, h2, h3, h4⟩ := k.ex
  have no : mA f = none := by
    have z := rel f
    rw [l] at z
    cases hm : mA f with
    | none => rfl
    | some y => rw [hm] at z; exact z.elim
  refine PySem.W.get_value I1.kIn J (PySem.W.plainGet_of (c.get f)).1 (PySem.W.findObj_cls c.hd h1 h2 h3 k.cp (by rw [hl f, no])) h3 ⟨v, H1, I1.tok _, h4, q⟩
theorem ival {K : PySem.W.Frag} {σ : L2.St} {H : Hp} {Q : VK} {ta : TE} {f : Str} (h : ta σ H fun x H1 => ∃ a C dx fs v, x = .ref a ∧ H1 a = some (.ins C dx fs) ∧ Cls K C ∧ IVal K C f v ∧ fs.lookup f = none ∧ Q v H1) : tIVal K ta f σ H Q := h
theorem ivalO {K : PySem.W.Frag} {H : Hp} {a C dx : Addr} {fs : List (Str × V)} {f : Str} {v : V} {Q : V → Prop} (h : H a = some (.ins C dx fs)) (c : Cls K C) (k : IVal K C f v) (l : fs.lookup f = none) (q : Q v) :
    ∃ a' C' dx' fs' v', V.ref a = .ref a' ∧ H a' = some (.ins C' dx' fs') ∧ Cls K C' ∧ IVal K C' f v' ∧ fs'.lookup f = none ∧ Q v' := ⟨a, C, dx, fs, v, rfl, h, c, k, l, q⟩
section
variable {σ : L2.St} {H : Hp} {Q : VK} {K : PySem.W.Frag} {D : Ends} {a C dx : Addr} {fs fs' : List (Str × V)} {f : Str} {ta tv : TE}
theorem sfaug {rd : V → V → Hp → VK → Prop} (h : ta σ H fun x H1 => ∃ a C dx fs v, x = .ref a ∧ H1 a = some (.ins C dx fs) ∧ Cls K C ∧ NoAttr K C f ∧ fs.lookup f = some v ∧
    tv σ H1 fun y H2 => rd v y H2 fun z H3 => ∃ dx' fs', H3 a = some (.ins C dx' fs') ∧ fs'.length < 1000 ∧ D.nx σ (upd H3 a (.ins C dx' (putF f z fs')))) : sFldAug K ta tv rd f D σ H := h
/-- o.f += n -/
theorem augI {i : Nat} {m n : Int} (hv : σ[i]? = some (some (.ref a))) (h : H a = some (.ins C dx fs)) (c : Cls K C) (n0 : NoAttr K C f) (l : fs.lookup f = some (.int m)) (z : Nat.ble fs.length 100 = true) (e : putF f (.int (m + n)) fs = fs')
    (q : ∀ H', Au.ExP a H H' → H' a = some (.ins C dx fs') → D.nx σ H') : sFldAug K (tVar i) (tC (.int n)) rAdd f D σ H :=
  ⟨_, hv, a, C, dx, fs, _, rfl, h, c, n0, l, m, n, rfl, rfl, dx, fs, h, Nat.lt_of_le_of_lt (Nat.le_of_ble_eq_true z) (by decide), by rw [e]; exact q _ (fun c z h n => by rw [upd_ne n]; exact h) upd_same⟩
theorem allL {bs : List Bool} (h : SqL K H a (bs.map V.bl)) (q : Q (.bl (bs.all id)) H) : rAll K [.ref a] H Q := ⟨a, bs, rfl, h, q⟩
end
def rTupOf (K : PySem.W.Frag) : List V → Hp → VK → Prop := fun xs H Q => ∃ p ys, xs = [.ref p] ∧ ((SqL K H p ys ∧ ∀ l, H l = none → Q (.ref l) (upd H l (.tup ys))) ∨ (SqT K H p ys ∧ Q (.ref p) H))
theorem call_tupOf {X : Cx} : CallR X (.type "tuple") (rTupOf X.K) := call_tuple_of
def rLstOf (K : PySem.W.Frag) : List V → Hp → VK → Prop := fun xs H Q => ∃ p ys, xs = [.ref p] ∧ (SqL K H p ys ∨ SqT K H p ys) ∧ ∀ l, H l = none → Q (.ref l) (upd H l (.lst ys))
theorem call_lstOf {X : Cx} : CallR X (.type "list") (rLstOf X.K) := call_list_of
section
variable {H : Hp} {Q : VK} {K : PySem.W.Frag} {a b : Addr} {xs zs : List V}
theorem tupOfL (h : SqL K H a xs) (q : Au.NewO H (.tup xs) Q) : rTupOf K [.ref a] H Q := ⟨a, xs, rfl, .inl ⟨h, q⟩⟩
theorem tupOfT (h : SqT K H a xs) (q : Q (.ref a) H) : rTupOf K [.ref a] H Q := ⟨a, xs, rfl, .inr ⟨h, q⟩⟩
theorem lstOfL (h : SqL K H a xs) (q : Au.NewO H (.lst xs) Q) : rLstOf K [.ref a] H Q := ⟨a, xs, rfl, .inl h, q⟩
theorem lstOfT (h : SqT K H a xs) (q : Au.NewO H (.lst xs) Q) : rLstOf K [.ref a] H Q := ⟨a, xs, rfl, .inr h, q⟩
theorem ext (h : H a = some (.lst xs)) (h2 : H b = some (.lst zs)) (hl : xs.length + zs.length ≤ 1000000) (q : ∀ H', Au.ExP a H H' → H' a = some (.lst (xs ++ zs)) → Q .non H') : rExtend (.ref a) [.ref b] H Q :=
  ⟨a, b, xs, zs, rfl, rfl, h, h2, Nat.le_trans hl (Nat.le_of_ble_eq_true rfl), q _ (fun c z h n => by rw [upd_ne n]; exact h) upd_same⟩
/-- a slice of a tuple: a new tuple, or the very one -/
theorem slT {lo hi : Option Int} (h : H a = some (.tup xs)) (q : ∀ p H', Rd.Ex H H' → H' p = some (.tup (cutV xs lo hi)) → Q (.ref p) H') : rSlA K (.ref a) lo hi H Q := by
  refine ⟨a, xs, rfl, Rd.sqt h, fun hw => q a H (Same.refl H) ?_, fun _ p hp => q p _ (Rd.ex_new hp) upd_same⟩
  have e : cutV xs lo hi = xs := by
    unfold cutV
    rw [hw.1, hw.2, List.drop_zero, Nat.sub_zero, List.take_length]
  rw [e]; exact h
theorem frz {ta : TA} {g : TG} {tb : TS} {D : Ends} {σ : L2.St} (h : ta σ H fun vs H1 => ∃ a b xs ys, vs = [.ref a, .ref b] ∧ SqL K H1 a xs ∧ SqL K H1 b ys ∧ ∃ W : Nat → Nat → L2.St → Hp → Prop, (∃ m, W 0 m σ H1) ∧ ∀ i m σ H, W i m σ H →
    ((Itz K a b).stop i H ∧ D.nx σ H) ∨ ((Itz K a b).go i H ∧ ∃ N : L2.St → Hp → Prop, (∀ σ' H', N σ' H' → ∃ m', m' < m ∧ W (i + 1) m' σ' H') ∧ ∀ x H', (Itz K a b).yld i H x H' → g x σ H' fun σ2 H2 => tb { D with nx := N, ct := N, bk := D.nx } σ2 H2)) :
    tFor (iZip K ta) g tb D σ H := h
end
end Gx

set_option Elab.async false
set_option linter.all false
set_option maxRecDepth 100000
set_option maxHeartbeats 1000000
/-! scripts and draws: promises -/
namespace Pr
open PySem PySem.Spec PyProof.Rows L2
/-- all but two objects stand -/
def ExQ (p r : Addr) (H H' : Hp) : Prop := ∀ c o, H c = some o → c ≠ p → c ≠ r → H' c = some o
theorem ExQ.refl {p r : Addr} (H : Hp) : ExQ p r H H := fun _ _ e _ _ => e
theorem smq {p r b : Addr} {H H' : Hp} {z : HO} (e : ExQ p r H H') (h : H b = some z) (n1 : b ≠ p) (n2 : b ≠ r) : H' b = some z := e _ _ h n1 n2
abbrev ScrO (C dx sa : Addr) (pl : Nat) : HO := .ins C dx [("s1_script", .ref sa), ("s1_place", .int (pl : Int))]
abbrev DrwO (C dx so : Addr) (n : Nat) : HO := .ins C dx [("s5_source", .ref so), ("s5_used", .int (n : Int))]
abbrev words (ws : List Nat) : List V := ws.map fun (w : Nat) => V.int (w : Int)
/-- is_script of a tuple of words; of no tuple -/
def spScript (K : PySem.W.Frag) : Sp := fun vs H Q _ => ∃ (a : Addr) (ws : List Nat), vs = [.ref a] ∧ (H a = some (.tup (words ws)) ∧ ws.length ≤ 10000 ∧ ∀ w ∈ ws, w < 4294967296) ∧ ∀ H', Rd.Ex H H' → Q (.bl true) H'
theorem u_script {K : PySem.W.Frag} {a : Addr} {ws : List Nat} {H : Hp} {Q : VK} {E : XK} (h : H a = some (.tup (words ws)) ∧ ws.length ≤ 10000 ∧ ∀ w ∈ ws, w < 4294967296) (q : ∀ H', Rd.Ex H H' → Q (.bl true) H') : spScript K ([.ref a] ++ []) H Q E := ⟨a, ws, rfl, h, q⟩
def spNeedSt (K : PySem.W.Frag) : Sp := fun vs H Q _ => ∃ (t a : Addr) (ws : List Nat) (pl : Nat), vs = [.ref t] ∧ (H t = some (.tup [.ref a, .int (pl : Int)]) ∧ H a = some (.tup (words ws)) ∧ ws.length ≤ 10000 ∧ (∀ w ∈ ws, w < 4294967296) ∧ pl ≤ ws.length) ∧ ∀ H', Rd.Ex H H' → Q .non H'
def spInitS (C : Addr) : Sp := fun vs H Q _ => ∃ (p dx a : Addr) (ws : List Nat) (pl : Nat), vs = [.ref p, .ref a, .int (pl : Int)] ∧ (H a = some (.tup (words ws)) ∧ ws.length ≤ 10000 ∧ (∀ w ∈ ws, w < 4294967296) ∧ pl ≤ ws.length) ∧ H p = some (.ins C dx []) ∧
  ∀ H', Au.ExP p H H' → H' p = some (ScrO C dx a pl) → Q .non H'
theorem u_scr0 {C a : Addr} {ws : List Nat} {H : Hp} {Q : Addr → Hp → Prop} {E : XK} (h1 : H a = some (.tup (words ws)) ∧ ws.length ≤ 10000 ∧ ∀ w ∈ ws, w < 4294967296) (h : ∀ p dx H', H p = none → Rd.Ex H H' → H' p = some (ScrO C dx a 0) → Q p H') :
    ∀ x dx, H x = none → H dx = none → dx ≠ x → spInitS C (.ref x :: ([.ref a] ++ [.int 0])) (upd (upd H dx (.own x)) x (.ins C dx [])) (fun v H2 => v = .non ∧ Q x H2) E := fun x dx hx hdx hne =>
  ⟨x, dx, a, ws, 0, rfl, ⟨ex_make hx hdx _ _ h1.1, h1.2.1, h1.2.2, Nat.zero_le _⟩, upd_same, fun H' m k => ⟨rfl, h x dx H' hx (ex_made hx hdx m) k⟩⟩
def spAfterS (K : PySem.W.Frag) (CE : Addr) : Sp := fun vs H Q E => ∃ (a : Addr) (ws : List Nat) (pl st : Nat), vs = [.ref a, .int (pl : Int), .int (st : Int)] ∧ H a = some (.tup (words ws)) ∧ (pl + st ≤ ws.length → Q (.int ((pl + st : Nat) : Int)) H) ∧
  (ws.length < pl + st → ∀ d H', H d = none → Rd.Ex H H' → H' d = some (.xd [("missing", .int ((pl + st : Nat) - ws.length : Int))]) → E (.ref CE) (some d) H')
/-- a script at its object -/
structure SAt (C : Addr) (H : Hp) (o dx a : Addr) (ws : List Nat) (pl : Nat) : Prop where
  obj : H o = some (ScrO C dx a pl)
  tup : H a = some (.tup (words ws))
  le : pl ≤ ws.length
def spWordS (C CE : Addr) : Sp := fun vs H Q E => ∃ (o dx a : Addr) (ws : List Nat) (pl : Nat), vs = [.ref o] ∧ SAt C H o dx a ws pl ∧ (∀ (w : Nat) (H' : Hp), ws[pl]? = some w → Au.ExP o H H' → H' o = some (ScrO C dx a (pl + 1)) → Q (.int (w : Int)) H') ∧
  (pl = ws.length → ∀ d H', H d = none → Rd.Ex H H' → H' d = some (.xd [("missing", .int 1)]) → E (.ref CE) (some d) H')
def spInitD (C S : Addr) : Sp := fun vs H Q _ => ∃ (p dx o dy a : Addr) (pl : Nat), vs = [.ref p, .ref o] ∧ H o = some (ScrO S dy a pl) ∧ H p = some (.ins C dx []) ∧ ∀ H', Au.ExP p H H' → H' p = some (DrwO C dx o 0) → Q .non H'
theorem u_drw {C S o dy a : Addr} {pl : Nat} {H : Hp} {Q : Addr → Hp → Prop} {E : XK} (h1 : H o = some (ScrO S dy a pl)) (h : ∀ p dx H', H p = none → Rd.Ex H H' → H' p = some (DrwO C dx o 0) → Q p H') :
    ∀ x dx, H x = none → H dx = none → dx ≠ x → spInitD C S (.ref x :: ([.ref o] ++ [])) (upd (upd H dx (.own x)) x (.ins C dx [])) (fun v H2 => v = .non ∧ Q x H2) E := fun x dx hx hdx hne =>
  ⟨x, dx, o, dy, a, pl, rfl, ex_make hx hdx _ _ h1, upd_same, fun H' m k => ⟨rfl, h x dx H' hx (ex_made hx hdx m) k⟩⟩
/-- draws over a script -/
structure DAt (C S : Addr) (H : Hp) (p dx o dy a : Addr) (ws : List Nat) (pl n : Nat) : Prop where
  drw : H p = some (DrwO C dx o n)
  scr : SAt S H o dy a ws pl
theorem DAt.ne {C S p dx o dy a : Addr} {H : Hp} {ws : List Nat} {pl n : Nat} (h : DAt C S H p dx o dy a ws pl n) : p ≠ o ∧ a ≠ p ∧ a ≠ o := by
  refine ⟨ne_of h.drw h.scr.obj (fun z => ?_), ne_of h.scr.tup h.drw (fun z => by cases z), ne_of h.scr.tup h.scr.obj (fun z => by cases z)⟩
  have e : ("s5_source" : Str) = "s1_script" := congrArg (fun o => match o with | HO.ins _ _ ((f, _) :: _) => f | _ => "") z
  exact absurd e (by decide +kernel)
def spWordD (C S CE : Addr) : Sp := fun vs H Q E => ∃ (p dx o dy a : Addr) (ws : List Nat) (pl n : Nat), vs = [.ref p] ∧ DAt C S H p dx o dy a ws pl n ∧ (∀ (w : Nat) (H' : Hp), ws[pl]? = some w → ExQ p o H H' → DAt C S H' p dx o dy a ws (pl + 1) (n + 1) → Q (.int (w : Int)) H') ∧
  (pl = ws.length → ∀ d H', H d = none → Rd.Ex H H' → H' d = some (.xd [("missing", .int 1)]) → E (.ref CE) (some d) H')
/-- the k bits of a row of words -/
def bitsN : List Nat → Nat → Nat
  | [], _ => 0
  | w :: r, k => if k < 32 then w / 2 ^ (32 - k) else w + 2 ^ 32 * bitsN r (k - 32)
/-- words for k bits -/
def need (k : Nat) : Nat := (k + 31) / 32
def spBits (C S CE : Addr) : Sp := fun vs H Q E => ∃ (p dx o dy a : Addr) (ws : List Nat) (pl n k : Nat), vs = [.ref p, .int (k : Int)] ∧ (DAt C S H p dx o dy a ws pl n ∧ k ≤ 512 ∧ ∀ w ∈ ws, w < 4294967296) ∧
  (pl + need k ≤ ws.length → ∀ H', ExQ p o H H' → DAt C S H' p dx o dy a ws (pl + need k) (n + need k) → Q (.int (if k = 0 then 0 else bitsN (ws.drop pl) k : Nat)) H') ∧
  (ws.length < pl + need k → ∀ d H', H d = none → ExQ p o H H' → DAt C S H' p dx o dy a ws ws.length (n + (ws.length - pl)) → H' d = some (.xd [("missing", .int 1)]) → E (.ref CE) (some d) H')
def spUsed (C : Addr) : Sp := fun vs H Q _ => ∃ (p dx o : Addr) (n : Nat), vs = [.ref p] ∧ H p = some (DrwO C dx o n) ∧ Q (.int (n : Int)) H
def spLeft (C : Addr) : Sp := fun vs H Q _ => ∃ (o dx a : Addr) (ws : List Nat) (pl : Nat), vs = [.ref o] ∧ H o = some (ScrO C dx a pl) ∧ H a = some (.tup (words ws)) ∧ Q (.int ((ws.length : Int) - pl)) H
end Pr

set_option Elab.async false
set_option linter.all false
set_option maxRecDepth 100000
set_option maxHeartbeats 1000000
/-! comprehensions, told turn by turn -/
namespace Gx
open PySem PySem.Spec PyProof.Rows L2 GenW
def LcB (J : It) (g : TG) (tt : TT) (te : TE) (vs : List Nat) (σ : L2.St) (H1 : Hp) (Q : VK) : Prop := ∀ D, H1 D = none → ∃ W : Nat → Nat → Hp → Prop, (∃ m, W 0 m (upd H1 D (.lst []))) ∧ ∀ i m H, W i m H →
  (J.stop i H ∧ Q (.ref D) H) ∨ (J.go i H ∧ ∃ Nx : Hp → Prop, (∀ H', Nx H' → ∃ m', m' < m ∧ W (i + 1) m' H') ∧ ∀ x H', J.yld i H x H' → g x (wipe σ vs) H' fun σ2 H2 => wipe σ2 vs = wipe σ vs ∧ tt σ2 H2 fun b H3 =>
    if b = true then te σ2 H3 fun y H4 => ∃ acc, H4 D = some (.lst acc) ∧ acc.length < sizeLine ∧ Nx (upd H4 D (.lst (acc ++ [y]))) else Nx H3)
section
variable {σ : L2.St} {H : Hp} {Q : VK} {K : PySem.W.Frag} {g : TG} {tt : TT} {te tl : TE} {ta : TA} {vs : List Nat} {j : Nat} {a : Addr} {xs : List V} {wi : TI} {R : It → Hp → Prop}
theorem lcO (h : wi σ H fun J H1 => LcB J g tt te vs σ H1 Q) : tLc wi g tt te vs σ H Q := h
theorem itupO (h : tl σ H fun x H1 => ∃ a, x = .ref a ∧ (∃ xs, SqT K H1 a xs) ∧ R (Itt K a) H1) : iTup K tl σ H R := h
theorem ilistO (h : tl σ H fun x H1 => ∃ a, x = .ref a ∧ (∃ xs, SqL K H1 a xs) ∧ R (Itl K a) H1) : iList K tl σ H R := h
theorem irng1O (h : ta σ H fun vs H1 => ∃ j : Int, vs = [.int j] ∧ -(2 ^ 62) ≤ j ∧ j < 2 ^ 62 ∧ R (Itr 0 j.toNat) H1) : iRng1 ta σ H R := h
theorem mkR {C : Addr} {sp : Sp} {Q : XK} (h : ta σ H fun vs H1 => vs.length ≤ 1000 ∧ ∀ a, H1 a = none → sp (.ref a :: (vs ++ [])) (upd H1 a (exo a C none))
  (fun v H2 => v = .non ∧ ∃ (d : Addr) (fs : List (Str × V)), H2 a = some (exo a C (some d)) ∧ H2 d = some (exd d fs) ∧ H1 d = none ∧ Q (.ref C) (some d) (upd (del H2 a) d (.xd fs))) (fun _ _ _ => False)) : tMkO C sp [] ta σ H Q := h
theorem makeD {C : Addr} {sp : Sp} {dvs : List V} {E : XK} (h : ta σ H fun vs H1 => ∀ x dx, H1 x = none → H1 dx = none → dx ≠ x →
  sp (.ref x :: (vs ++ dvs)) (upd (upd H1 dx (.own x)) x (.ins C dx [])) (fun v H2 => v = .non ∧ Q (.ref x) H2) E) : tMake C sp dvs E ta σ H Q := h
theorem small5 {n : Nat} (h : n ≤ 100000) : n < sizeLine := Nat.lt_of_le_of_lt h (show 100000 < 16777216 by decide)
/-- a turn's end: the item is put behind the others -/
def LcN (Pv : Addr → Nat → List V → Hp → Prop) (D : Addr) (k : Nat) : VK := fun y H4 => ∃ acc, H4 D = some (.lst acc) ∧ acc.length < sizeLine ∧ ∃ acc', acc'.length ≤ k + 1 ∧ upd H4 D (.lst (acc ++ [y])) D = some (.lst acc') ∧ Pv D (k + 1) acc' (upd H4 D (.lst (acc ++ [y])))
theorem lcN {Pv : Addr → Nat → List V → Hp → Prop} {D : Addr} {k : Nat} {acc : List V} {y : V} {H4 : Hp} (h : H4 D = some (.lst acc)) (hl : acc.length ≤ k) (hk : k ≤ 100000) (q : ∀ H5, Au.ExP D H4 H5 → H5 D = some (.lst (acc ++ [y])) → Pv D (k + 1) (acc ++ [y]) H5) : LcN Pv D k y H4 :=
  ⟨acc, h, small5 (by omega), acc ++ [y], by rw [List.length_append, List.length_singleton]; omega, upd_same, q _ (fun c z h n => by rw [upd_ne n]; exact h) upd_same⟩
theorem wip {σ : L2.St} {j : Nat} {x : V} : wipe ((wipe σ [j]).set j (some x)) [j] = wipe σ [j] := by
  show (List.set (List.set (List.set σ j none) j (some x)) j none) = List.set σ j none
  rw [List.set_set, List.set_set]
theorem lcTup (Pv : Addr → Nat → List V → Hp → Prop) (hlen : xs.length ≤ 100000) (h0 : ∀ D H1, H D = none → Rd.Ex H H1 → H1 D = some (.lst []) → Pv D 0 [] H1) (hl : ∀ D k acc H', H D = none → Pv D k acc H' → SqT K H' a xs)
    (hs : ∀ D k x acc H', H D = none → xs[k]? = some x → acc.length ≤ k → H' D = some (.lst acc) → Pv D k acc H' → te ((wipe σ [j]).set j (some x)) H' (LcN Pv D k))
    (hd : ∀ D acc H', H D = none → H' D = some (.lst acc) → Pv D xs.length acc H' → Q (.ref D) H') : LcB (Itt K a) (gName j) tYes te [j] σ H Q := fun D hD => by
  refine lc_tup (K := K) (a := a) (xs := xs) (fun i H' => ∃ acc, acc.length ≤ i ∧ H' D = some (.lst acc) ∧ Pv D i acc H') ⟨[], Nat.le_refl _, upd_same, h0 D _ hD (Rd.ex_new hD) upd_same⟩ (fun i H' _ z => ?_) (fun i x H' hx z => ?_) (fun H' z => ?_)
  · obtain ⟨acc, _, _, p⟩ := z
    exact hl D i acc H' hD p
  · obtain ⟨acc, l, k, p⟩ := z
    exact ⟨wip, hs D i x acc H' hD hx l k p⟩
  · obtain ⟨acc, _, k, p⟩ := z
    exact hd D acc H' hD k p
theorem lcLst (Pv : Addr → Nat → List V → Hp → Prop) (hlen : xs.length ≤ 100000) (h0 : ∀ D H1, H D = none → Rd.Ex H H1 → H1 D = some (.lst []) → Pv D 0 [] H1) (hl : ∀ D k acc H', H D = none → Pv D k acc H' → SqL K H' a xs)
    (hs : ∀ D k x acc H', H D = none → xs[k]? = some x → acc.length ≤ k → H' D = some (.lst acc) → Pv D k acc H' → te ((wipe σ [j]).set j (some x)) H' (LcN Pv D k))
    (hd : ∀ D acc H', H D = none → H' D = some (.lst acc) → Pv D xs.length acc H' → Q (.ref D) H') : LcB (Itl K a) (gName j) tYes te [j] σ H Q := fun D hD => by
  refine lc_list (K := K) (a := a) (xs := xs) (fun i H' => ∃ acc, acc.length ≤ i ∧ H' D = some (.lst acc) ∧ Pv D i acc H') ⟨[], Nat.le_refl _, upd_same, h0 D _ hD (Rd.ex_new hD) upd_same⟩ (fun i H' _ z => ?_) (fun i x H' hx z => ?_) (fun H' z => ?_)
  · obtain ⟨acc, _, _, p⟩ := z
    exact hl D i acc H' hD p
  · obtain ⟨acc, l, k, p⟩ := z
    exact ⟨wip, hs D i x acc H' hD hx l k p⟩
  · obtain ⟨acc, _, k, p⟩ := z
    exact hd D acc H' hD k p
theorem lcRng {n : Nat} (Pv : Addr → Nat → List V → Hp → Prop) (h0 : ∀ D H1, H D = none → Rd.Ex H H1 → H1 D = some (.lst []) → Pv D 0 [] H1)
    (hs : ∀ D k acc H', H D = none → k < n → acc.length ≤ k → H' D = some (.lst acc) → Pv D k acc H' → te ((wipe σ [j]).set j (some (.int (k : Int)))) H' (LcN Pv D k))
    (hd : ∀ D acc H', H D = none → H' D = some (.lst acc) → Pv D n acc H' → Q (.ref D) H') : LcB (Itr 0 n) (gName j) tYes te [j] σ H Q := fun D hD => by
  refine lc_range (lo := 0) (n := n) (fun i H' => ∃ acc, acc.length ≤ i ∧ H' D = some (.lst acc) ∧ Pv D i acc H') ⟨[], Nat.le_refl _, upd_same, h0 D _ hD (Rd.ex_new hD) upd_same⟩ (fun i H' hx z => ?_) (fun H' z => ?_)
  · obtain ⟨acc, l, k, p⟩ := z
    rw [Int.zero_add]
    exact ⟨wip, hs D i acc H' hD hx l k p⟩
  · obtain ⟨acc, _, k, p⟩ := z
    exact hd D acc H' hD k p
end
end Gx

set_option Elab.async false
set_option linter.all false
set_option maxRecDepth 100000
set_option maxHeartbeats 1000000
/-! texts: loops and comprehensions over their signs -/
namespace Gx
open PySem PySem.Spec PyProof.Rows L2
section
variable {σ : L2.St} {H : Hp} {Q : VK} {te : TE} {j : Nat} {z : Str}
theorem istrO {R : It → Hp → Prop} (h : te σ H fun v H1 => ∃ x, v = .str x ∧ R (Its x) H1) : iStr te σ H R := h
def rLenS : List V → Hp → VK → Prop := fun xs H Q => ∃ z, xs = [.str z] ∧ z.length ≤ sizeLine ∧ Q (.int (z.length : Nat)) H
theorem call_lenS {X : Cx} : CallR X (.builtin "len") rLenS := call_len_str
theorem lenS (h : z.cps.size ≤ 1000) (q : Q (.int (z.cps.size : Nat)) H) : rLenS [.str z] H Q := ⟨z, rfl, Nat.le_trans h (show 1000 ≤ sizeLine by decide), q⟩
def rOrd : List V → Hp → VK → Prop := fun xs H Q => ∃ x, xs = [.str x] ∧ x.length = 1 ∧ Q (.int (x.cps.getD 0 0 : Nat)) H
theorem call_ordQ {X : Cx} : CallR X (.builtin "ord") rOrd := call_ord
theorem ord1 {c : Nat} (q : Q (.int (c : Nat)) H) : rOrd [.str ⟨#[c]⟩] H Q := ⟨_, rfl, rfl, q⟩
theorem lcStr (Pv : Addr → Nat → List V → Hp → Prop) (h0 : ∀ D H1, H D = none → Rd.Ex H H1 → H1 D = some (.lst []) → Pv D 0 [] H1)
    (hs : ∀ D k c acc H', H D = none → z.cps[k]? = some c → acc.length ≤ k → H' D = some (.lst acc) → Pv D k acc H' → te ((wipe σ [j]).set j (some (.str ⟨#[c]⟩))) H' (LcN Pv D k))
    (hd : ∀ D acc H', H D = none → H' D = some (.lst acc) → Pv D z.cps.size acc H' → Q (.ref D) H') : LcB (Its z) (gName j) tYes te [j] σ H Q := fun D hD => by
  refine lc_it walk_str (fun i H' => ∃ acc, acc.length ≤ i ∧ H' D = some (.lst acc) ∧ Pv D i acc H') ⟨[], Nat.le_refl _, upd_same, h0 D _ hD (Rd.ex_new hD) upd_same⟩ (fun i H' _ z => trivial) (fun i x H1 H' hx p y => ?_) (fun H' p => ?_)
  · obtain ⟨acc, l, k, p⟩ := p
    obtain ⟨rfl, c, hc, rfl⟩ := y
    exact ⟨wip, hs D i c acc _ hD hc l k p⟩
  · obtain ⟨acc, _, k, p⟩ := p
    exact hd D acc H' hD k p
theorem frS {g : TG} {tb : TS} {D : Ends} (h : te σ H fun v H1 => ∃ x, v = .str x ∧ ∃ W : Nat → Nat → L2.St → Hp → Prop, (∃ m, W 0 m σ H1) ∧ ∀ k m σ H, W k m σ H →
    ((Its x).stop k H ∧ D.nx σ H) ∨ ((Its x).go k H ∧ ∃ N : L2.St → Hp → Prop, (∀ σ' H', N σ' H' → ∃ m', m' < m ∧ W (k + 1) m' σ' H') ∧ ∀ v H', (Its x).yld k H v H' → g v σ H' fun σ2 H2 => tb { D with nx := N, ct := N, bk := D.nx } σ2 H2)) : tFor (iStr te) g tb D σ H := h
theorem for_str {g : TG} {tb : TS} {D : Ends} (Pv : Nat → L2.St → Hp → Prop) (h0 : Pv 0 σ H) (hs : ∀ i c σ H, z.cps[i]? = some c → Pv i σ H → g (.str ⟨#[c]⟩) σ H fun σ2 H2 => tb { D with nx := Pv (i + 1), ct := Pv (i + 1), bk := D.nx } σ2 H2) (hd : ∀ σ H, Pv z.cps.size σ H → D.nx σ H) :
    ∃ W : Nat → Nat → L2.St → Hp → Prop, (∃ m, W 0 m σ H) ∧ ∀ i m σ H, W i m σ H →
      ((Its z).stop i H ∧ D.nx σ H) ∨ ((Its z).go i H ∧ ∃ N : L2.St → Hp → Prop, (∀ σ' H', N σ' H' → ∃ m', m' < m ∧ W (i + 1) m' σ' H') ∧ ∀ x H', (Its z).yld i H x H' → g x σ H' fun σ2 H2 => tb { D with nx := N, ct := N, bk := D.nx } σ2 H2) :=
  for_it walk_str Pv h0 (fun _ _ _ _ _ => trivial) (fun i x σ H H' hi p y => by
    obtain ⟨rfl, c, hc, rfl⟩ := y
    exact hs i c σ _ hc p) hd
end
/-- a conditional expression: one key for both arms -/
theorem pick_if {c : Prop} [Decidable c] {te1 te2 : TE} {σ : L2.St} {H : Hp} {Q : VK} (G : V → Hp → Prop) (key : ∀ x H', G x H' → Q x H') (h1 : c → (∀ x H', G x H' → Q x H') → te1 σ H Q) (h2 : ¬ c → (∀ x H', G x H' → Q x H') → te2 σ H Q) : if c then te1 σ H Q else te2 σ H Q := by
  split
  · exact h1 ‹_› key
  · exact h2 ‹_› key
/-- (2 ** 64) ** 4 -/
def CPowW (i j : Int) : Prop := i = 18446744073709551616 ∧ j = 4
theorem op_powW {X : Cx} : OpR X (binaryOp .Pow) (rI CPowW fun i j => .int (i ^ j.toNat)) := opI fun _ _ _ _ _ _ _ hc q => by
  obtain ⟨rfl, rfl⟩ := hc
  exact pow_int (by decide) (by decide) q
end Gx

set_option Elab.async false
set_option linter.all false
set_option maxRecDepth 100000
set_option maxHeartbeats 1000000
/-! any number of except clauses, of one class or of a tuple of classes, with a name or without; a caught exception that is kept -/
namespace Gx
open PySem PySem.Spec PyProof.Rows L2
/-- an exception that is kept: at a, of the class cls, its dict at d -/
def xob (a : Addr) (cls : Value) (d : Option Addr) : HO := .ext fun h => ∃ (oe : Obj) (vs : Array Value), h.get? a = some oe ∧ oe.cls = cls ∧ oe.dict = d ∧ oe.data = .fields vs
section
variable {X : Cx} {pins : List (Addr × Obj)} {σ : L2.St} {H : Hp} {s : Shared}
/-- a new object of ours is tracked from now on -/
theorem inv_track {a : Addr} {oe : Obj} {vs : Array Value} {cls : Value} {d : Option Addr} (I : Inv X pins σ H s) (ho : s.heap.get? a = some oe) (hz : Zc cls d oe) (hd : oe.data = .fields vs) (na : H a = none) (h0 : X.s_0.heap.get? a = none) (nL : a ≠ X.env.locals)
    (np : ∀ p ∈ X.pn ++ pins, p.1 ≠ a) : Inv X pins σ (upd H a (xob a cls d)) s := by
  have ne : ∀ b o, H b = some o → b ≠ a := fun b o e => ne_of_none e na
  refine ⟨I.ok, I.os, I.bare, ⟨I.base.keep, I.base.slot, fun b o e n hx => ?_, I.base.there, fun b xs e => ?_, fun b o u e => ?_, fun b ps e => ?_⟩, I.loc, I.cell, ?_, fun x c e => ?_, fun p hp => ?_, fun b o e => ?_, I.len⟩
  · have : b ≠ a := fun z => by rw [z, h0] at e; cases e
    rw [upd_ne this]; exact I.base.free b o e n hx
  · have q := I.base.tups b xs e
    rw [upd_ne (ne _ _ q)]; exact q
  · have q := I.base.frzs b o u e
    rw [upd_ne (ne _ _ q)]; exact q
  · obtain ⟨m, q⟩ := I.base.tbls b ps e
    exact ⟨m, by rw [upd_ne (ne _ _ q)]; exact q⟩
  · rw [upd_ne (Ne.symm nL)]; exact I.free
  · have : c ≠ a := fun z => by
      obtain ⟨v, o, q1, q2⟩ := I.cell x c e
      rw [z, ho] at q1
      cases q1
      rw [hd] at q2
      cases q2
    rw [upd_ne this]; exact I.freeC x c e
  · obtain ⟨q1, q2, q3⟩ := I.pin p hp
    exact ⟨q1, by rw [upd_ne (np p hp)]; exact q2, q3⟩
  · by_cases hb : b = a
    · subst hb
      rw [upd_same] at e
      cases e
      exact ⟨⟨oe, vs, ho, hz.1, hz.2, hd⟩, ⟨oe, ho⟩, fun h1 h2 ⟨oe', vs', q1, q2⟩ k => ⟨oe', vs', k _ q1, q2⟩⟩
    · rw [upd_ne hb] at e
      exact (I.hok b o e).stay (fun _ _ _ q => q) (fun c q => by rw [upd_ne (ne _ _ q)]; exact q) fun c xs q => by rw [upd_ne (ne _ _ q)]; exact q
end
/-! ### the class that a clause names -/
/-- the clause's test: m tells of a class whether it is caught -/
def HTest (X : Cx) (t : Expr) (m : Value → Option Bool) : Prop := ∀ (a : Addr) (oe : Obj) (pn pins : List (Addr × Obj)) (σ : L2.St) (H : Hp) (s : Shared) (cls : Value) (b : Bool) (Q : Bool → Shared → Prop) (E : Value → Shared → Prop), Inv (X.suite a ((a, oe) :: pn)) pins σ H s → oe.cls = cls → m cls = some b →
  (∀ h', (∀ q o, s.heap.get? q = some o → h'.get? q = some o) → Q b { s with heap := h' }) → wpAny (model X.prog X.w) (X.A.mark (some (.ref a))) (eval t X.env) (fun c s₁ => wpAny (model X.prog X.w) (X.A.mark (some (.ref a))) (excMatches (.ref a) c) Q E s₁) E s
section
variable {X : Cx} {x x1 x2 x3 : Str} {c c1 c2 c3 : Value} {np p1 p2 p3 tpos : Pos} {kk : Nat}
theorem ht_ld {a : Addr} {oe : Obj} {pn pins : List (Addr × Obj)} {σ : L2.St} {H : Hp} {s : Shared} {Q : Value → Shared → Prop} {E : Value → Shared → Prop} (I : Inv (X.suite a ((a, oe) :: pn)) pins σ H s) (hc : Names X x c) (q : Q c s) :
    wpAny (model X.prog X.w) (X.A.mark (some (.ref a))) (eval (.Name x np) X.env) Q E s := by
  obtain ⟨hg, hdbg, hm | ⟨hm, hv, hnn⟩⟩ := hc
  · exact ld_glob (X := X.suite a ((a, oe) :: pn)) I hg hm q hdbg
  · exact ld_blt (X := X.suite a ((a, oe) :: pn)) I hg hm hv q hnn hdbg
theorem ht_type {a : Addr} {oe : Obj} {pn pins : List (Addr × Obj)} {σ : L2.St} {H : Hp} {s : Shared} {cls : Value} (I : Inv (X.suite a ((a, oe) :: pn)) pins σ H s) (e : oe.cls = cls) : PySem.W.Looks (model X.prog X.w) s.heap (typeOf (.ref a)) cls :=
  fun A Q E s' k q => wpAny_typeOf_ref (k _ _ (I.pin (a, oe) (List.mem_append_left _ List.mem_cons_self)).1) (by rw [e]; exact q)
theorem ht_name (hc : Names X x c) : HTest X (.Name x np) (fun cls => PySem.W.exmOne X.K cls c) := fun a oe pn pins σ H s cls b Q E I e m q => by
  refine ht_ld I hc ?_
  have LM := PySem.W.exm_one (M := model X.prog X.w) I.kIn (ht_type I e) m
  exact LM.here (q s.heap fun _ _ z => z)
theorem ht_tup2 (h1 : Names X x1 c1) (h2 : Names X x2 c2) : HTest X (.Tuple [.Name x1 p1, .Name x2 p2] kk tpos) (fun cls => PySem.W.exmAny X.K cls [c1, c2]) := fun a oe pn pins σ H s cls b Q E I e m q => by
  refine wpAny_Tuple ?_
  refine wpAny_items_cons (ht_ld I h1 ?_)
  refine wpAny_items_cons (ht_ld I h2 ?_)
  refine wpAny_items_nil ⟨by size_fits, ?_⟩
  have kp : ∀ q o, s.heap.get? q = some o → (s.heap.push { cls := .type "tuple", data := .seq [c1, c2].toArray }).get? q = some o := fun _ _ z => Heap.get?_push_of_some _ z
  exact (PySem.W.exm_tup2 (M := model X.prog X.w) (I.kIn.keeps kp) ((ht_type I e).keeps kp) (Heap.get?_push_size s.heap rfl) m).here (q _ kp)
theorem ht_tup3 (h1 : Names X x1 c1) (h2 : Names X x2 c2) (h3 : Names X x3 c3) : HTest X (.Tuple [.Name x1 p1, .Name x2 p2, .Name x3 p3] kk tpos) (fun cls => PySem.W.exmAny X.K cls [c1, c2, c3]) := fun a oe pn pins σ H s cls b Q E I e m q => by
  refine wpAny_Tuple ?_
  refine wpAny_items_cons (ht_ld I h1 ?_)
  refine wpAny_items_cons (ht_ld I h2 ?_)
  refine wpAny_items_cons (ht_ld I h3 ?_)
  refine wpAny_items_nil ⟨by size_fits, ?_⟩
  have kp : ∀ q o, s.heap.get? q = some o → (s.heap.push { cls := .type "tuple", data := .seq [c1, c2, c3].toArray }).get? q = some o := fun _ _ z => Heap.get?_push_of_some _ z
  exact (PySem.W.exm_tup3 (M := model X.prog X.w) (I.kIn.keeps kp) ((ht_type I e).keeps kp) (Heap.get?_push_size s.heap rfl) m).here (q _ kp)
end
/-! ### the clauses -/
abbrev HdT := (Value → Option Bool) × Option Nat × (Addr → Value → Option Addr → TS)
def wG (Wout : WX) (D : Ends) : List HdT → WX
  | [] => Wout
  | (m, none, ts) :: r => fun cls d σ H => ∃ b, m cls = some b ∧ (b = true → ∀ a, H a = none → ts a cls d D σ H) ∧ (b = false → wG Wout D r cls d σ H)
  | (m, some i, ts) :: r => fun cls d σ H => ∃ b, m cls = some b ∧ (b = true → ∀ a, H a = none → ts a cls d { nx := fun σ' H' => H' a = none → D.nx (σ'.set i none) (upd H' a (xob a cls d)), rt := D.rt, bk := fun σ' H' => H' a = none → D.bk (σ'.set i none) (upd H' a (xob a cls d)), ct := fun σ' H' => H' a = none → D.ct (σ'.set i none) (upd H' a (xob a cls d)) } (σ.set i (some (.ref a))) H) ∧ (b = false → wG Wout D r cls d σ H)
inductive HdsG (X : Cx) : List ExceptHandler → List HdT → Prop
  | nil : HdsG X [] []
  | one {t : Expr} {m : Value → Option Bool} {ts : Addr → Value → Option Addr → TS} {b₀ : Stmt} {suite : List Stmt} {pos' : Pos} {hds : List ExceptHandler} {l : List HdT} (ht : HTest X t m)
      (hsu : ∀ (a : Addr) (oe : Obj) (cls : Value) (d : Option Addr) (pn : List (Addr × Obj)), Zc cls d oe → (∃ vs, oe.data = .fields vs) → PSs (X.suite a ((a, oe) :: pn)) (b₀ :: suite) (ts a cls d)) (r : HdsG X hds l) :
      HdsG X (.ExceptHandler (some t) none (b₀ :: suite) pos' :: hds) ((m, none, ts) :: l)
  | as {t : Expr} {n : Str} {i : Nat} {m : Value → Option Bool} {ts : Addr → Value → Option Addr → TS} {b₀ : Stmt} {suite : List Stmt} {pos' : Pos} {hds : List ExceptHandler} {l : List HdT} (ht : HTest X t m) (hN : X.N.Nodup) (hi : X.N[i]? = some n) (hln : X.env.kindOf n = some .local)
      (hsu : ∀ (a : Addr) (oe : Obj) (cls : Value) (d : Option Addr) (pn : List (Addr × Obj)), Zc cls d oe → (∃ vs, oe.data = .fields vs) → PSs (X.suite a ((a, oe) :: pn)) (b₀ :: suite) (ts a cls d)) (r : HdsG X hds l) :
      HdsG X (.ExceptHandler (some t) (some n) (b₀ :: suite) pos' :: hds) ((m, some i, ts) :: l)
theorem fly_on {B h h' : Heap} {l : List Env} {a : Addr} {Z : Obj → Prop} (f : HandSPX.FlyingZ B l a Z h) (k : ∀ q o, h.get? q = some o → h'.get? q = some o) : HandSPX.FlyingZ B l a Z h' := by
  obtain ⟨f1, f2, f3, oe, vs, T, oT, ts, he, hz, hd, h1, hnT, hTe, hT, hdT, h3⟩ := f
  exact ⟨fun b o e => k b o (f1 b o e), f2, f3.of_keeps fun b o e _ => ⟨o, k b o e, rfl⟩, oe, vs, T, oT, ts, k _ _ he, hz, hd, h1, hnT, hTe, k _ _ hT, hdT, h3⟩
section
variable {X : Cx} {body : List Stmt} {h₀ : ExceptHandler} {hds : List ExceptHandler} {l : List HdT} {pos : Pos} {tb : WX → TS} {Wout : WX}
theorem ps_tryG (hs : X.stack = X.env :: X.outer) (hf : X.env.frame = some X.env.locals) (hex : X.ex = []) (tk : Takes X Wout)
    (hb : ∀ (W : WX) (pn : List (Addr × Obj)) (xe : Value → Shared → Prop), Takes (X.tr pn xe) W → PassesOwn (model X.prog X.w) X.A X.env xe → PSs (X.tr pn xe) body (tb W))
    (hh : HdsG X (h₀ :: hds) l) : PS X (.Try body (h₀ :: hds) [] [] pos) (fun D σ H => tb (wG Wout D l) D σ H) := by
  refine ⟨fun pins s σ H D I h => ?_⟩
  have ok := I.ok
  have hfr : X.A.frames = some (X.env :: X.outer) := by rw [ok.frames, hs]
  refine wpAny_Try_except ?_
  refine wpAny_mono ((hb (wG Wout D l) (X.pn ++ pins) (fun e s₁ => wpAny (model X.prog X.w) X.A (noteFrame e X.env) (fun _ s₂ => wpAny (model X.prog X.w) X.A (setFlight e none) (fun _ s₃ =>
    wpAny (model X.prog X.w) X.A (handleBy e X.env (h₀ :: hds)) (SP X pins D) X.xe s₃) X.xe s₂) X.xe s₁) (fun u s' xx => ?_) PassesOwn.looking).run [] s σ H D (I.toTry _) h) (fun f s1 hsp => ?_) (fun e s1 he => he)
  · obtain ⟨a, B, sI, pins', σ', H', cls, d, rfl, J', nb, up, sky, na, os, ag, w⟩ := xx
    have J : Inv X pins σ' H' sI := J'.ofTry ok
    have sky' : Sky B (X.env :: X.outer) a (Zc cls d) X.env.locals s'.heap := by rw [← hs]; exact sky
    show wpAny (model X.prog X.w) X.A (noteFrame (.ref a) X.env) _ _ _
    refine Sky.land Zc.steady hfr hf sky' fun h3 fl3 up3 => ?_
    have notFr : ∀ {h : Heap} {o : Obj} {vs : Array Value}, h.FunFrames B (X.env :: X.outer) → h.get? a = some o → o.data = .fields vs → a ∉ frs (X.env :: X.outer) := fun {h o vs} ff e dd hm => by
      obtain ⟨_, o', e', hnf⟩ := ff.mem hm
      rw [e] at e'; cases e'
      exact hnf _ dd
    obtain ⟨oe3, vs3, he3, hz3, hd3⟩ := fl3.there
    have nfr := notFr fl3.2.2.1 he3 hd3
    have nL : a ≠ X.env.locals := fun z => nfr (List.mem_filterMap.mpr ⟨X.env, List.mem_cons_self, by rw [hf, z]⟩)
    have nF : a ∉ X.fs := fun hm => by
      obtain ⟨e, he, q⟩ := List.mem_filterMap.mp hm
      exact nfr (List.mem_filterMap.mpr ⟨e, List.mem_cons_of_mem _ he, q⟩)
    have hB : B.get? a = none := fl3.2.1
    have hsI : sI.heap.get? a = none := by
      cases e : sI.heap.get? a with
      | none => rfl
      | some o =>
        have z := nb a o e (by rw [hs]; exact nfr)
        rw [hB] at z; cases z
    have h0 : X.s_0.heap.get? a = none := by
      cases e : X.s_0.heap.get? a with
      | none => rfl
      | some o =>
        obtain ⟨o', z⟩ := J.base.there a o e (by rw [hex]; simp)
        rw [hsI] at z; cases z
    have np : ∀ p ∈ X.pn ++ pins, p.1 ≠ a := fun p hp z => by
      have q := (J.pin p hp).1
      rw [z, hsI] at q; cases q
    have hup := up.trans up3
    clear up3 he3 hz3 hd3
    have go : ∀ {hds' : List ExceptHandler} {l' : List HdT}, HdsG X hds' l' → ∀ h3 : Heap, HandSPX.FlyingZ B (X.env :: X.outer) a (Zc cls d) h3 → sI.heap.UpToSlots h3 → wG Wout D l' cls d σ' H' →
        wpAny (model X.prog X.w) X.A (handleBy (.ref a) X.env hds') (SP X pins D) X.xe { s' with heap := h3 } := by
      intro hds' l' hk
      induction hk with
      | nil =>
        intro h3 fl3 hup w
        refine wpAny_handleBy_nil ?_
        obtain ⟨k1, k2, k3, oe, vs, T, oT, ts', he, hz, hd, h1, hr⟩ := id fl3
        unfold PySem.passOn
        refine wpAny_bind (wpAny_field he hd h1 ?_)
        rw [if_neg (show ¬ ((Value.ref T == Value.none) = true) from by simp)]
        have fin : wpAny (model X.prog X.w) X.A (setFlight (.ref a) X.env.frame) (fun _ s4 => wpAny (model X.prog X.w) X.A (throw (.ref a) : Sem Flow) (SP X pins D) X.xe s4) X.xe { s' with heap := h3 } := by
          rw [hf]
          refine HandSPX.setFlight_upZ fl3 fun h4 hh4 up4 => wpAny_throw (tk _ _ ?_)
          exact ⟨a, B, sI, pins, σ', H', cls, d, rfl, J, nb, hup.trans up4, .inr (.inr (by rw [hs]; exact hh4)), na, os, ag, w⟩
        first
          | exact wpAny_bind (wpAny_pure (wpAny_bind fin))
          | exact wpAny_bind fin
      | @one t m ts b₀ suite pos' hds2 l2 ht hsu r ih =>
        intro h3 fl3 hup w
        obtain ⟨b, hb1, hyes, hno⟩ := w
        refine wpAny_handleBy_cons (codeAny_handlers_test ?_) (by intro q; cases q)
        have J3 : Inv X pins σ' H' { s' with heap := h3 } := J.landed nb fl3.1 hup os ag
        obtain ⟨oe3, vs3, he3, hz3, hd3⟩ := fl3.there
        have S3 := J3.suite he3 hd3 na nL nF
        refine ht a oe3 _ _ _ _ _ cls b _ _ S3 hz3.1 hb1 fun h5 k5 => ?_
        have fl5 := fly_on fl3 k5
        have up5 : sI.heap.UpToSlots h5 := hup.trans (Heap.UpToSlots.of_keeps k5)
        cases b with
        | true =>
          refine codeAny_handlers_suite ?_
          refine HandSPX.lands_againZ fl5 fun h4 fl4 up4 => ?_
          have J4 : Inv X pins σ' H' { s' with heap := h4 } := J.landed nb fl4.1 (up5.trans up4) os ag
          obtain ⟨oe4, vs4, he4, hz4, hd4⟩ := fl4.there
          have S4 := J4.suite he4 hd4 na nL nF
          refine wpAny_mono ((hsu a oe4 cls d (X.pn ++ pins) hz4 ⟨_, hd4⟩).run [] _ _ H' _ S4 (hyes rfl a na)) (fun f s6 hsp => ?_) (fun _ _ z => False.elim z)
          cases f with
          | next =>
            obtain ⟨σ6, H6, S6, q6⟩ := hsp
            exact ⟨_, _, S6.unsuite ok, q6⟩
          | brk =>
            obtain ⟨σ6, H6, S6, q6⟩ := hsp
            exact ⟨_, _, S6.unsuite ok, q6⟩
          | cont =>
            obtain ⟨σ6, H6, S6, q6⟩ := hsp
            exact ⟨_, _, S6.unsuite ok, q6⟩
          | ret u =>
            obtain ⟨v6, σ6, H6, S6, r6, q6⟩ := hsp
            exact ⟨_, _, _, S6.unsuite ok, r6, q6⟩
        | false =>
          show wpAny _ X.A (handleBy (.ref a) X.env hds2) _ _ _
          exact ih h5 fl5 up5 (hno rfl)
      | @as t n i m ts b₀ suite pos' hds2 l2 ht hN hi hln hsu r ih =>
        intro h3 fl3 hup w
        obtain ⟨b, hb1, hyes, hno⟩ := w
        refine wpAny_handleBy_cons (codeAny_handlers_test ?_) (by intro q; cases q)
        have J3 : Inv X pins σ' H' { s' with heap := h3 } := J.landed nb fl3.1 hup os ag
        obtain ⟨oe3, vs3, he3, hz3, hd3⟩ := fl3.there
        have S3 := J3.suite he3 hd3 na nL nF
        refine ht a oe3 _ _ _ _ _ cls b _ _ S3 hz3.1 hb1 fun h5 k5 => ?_
        have fl5 := fly_on fl3 k5
        have up5 : sI.heap.UpToSlots h5 := hup.trans (Heap.UpToSlots.of_keeps k5)
        cases b with
        | true =>
          refine codeAny_handlers_suite_as ?_
          refine HandSPX.lands_againZ fl5 fun h4 fl4 up4 => ?_
          have J4 : Inv X pins σ' H' { s' with heap := h4 } := J.landed nb fl4.1 (up5.trans up4) os ag
          obtain ⟨oe4, vs4, he4, hz4, hd4⟩ := fl4.there
          have S4 := J4.suite he4 hd4 na nL nF
          refine store_ok (X := X.suite a ((a, oe4) :: (X.pn ++ pins))) (v := .ref a) S4 hN hi (.inl hln) rfl (fun s5 S5 => ?_) (.inr hln)
          refine wpAny_mono ((hsu a oe4 cls d (X.pn ++ pins) hz4 ⟨_, hd4⟩).run [] s5 _ H' _ S5 (hyes rfl a na)) (fun f s6 hsp => ?_) (fun _ _ z => False.elim z)
          have end_ : ∀ {σ6 : L2.St} {H6 : Hp} {Q : Shared → Prop}, Inv (X.suite a ((a, oe4) :: (X.pn ++ pins))) [] σ6 H6 s6 → (∀ s7, H6 a = none → Inv X pins (σ6.set i none) (upd H6 a (xob a cls d)) s7 → Inv X pins (σ6.set i none) H6 s7 → Q s7) →
              wpAny (model X.prog X.w) X.A (do bindName X.env n .none; unbindBehindTheSuite X.env n pos') (fun _ s7 => Q s7) X.xe s6 := fun {σ6 H6 Q} S6 hq => by
            have U : Inv X ((a, oe4) :: pins) σ6 H6 s6 := ⟨ok, S6.os, S6.bare, S6.base, S6.loc, S6.cell, S6.free, S6.freeC, fun p hp => S6.pin p (by
              refine List.mem_append_left _ ?_
              rcases List.mem_append.mp hp with z | z
              · exact List.mem_cons_of_mem _ (List.mem_append_left _ z)
              · rcases List.mem_cons.mp z with z | z
                · exact z ▸ List.mem_cons_self
                · exact List.mem_cons_of_mem _ (List.mem_append_right _ z)), S6.hok, S6.len⟩
            refine gone_ok U hN hi hln fun s7 J7 => ?_
            obtain ⟨q1, q2, q3, q4, q5⟩ := J7.pin (a, oe4) (List.mem_append_right _ List.mem_cons_self)
            have J8 : Inv X pins (σ6.set i none) H6 s7 := ⟨ok, J7.os, J7.bare, J7.base, J7.loc, J7.cell, J7.free, J7.freeC, fun p hp => J7.pin p (by
              rcases List.mem_append.mp hp with z | z
              · exact List.mem_append_left _ z
              · exact List.mem_append_right _ (List.mem_cons_of_mem _ z)), J7.hok, J7.len⟩
            exact hq s7 q2 (inv_track J8 q1 hz4 hd4 q2 h0 nL np) J8
          cases f with
          | next =>
            obtain ⟨σ6, H6, S6, q6⟩ := hsp
            exact end_ S6 fun s7 n7 J7 _ => ⟨_, _, J7, q6 n7⟩
          | brk =>
            obtain ⟨σ6, H6, S6, q6⟩ := hsp
            exact end_ S6 fun s7 n7 J7 _ => ⟨_, _, J7, q6 n7⟩
          | cont =>
            obtain ⟨σ6, H6, S6, q6⟩ := hsp
            exact end_ S6 fun s7 n7 J7 _ => ⟨_, _, J7, q6 n7⟩
          | ret u =>
            obtain ⟨v6, σ6, H6, S6, r6, q6⟩ := hsp
            exact end_ S6 fun s7 n7 _ J8 => ⟨_, _, _, J8, r6, q6⟩
        | false =>
          show wpAny _ X.A (handleBy (.ref a) X.env hds2) _ _ _
          exact ih h5 fl5 up5 (hno rfl)
    exact go hh _ fl3 hup w
  · cases f with
    | next =>
      obtain ⟨σ', H', J', q⟩ := hsp
      exact wpAny_execs_nil ⟨σ', H', J'.ofTry ok, q⟩
    | brk =>
      obtain ⟨σ', H', J', q⟩ := hsp
      exact ⟨σ', H', J'.ofTry ok, q⟩
    | cont =>
      obtain ⟨σ', H', J', q⟩ := hsp
      exact ⟨σ', H', J'.ofTry ok, q⟩
    | ret u =>
      obtain ⟨v, σ', H', J', r, q⟩ := hsp
      exact ⟨v, σ', H', J'.ofTry ok, r, q⟩
end
/-! ### what is asked of a kept exception -/
theorem xob_at {P : Program} {w : World} {H : Hp} {h : Heap} {a : Addr} {cls : Value} {d : Option Addr} (ok : HOk P w H h) (e : H a = some (xob a cls d)) : ∃ (oe : Obj) (vs : Array Value), h.get? a = some oe ∧ oe.cls = cls ∧ oe.dict = d ∧ oe.data = .fields vs := (ok a _ e).1
def rIsK (K : PySem.W.Frag) : List V → Hp → VK → Prop := fun xs H Q => ∃ (a D dd : Addr) (fs : List (Str × V)) (c : V) (cv : Value) (b : Bool), xs = [.ref a, c] ∧ ExcC K D ∧ H a = some (xob a (.ref D) (some dd)) ∧ H dd = some (.xd fs) ∧ (∀ u, RelV c u → u = cv) ∧ PySem.W.kitOne K (.ref D) cv = some b ∧ Q (.bl b) H
theorem call_isK {X : Cx} : CallR X (.builtin "isinstance") (rIsK X.K) := by
  intro pins s σ H xs us Q I r h
  obtain ⟨a, D, dd, fs, c, cv, b, rfl, G, ha, hd, hcv, e, q⟩ := h
  cases r with
  | cons rx rr =>
    cases rr with
    | cons rt rr =>
      cases rr
      cases rx
      obtain rfl := hcv _ rt
      obtain ⟨oe, vs, e1, e2, e3, e4⟩ := xob_at I.hok ha
      obtain ⟨mA, ns, _⟩ := (show ObjOk X.prog X.w H s.heap dd (.xd fs) from I.hok dd _ hd)
      obtain ⟨od, ho, _⟩ := lookIn_ns ns
      have J : PySem.W.InstAt s.heap a oe D (some od) := ⟨e1, e2, by unfold PySem.W.notCls; rw [e4] <;> rfl, by rw [e3]; exact ho⟩
      exact PySem.W.kia_one (kit_exc G) I.kIn J e (fun z => nomatch z) fun tk => ⟨.bl b, H, I.kept (t' := tk) fun _ _ z => z, rfl, q⟩
/-- e.f of a kept exception -/
def tXk (K : PySem.W.Frag) (f : Str) (te : TE) : TE := fun σ H Q => te σ H fun x H1 => ∃ (a C dd : Addr) (fs : List (Str × V)) (v : V), x = .ref a ∧ XfC K C ∧ PySem.W.findIn K (.ref C) f = some none ∧ H1 a = some (xob a (.ref C) (some dd)) ∧ H1 dd = some (.xd fs) ∧ fs.lookup f = some v ∧ Q v H1
theorem pe_xk {X : Cx} {e : Expr} {te : TE} {pos : Pos} {n : Str} (he : PE X e te) (hb : attributeBase e n X.env (eval e X.env) = eval e X.env := by rfl) : PE X (.Attribute e n pos) (tXk X.K n te) := by
  refine ⟨fun pins s σ H Q I h => attr_of hb (thn (he.run pins s σ H _ I h) fun u s1 hh => ?_)⟩
  obtain ⟨x, H1, I1, rx, a, C, dd, fs, v, rfl, T, hno, ha, ea, l, q⟩ := hh
  obtain rfl : u = Value.ref a := rx
  obtain ⟨oe, vs, e1, e2, e3, e4⟩ := xob_at I1.hok ha
  have hx : ObjOk X.prog X.w H1 s1.heap dd (.xd fs) := I1.hok dd _ ea
  obtain ⟨mA, hns, hr⟩ := hx
  obtain ⟨od, ho, hl⟩ := lookIn_ns hns
  obtain ⟨u, hu, ru⟩ := RelO.some_of (v := v) (o := mA n) (by rw [← l]; exact hr n)
  have J : PySem.W.InstAt s1.heap a oe C (some od) := ⟨e1, e2, by unfold PySem.W.notCls; rw [e4] <;> rfl, by rw [e3]; exact ho⟩
  exact HandSPX.exc_get I1.kIn J T.ga T.gg T.exC (PySem.W.findObj_own T.hdC hno rfl (by rw [hl, hu])) (handed_of ru) ⟨v, H1, I1.tok _, ru, q⟩
theorem xk {K : PySem.W.Frag} {σ : L2.St} {H : Hp} {Q : VK} {f : Str} {te : TE} (h : te σ H fun x H1 => ∃ (a C dd : Addr) (fs : List (Str × V)) (v : V), x = .ref a ∧ XfC K C ∧ PySem.W.findIn K (.ref C) f = some none ∧ H1 a = some (xob a (.ref C) (some dd)) ∧ H1 dd = some (.xd fs) ∧ fs.lookup f = some v ∧ Q v H1) : tXk K f te σ H Q := h
theorem ex_xob {H : Hp} {a : Addr} {cls : Value} {d : Option Addr} (h : H a = none) : Rd.Ex H (upd H a (xob a cls d)) := Rd.ex_new h
end Gx

set_option Elab.async false
set_option linter.all false
set_option maxRecDepth 100000
set_option maxHeartbeats 1000000
/-! texts of repr hold signs only -/
namespace Gx
open PySem PySem.Spec PyProof.Rows L2
theorem char_lt (c : Char) : c.toNat < 0x110000 := by
  have h := c.valid
  rcases h with h | ⟨_, h⟩
  · exact Nat.lt_trans h (by decide)
  · exact h
theorem ofString_ok (s : String) : PyData.strOk (Str.ofString s) = true := by
  unfold PyData.strOk
  simp only [Str.ofString, cpsOfBytes_string]
  rw [Array.all_eq_true']
  intro c hc
  rw [decide_eq_true_eq]
  obtain ⟨a, _, rfl⟩ := List.mem_map.mp (by simpa using hc)
  exact char_lt _
theorem intText_ok (i : Int) : PyData.strOk (PyData.shown (.int i)) = true := by
  simp only [PyData.shown]
  exact ofString_ok _
theorem hex_ok {w c : Nat} : ∀ x ∈ List.replicate (w - ((Nat.toDigits 16 c).map Char.toNat).length) 48 ++ (Nat.toDigits 16 c).map Char.toNat, x < 0x110000 := by
  intro x hx
  rcases List.mem_append.mp hx with h | h
  · rw [(List.mem_replicate.mp h).2]; decide
  · obtain ⟨a, _, rfl⟩ := List.mem_map.mp h
    exact char_lt a
theorem reprChar_ok (q c : Nat) (hc : c < 0x110000) : ∀ x ∈ Builtin.Str.reprChar q c, x < 0x110000 := by
  have h2 := @hex_ok 2 c
  have h4 := @hex_ok 4 c
  have h8 := @hex_ok 8 c
  unfold Builtin.Str.reprChar
  dsimp only
  intro x hx
  repeat' split at hx
  all_goals first
    | (simp only [List.mem_cons, List.not_mem_nil, or_false] at hx; omega)
    | (rcases List.mem_append.mp hx with h | h
       · simp only [List.mem_cons, List.not_mem_nil, or_false] at h; omega
       · first | exact h2 x h | exact h4 x h | exact h8 x h)
theorem reprText_ok {z : Str} (h : ∀ c ∈ z.cps.toList, c < 0x110000) : PyData.strOk (reprText z) = true := by
  have hq : reprQuote z < 0x110000 := by
    unfold reprQuote
    split <;> decide
  have key : ∀ (l : List Nat) (acc : Array Nat), (∀ c ∈ l, c < 0x110000) → (∀ c ∈ acc, c < 0x110000) → ∀ c ∈ l.foldl (fun out c => out ++ (Builtin.Str.reprChar (reprQuote z) c).toArray) acc, c < 0x110000 := by
    intro l
    induction l with
    | nil => intro acc _ ha; exact ha
    | cons a l ih =>
      intro acc hl ha
      refine ih _ (fun c hc => hl c (List.mem_cons_of_mem _ hc)) fun c hc => ?_
      rcases Array.mem_append.mp hc with h | h
      · exact ha c h
      · exact reprChar_ok _ a (hl a (List.mem_cons_self ..)) c (by simpa using h)
  unfold PyData.strOk reprText
  rw [Array.all_eq_true']
  intro c hc
  rw [decide_eq_true_eq]
  rcases Array.mem_push.mp hc with h' | h'
  · rw [← Array.foldl_toList] at h'
    refine key z.cps.toList _ h (fun c hc => ?_) c h'
    have : c = reprQuote z := by simpa using hc
    rw [this]; exact hq
  · rw [h']; exact hq
theorem strText_ok {z : Str} (h : ∀ c ∈ z.cps.toList, c < 0x110000) : PyData.strOk (PyData.shown (.str z)) = true := by
  simp only [PyData.shown]
  exact reprText_ok h
end Gx

set_option Elab.async false
set_option linter.all false
set_option maxRecDepth 100000
set_option maxHeartbeats 1000000
/-! numbers in bounds, or refused by an exception of one field -/
namespace Pr
open PySem PySem.Spec PyProof.Rows L2
/-- a value as a number in its bounds -/
inductive Nm (lo hi : Int) (H : Hp) : V → Option Int → Prop
  | int (n : Int) : Nm lo hi H (.int n) (if lo ≤ n ∧ n ≤ hi then some n else none)
  | non {v : V} (h : NonInt H v) : Nm lo hi H v none
theorem Nm.good {lo hi n : Int} {H : Hp} (h : lo ≤ n ∧ n ≤ hi) : Nm lo hi H (.int n) (some n) := by
  have z := Nm.int (lo := lo) (hi := hi) (H := H) n
  rwa [if_pos h] at z
theorem Nm.bad {lo hi n : Int} {H : Hp} (h : ¬ (lo ≤ n ∧ n ≤ hi)) : Nm lo hi H (.int n) none := by
  have z := Nm.int (lo := lo) (hi := hi) (H := H) n
  rwa [if_neg h] at z
/-- what is refused -/
abbrev Out (lo hi : Int) (H : Hp) (v : V) : Prop := Nm lo hi H v none
theorem NonInt.ex {H H' : Hp} {v : V} (e : Rd.Ex H H') (h : NonInt H v) : NonInt H' v := by
  rcases h with h | h | h | ⟨a, xs, h, k⟩ | ⟨a, xs, h, k⟩ | ⟨a, xs, h, k⟩
  · exact .inl h
  · exact .inr (.inl h)
  · exact .inr (.inr (.inl h))
  · exact .inr (.inr (.inr (.inl ⟨a, xs, h, e _ _ k⟩)))
  · exact .inr (.inr (.inr (.inr (.inl ⟨a, xs, h, e _ _ k⟩))))
  · exact .inr (.inr (.inr (.inr (.inr ⟨a, xs, h, e _ _ k⟩))))
theorem Nm.ex {lo hi : Int} {H H' : Hp} {v : V} {r : Option Int} (e : Rd.Ex H H') (h : Nm lo hi H v r) : Nm lo hi H' v r := by
  cases h with
  | int n => exact .int n
  | non h => exact .non (NonInt.ex e h)
theorem Nm.inv {lo hi : Int} {H : Hp} {v : V} {r : Option Int} (h : Nm lo hi H v r) : (∃ n, v = .int n ∧ r = some n ∧ lo ≤ n ∧ n ≤ hi) ∨ (∃ n, v = .int n ∧ r = none ∧ ¬ (lo ≤ n ∧ n ≤ hi)) ∨ (NonInt H v ∧ r = none) := by
  cases h with
  | int n =>
    by_cases c : lo ≤ n ∧ n ≤ hi
    · exact .inl ⟨n, rfl, if_pos c, c⟩
    · exact .inr (.inl ⟨n, rfl, if_neg c, c⟩)
  | non h => exact .inr (.inr ⟨h, rfl⟩)
/-- exception of the class CE with the value v in its field fl -/
def Xs (CE : Addr) (fl : Str) (v : V) (H : Hp) (E : XK) : Prop := ∀ d H', H d = none → Rd.Ex H H' → H' d = some (.xd [(fl, v)]) → E (.ref CE) (some d) H'
theorem ex_none {H H1 : Hp} {p : Addr} (e : Rd.Ex H H1) (h : H1 p = none) : H p = none := by
  cases hh : H p with
  | none => rfl
  | some o => rw [e p o hh] at h; cases h
theorem Xs.ex {CE : Addr} {fl : Str} {v : V} {H H' : Hp} {E : XK} (e : Rd.Ex H H') (h : Xs CE fl v H E) : Xs CE fl v H' E := fun d H2 hd e2 k => h d H2 (ex_none e hd) (e.trans e2) k
theorem Xs.mk {C : Addr} {fl : Str} {v : V} {H : Hp} {Q : XK} (h : Xs C fl v H Q) :
    [v].length ≤ 1000 ∧ ∀ a, H a = none → Gx.spExc C fl (.ref a :: ([v] ++ [])) (upd H a (exo a C none))
      (fun r H2 => r = .non ∧ ∃ (d : Addr) (fs : List (Str × V)), H2 a = some (exo a C (some d)) ∧ H2 d = some (exd d fs) ∧ H d = none ∧ Q (.ref C) (some d) (upd (del H2 a) d (.xd fs))) (fun _ _ _ => False) := Gx.mkO h
/-- need: None, or the exception -/
def spNeedX (CE : Addr) (lo hi : Int) : Sp := fun vs H Q E => ∃ v r, vs = [v] ∧ Nm lo hi H v r ∧ (∀ n, v = .int n → r = some n → lo ≤ n → n ≤ hi → Q .non H) ∧ (r = none → Xs CE "given" v H E)
theorem u_needX {CE : Addr} {lo hi n : Int} {H : Hp} {Q : VK} {E : XK} (h1 : lo ≤ n) (h2 : n ≤ hi) (q : Q .non H) : spNeedX CE lo hi ([.int n] ++ []) H Q E := ⟨.int n, some n, rfl, Nm.good ⟨h1, h2⟩, fun _ _ _ _ _ => q, fun z => by cases z⟩
theorem u_needB {CE : Addr} {lo hi : Int} {v : V} {H : Hp} {Q : VK} {E : XK} (h : Out lo hi H v) (q : Xs CE "given" v H E) : spNeedX CE lo hi ([v] ++ []) H Q E := ⟨v, none, rfl, h, fun n _ z => (by cases z), fun _ => q⟩
theorem Out.is {lo hi : Int} {H : Hp} {v : V} {Q : VK} {E : XK} (h : Out lo hi H v) (q : Q (.bl false) H) : spIs lo hi ([v] ++ []) H Q E := by
  refine ⟨v, rfl, ?_⟩
  rcases h.inv with ⟨n, _, z, _⟩ | ⟨n, rfl, _, c⟩ | ⟨h', _⟩
  · cases z
  · exact .inl ⟨n, rfl, by rw [decide_eq_false c]; exact q⟩
  · exact .inr ⟨h', q⟩
theorem Nm.is {lo hi : Int} {H : Hp} {v : V} {r : Option Int} {Q : VK} {E : XK} (h : Nm lo hi H v r) (q : Q (.bl r.isSome) H) : spIs lo hi ([v] ++ []) H Q E := by
  refine ⟨v, rfl, ?_⟩
  rcases h.inv with ⟨n, rfl, rfl, c⟩ | ⟨n, rfl, rfl, c⟩ | ⟨h', rfl⟩
  · exact .inl ⟨n, rfl, by rw [decide_eq_true c]; exact q⟩
  · exact .inl ⟨n, rfl, by rw [decide_eq_false c]; exact q⟩
  · exact .inr ⟨h', q⟩
/-- no tuple -/
def NonTup (H : Hp) (v : V) : Prop := v = .non ∨ (∃ b, v = .bl b) ∨ (∃ n, v = .int n) ∨ (∃ s, v = .str s) ∨ (∃ a xs, v = .ref a ∧ H a = some (.lst xs)) ∨ ∃ a kvs, v = .ref a ∧ H a = some (.dK kvs)
theorem kit_tp (K : PySem.W.Frag) : PySem.W.kitOne K (.type "NoneType") (.type "tuple") = some false ∧ PySem.W.kitOne K (.type "bool") (.type "tuple") = some false ∧ PySem.W.kitOne K (.type "int") (.type "tuple") = some false ∧ PySem.W.kitOne K (.type "str") (.type "tuple") = some false ∧
    PySem.W.kitOne K (.type "tuple") (.type "tuple") = some true ∧ PySem.W.kitOne K (.type "list") (.type "tuple") = some false ∧ PySem.W.kitOne K (.type "dict") (.type "tuple") = some false := by
  refine ⟨?_, ?_, ?_, ?_, ?_, ?_, ?_⟩ <;> first | rfl | decide +kernel | kernel_rfl
theorem isiB' {K : PySem.W.Frag} {H : Hp} {Q : VK} {v : V} {t : String} {T : Value} {r : Bool} (h : TyX K H v T) (k : PySem.W.kitOne K T (.type t) = some r) (q : Q (.bl r) H) : rIsi K [v, .ty t] H Q := ⟨_, _, T, _, r, rfl, .ty _, h, k, q⟩
theorem isNT {K : PySem.W.Frag} {H : Hp} {Q : VK} {v : V} (h : NonTup H v) (q : Q (.bl false) H) : rIsi K [v, .ty "tuple"] H Q := by
  obtain ⟨k1, k2, k3, k4, k5, k6, k7⟩ := kit_tp K
  rcases h with rfl | ⟨b, rfl⟩ | ⟨n, rfl⟩ | ⟨s, rfl⟩ | ⟨a, xs, rfl, ha⟩ | ⟨a, kvs, rfl, ha⟩
  · exact isiB' (.base .non) k1 q
  · exact isiB' (.base (.bl b)) k2 q
  · exact isiB' (.base (.int n)) k3 q
  · exact isiB' (.base (.str s)) k4 q
  · exact isiB' (.base (.lst ha)) k6 q
  · exact isiB' (.base (.dK ha)) k7 q
theorem isTT {K : PySem.W.Frag} {H : Hp} {Q : VK} {a : Addr} {xs : List V} (h : H a = some (.tup xs)) (q : Q (.bl true) H) : rIsi K [.ref a, .ty "tuple"] H Q := isiB' (.base (.tup h)) (kit_tp K).2.2.2.2.1 q
end Pr
namespace Gx
open PySem PySem.Spec PyProof.Rows L2
theorem exm3 {K : PySem.W.Frag} {cls c1 c2 c3 : Value} {b1 b2 b3 : Bool} (h1 : PySem.W.exmOne K cls c1 = some b1) (h2 : PySem.W.exmOne K cls c2 = some b2) (h3 : PySem.W.exmOne K cls c3 = some b3) : PySem.W.exmAny K cls [c1, c2, c3] = some (b1 || (b2 || (b3 || false))) := by
  simp only [PySem.W.exmAny, h1, h2, h3]
theorem exm2 {K : PySem.W.Frag} {cls c1 c2 : Value} {b1 b2 : Bool} (h1 : PySem.W.exmOne K cls c1 = some b1) (h2 : PySem.W.exmOne K cls c2 = some b2) : PySem.W.exmAny K cls [c1, c2] = some (b1 || (b2 || false)) := by
  simp only [PySem.W.exmAny, h1, h2]
/-- law itself makes lambdas -/
theorem fnGc {P : Program} {w : World} {K : PySem.W.Frag} {mg : Str → Option Value} {base : Heap} {x : Str} {st : Stmt} {f c : Addr} {fd : FuncData} {N ps : List Str} {k : Nat} {sp : Sp} (F : LamDef K mg x st f c fd) (S : FnScope N ps (C8.fnScope st))
    (len : ∀ vs H Q E, sp vs H Q E → vs.length = ps.length)
    (hbody : ∀ (A : Around) (outer : List Env) (s : Shared) (H : Hp) (vs : List V) (Q : VK), A.guards = some [] → Room k (A.deeper (envOfC x (C8.fnScope st) s.heap.objs.size f (.ref c))) → sp vs H Q C8.E0 →
      ∃ t, PSs (cxOf C8.CX0 P w K mg base N x (C8.fnScope st) f (.ref c) A outer s H C8.E0).nox (C8.fnBody st) t ∧ t { nx := fun _ H' => Q .non H', rt := Q } (start N vs) H) : FnG P w K mg base (k + 1) f fd ps sp := by
  obtain ⟨oc, od, dV, kV, doc, pm, an, ct, osl, rfl, lk, hcd⟩ := F.ex
  refine ⟨len, fun A outer s H args us vs Q hg hr e0 hb r hsp => LamX.run_ofS (CX := C8.CX0) (E := C8.E0) lk hcd S hr e0 hb r (len _ _ _ _ hsp) fun hr' => ?_⟩
  obtain ⟨t, h, q⟩ := hbody A outer s H vs Q hg hr' hsp
  exact ⟨t, h.nox, q⟩
theorem isBl {a b : Bool} {H : Hp} {Q : VK} (q : Q (.bl (decide (a = b))) H) : rIsB (.bl a) (.bl b) H Q := ⟨a, b, rfl, rfl, q⟩
theorem notBl {a b : Bool} {H : Hp} {Q : VK} (q : Q (.bl (!decide (a = b))) H) : rNotB (.bl a) (.bl b) H Q := ⟨a, b, rfl, rfl, q⟩
theorem isNn {v : V} {H : Hp} {Q : VK} (q : Q (.bl (decide (v = .non))) H) : V.non = .non ∧ Q (.bl (decide (v = .non))) H := ⟨rfl, q⟩
/-- written objects that stand -/
def Hold (L : List (Addr × HO)) (H : Hp) : Prop := ∀ x ∈ L, H x.1 = some x.2
def Plain (L : List (Addr × HO)) : Prop := ∀ x ∈ L, (∃ xs, x.2 = .tup xs) ∨ ∃ xs, x.2 = .lst xs
section
variable {L : List (Addr × HO)} {H H' : Hp}
theorem Hold.ex (h : Hold L H) (e : Rd.Ex H H') : Hold L H' := fun x hx => e _ _ (h x hx)
theorem Hold.extn (h : Hold L H) (p : Plain L) (e : LamX.ExtN H H') : Hold L H' := fun x hx => e _ _ (h x hx) fun ps z => by
  rcases p x hx with ⟨xs, y⟩ | ⟨xs, y⟩ <;> (rw [y] at z; cases z)
/-- all but one object, no tuple and no list, stand -/
theorem Hold.exp (h : Hold L H) (p : Plain L) {d : Addr} {o : HO} (hd : H d = some o) (n1 : ∀ xs, o ≠ .tup xs) (n2 : ∀ xs, o ≠ .lst xs) (e : Au.ExP d H H') : Hold L H' := fun x hx => e _ _ (h x hx) fun z => by
  have k := h x hx
  rw [z, hd] at k
  cases k
  rcases p x hx with ⟨xs, y⟩ | ⟨xs, y⟩
  · exact n1 xs y
  · exact n2 xs y
/-- an object that was not there then is changed -/
theorem Hold.new {H0 : Hp} (h : Hold L H) (h0 : Hold L H0) {d : Addr} (hd : H0 d = none) (e : Au.ExP d H H') : Hold L H' := fun x hx => e _ _ (h x hx) fun z => by
  have k := h0 x hx
  rw [z, hd] at k
  cases k
theorem Hold.cons {a : Addr} {o : HO} (h : Hold L H) (k : H a = some o) : Hold ((a, o) :: L) H := fun x hx => by
  rcases List.mem_cons.mp hx with rfl | hx
  · exact k
  · exact h x hx
theorem Hold.nil : Hold [] H := fun x hx => by cases hx
theorem Plain.nil : Plain [] := fun x hx => by cases hx
theorem Plain.tup {a : Addr} {xs : List V} (h : Plain L) : Plain ((a, .tup xs) :: L) := fun x hx => by
  rcases List.mem_cons.mp hx with rfl | hx
  · exact .inl ⟨_, rfl⟩
  · exact h x hx
theorem Plain.lst {a : Addr} {xs : List V} (h : Plain L) : Plain ((a, .lst xs) :: L) := fun x hx => by
  rcases List.mem_cons.mp hx with rfl | hx
  · exact .inr ⟨_, rfl⟩
  · exact h x hx
theorem Hold.at {a : Addr} {o : HO} (i : Nat) (h : Hold L H) (hi : L[i]? = some (a, o)) : H a = some o := h (a, o) (List.mem_of_getElem? hi)
end
end Gx

set_option Elab.async false
set_option linter.all false
set_option maxRecDepth 100000
set_option maxHeartbeats 1000000
/-! classes whose making may raise; static and class methods, operators that may raise; a class held by a variable -/
namespace Gx
open PySem PySem.Spec PyProof.Rows L2 GenW
structure MakX (P : Program) (w : World) (K : PySem.W.Frag) (mg : Str → Option Value) (base : Heap) (k : Nat) (x : Str) (C : Addr) (sp : Sp) (dvs : List V) : Prop where
  ex : ∃ (f : Addr) (fd : FuncData) (ps : List Str) (ds : List Value), Mk K C f ∧ FnOk P w K mg base (CX P w) k f fd ps sp ∧ mg x = some (.ref C) ∧ Binds K fd ps ds ∧ Vals dvs ds
section
variable {P : Program} {w : World} {K : PySem.W.Frag} {mg : Str → Option Value} {base : Heap}
theorem fnX {x qual : Str} {st : Stmt} {f : Addr} {fd : FuncData} {N ps : List Str} {k : Nat} {sp : Sp} (F : C8.Fun K x qual st f fd) (S : FnScope N ps (C8.fnScope st)) (len : ∀ vs H Q E, sp vs H Q E → vs.length = ps.length)
    (hbody : ∀ (cdv : Value) (A : Around) (outer : List Env) (s : Shared) (H : Hp) (vs : List V) (Q : VK) (E : XK), Room k (A.deeper (envOfC qual (C8.fnScope st) s.heap.objs.size f cdv)) → sp vs H Q E →
      ∃ t, PSs (cxOf (CX P w) P w K mg base N qual (C8.fnScope st) f cdv A outer s H E) (C8.fnBody st) t ∧ t { nx := fun _ H' => Q .non H', rt := Q } (start N vs) H) : FnOk P w K mg base (CX P w) (k + 1) f fd ps sp := by
  obtain ⟨oc, od, dV, kV, doc, pm, an, cdv, ct, osl, rfl, lk, hcd⟩ := F.ex
  exact fn_of lk hcd S len (hbody cdv)
theorem makX {x qual : Str} {C : Addr} {st : Stmt} {f : Addr} {fd : FuncData} {N ps : List Str} {k : Nat} {sp : Sp} (M : Mk K C f) (hm : mg x = some (.ref C)) (F : C8.Fun K "__init__" qual st f fd) (b : Binds K fd ps []) (S : FnScope N ps (C8.fnScope st)) (len : ∀ vs H Q E, sp vs H Q E → vs.length = ps.length)
    (hbody : ∀ (cdv : Value) (A : Around) (outer : List Env) (s : Shared) (H : Hp) (vs : List V) (Q : VK) (E : XK), Room k (A.deeper (envOfC qual (C8.fnScope st) s.heap.objs.size f cdv)) → sp vs H Q E →
      ∃ t, PSs (cxOf (CX P w) P w K mg base N qual (C8.fnScope st) f cdv A outer s H E) (C8.fnBody st) t ∧ t { nx := fun _ H' => Q .non H', rt := Q } (start N vs) H) : MakX P w K mg base (k + 1) x C sp [] :=
  ⟨f, fd, ps, [], M, fnX F S len hbody, hm, b, .nil⟩
end
section
variable {X : Cx} {k j i : Nat} {C : Addr} {x : Str} {sp : Sp} {dvs : List V} {p pos : Pos} {e : Expr} {es : List Expr} {t : TA} {W : WX} {E : XK}
theorem pe_mkx (c : MakX X.prog X.w X.K X.mg X.base k x C sp dvs) (tk : Takes X W) (hW : ∀ cls d σ H, E cls d H → W cls d σ H) (hr : Room j X.A) (hk : k + 1 ≤ j) (hg : Gl X x) (ha : PA X (e :: es) t)
    (hdb : (x == ("__debug__" : Str)) = false := by decide) (he : starEach (e :: es) X.env = (false, eval e X.env) :: starEach es X.env := by rfl) (hpl : (backTo pos (starEach es X.env)).any (·.1) = false := by rfl) :
    PE X (.Call (.Name x p) (e :: es) [] pos) (tMake C sp dvs E t) := by
  obtain ⟨f, fd, ps, ds, M, F, hm, b, d⟩ := c.ex
  exact pe_make M F (hr.mono hk) hg hm b d (passes_call tk hW) ha hdb he hpl
/-- cls(..): the class is held by the i-th slot -/
def tMakeV (i : Nat) (C : Addr) (sp : Sp) (dvs : List V) (E : XK) (t : TA) : TE := fun σ H Q => σ[i]? = some (some (.ref C)) ∧ tMake C sp dvs E t σ H Q
theorem pe_mkv {y : Str} (c : MakX X.prog X.w X.K X.mg X.base k x C sp dvs) (tk : Takes X W) (hW : ∀ cls d σ H, E cls d H → W cls d σ H) (hr : Room j X.A) (hk : k + 1 ≤ j) (hN : X.N[i]? = some y) (hv : Vis X.env.scope y) (ha : PA X (e :: es) t)
    (hdb : (y == ("__debug__" : Str)) = false := by decide) (hcd : (y == ("__classdict__" : Str)) = false := by decide) (he : starEach (e :: es) X.env = (false, eval e X.env) :: starEach es X.env := by rfl) (hpl : (backTo pos (starEach es X.env)).any (·.1) = false := by rfl) :
    PE X (.Call (.Name y p) (e :: es) [] pos) (tMakeV i C sp dvs E t) := by
  obtain ⟨f, fd, ps, ds, M, F, hm, b, d⟩ := c.ex
  refine ⟨fun pins s σ H Q I h => ?_⟩
  obtain ⟨hs, h⟩ := h
  refine wpAny_Call_Name_kw (thn ((pe_var (pos := p) (i := i) hN hv hdb hcd).run pins s σ H (fun v H1 => v = .ref C ∧ H1 = H) I ⟨.ref C, hs, rfl, rfl⟩) fun u s1 got => ?_)
  obtain ⟨v, H1, I1, r1, ev, eH⟩ := got
  subst ev
  rw [eH] at I1
  obtain rfl : u = Value.ref C := r1
  refine PySem.W.callWith_K (h₀ := X.base) I1.ok.mod.kin M.kp (thn (ha.run pos pins s1 σ H _ I1 h) fun us s2 got => ?_) he hpl
  obtain ⟨vs, H2, I2, r, q⟩ := got
  exact ⟨I2.kIn, run_make M F (hr.mono hk) b d (passes_call tk hW) I2 r q⟩
end
/-! ### a static method that may raise -/
structure SMetX (P : Program) (w : World) (K : PySem.W.Frag) (mg : Str → Option Value) (base : Heap) (k : Nat) (C : Addr) (m : Str) (sp : Sp) : Prop where
  ex : ∃ (f : Addr) (fd : FuncData) (ps : List Str), SAt K C m f ∧ FnOk P w K mg base (CX P w) k f fd ps sp ∧ Binds K fd ps []
theorem smetX {P : Program} {w : World} {K : PySem.W.Frag} {mg : Str → Option Value} {base : Heap} {m qual : Str} {C : Addr} {st : Stmt} {f : Addr} {fd : FuncData} {N ps : List Str} {k : Nat} {sp : Sp} (me : SAt K C m f) (F : C8.Fun K m qual st f fd) (b : Binds K fd ps []) (S : FnScope N ps (C8.fnScope st))
    (len : ∀ vs H Q E, sp vs H Q E → vs.length = ps.length)
    (hbody : ∀ (cdv : Value) (A : Around) (outer : List Env) (s : Shared) (H : Hp) (vs : List V) (Q : VK) (E : XK), Room k (A.deeper (envOfC qual (C8.fnScope st) s.heap.objs.size f cdv)) → sp vs H Q E →
      ∃ t, PSs (cxOf (CX P w) P w K mg base N qual (C8.fnScope st) f cdv A outer s H E) (C8.fnBody st) t ∧ t { nx := fun _ H' => Q .non H', rt := Q } (start N vs) H) : SMetX P w K mg base (k + 1) C m sp :=
  ⟨f, fd, ps, me, fnX F S len hbody, b⟩
def tSMethX (C : Addr) (sp : Sp) (E : XK) (ta : TE) (t : TA) : TE := fun σ H Q => ta σ H fun x H1 => x = .ref C ∧ t σ H1 fun vs H2 => sp (vs ++ []) H2 Q E
section
variable {X : Cx} {k j : Nat} {C : Addr} {m : Str} {sp : Sp} {pos apos : Pos} {e o : Expr} {es : List Expr} {ta : TE} {t : TA} {pl : Sem Bool} {W : WX} {E : XK}
theorem pe_smx (c : SMetX X.prog X.w X.K X.mg X.base k C m sp) (tk : Takes X W) (hW : ∀ cls d σ H, E cls d H → W cls d σ H) (hr : Room j X.A) (hk : k ≤ j) (he : PE X o ta) (ha : PA X (e :: es) t)
    (hst : starEach (e :: es) X.env = (false, eval e X.env) :: starEach es X.env := by rfl) (hpl : (backTo pos (starEach es X.env)).any (·.1) = false := by rfl)
    (ht : eval (.Call (.Attribute o m apos) (e :: es) [] pos) X.env = (do
      let ov ← eval o X.env
      standAt apos.atName
      let (f, first) ← holding [ov] (getMethod ov m pl)
      callWith pos f first (backTo pos (starEach (e :: es) X.env)) (backToKw pos (keywordEach [] X.env))) := by rfl) :
    PE X (.Call (.Attribute o m apos) (e :: es) [] pos) (tSMethX C sp E ta t) := by
  obtain ⟨f, fd, ps, ⟨mc, pp, rest, r, a, b1, kp⟩, F, b⟩ := c.ex
  refine ⟨fun pins s σ H Q I h => PySem.W.methodCall_KW (pl := pl) (thn (he.run pins s σ H _ I h) fun u s1 got => ?_) ht⟩
  obtain ⟨x, H1, I1, rx, ex, q⟩ := got
  subst ex
  obtain rfl : u = Value.ref C := rx
  refine PySem.W.method_cls I1.kIn r.ga (PySem.W.cls_bind I1.kIn r.rd a (wpAny_call (PySem.W.sm_get (s := { s1 with toks := s1.toks + 1 }) I1.kIn b1 (PySem.W.handed_on rfl ?_))))
  refine PySem.W.callWith_K (first := []) (h₀ := X.base) I.ok.mod.kin kp (thn (ha.run pos pins _ σ H1 _ (I1.tok (s1.toks + 1)) q) fun us s2 got => ?_) hst hpl
  obtain ⟨vs, H2, I3, rv, q2⟩ := got
  exact ⟨I3.kIn, run_fn F (hr.mono hk) b .nil (passes_call tk hW) I3 rv q2⟩
end
theorem smeX {C : Addr} {sp : Sp} {E : XK} {ta : TE} {t : TA} {σ : L2.St} {H : Hp} {Q : VK} (h : ta σ H fun x H1 => x = .ref C ∧ t σ H1 fun vs H2 => sp (vs ++ []) H2 Q E) : tSMethX C sp E ta t σ H Q := h
/-! ### a class method -/
structure CAt (K : PySem.W.Frag) (C : Addr) (m : Str) (f : Addr) : Prop where
  ex : ∃ (mc : Value) (p : Addr), ClX.CRead K C mc ∧ ClX.CMet K C mc m p f
structure CMetX (P : Program) (w : World) (K : PySem.W.Frag) (mg : Str → Option Value) (base : Heap) (k : Nat) (C : Addr) (m : Str) (sp : Sp) : Prop where
  ex : ∃ (f : Addr) (fd : FuncData) (ps : List Str), CAt K C m f ∧ FnOk P w K mg base (CX P w) k f fd ps sp ∧ Binds K fd ps []
theorem cmetX {P : Program} {w : World} {K : PySem.W.Frag} {mg : Str → Option Value} {base : Heap} {m qual : Str} {C : Addr} {st : Stmt} {f : Addr} {fd : FuncData} {N ps : List Str} {k : Nat} {sp : Sp} (me : CAt K C m f) (F : C8.Fun K m qual st f fd) (b : Binds K fd ps []) (S : FnScope N ps (C8.fnScope st))
    (len : ∀ vs H Q E, sp vs H Q E → vs.length = ps.length)
    (hbody : ∀ (cdv : Value) (A : Around) (outer : List Env) (s : Shared) (H : Hp) (vs : List V) (Q : VK) (E : XK), Room k (A.deeper (envOfC qual (C8.fnScope st) s.heap.objs.size f cdv)) → sp vs H Q E →
      ∃ t, PSs (cxOf (CX P w) P w K mg base N qual (C8.fnScope st) f cdv A outer s H E) (C8.fnBody st) t ∧ t { nx := fun _ H' => Q .non H', rt := Q } (start N vs) H) : CMetX P w K mg base (k + 1) C m sp :=
  ⟨f, fd, ps, me, fnX F S len hbody, b⟩
section
variable {X : Cx} {k j : Nat} {C : Addr} {m : Str} {sp : Sp} {pos apos : Pos} {e o : Expr} {es : List Expr} {ta : TE} {t : TA} {pl : Sem Bool} {W : WX} {E : XK}
theorem pe_cmx (c : CMetX X.prog X.w X.K X.mg X.base k C m sp) (tk : Takes X W) (hW : ∀ cls d σ H, E cls d H → W cls d σ H) (hr : Room j X.A) (hk : k ≤ j) (he : PE X o ta) (ha : PA X (e :: es) t)
    (hst : starEach (e :: es) X.env = (false, eval e X.env) :: starEach es X.env := by rfl) (hpl : (backTo pos (starEach es X.env)).any (·.1) = false := by rfl)
    (ht : eval (.Call (.Attribute o m apos) (e :: es) [] pos) X.env = (do
      let ov ← eval o X.env
      standAt apos.atName
      let (f, first) ← holding [ov] (getMethod ov m pl)
      callWith pos f first (backTo pos (starEach (e :: es) X.env)) (backToKw pos (keywordEach [] X.env))) := by rfl) :
    PE X (.Call (.Attribute o m apos) (e :: es) [] pos) (ClX.tCMeth C (fun vs H Q E => sp (vs ++ []) H Q E) E ta t) := by
  obtain ⟨f, fd, ps, ⟨mc, pp, r, cm⟩, F, b⟩ := c.ex
  exact ClX.pe_cmeth (pl := pl) he r cm (F.raw b .nil) (hr.mono hk) (passes_call tk hW) ha hst hpl ht
end
theorem cmX {C : Addr} {sp : Sp} {E : XK} {ta : TE} {t : TA} {σ : L2.St} {H : Hp} {Q : VK} (h : ta σ H fun x H1 => x = .ref C ∧ t σ H1 fun vs H2 => sp (.ref C :: (vs ++ [])) H2 Q E) : ClX.tCMeth C (fun vs H Q E => sp (vs ++ []) H Q E) E ta t σ H Q := h
/-! ### an own operator that may raise, whatever the right side is -/
structure OwnT (K : PySem.W.Frag) (C : Addr) (nm T : String) : Prop where
  l1 : ∃ fo, PySem.W.findIn K (.type T) (PySem.dunder nm) = some fo
  l2 : ∃ ro, PySem.W.findIn K (.type T) (dunderR nm) = some ro
  sub : PySem.W.subIn K (.type T) (.ref C) = some false
structure OwnL (K : PySem.W.Frag) (C : Addr) (nm : String) : Prop where
  sf : PySem.W.selfFirst K C = true
  r : PySem.W.findIn K (.ref C) (dunderR nm) = some none
open PySem.W in
theorem bin_right {prog : Program} {w : World} {A : Around} {E : Value → Shared → Prop} {s : Shared} {K : Frag} {x C L f : Addr} {h₀ : Heap} {m : Str → Option Value} {ox : Obj} {od : Option Obj} {T : String} {op : Operator} {b : Value} {fo ro : Option Value} {Q : Value → Shared → Prop}
    (F : Fr h₀ L s.heap m) (X₀ : K.In h₀) (I : InstAt s.heap x ox C od) (hb : Looks (model prog w) s.heap (typeOf b) (.type T)) (o : OwnL K C op.info.2) (hs : findIn K (.ref C) (PySem.dunder op.info.2) = some (some (.ref f))) (hf : isFn K (.ref f) = true)
    (h1 : findIn K (.type T) (PySem.dunder op.info.2) = some fo) (h2 : findIn K (.type T) (dunderR op.info.2) = some ro) (hsub : subIn K (.type T) (.ref C) = some false)
    (h : wpAny (model prog w) A (call (.ref f) [.ref x, b]) (PySem.W.CmpBack Q) E s) : wpAny (model prog w) A (binaryOp op (.ref x) b) Q E s := by
  have KI := X₀.keeps F.keep
  obtain ⟨cd, rest, hcd, hmro⟩ := ksp_first o.sf
  have orr := o.r
  rcases hi : op.info with ⟨sym, nm'⟩
  rw [hi] at hs orr h1 h2
  dsimp only at hs orr h1 h2
  have tried := ksp_try KI I hs hf h
  obtain ⟨hp, gg, dd, tk, oss⟩ := s
  have M1 : Looks (model prog w) hp (typeOf (.ref x)) (.ref C) := I.type
  have M3 : Looks (model prog w) hp (fillsNumberSlot (.ref C) nm') true := fills_K KI hcd hmro hs
  have M4 := ksp_fillsT (M := model prog w) KI h1 h2
  have M5 : Looks (model prog w) hp (isSubtype (.type T) (.ref C)) false := looks_subIn KI hsub
  have M6 : Looks (model prog w) hp (numberSlotInPython (.ref C) nm') true := ksp_inPy KI hs orr (.inl rfl)
  have M7 : Looks (model prog w) hp (numberSlotInPython (.type T) nm') false := Looks.of_pure rfl
  have M8 : Looks (model prog w) hp (typeLookup (.type T) (dunderR nm')) ro := looks_findIn KI h2
  generalize hq : ((fo.isSome && !isSeqSlot fo) || (ro.isSome && !isSeqSlot ro)) = rgt at M4
  have nTC : (Value.ref C == Value.type T) = false := Bool.eq_false_iff.mpr fun z => by cases beq_iff_eq.mp z
  simp only [binaryOp, hi]
  refine wpAny_holding (wpAny_bind ?w0)
  case w0 =>
    unfold binaryOp1
    refine wpAny_bind (M1.at (wpAny_bind (hb.at (wpAny_bind (M3.at ?w1)))))
    case w1 =>
      simp only [nTC, Bool.false_eq_true, if_false]
      cases rgt <;> (ksp_lk; refine wpAny_mono tried (fun r s' hr' => ?_) fun _ _ z => z; obtain ⟨v, rfl, hv⟩ := hr'; ksp_lk; exact hv)
def rOwnX (K : PySem.W.Frag) (C : Addr) (nm : String) (sp : Sp) (E : XK) : V → V → Hp → VK → Prop := fun x y H Q => ∃ (a dx : Addr) (fs : List (Str × V)) (T : String), x = .ref a ∧ TyX K H y (.type T) ∧ OwnT K C nm T ∧ H a = some (.ins C dx fs) ∧ sp ([x, y] ++ []) H (fun v H' => (∃ b, v = .ref b) ∧ Q v H') E
section
variable {X : Cx} {k j : Nat} {C : Addr} {m : Str} {sp : Sp} {W : WX} {E : XK}
theorem op_ownX {op : Operator} (c : MetX X.prog X.w X.K X.mg X.base k C m sp) (tk : Takes X W) (hW : ∀ cls d σ H, E cls d H → W cls d σ H) (hr : Room j X.A) (hk : k ≤ j) (o : OwnL X.K C op.info.2) (hm : PySem.dunder op.info.2 = m) : OpR X (binaryOp op) (rOwnX X.K C op.info.2 sp E) := by
  intro pins s σ H x y v u Q I rx ry h
  obtain ⟨a, dx, fs, T, rfl, ty, ot, ha, q⟩ := h
  obtain rfl : v = Value.ref a := rx
  obtain ⟨f, fd, ps, hc, me, F, b⟩ := c.ex
  obtain ⟨mA, O, rr, _, _, _⟩ := ins_get I.hok ha
  obtain ⟨od, J, hl⟩ := O.look
  obtain ⟨m0, fr⟩ := I.fr
  obtain ⟨fo, h1⟩ := ot.l1
  obtain ⟨ro, h2⟩ := ot.l2
  obtain ⟨Pt, KT, hP, _⟩ := kit_of I ry ty
  subst hm
  refine bin_right fr I.mod.kin J (KT.ty _ _ I.kIn hP) o me.at_ me.fn h1 h2 ot.sub ?_
  refine thn (run_fn (us := [.ref a, u]) (vs := [.ref a, y]) F (hr.mono hk) b .nil (passes_call tk hW) I (.cons rfl (.cons ry .nil)) q) fun v s1 hv => ?_
  obtain ⟨x, H1, I1, r1, ⟨b1, rfl⟩, q1⟩ := hv
  obtain rfl : v = Value.ref b1 := r1
  exact (⟨.ref b1, H1, I1, rfl, q1⟩ : EP X pins σ Q (.ref b1) s1)
end
/-- what never raises may be called as what may -/
theorem fnOf0 {P : Program} {w : World} {K : PySem.W.Frag} {mg : Str → Option Value} {base : Heap} {k : Nat} {f : Addr} {fd : FuncData} {ps : List Str} {sp : Sp} (F : FnOk P w K mg base C8.CX0 k f fd ps sp) : FnOk P w K mg base (CX P w) k f fd ps sp :=
  ⟨F.len, fun A outer s H args us vs Q E hr e0 hb r h => codeAny_mono (F.run A outer s H args us vs Q E hr e0 hb r h) fun res s' hq => by
    cases res with
    | error e => exact (show False from hq).elim
    | ok fl => cases fl <;> exact hq⟩
theorem MakX.of0 {P : Program} {w : World} {K : PySem.W.Frag} {mg : Str → Option Value} {base : Heap} {k : Nat} {x : Str} {C : Addr} {sp : Sp} {dvs : List V} (c : C8.Mak P w K mg base k x C sp dvs) : MakX P w K mg base k x C sp dvs := by
  obtain ⟨f, fd, ps, ds, M, F, hm, b, d⟩ := c.ex
  exact ⟨f, fd, ps, ds, M, fnOf0 F, hm, b, d⟩
theorem makeV {i : Nat} {C : Addr} {sp : Sp} {dvs : List V} {E : XK} {t : TA} {σ : L2.St} {H : Hp} {Q : VK} (hs : σ[i]? = some (some (.ref C))) (h : tMake C sp dvs E t σ H Q) : tMakeV i C sp dvs E t σ H Q := ⟨hs, h⟩
/-- a text times a number -/
def rMulS : R2 := fun x y H Q => ∃ (z : Str) (n : Int), x = .str z ∧ y = .int n ∧ PySem.MulOk z n ∧ Q (.str (Txt.mul z n)) H
theorem op_mulS {X : Cx} : OpR X (binaryOp .Mult) rMulS := by
  intro pins s σ H x y v u Q I rx ry h
  obtain ⟨z, n, rfl, rfl, ok, q⟩ := h
  obtain ⟨t, rfl⟩ := rx
  obtain ⟨t', rfl⟩ := ry
  exact PySem.SB.mul ok fun a k => ⟨.str _, H, I.tok _, ⟨_, rfl⟩, q⟩
/-- what is wished of an exception may lean on the number of slots -/
theorem takesL {X : Cx} {W : WX} (tk : Takes X W) : Takes X (fun cls d σ H => σ.length = X.N.length → W cls d σ H) := fun u s' z => by
  obtain ⟨a, B, sI, pins, σ, H, cls, d, e, I, r1, r2, r3, r4, r5, r6, w⟩ := z
  exact tk u s' ⟨a, B, sI, pins, σ, H, cls, d, e, I, r1, r2, r3, r4, r5, r6, w I.len⟩
end Gx

set_option Elab.async false
set_option linter.all false
set_option maxRecDepth 100000
set_option maxHeartbeats 4000000
set_option exponentiation.threshold 3000
namespace Pf
open PySem PySem.Spec PyProof.Rows L2
def top (i : Nat) : Stmt := PySem.Challenge.pw_drawstate_k18_linear_seeds.main.body.getD i (.Pass ⟨0, 0, 0, 0⟩)
abbrev s_BadSeed___init__ : Stmt := inClass (top 5) 0
theorem sc_BadSeed___init__ : FnScope ["self", "given"] ["self", "given"] (C8.fnScope s_BadSeed___init__) := C8.fnScope_by (by decide +kernel)
abbrev s_BadNumber___init__ : Stmt := inClass (top 6) 0
theorem sc_BadNumber___init__ : FnScope ["self", "given"] ["self", "given"] (C8.fnScope s_BadNumber___init__) := C8.fnScope_by (by decide +kernel)
abbrev s_is_integer : Stmt := top 15
theorem sc_is_integer : FnScope ["value"] ["value"] (C8.fnScope s_is_integer) := C8.fnScope_by (by decide +kernel)
abbrev s_need_double : Stmt := top 16
theorem sc_need_double : FnScope ["number"] ["number"] (C8.fnScope s_need_double) := C8.fnScope_by (by decide +kernel)
abbrev s_own_tempered : Stmt := top 17
theorem sc_own_tempered : FnScope ["word"] ["word"] (C8.fnScope s_own_tempered) := C8.fnScope_by (by decide +kernel)
abbrev s_mixed : Stmt := top 18
theorem sc_mixed : FnScope ["number", "high", "low", "step"] ["number"] (C8.fnScope s_mixed) := C8.fnScope_by (by decide +kernel)
abbrev s_is_seed_text : Stmt := top 23
theorem sc_is_seed_text : FnScope ["value", "character"] ["value"] (C8.fnScope s_is_seed_text) := C8.fnScope_by (by decide +kernel)
abbrev s_is_seed : Stmt := top 24
theorem sc_is_seed : FnScope ["value"] ["value"] (C8.fnScope s_is_seed) := C8.fnScope_by (by decide +kernel)
abbrev s_need_seed : Stmt := top 25
theorem sc_need_seed : FnScope ["seed"] ["seed"] (C8.fnScope s_need_seed) := C8.fnScope_by (by decide +kernel)
abbrev s_number_of : Stmt := top 26
theorem sc_number_of : FnScope ["seed", "found", "character"] ["seed"] (C8.fnScope s_number_of) := C8.fnScope_by (by decide +kernel)
abbrev s_core_of : Stmt := top 27
theorem sc_core_of : FnScope ["seed", "number", "core", "turn"] ["seed"] (C8.fnScope s_core_of) := C8.fnScope_by (by decide +kernel)
abbrev s_seed_words : Stmt := top 28
theorem sc_seed_words : FnScope ["seed", "many", "core", "index"] ["seed", "many"] (C8.fnScope s_seed_words) := C8.fnScope_by (by decide +kernel)
abbrev s_s2_is_number : Stmt := top 40
theorem sc_s2_is_number : FnScope ["value"] ["value"] (C8.fnScope s_s2_is_number) := C8.fnScope_by (by decide +kernel)
abbrev s_s2_need_start : Stmt := top 41
theorem sc_s2_need_start : FnScope ["start"] ["start"] (C8.fnScope s_s2_need_start) := C8.fnScope_by (by decide +kernel)
abbrev s_Linear___init__ : Stmt := inClass (top 47) 1
theorem sc_Linear___init__ : FnScope ["self", "start"] ["self", "start"] (C8.fnScope s_Linear___init__) := C8.fnScope_by (by decide +kernel)
abbrev s_Linear_state : Stmt := inClass (top 47) 4
theorem sc_Linear_state : FnScope ["self"] ["self"] (C8.fnScope s_Linear_state) := C8.fnScope_by (by decide +kernel)
abbrev s_Linear_copy : Stmt := inClass (top 47) 13
theorem sc_Linear_copy : FnScope ["self"] ["self"] (C8.fnScope s_Linear_copy) := C8.fnScope_by (by decide +kernel)
abbrev s_Linear_seeded : Stmt := inClass (top 47) 16
theorem sc_Linear_seeded : FnScope ["cls", "seed", "high", "low"] ["cls", "seed"] (C8.fnScope s_Linear_seeded) := C8.fnScope_by (by decide +kernel)
abbrev s_s2_is_every : Stmt := top 49
theorem sc_s2_is_every : FnScope ["value"] ["value"] (C8.fnScope s_s2_is_every) := C8.fnScope_by (by decide +kernel)
abbrev s_s2_need_every : Stmt := top 50
theorem sc_s2_need_every : FnScope ["every"] ["every"] (C8.fnScope s_s2_need_every) := C8.fnScope_by (by decide +kernel)
abbrev s_Leaping___init__ : Stmt := inClass (top 52) 1
theorem sc_Leaping___init__ : FnScope ["self", "start", "every"] ["self", "start", "every"] (C8.fnScope s_Leaping___init__) := C8.fnScope_by (by decide +kernel)
abbrev s_Leaping_state : Stmt := inClass (top 52) 8
theorem sc_Leaping_state : FnScope ["self"] ["self"] (C8.fnScope s_Leaping_state) := C8.fnScope_by (by decide +kernel)
abbrev s_Leaping_seeded : Stmt := inClass (top 52) 20
theorem sc_Leaping_seeded : FnScope ["cls", "seed", "high", "low"] ["cls", "seed"] (C8.fnScope s_Leaping_seeded) := C8.fnScope_by (by decide +kernel)
abbrev s__law_begun : Stmt := top 54
theorem sc__law_begun : FnScope ["_law_script", "_law_run", "_law_k", "_law_cell"] ["_law_script"] (C8.fnScope s__law_begun) := C8.fnScope_by (by decide +kernel)
abbrev s__law_next : Stmt := top 55
theorem sc__law_next : FnScope ["_law_draw", "_law_below", "_law_great", "_law_at", "_law_found", "_law_run"] ["_law_draw", "_law_below"] (C8.fnScope s__law_next) := C8.fnScope_by (by decide +kernel)
abbrev s__law_tempered : Stmt := top 56
theorem sc__law_tempered : FnScope ["_law_word"] ["_law_word"] (C8.fnScope s__law_tempered) := C8.fnScope_by (by decide +kernel)
abbrev s__law_mixed : Stmt := top 57
theorem sc__law_mixed : FnScope ["_law_number", "_law_high", "_law_low", "_law_r"] ["_law_number"] (C8.fnScope s__law_mixed) := C8.fnScope_by (by decide +kernel)
abbrev s__law_start : Stmt := top 58
theorem sc__law_start : FnScope ["_law_seed_here", "_law_double", "_law_number", "_law_sign", "_law_core", "_law_turn", "_law_first"] ["_law_seed_here"] (C8.fnScope s__law_start) := C8.fnScope_by (by decide +kernel)
abbrev s__law_seed : Stmt := top 59
theorem sc__law_seed : FnScope ["_law_draw", "_law_double", "_law_some", "_law_signs", "_law_many", "_law_k"] ["_law_draw"] (C8.fnScope s__law_seed) := C8.fnScope_by (by decide +kernel)
abbrev s__law_refused : Stmt := top 60
theorem sc__law_refused : FnScope ["_law_kind", "_law_seed_here", "_law_found", "error"] ["_law_kind", "_law_seed_here"] (C8.fnScope s__law_refused) := C8.fnScope_by (by decide +kernel)
abbrev s_law : Stmt := top 61
theorem sc_law : FnScope ["_law_script", "_law_draw", "_law_turn", "_law_seed_here", "_law_x", "_law_found", "_law_double", "_law_odd"] ["_law_script"] (C8.fnScope s_law) := C8.fnScope_by (by decide +kernel)
structure Txt (K : PySem.W.Frag) (mg : Str → Option Value) (C_Linear C_Leaping C_DrawError C_BadSeed C_BadNumber R_ROUNDS : Addr) : Prop where
  d_BadSeed___init__ : ∃ f fd, PySem.W.findIn K (.ref C_BadSeed) "__init__" = some (some (.ref f)) ∧ PySem.W.typeIn K (.ref f) = some (.type "function") ∧ C8.Fun K "__init__" "BadSeed.__init__" s_BadSeed___init__ f fd ∧ Binds K fd ["self", "given"] []
  d_BadNumber___init__ : ∃ f fd, PySem.W.findIn K (.ref C_BadNumber) "__init__" = some (some (.ref f)) ∧ PySem.W.typeIn K (.ref f) = some (.type "function") ∧ C8.Fun K "__init__" "BadNumber.__init__" s_BadNumber___init__ f fd ∧ Binds K fd ["self", "given"] []
  d_is_integer : ∃ f fd, C8.Def K mg "is_integer" s_is_integer f fd ∧ Binds K fd ["value"] []
  d_need_double : ∃ f fd, C8.Def K mg "need_double" s_need_double f fd ∧ Binds K fd ["number"] []
  d_own_tempered : ∃ f fd, C8.Def K mg "own_tempered" s_own_tempered f fd ∧ Binds K fd ["word"] []
  d_mixed : ∃ f fd, C8.Def K mg "mixed" s_mixed f fd ∧ Binds K fd ["number"] []
  d_is_seed_text : ∃ f fd, C8.Def K mg "is_seed_text" s_is_seed_text f fd ∧ Binds K fd ["value"] []
  d_is_seed : ∃ f fd, C8.Def K mg "is_seed" s_is_seed f fd ∧ Binds K fd ["value"] []
  d_need_seed : ∃ f fd, C8.Def K mg "need_seed" s_need_seed f fd ∧ Binds K fd ["seed"] []
  d_number_of : ∃ f fd, C8.Def K mg "number_of" s_number_of f fd ∧ Binds K fd ["seed"] []
  d_core_of : ∃ f fd, C8.Def K mg "core_of" s_core_of f fd ∧ Binds K fd ["seed"] []
  d_seed_words : ∃ f fd, C8.Def K mg "seed_words" s_seed_words f fd ∧ Binds K fd ["seed", "many"] []
  d_s2_is_number : ∃ f fd, C8.Def K mg "s2_is_number" s_s2_is_number f fd ∧ Binds K fd ["value"] []
  d_s2_need_start : ∃ f fd, C8.Def K mg "s2_need_start" s_s2_need_start f fd ∧ Binds K fd ["start"] []
  d_Linear___init__ : ∃ f fd, Mk K C_Linear f ∧ C8.Fun K "__init__" "Linear.__init__" s_Linear___init__ f fd ∧ Binds K fd ["self", "start"] []
  d_Linear_state : ∃ p f fd, PropOf K C_Linear "state" p f ∧ C8.Fun K "state" "Linear.state" s_Linear_state f fd ∧ Binds K fd ["self"] []
  d_Linear_copy : ∃ f fd, Meth K C_Linear "copy" f ∧ C8.Fun K "copy" "Linear.copy" s_Linear_copy f fd ∧ Binds K fd ["self"] []
  d_Linear_seeded : ∃ f fd, Gx.CAt K C_Linear "seeded" f ∧ C8.Fun K "seeded" "Linear.seeded" s_Linear_seeded f fd ∧ Binds K fd ["cls", "seed"] []
  d_s2_is_every : ∃ f fd, C8.Def K mg "s2_is_every" s_s2_is_every f fd ∧ Binds K fd ["value"] []
  d_s2_need_every : ∃ f fd, C8.Def K mg "s2_need_every" s_s2_need_every f fd ∧ Binds K fd ["every"] []
  d_Leaping___init__ : ∃ f fd, Mk K C_Leaping f ∧ C8.Fun K "__init__" "Leaping.__init__" s_Leaping___init__ f fd ∧ Binds K fd ["self", "start", "every"] []
  d_Leaping_state : ∃ p f fd, PropOf K C_Leaping "state" p f ∧ C8.Fun K "state" "Leaping.state" s_Leaping_state f fd ∧ Binds K fd ["self"] []
  d_Leaping_seeded : ∃ f fd, Gx.CAt K C_Leaping "seeded" f ∧ C8.Fun K "seeded" "Leaping.seeded" s_Leaping_seeded f fd ∧ Binds K fd ["cls", "seed"] []
  d__law_begun : ∃ f fd, C8.Def K mg "_law_begun" s__law_begun f fd ∧ Binds K fd ["_law_script"] []
  d__law_next : ∃ f fd, C8.Def K mg "_law_next" s__law_next f fd ∧ Binds K fd ["_law_draw", "_law_below"] []
  d__law_tempered : ∃ f fd, C8.Def K mg "_law_tempered" s__law_tempered f fd ∧ Binds K fd ["_law_word"] []
  d__law_mixed : ∃ f fd, C8.Def K mg "_law_mixed" s__law_mixed f fd ∧ Binds K fd ["_law_number"] []
  d__law_start : ∃ f fd, C8.Def K mg "_law_start" s__law_start f fd ∧ Binds K fd ["_law_seed_here"] []
  d__law_seed : ∃ f fd, C8.Def K mg "_law_seed" s__law_seed f fd ∧ Binds K fd ["_law_draw"] []
  d__law_refused : ∃ f fd, C8.Def K mg "_law_refused" s__law_refused f fd ∧ Binds K fd ["_law_kind", "_law_seed_here"] []
  d_law : ∃ f fd, C8.Def K mg "law" s_law f fd ∧ Binds K fd ["_law_script"] [] ∧ ∀ (s : Shared) (v : Value), BindsTo s fd ⟨[v], []⟩ [("_law_script", v)]
  c_WORDS : ∃ u, mg "WORDS" = some u ∧ RelV (.int 4294967296) u
  c_DOUBLES : ∃ u, mg "DOUBLES" = some u ∧ RelV (.int 18446744073709551616) u
  c_FACTOR : ∃ u, mg "FACTOR" = some u ∧ RelV (.int 3486784401) u
  c_MIX_STEP : ∃ u, mg "MIX_STEP" = some u ∧ RelV (.int 1000003) u
  c_ROUNDS : ∃ u, mg "ROUNDS" = some u ∧ RelV (.ref R_ROUNDS) u
  s_ROUNDS : ∀ H : Hp, SqT K H R_ROUNDS ([1, 2, 3, 4].map V.int)
  c_MOST_SEED_WORDS : ∃ u, mg "MOST_SEED_WORDS" = some u ∧ RelV (.int 1000) u
  c_MOST_CHARACTERS : ∃ u, mg "MOST_CHARACTERS" = some u ∧ RelV (.int 100) u
  c_SEEDS : ∃ u, mg "SEEDS" = some u ∧ RelV (.int 115792089237316195423570985008687907853269984665640564039457584007913129639936) u
  c_MOST_STEPS : ∃ u, mg "MOST_STEPS" = some u ∧ RelV (.int 18446744073709551616) u
  c_MODULUS : ∃ u, mg "MODULUS" = some u ∧ RelV (.int 281474976710656) u
  c_LOW_WORD : ∃ u, mg "LOW_WORD" = some u ∧ RelV (.int 65536) u
  k_Linear : ∃ u, mg "Linear" = some u ∧ RelV (.ref C_Linear) u
  cl_Linear : Cls K C_Linear
  is_Linear : C8.InsC K C_Linear
  n_Linear_s2_x : NoAttr K C_Linear "s2_x"
  k_Leaping : ∃ u, mg "Leaping" = some u ∧ RelV (.ref C_Leaping) u
  cl_Leaping : Cls K C_Leaping
  is_Leaping : C8.InsC K C_Leaping
  n_Leaping_s2_leap_x : NoAttr K C_Leaping "s2_leap_x"
  n_Leaping_s2_every : NoAttr K C_Leaping "s2_every"
  o_Linear_Leaping : PySem.W.kitOne K (.ref C_Linear) (.ref C_Leaping) = some false
  o_Leaping_Linear : PySem.W.kitOne K (.ref C_Leaping) (.ref C_Linear) = some false
  k_DrawError : ∃ u, mg "DrawError" = some u ∧ RelV (.ref C_DrawError) u
  g_DrawError : mg "DrawError" = some (.ref C_DrawError)
  r_DrawError : ClX.CRead K C_DrawError (.type "type")
  i_DrawError : PySem.W.findCls K (.ref C_DrawError) (.type "type") "__init__" = some (.val (.builtin "ValueError.__init__"))
  k_BadSeed : ∃ u, mg "BadSeed" = some u ∧ RelV (.ref C_BadSeed) u
  g_BadSeed : mg "BadSeed" = some (.ref C_BadSeed)
  y_BadSeed : Gx.YexC K C_BadSeed "ValueError.__init__"
  f_BadSeed : XfC K C_BadSeed
  n_BadSeed_given : PySem.W.findIn K (.ref C_BadSeed) "given" = some none
  t_BadSeed_given : PySem.W.takerIn K C_BadSeed "given" = some none
  m_BadSeed : PySem.W.exmOne K (.ref C_BadSeed) (.ref C_BadSeed) = some true
  k_BadNumber : ∃ u, mg "BadNumber" = some u ∧ RelV (.ref C_BadNumber) u
  g_BadNumber : mg "BadNumber" = some (.ref C_BadNumber)
  y_BadNumber : Gx.YexC K C_BadNumber "ValueError.__init__"
  f_BadNumber : XfC K C_BadNumber
  n_BadNumber_given : PySem.W.findIn K (.ref C_BadNumber) "given" = some none
  t_BadNumber_given : PySem.W.takerIn K C_BadNumber "given" = some none
  m_BadNumber : PySem.W.exmOne K (.ref C_BadNumber) (.ref C_BadNumber) = some true
  b_all : mg "all" = none
  b_bool : mg "bool" = none
  b_enumerate : mg "enumerate" = none
  b_int : mg "int" = none
  b_isinstance : mg "isinstance" = none
  b_len : mg "len" = none
  b_max : mg "max" = none
  b_min : mg "min" = none
  b_ord : mg "ord" = none
  b_range : mg "range" = none
  b_repr : mg "repr" = none
  b_str : mg "str" = none
  b_tuple : mg "tuple" = none
section
variable {P : Program} {w : World} {K : PySem.W.Frag} {mg : Str → Option Value} {base : Heap} {C_Linear C_Leaping C_DrawError C_BadSeed C_BadNumber R_ROUNDS : Addr}
local macro_rules | `(tactic| walk_at "side") => `(tactic| first | ((with_reducible show L2.CMul _ _); first | exact Or.inl ⟨by omega, by omega⟩ | exact Or.inr ⟨by omega, by omega⟩) | ((with_reducible show L2.CPow _ _); exact ⟨by decide, by decide, by decide⟩) | ((with_reducible show L2.CMulW _ _); exact wide_mul (a := 96) (b := 96) (by omega) (by omega) (by decide) (by decide) (by decide)) | ((with_reducible show L2.CDivW _ _); first | exact wide_div (b := 96) (by omega) (by omega) (by decide) (by decide) | exact wide_div (b := 300) (by omega) (by omega) (by decide) (by decide)) | (show (0 : Int) < _; omega) | (show (0 : Int) ≤ _; omega))
local macro_rules | `(tactic| walk_at "rd1") => `(tactic| first | with_reducible refine Rd.seq ?_ | with_reducible refine Rd.asg ?_ | with_reducible refine Rd.nm ?_ | with_reducible refine Rd.ret ?_ | with_reducible refine Rd.drop ?_ | with_reducible refine Rd.ifs ?_ | with_reducible refine Rd.par ?_ | with_reducible refine Rd.par3 ?_ | with_reducible refine Rd.next ?_ | with_reducible refine Rd.fr1 ?_ | with_reducible refine Rd.nxp ?_ | with_reducible refine Rd.rtp ?_ | ((with_reducible show tVar _ _ _ _); refine Rd.var rfl ?_) | with_reducible refine Rd.cst ?_ | with_reducible refine Rd.op ?_ | with_reducible refine Rd.un ?_ | with_reducible refine Rd.i0 ?_ | with_reducible refine Rd.ung ?_ | with_reducible refine Rd.eqI ?_ | with_reducible refine Rd.neI ?_ | with_reducible refine Rd.eqS ?_ | with_reducible refine Rd.neS ?_ | with_reducible refine Rd.test ?_ | with_reducible refine Rd.tstB ?_ | with_reducible refine Rd.isB ?_ | with_reducible refine Rd.not ?_ | with_reducible refine Rd.andT ?_ | with_reducible refine Rd.orT ?_ | with_reducible refine Rd.andV ?_ | with_reducible refine Rd.orV ?_ | with_reducible refine Rd.notV ?_ | with_reducible refine Rd.ifE ?_ | with_reducible refine Rd.chain ?_ | with_reducible refine Rd.nil ?_ | with_reducible refine Rd.cons ?_ | with_reducible refine Rd.call ?_ | with_reducible refine Rd.cb ?_ | with_reducible refine Rd.bm ?_ | with_reducible refine Au.revL ?_ | with_reducible refine Rd.frl ?_ | with_reducible refine Rd.frt ?_ | with_reducible refine Rd.fre ?_ | with_reducible refine Rd.disp ?_ | with_reducible refine Rd.pnil ?_ | with_reducible refine Rd.pcons ?_ | with_reducible refine Rd.gcons ?_ | with_reducible refine Rd.gnil ?_ | with_reducible refine Rd.gsub ?_ | with_reducible refine Rd.setD ?_ | ((with_reducible show gTup _ _ _ _ _ (upd _ _ (HO.tup _)) _); refine Rd.tupNew rfl ?_) | with_reducible refine Rd.fld ?_ | with_reducible refine Rd.meth ?_ | with_reducible refine Rd.make ?_ | with_reducible refine Rd.prop ?_ | with_reducible refine Au.tup ?_ | with_reducible refine Au.lst ?_ | ((with_reducible refine Au.lenOk ?hl ?_); (case hl => exact rfl)) | with_reducible refine Au.nopart ?_ | with_reducible refine Au.part ?_ | with_reducible refine Au.isI ?_ | with_reducible refine Au.sl ?_ | with_reducible refine Au.pr2 ?_ | with_reducible refine Au.pr3 ?_ | with_reducible refine Au.eqB ?_ | with_reducible refine Rd.isInt ?_ | with_reducible refine Rd.isBool ?_ | with_reducible refine Rd.mx2 ?_ | with_reducible refine Rd.mn2 ?_ | ((with_reducible show Rd.rAndM _ _ _ _); first | refine Rd.and1 ?_ | refine Rd.and48 ?_ | refine Rd.and32 ?_ | refine Rd.and64 ?_ | refine Rd.and65 ?_) | ((with_reducible refine Rd.iC ?hc ?_); (case hc => walk_at "side")) | ((with_reducible refine Rd.yes ?hc ?_); (case hc => first | omega | exact rfl)) | ((with_reducible refine Rd.no ?hc ?_); (case hc => omega)) | ((with_reducible refine Rd.noN ?hc ?_); (case hc => first | omega | exact rfl)) | ((with_reducible refine Rd.yesN ?hc ?_); (case hc => omega)) | ((with_reducible refine Rd.yesNN ?hc ?_); (case hc => omega)) | ((with_reducible refine Rd.noNN ?hc ?_); (case hc => omega)) | with_reducible refine iteT ?_ | with_reducible refine iteF ?_ | with_reducible refine Rd.iteNT ?_ | with_reducible refine Rd.iteNF ?_)
local macro_rules | `(tactic| walk_at "rd") => `(tactic| repeat (walk_at "rd1"))
local macro_rules | `(tactic| walk_at "hp") => `(tactic| first | assumption | (apply Au.sm; (focus assumption); (walk_at "hp")) | (apply Au.smp; (focus assumption); (focus (walk_at "hp")); (walk_at "ne")) | (apply Au.smn; (focus assumption); (focus (walk_at "hp")); (focus (intro _ z; cases z; done))) | fail "hp")
local macro_rules | `(tactic| walk_at "ne") => `(tactic| first | assumption | (apply Ne.symm; assumption) | (apply Au.nen; (focus assumption); (walk_at "hp")) | (apply Au.nen'; (focus assumption); (walk_at "hp")) | (apply Au.nek; (focus assumption); (focus assumption); (intro z; cases z; done)) | (apply Au.nek2; (focus assumption); (focus (walk_at "hp")); (intro z; cases z; done)) | fail "ne")
local macro_rules | `(tactic| walk_at "dp") => `(tactic| first | exact Dp.int _ | exact Dp.str _ | exact Dp.bl _ | exact Dp.non | (apply Dp.lst; (focus (apply Rd.sql; walk_at "hp")); (walk_at "dps")) | (apply Dp.tup; (focus (apply Rd.sqt; walk_at "hp")); (walk_at "dps")) | fail "dp")
local macro_rules | `(tactic| walk_at "dps") => `(tactic| first | exact DpAll.nil | (apply DpAll.cons; (focus (walk_at "dp")); (walk_at "dps")) | fail "dps")
local macro_rules | `(tactic| walk_at "shp") => `(tactic| ((simp only [SeqAt.shaped, PyData.canLay0, PyData.canLayAll0, PyData.depth, PyData.depthAll]) <;> first | decide | rfl))
local macro_rules | `(tactic| walk_at "sd") => `(tactic| first | assumption | rfl | omega | (walk_at "hp") | (refine ⟨?_, ?_⟩; (focus (walk_at "sd")); (walk_at "sd")) | fail "sd")
local macro_rules | `(tactic| walk_at "lk") => `(tactic| first | exact Rd.lk1 | rfl | decide +kernel)
local macro_rules | `(tactic| walk_at "rd1") => `(tactic| first | with_reducible refine Pr.dget ?_ | with_reducible refine Pr.dput ?_ | with_reducible refine Pr.sfld ?_ | with_reducible refine Pr.u_isInt ?_ | ((with_reducible show Pr.spNeed _ _ _ _ _ _); refine Pr.u_need (by omega) (by omega) ?_) | ((with_reducible show Pr.spIs _ _ _ _ _ _); refine Pr.u_isIn (by omega) ?_) | ((with_reducible apply Rd.fld1); (focus (walk_at "hp")); (focus assumption); (focus assumption); (focus (walk_at "lk"))) | ((with_reducible apply Au.methO); (focus (walk_at "hp")); (focus (walk_at "lk"))) | ((with_reducible apply Au.propO); (focus (walk_at "hp"))) | ((with_reducible show rIxT _ (V.ref _) (V.int _) _ _); refine Rd.ixT (Rd.sqt (by walk_at "hp")) rfl ?_) | ((with_reducible show rIxL _ (V.ref _) (V.int _) _ _); refine Rd.ixL (Rd.sql (by walk_at "hp")) rfl ?_) | ((with_reducible show Rd.rLenQ _ [V.ref _] _ _); first | refine Rd.lenL (Rd.sql (by walk_at "hp")) ?_ | refine Rd.lenT (Rd.sqt (by walk_at "hp")) ?_) | ((with_reducible show gTup _ _ _ (V.ref _) _ _ _); refine Rd.gtup (Rd.sqt (by walk_at "hp")) rfl ?_) | with_reducible refine Gx.gat ?_ | with_reducible refine Gx.gnx ?_ | with_reducible refine Gx.gthen ?_ | with_reducible refine Gx.gplain ?_ | with_reducible refine Gx.gfr ?_ | with_reducible refine Gx.lg ?_ | with_reducible refine Gx.mg ?_ | with_reducible refine Gx.sme ?_ | with_reducible refine Gx.callSD ?_ | with_reducible refine Gx.methSD ?_)
local macro_rules | `(tactic| walk_at "rd1") => `(tactic| first | with_reducible refine Gx.mkR ?_ | ((with_reducible refine Gx.makeV ?hs ?_); (case hs => rfl)) | with_reducible refine Gx.smeX ?_ | with_reducible refine Gx.cmX ?_ | with_reducible refine Gx.isBl ?_ | with_reducible refine Gx.notBl ?_ | with_reducible refine Gx.xk ?_ | with_reducible refine Gx.fr3 ?_ | with_reducible refine Gx.makeD ?_ | with_reducible refine Gx.frz ?_ | with_reducible refine Gx.lcO ?_ | with_reducible refine Gx.itupO ?_ | with_reducible refine Gx.ilistO ?_ | with_reducible refine Gx.irng1O ?_ | with_reducible refine Gx.ival ?_ | ((with_reducible apply Gx.ivalO); (focus (walk_at "hp")); (focus assumption); (focus assumption); (focus (walk_at "lk"))) | ((with_reducible show Gx.rTupOf _ [V.ref _] _ _); refine Gx.tupOfL (Rd.sql (by walk_at "hp")) ?_) | ((with_reducible show Gx.rLstOf _ [V.ref _] _ _); first | refine Gx.lstOfL (Rd.sql (by walk_at "hp")) ?_ | refine Gx.lstOfT (Rd.sqt (by walk_at "hp")) ?_))
local macro_rules | `(tactic| walk_at "hp") => `(tactic| first | assumption | (apply Pr.smq; (focus assumption); (focus (walk_at "hp")); (focus (walk_at "ne")); (walk_at "ne")))
theorem isiB {K : PySem.W.Frag} {H : Hp} {Q : VK} {v : V} {t : String} {T : Value} {r : Bool} (h : TyX K H v T) (k : PySem.W.kitOne K T (.type t) = some r) (q : Q (.bl r) H) : rIsi K [v, .ty t] H Q := ⟨_, _, T, _, r, rfl, .ty _, h, k, q⟩
theorem cal_is_integer (T : Txt K mg C_Linear C_Leaping C_DrawError C_BadSeed C_BadNumber R_ROUNDS) : C8.Cal P w K mg base 1 "is_integer" (Pr.spIsInt) [] := by
  obtain ⟨f, fd, F, b⟩ := T.d_is_integer
  refine C8.cal0 F b .nil sc_is_integer (fun vs H Q E h => ?_) (fun cdv A outer s H vs Q E hr h => ?_)
  · obtain ⟨v, rfl, _⟩ := h; rfl
  · obtain ⟨v, rfl, h⟩ := h
    have hu := hu_of hr
    have hu64 := hr.units
    have cl_Linear := T.cl_Linear
    have n_Linear_s2_x := T.n_Linear_s2_x
    have cl_Leaping := T.cl_Leaping
    have n_Leaping_s2_leap_x := T.n_Leaping_s2_leap_x
    have n_Leaping_s2_every := T.n_Leaping_s2_every
    refine ⟨_, (pss_one (ps_ret (pe_and (pe_callB call_isi (by rfl) T.b_isinstance (by decide +kernel) (pa_cons (pv 0) (pa_cons (pe_bltn (v := .ty "int") (by rfl) T.b_int (by decide +kernel) rfl) pa_nil))) (pe_one (pe_not (pe_callB call_isi (by rfl) T.b_isinstance (by decide +kernel) (pa_cons (pv 0) (pa_cons (pe_bltn (v := .ty "bool") (by rfl) T.b_bool (by decide +kernel) rfl) pa_nil)))))))), ?_⟩
    walk_at "rd"
    obtain ⟨k1, k2, k3, k4, k5, k6, k7⟩ := Pr.kit_t K
    rcases h with ⟨n, rfl, q⟩ | ⟨h, q⟩
    · walk_at "rd"
      exact q
    · rcases h with rfl | ⟨b, rfl⟩ | ⟨s, rfl⟩ | ⟨a, xs, rfl, ha⟩ | ⟨a, xs, rfl, ha⟩ | ⟨a, xs, rfl, ha⟩
      · refine isiB (.base .non) k1 ?_
        walk_at "rd"
        exact q
      · refine isiB (.base (.bl b)) k2 ?_
        walk_at "rd"
        refine isiB (.base (.bl b)) k3 ?_
        walk_at "rd"
        exact q
      · refine isiB (.base (.str s)) k4 ?_
        walk_at "rd"
        exact q
      · refine isiB (.base (.tup ha)) k5 ?_
        walk_at "rd"
        exact q
      · refine isiB (.base (.lst ha)) k6 ?_
        walk_at "rd"
        exact q
      · refine isiB (.base (.dK ha)) k7 ?_
        walk_at "rd"
        exact q
theorem exc_BadSeed (T : Txt K mg C_Linear C_Leaping C_DrawError C_BadSeed C_BadNumber R_ROUNDS) : Gx.ExcMkY P w K mg base 8 "BadSeed" C_BadSeed "given" := by
  obtain ⟨f, fd, hi, ht, F, b⟩ := T.d_BadSeed___init__
  refine ⟨f, fd, _, _, T.y_BadSeed, hi, ht, C8.fn0 F sc_BadSeed___init__ (fun vs H Q E h => ?_) (fun cdv A outer s H vs Q E hr h => ?_), b, T.g_BadSeed⟩
  · obtain ⟨p, v, rfl, _⟩ := h; rfl
  · obtain ⟨p, v, rfl, hp, q⟩ := h
    refine ⟨_, (pss_cons (ps_expr (Gx.pe_bi (by rfl) T.g_DrawError T.r_DrawError T.i_DrawError (by decide +kernel) (pa_cons (pv 0) (pa_cons pe_str pa_nil))))
      (pss_one (Gx.ps_ostY (initId := "ValueError.__init__") (pv 0) (pv 1)))), ?_⟩
    walk_at "rd"
    exact ⟨_, rfl, p, C_BadSeed, [.str "not a seed"], rfl, Nat.le_of_ble_eq_true rfl, T.y_BadSeed, hp, _, rfl, _, rfl, p, C_BadSeed, rfl, T.y_BadSeed, T.t_BadSeed_given, hp, q⟩
theorem exc_BadNumber (T : Txt K mg C_Linear C_Leaping C_DrawError C_BadSeed C_BadNumber R_ROUNDS) : Gx.ExcMkY P w K mg base 6 "BadNumber" C_BadNumber "given" := by
  obtain ⟨f, fd, hi, ht, F, b⟩ := T.d_BadNumber___init__
  refine ⟨f, fd, _, _, T.y_BadNumber, hi, ht, C8.fn0 F sc_BadNumber___init__ (fun vs H Q E h => ?_) (fun cdv A outer s H vs Q E hr h => ?_), b, T.g_BadNumber⟩
  · obtain ⟨p, v, rfl, _⟩ := h; rfl
  · obtain ⟨p, v, rfl, hp, q⟩ := h
    refine ⟨_, (pss_cons (ps_expr (Gx.pe_bi (by rfl) T.g_DrawError T.r_DrawError T.i_DrawError (by decide +kernel) (pa_cons (pv 0) (pa_cons pe_str pa_nil))))
      (pss_one (Gx.ps_ostY (initId := "ValueError.__init__") (pv 0) (pv 1)))), ?_⟩
    walk_at "rd"
    exact ⟨_, rfl, p, C_BadNumber, [.str "not an allowed number"], rfl, Nat.le_of_ble_eq_true rfl, T.y_BadNumber, hp, _, rfl, _, rfl, p, C_BadNumber, rfl, T.y_BadNumber, T.t_BadNumber_given, hp, q⟩
/-! ### mixing -/
theorem cal_need_double (T : Txt K mg C_Linear C_Leaping C_DrawError C_BadSeed C_BadNumber R_ROUNDS) : C8.Cal P w K mg base 8 "need_double" (Pr.spNeed 0 18446744073709551615) [] := by
  obtain ⟨f, fd, F, b⟩ := T.d_need_double
  refine C8.cal0 F b .nil sc_need_double (fun vs H Q E h => ?_) (fun cdv A outer s H vs Q E hr h => ?_)
  · obtain ⟨n, rfl, _⟩ := h; rfl
  · obtain ⟨n, rfl, h0, h1, q⟩ := h
    have hu := hu_of hr
    have hu64 := hr.units
    have cl_Linear := T.cl_Linear
    have n_Linear_s2_x := T.n_Linear_s2_x
    have cl_Leaping := T.cl_Leaping
    have n_Leaping_s2_leap_x := T.n_Leaping_s2_leap_x
    have n_Leaping_s2_every := T.n_Leaping_s2_every
    refine ⟨_, (pss_one (ps_if (PW.pt (pw_or (pt_not (pt_val (C8.pe_c (cal_is_integer T) hr (by omega) (by rfl) (pa_cons (pv 0) pa_nil)))) (pw_or1 (pt_not (pt_chain op_le op_lt pe_int (pv 0) (C8.pe_gc (by rfl) T.c_DOUBLES)))))) pss_never pss_nil)), ?_⟩
    walk_at "rd"
    exact q
/-- a number by a function of its own -/
def spFn (hi : Nat) (g : Nat → Nat) : Sp := fun vs H Q _ => ∃ n : Nat, vs = [.int n] ∧ n < hi ∧ ∀ H', Rd.Ex H H' → Q (.int (g n)) H'
theorem u_fn {hi : Nat} {g : Nat → Nat} {n : Nat} {H : Hp} {Q : VK} {E : XK} (hn : n < hi) (q : ∀ H', Rd.Ex H H' → Q (.int (g n)) H') : spFn hi g ([.int n] ++ []) H Q E := ⟨n, rfl, hn, q⟩
theorem xorN (a b : Nat) : Builtin.bitXor (a : Int) (b : Int) = ((a ^^^ b : Nat) : Int) := by
  rw [Bits.bitXor_pp (by omega) (by omega), Int.toNat_natCast, Int.toNat_natCast]
theorem shrN (a : Nat) (k : Int) (j : Nat) (h : k.toNat = j) : ((a : Int) / 2 ^ k.toNat) = ((a / 2 ^ j : Nat) : Int) := by
  rw [h]; push_cast; rfl
theorem xsN (a : Nat) (k : Int) (j : Nat) (h : k.toNat = j) : Builtin.bitXor (a : Int) ((a : Int) / 2 ^ k.toNat) = ((MX.xs j a : Nat) : Int) := by
  rw [shrN a k j h, xorN]; rfl
theorem mulmodN (a b : Nat) : (a : Int) * (b : Int) % 4294967296 = ((a * b % 4294967296 : Nat) : Int) := by
  rw [← Int.natCast_mul]
  exact (Int.natCast_emod (a * b) 4294967296).symm
theorem cal_own_tempered (T : Txt K mg C_Linear C_Leaping C_DrawError C_BadSeed C_BadNumber R_ROUNDS) : C8.Cal P w K mg base 1 "own_tempered" (spFn 4294967296 MX.tmp) [] := by
  obtain ⟨f, fd, F, b⟩ := T.d_own_tempered
  refine C8.cal0 F b .nil sc_own_tempered (fun vs H Q E h => ?_) (fun cdv A outer s H vs Q E hr h => ?_)
  · obtain ⟨n, rfl, _⟩ := h; rfl
  · obtain ⟨n, rfl, hn, q⟩ := h
    have hu := hu_of hr
    have hu64 := hr.units
    have cl_Linear := T.cl_Linear
    have n_Linear_s2_x := T.n_Linear_s2_x
    have cl_Leaping := T.cl_Leaping
    have n_Leaping_s2_leap_x := T.n_Leaping_s2_leap_x
    have n_Leaping_s2_every := T.n_Leaping_s2_every
    refine ⟨_, (pss_cons (ps_set (i := 0) sc_own_tempered.nd rfl (.inl rfl) (pe_op Rd.op_andM (pe_op op_mul (pe_op op_xor (pv 0) (pe_op op_shr (pv 0) pe_int)) (C8.pe_gc (by rfl) T.c_FACTOR)) (pe_op op_sub (C8.pe_gc (by rfl) T.c_WORDS) pe_int)))
      (pss_one (ps_ret (pe_op op_xor (pv 0) (pe_op op_shr (pv 0) pe_int))))), ?_⟩
    walk_at "rd"
    have e2 : ((MX.xs 13 n : Nat) : Int) * 3486784401 % 4294967296 = ((MX.xs 13 n * MX.F % 4294967296 : Nat) : Int) := mulmodN _ 3486784401
    rw [xsN n 13 13 rfl, e2, xsN _ 16 16 rfl]
    exact q H fun _ _ h => h
def fsI : Nat → Nat × Nat → Nat × Nat
  | 0, p => p
  | i + 1, p => MX.fe (i + 1) (fsI i p)
theorem fsI_ok (p : Nat × Nat) (h : MX.ok p) : ∀ i, MX.ok (fsI i p)
  | 0 => h
  | i + 1 => MX.ok_fe (fsI_ok p h i)
theorem divN (n : Nat) : ((n : Int)) / 4294967296 = ((n / 4294967296 : Nat) : Int) := (Int.natCast_ediv n 4294967296).symm
theorem modN (n : Nat) : ((n : Int)) % 4294967296 = ((n % 4294967296 : Nat) : Int) := (Int.natCast_emod n 4294967296).symm
theorem at4 {i : Nat} {x : V} (h : (([1, 2, 3, 4] : List Int).map V.int)[i]? = some x) : i < 4 ∧ x = .int ((i : Int) + 1) := by
  have hi : i < 4 := by
    rcases Nat.lt_or_ge i 4 with h' | h'
    · exact h'
    · rw [List.getElem?_eq_none (by simpa using h')] at h; cases h
  refine ⟨hi, ?_⟩
  have : i = 0 ∨ i = 1 ∨ i = 2 ∨ i = 3 := by omega
  rcases this with rfl | rfl | rfl | rfl <;> (simp at h; rw [← h]; rfl)
theorem cal_mixed (T : Txt K mg C_Linear C_Leaping C_DrawError C_BadSeed C_BadNumber R_ROUNDS) : C8.Cal P w K mg base 9 "mixed" (spFn 18446744073709551616 MX.mix) [] := by
  obtain ⟨f, fd, F, b⟩ := T.d_mixed
  refine C8.cal0 F b .nil sc_mixed (fun vs H Q E h => ?_) (fun cdv A outer s H vs Q E hr h => ?_)
  · obtain ⟨n, rfl, _⟩ := h; rfl
  · obtain ⟨n, rfl, hn, q⟩ := h
    have hu := hu_of hr
    have hu64 := hr.units
    have cl_Linear := T.cl_Linear
    have n_Linear_s2_x := T.n_Linear_s2_x
    have cl_Leaping := T.cl_Leaping
    have n_Leaping_s2_leap_x := T.n_Leaping_s2_leap_x
    have n_Leaping_s2_every := T.n_Leaping_s2_every
    refine ⟨_, (pss_cons (ps_expr (C8.pe_c (cal_need_double T) hr (by omega) (by rfl) (pa_cons (pv 0) pa_nil)))
      (pss_cons (ps_par (i := 1) (j := 2) rfl sc_mixed.nd rfl rfl (by decide) rfl rfl (pa_cons (pe_op op_fdivW (pv 0) (C8.pe_gc (by rfl) T.c_WORDS)) (pa_cons (pe_op Rd.op_andM (pv 0) (pe_op op_sub (C8.pe_gc (by rfl) T.c_WORDS) pe_int)) pa_nil)) (by rfl))
      (pss_cons (ps_for PassesOwn.never rfl (pi_tup (C8.pe_gc (by rfl) T.c_ROUNDS)) (pg_name (i := 3) sc_mixed.nd rfl (.inl rfl)) (pss_one (ps_par (i := 1) (j := 2) rfl sc_mixed.nd rfl rfl (by decide) rfl rfl (pa_cons (pv 2) (pa_cons (pe_op op_xor (pv 1) (C8.pe_c (cal_own_tempered T) hr (by omega) (by rfl) (pa_cons (pe_op Rd.op_andM (pe_op op_add (pv 2) (pe_op op_mul (C8.pe_gc (by rfl) T.c_MIX_STEP) (pv 3))) (pe_op op_sub (C8.pe_gc (by rfl) T.c_WORDS) pe_int)) pa_nil))) pa_nil)) (by rfl))))
      (pss_one (ps_ret (pe_op op_add (pe_op op_mul (pv 1) (C8.pe_gc (by rfl) T.c_WORDS)) (pv 2))))))), ?_⟩
    walk_at "rd"
    rw [divN, modN]
    refine ⟨R_ROUNDS, rfl, ⟨_, T.s_ROUNDS H⟩, for_tup (xs := ([1, 2, 3, 4] : List Int).map V.int) (fun i σ' H' => ∃ y, σ' = [some (.int n), some (.int (fsI i (MX.spl n)).1), some (.int (fsI i (MX.spl n)).2), y] ∧ Rd.Ex H H') ⟨none, rfl, fun _ _ h => h⟩ ?_ ?_ ?_⟩
    · rintro i σ' H' hi _
      exact T.s_ROUNDS H'
    · rintro i x σ' H' hx ⟨y, rfl, e⟩
      obtain ⟨hi, rfl⟩ := at4 hx
      have ho := fsI_ok _ (MX.ok_spl hn) i
      generalize hp : fsI i (MX.spl n) = p at ho
      have e2 : ((p.2 : Nat) : Int) + 1000003 * ((i : Int) + 1) = ((p.2 + 1000003 * (i + 1) : Nat) : Int) := by omega
      walk_at "rd"
      rw [e2, modN]
      refine u_fn (Nat.mod_lt _ (by decide)) fun H2 f2 => ?_
      walk_at "rd"
      rw [xorN]
      refine ⟨some (.int ((i : Int) + 1)), ?_, e.trans f2⟩
      show _ = [some (V.int n), some (V.int (MX.fe (i + 1) (fsI i (MX.spl n))).1), some (V.int (MX.fe (i + 1) (fsI i (MX.spl n))).2), some (.int ((i : Int) + 1))]
      rw [hp]
      rfl
    · rintro σ' H' ⟨y, rfl, e⟩
      have ho := fsI_ok _ (MX.ok_spl hn) 4
      have e3 : ((MX.mix n : Nat) : Int) = ((fsI 4 (MX.spl n)).1 : Int) * 4294967296 + ((fsI 4 (MX.spl n)).2 : Int) := by
        show ((((fsI 4 (MX.spl n)).1 * 4294967296 + (fsI 4 (MX.spl n)).2 : Nat)) : Int) = _
        omega
      have ho : MX.ok (fsI (List.map V.int ([1, 2, 3, 4] : List Int)).length (MX.spl n)) := ho
      walk_at "rd"
      have q2 := q H' e
      rw [e3] at q2
      exact q2
end
end Pf

set_option Elab.async false
set_option linter.all false
set_option maxRecDepth 100000
set_option maxHeartbeats 4000000
set_option exponentiation.threshold 3000
namespace Pf
open PySem PySem.Spec PyProof.Rows L2
section
variable {P : Program} {w : World} {K : PySem.W.Frag} {mg : Str → Option Value} {base : Heap} {C_Linear C_Leaping C_DrawError C_BadSeed C_BadNumber R_ROUNDS : Addr}
local macro_rules | `(tactic| walk_at "side") => `(tactic| first | ((with_reducible show L2.CMul _ _); first | exact Or.inl ⟨by omega, by omega⟩ | exact Or.inr ⟨by omega, by omega⟩) | ((with_reducible show L2.CPow _ _); exact ⟨by decide, by decide, by decide⟩) | ((with_reducible show L2.CMulW _ _); exact wide_mul (a := 96) (b := 96) (by omega) (by omega) (by decide) (by decide) (by decide)) | ((with_reducible show L2.CDivW _ _); first | exact wide_div (b := 96) (by omega) (by omega) (by decide) (by decide) | exact wide_div (b := 300) (by omega) (by omega) (by decide) (by decide)) | (show (0 : Int) < _; omega) | (show (0 : Int) ≤ _; omega))
local macro_rules | `(tactic| walk_at "rd1") => `(tactic| first | with_reducible refine Rd.seq ?_ | with_reducible refine Rd.asg ?_ | with_reducible refine Rd.nm ?_ | with_reducible refine Rd.ret ?_ | with_reducible refine Rd.drop ?_ | with_reducible refine Rd.ifs ?_ | with_reducible refine Rd.par ?_ | with_reducible refine Rd.par3 ?_ | with_reducible refine Rd.next ?_ | with_reducible refine Rd.fr1 ?_ | with_reducible refine Rd.nxp ?_ | with_reducible refine Rd.rtp ?_ | ((with_reducible show tVar _ _ _ _); refine Rd.var rfl ?_) | with_reducible refine Rd.cst ?_ | with_reducible refine Rd.op ?_ | with_reducible refine Rd.un ?_ | with_reducible refine Rd.i0 ?_ | with_reducible refine Rd.ung ?_ | with_reducible refine Rd.eqI ?_ | with_reducible refine Rd.neI ?_ | with_reducible refine Rd.eqS ?_ | with_reducible refine Rd.neS ?_ | with_reducible refine Rd.test ?_ | with_reducible refine Rd.tstB ?_ | with_reducible refine Rd.isB ?_ | with_reducible refine Rd.not ?_ | with_reducible refine Rd.andT ?_ | with_reducible refine Rd.orT ?_ | with_reducible refine Rd.andV ?_ | with_reducible refine Rd.orV ?_ | with_reducible refine Rd.notV ?_ | with_reducible refine Rd.ifE ?_ | with_reducible refine Rd.chain ?_ | with_reducible refine Rd.nil ?_ | with_reducible refine Rd.cons ?_ | with_reducible refine Rd.call ?_ | with_reducible refine Rd.cb ?_ | with_reducible refine Rd.bm ?_ | with_reducible refine Au.revL ?_ | with_reducible refine Rd.frl ?_ | with_reducible refine Rd.frt ?_ | with_reducible refine Rd.fre ?_ | with_reducible refine Rd.disp ?_ | with_reducible refine Rd.pnil ?_ | with_reducible refine Rd.pcons ?_ | with_reducible refine Rd.gcons ?_ | with_reducible refine Rd.gnil ?_ | with_reducible refine Rd.gsub ?_ | with_reducible refine Rd.setD ?_ | ((with_reducible show gTup _ _ _ _ _ (upd _ _ (HO.tup _)) _); refine Rd.tupNew rfl ?_) | with_reducible refine Rd.fld ?_ | with_reducible refine Rd.meth ?_ | with_reducible refine Rd.make ?_ | with_reducible refine Rd.prop ?_ | with_reducible refine Au.tup ?_ | with_reducible refine Au.lst ?_ | ((with_reducible refine Au.lenOk ?hl ?_); (case hl => exact rfl)) | with_reducible refine Au.nopart ?_ | with_reducible refine Au.part ?_ | with_reducible refine Au.isI ?_ | with_reducible refine Au.sl ?_ | with_reducible refine Au.pr2 ?_ | with_reducible refine Au.pr3 ?_ | with_reducible refine Au.eqB ?_ | with_reducible refine Rd.isInt ?_ | with_reducible refine Rd.isBool ?_ | with_reducible refine Rd.mx2 ?_ | with_reducible refine Rd.mn2 ?_ | ((with_reducible show Rd.rAndM _ _ _ _); first | refine Rd.and1 ?_ | refine Rd.and48 ?_ | refine Rd.and32 ?_ | refine Rd.and64 ?_ | refine Rd.and65 ?_) | ((with_reducible refine Rd.iC ?hc ?_); (case hc => walk_at "side")) | ((with_reducible refine Rd.yes ?hc ?_); (case hc => first | omega | exact rfl)) | ((with_reducible refine Rd.no ?hc ?_); (case hc => omega)) | ((with_reducible refine Rd.noN ?hc ?_); (case hc => first | omega | exact rfl)) | ((with_reducible refine Rd.yesN ?hc ?_); (case hc => omega)) | ((with_reducible refine Rd.yesNN ?hc ?_); (case hc => omega)) | ((with_reducible refine Rd.noNN ?hc ?_); (case hc => omega)) | with_reducible refine iteT ?_ | with_reducible refine iteF ?_ | with_reducible refine Rd.iteNT ?_ | with_reducible refine Rd.iteNF ?_)
local macro_rules | `(tactic| walk_at "rd") => `(tactic| repeat (walk_at "rd1"))
local macro_rules | `(tactic| walk_at "hp") => `(tactic| first | assumption | (apply Au.sm; (focus assumption); (walk_at "hp")) | (apply Au.smp; (focus assumption); (focus (walk_at "hp")); (walk_at "ne")) | (apply Au.smn; (focus assumption); (focus (walk_at "hp")); (focus (intro _ z; cases z; done))) | fail "hp")
local macro_rules | `(tactic| walk_at "ne") => `(tactic| first | assumption | (apply Ne.symm; assumption) | (apply Au.nen; (focus assumption); (walk_at "hp")) | (apply Au.nen'; (focus assumption); (walk_at "hp")) | (apply Au.nek; (focus assumption); (focus assumption); (intro z; cases z; done)) | (apply Au.nek2; (focus assumption); (focus (walk_at "hp")); (intro z; cases z; done)) | fail "ne")
local macro_rules | `(tactic| walk_at "dp") => `(tactic| first | exact Dp.int _ | exact Dp.str _ | exact Dp.bl _ | exact Dp.non | (apply Dp.lst; (focus (apply Rd.sql; walk_at "hp")); (walk_at "dps")) | (apply Dp.tup; (focus (apply Rd.sqt; walk_at "hp")); (walk_at "dps")) | fail "dp")
local macro_rules | `(tactic| walk_at "dps") => `(tactic| first | exact DpAll.nil | (apply DpAll.cons; (focus (walk_at "dp")); (walk_at "dps")) | fail "dps")
local macro_rules | `(tactic| walk_at "shp") => `(tactic| ((simp only [SeqAt.shaped, PyData.canLay0, PyData.canLayAll0, PyData.depth, PyData.depthAll]) <;> first | decide | rfl))
local macro_rules | `(tactic| walk_at "sd") => `(tactic| first | assumption | rfl | omega | (walk_at "hp") | (refine ⟨?_, ?_⟩; (focus (walk_at "sd")); (walk_at "sd")) | fail "sd")
local macro_rules | `(tactic| walk_at "lk") => `(tactic| first | exact Rd.lk1 | rfl | decide +kernel)
local macro_rules | `(tactic| walk_at "rd1") => `(tactic| first | with_reducible refine Pr.dget ?_ | with_reducible refine Pr.dput ?_ | with_reducible refine Pr.sfld ?_ | with_reducible refine Pr.u_isInt ?_ | ((with_reducible show Pr.spNeed _ _ _ _ _ _); refine Pr.u_need (by omega) (by omega) ?_) | ((with_reducible show Pr.spIs _ _ _ _ _ _); refine Pr.u_isIn (by omega) ?_) | ((with_reducible apply Rd.fld1); (focus (walk_at "hp")); (focus assumption); (focus assumption); (focus (walk_at "lk"))) | ((with_reducible apply Au.methO); (focus (walk_at "hp")); (focus (walk_at "lk"))) | ((with_reducible apply Au.propO); (focus (walk_at "hp"))) | ((with_reducible show rIxT _ (V.ref _) (V.int _) _ _); refine Rd.ixT (Rd.sqt (by walk_at "hp")) rfl ?_) | ((with_reducible show rIxL _ (V.ref _) (V.int _) _ _); refine Rd.ixL (Rd.sql (by walk_at "hp")) rfl ?_) | ((with_reducible show Rd.rLenQ _ [V.ref _] _ _); first | refine Rd.lenL (Rd.sql (by walk_at "hp")) ?_ | refine Rd.lenT (Rd.sqt (by walk_at "hp")) ?_) | ((with_reducible show gTup _ _ _ (V.ref _) _ _ _); refine Rd.gtup (Rd.sqt (by walk_at "hp")) rfl ?_) | with_reducible refine Gx.gat ?_ | with_reducible refine Gx.gnx ?_ | with_reducible refine Gx.gthen ?_ | with_reducible refine Gx.gplain ?_ | with_reducible refine Gx.gfr ?_ | with_reducible refine Gx.lg ?_ | with_reducible refine Gx.mg ?_ | with_reducible refine Gx.sme ?_ | with_reducible refine Gx.callSD ?_ | with_reducible refine Gx.methSD ?_)
local macro_rules | `(tactic| walk_at "rd1") => `(tactic| first | with_reducible refine Gx.mkR ?_ | ((with_reducible refine Gx.makeV ?hs ?_); (case hs => rfl)) | with_reducible refine Gx.smeX ?_ | with_reducible refine Gx.cmX ?_ | with_reducible refine Gx.isBl ?_ | with_reducible refine Gx.notBl ?_ | with_reducible refine Gx.xk ?_ | with_reducible refine Gx.fr3 ?_ | with_reducible refine Gx.makeD ?_ | with_reducible refine Gx.frz ?_ | with_reducible refine Gx.lcO ?_ | with_reducible refine Gx.itupO ?_ | with_reducible refine Gx.ilistO ?_ | with_reducible refine Gx.irng1O ?_ | with_reducible refine Gx.ival ?_ | ((with_reducible apply Gx.ivalO); (focus (walk_at "hp")); (focus assumption); (focus assumption); (focus (walk_at "lk"))) | ((with_reducible show Gx.rTupOf _ [V.ref _] _ _); refine Gx.tupOfL (Rd.sql (by walk_at "hp")) ?_) | ((with_reducible show Gx.rLstOf _ [V.ref _] _ _); first | refine Gx.lstOfL (Rd.sql (by walk_at "hp")) ?_ | refine Gx.lstOfT (Rd.sqt (by walk_at "hp")) ?_))
local macro_rules | `(tactic| walk_at "hp") => `(tactic| first | assumption | (apply Pr.smq; (focus assumption); (focus (walk_at "hp")); (focus (walk_at "ne")); (walk_at "ne")))
/-! ### the law's draws -/
abbrev kRun : Key := Sum.inr "run"
abbrev kGreat : Key := Sum.inr "great"
abbrev kTurn : Key := Sum.inr "turn"
theorem n_rg : ¬ kRun = kGreat := by decide +kernel
theorem n_rt : ¬ kRun = kTurn := by decide +kernel
theorem n_gt : ¬ kGreat = kTurn := by decide +kernel
theorem n_gr : ¬ kGreat = kRun := by decide +kernel
theorem n_tr : ¬ kTurn = kRun := by decide +kernel
theorem n_tg : ¬ kTurn = kGreat := by decide +kernel
structure DrawAt (H : Hp) (d g : Addr) (run turn : Int) (ns : List Int) : Prop where
  dic : H d = some (.dK [(kRun, .int run), (kGreat, .ref g), (kTurn, .int turn)])
  lst : H g = some (.lst (ns.map V.int))
  r0 : 0 ≤ run
  r1 : run < 2305843009213693951
def Draw (H : Hp) (d g : Addr) : Prop := ∃ run turn ns, DrawAt H d g run turn ns
/-- all but the draw's own objects stand -/
def ExB (d g : Addr) (H H' : Hp) : Prop := ∀ c o, H c = some o → c ≠ d → c ≠ g → H' c = some o
theorem ExB.refl {d g : Addr} (H : Hp) : ExB d g H H := fun _ _ e _ _ => e
theorem ExB.trans {d g : Addr} {H H1 H2 : Hp} (a : ExB d g H H1) (b : ExB d g H1 H2) : ExB d g H H2 := fun c o e h1 h2 => b c o (a c o e h1 h2) h1 h2
theorem ExB.of {d g : Addr} {H H' : Hp} (e : Rd.Ex H H') : ExB d g H H' := fun c o h _ _ => e c o h
theorem ExB.d {d g : Addr} {H H' : Hp} {o : HO} (e : ExB d g H H') : ExB d g H (upd H' d o) := fun c z h h1 h2 => by
  rw [upd_ne h1]
  exact e c z h h1 h2
theorem ExB.g {d g : Addr} {H H' : Hp} {o : HO} (e : ExB d g H H') : ExB d g H (upd H' g o) := fun c z h h1 h2 => by
  rw [upd_ne h2]
  exact e c z h h1 h2
theorem DrawAt.ex {H H' : Hp} {d g : Addr} {run turn : Int} {ns : List Int} (e : Rd.Ex H H') (h : DrawAt H d g run turn ns) : DrawAt H' d g run turn ns := ⟨e _ _ h.dic, e _ _ h.lst, h.r0, h.r1⟩
theorem Draw.ex {H H' : Hp} {d g : Addr} (e : Rd.Ex H H') (h : Draw H d g) : Draw H' d g := by
  obtain ⟨r, t, ns, h⟩ := h
  exact ⟨r, t, ns, h.ex e⟩
theorem DrawAt.ne {H : Hp} {d g : Addr} {run turn : Int} {ns : List Int} (h : DrawAt H d g run turn ns) : d ≠ g := ne_of h.dic h.lst (fun z => by cases z)
def spNext : Sp := fun vs H Q _ => ∃ (d g : Addr) (b : Int), vs = [.ref d, .int b] ∧ 0 < b ∧ b < 2 ^ 90 ∧ Draw H d g ∧ ∀ (H' : Hp) (v : Int), 0 ≤ v → v < b → Draw H' d g → ExB d g H H' → Q (.int v) H'
theorem cal__law_next (T : Txt K mg C_Linear C_Leaping C_DrawError C_BadSeed C_BadNumber R_ROUNDS) : C8.Cal P w K mg base 1 "_law_next" (spNext) [] := by
  obtain ⟨f, fd, F, b⟩ := T.d__law_next
  refine C8.cal0 F b .nil sc__law_next (fun vs H Q E h => ?_) (fun cdv A outer s H vs Q E hr h => ?_)
  · obtain ⟨d, g, m, rfl, _⟩ := h; rfl
  · obtain ⟨d, g, m, rfl, m0, m1, ⟨run, turn, ns, D⟩, q⟩ := h
    have hu := hu_of hr
    have hu64 := hr.units
    have cl_Linear := T.cl_Linear
    have n_Linear_s2_x := T.n_Linear_s2_x
    have cl_Leaping := T.cl_Leaping
    have n_Leaping_s2_leap_x := T.n_Leaping_s2_leap_x
    have n_Leaping_s2_every := T.n_Leaping_s2_every
    refine ⟨_, (pss_cons (ps_asg (pe_tup (pa_cons (pe_op op_add (pe_dget hu (pv 0) pe_str (fun _ _ => rfl)) pe_int) (pa_cons (pe_dget hu (pv 0) pe_str (fun _ _ => rfl)) pa_nil))) (pg_tup rfl (pgs_cons (pg_sub (pv 0) pe_str (set_dict hu)) (pgs_cons (pg_name (i := 2) sc__law_next.nd rfl (.inl rfl)) pgs_nil))))
      (pss_cons (ps_set (i := 3) sc__law_next.nd rfl (.inl rfl) (pe_op op_mod (pe_dget hu (pv 0) pe_str (fun _ _ => rfl)) (pe_callB (Rd.call_mx2 rfl) (by rfl) T.b_max (by decide +kernel) (pa_cons pe_int (pa_cons (pe_callB Rd.call_lenQ (by rfl) T.b_len PySem.boot_len (pa_cons (pv 2) pa_nil)) pa_nil)))))
      (C8.pss_cut (ps_if (PW.pt (pw_and (pt_cmpR (op_neD hu64) (pv 2) (pe_lst pa_nil) (nomark _)) (pw_and1 (pt_cmpR op_gt (pe_ix ix_list (pv 2) (pv 3) (fun _ _ => rfl)) pe_int (nomark _))))) (pss_cons (ps_set (i := 4) sc__law_next.nd rfl (.inl rfl) (pe_op op_mod (pe_ix ix_list (pv 2) (pv 3) (fun _ _ => rfl)) (pv 1)))
      (pss_cons (ps_asg (pe_op op_fdivW (pe_ix ix_list (pv 2) (pv 3) (fun _ _ => rfl)) (pv 1)) (pg_sub (pv 2) (pv 3) set_list))
      (pss_one (ps_ret (pv 4))))) pss_nil)
      (pss_cons (ps_set (i := 5) sc__law_next.nd rfl (.inl rfl) (pe_op op_add (pe_op op_add (pe_op op_mul (pe_dget hu (pv 0) pe_str (fun _ _ => rfl)) pe_int) (pe_op op_mul pe_int (pe_dget hu (pv 0) pe_str (fun _ _ => rfl)))) pe_int))
      (pss_cons (ps_dput hu (pv 0) pe_str (pe_op op_mod (pv 5) pe_int) rfl)
      (pss_one (ps_ret (pe_op op_mod (pe_op op_fdivW (pe_dget hu (pv 0) pe_str (fun _ _ => rfl)) pe_int) (pv 1))))))))), ?_⟩
    walk_at "rd"
    have ndg := D.ne
    refine Pr.u_get D.dic (Gx.val3 n_rt n_gt) ?_
    walk_at "rd"
    refine Pr.u_get D.dic (Gx.val2 n_rg) ?_
    walk_at "rd"
    refine Au.new fun t Ht ht et kt => ?_
    have D1 := D.ex et
    have x1 : ExB d g H Ht := .of et
    walk_at "rd"
    refine Pr.u_put D1.dic (by show 3 < 1000; decide) (Gx.put3 n_rt n_gt) ?_
    walk_at "rd"
    generalize hH2 : upd Ht d (.dK [(kRun, .int run), (kGreat, .ref g), (kTurn, .int (turn + 1))]) = H2
    have D2 : DrawAt H2 d g run (turn + 1) ns := by
      subst hH2
      exact ⟨upd_same, by rw [upd_ne (Ne.symm ndg)]; exact D1.lst, D.r0, D.r1⟩
    have x2 : ExB d g H H2 := by subst hH2; exact x1.d
    refine Pr.u_get D2.dic (Gx.val3 n_rt n_gt) ?_
    walk_at "rd"
    refine Rd.lenL (Rd.sql D2.lst) ?_
    walk_at "rd"
    generalize hat : (turn + 1) % (if ((ns.map V.int).length : Int) > 1 then ((ns.map V.int).length : Int) else 1) = at'
    have at0 : ns ≠ [] → 0 ≤ at' ∧ at' < (ns.length : Int) := fun hne => by
      have hl : 0 < ns.length := List.length_pos_iff.mpr hne
      rw [List.length_map] at hat
      rw [← hat]
      by_cases h1 : (ns.length : Int) > 1
      · rw [if_pos h1]
        exact ⟨Int.emod_nonneg _ (by omega), Int.emod_lt_of_pos _ (by omega)⟩
      · rw [if_neg h1]
        omega
    refine Rd.cut (fun σ' H' => ∃ y4 y5, σ' = [some (.ref d), some (.int m), some (.ref g), some (.int at'), y4, y5] ∧ DrawAt H' d g run (turn + 1) ns ∧ ExB d g H H') ?_ ?_
    · walk_at "rd"
      refine Au.new fun p H3 hp e3 k3 => ?_
      have D3 := D2.ex e3
      have x3 : ExB d g H H3 := x2.trans (.of e3)
      refine Gx.neL (ms := []) (Rd.sql D3.lst) (Rd.sql k3) ?_
      walk_at "rd"
      refine Rd.bothN (fun c => ?_) (fun c => ?_)
      · obtain ⟨h0, h1⟩ := at0 c
        obtain ⟨k, rfl⟩ := Int.eq_ofNat_of_zero_le h0
        have hk : k < ns.length := by omega
        have gk : atI (ns.map V.int) (k : Int) = some (.int ns[k]) := atI_nat (by rw [List.getElem?_map, List.getElem?_eq_getElem hk]; rfl)
        walk_at "rd"
        refine Rd.ixL (Rd.sql D3.lst) gk ?_
        walk_at "rd"
        refine Rd.both (fun c2 => ?_) (fun c2 => ?_)
        · walk_at "rd"
          refine Rd.ixL (Rd.sql D3.lst) gk ?_
          walk_at "rd"
          refine Rd.ixL (Rd.sql D3.lst) gk ?_
          walk_at "rd"
          have ij : ixN (ns.map V.int).length (k : Int) = some k := by
            unfold ixN
            rw [if_pos h0, if_pos (by rw [List.length_map]; omega), Int.toNat_natCast]
          refine Rd.setL D3.lst ij ?_
          walk_at "rd"
          refine q _ _ (Int.emod_nonneg _ (by omega)) (Int.emod_lt_of_pos _ m0) ⟨run, turn + 1, ns.set k (ns[k] / m), ?_, ?_, D.r0, D.r1⟩ x3.g
          · rw [upd_ne ndg]; exact D3.dic
          · rw [upd_same, List.map_set]
        · walk_at "rd"
          exact ⟨_, _, rfl, D3, x3⟩
      · walk_at "rd"
        exact ⟨_, _, rfl, D3, x3⟩
    · rintro σ' H' ⟨y4, y5, rfl, D4, x4⟩
      have r0 := D.r0
      have r1 := D.r1
      walk_at "rd"
      refine Pr.u_get D4.dic Gx.val1 ?_
      walk_at "rd"
      refine Pr.u_get D4.dic (Gx.val3 n_rt n_gt) ?_
      walk_at "rd"
      generalize hn : (run * 6364136223846793 + 1442695040888963 * (turn + 1) + 11) % 2305843009213693951 = r'
      refine Pr.u_put D4.dic (by show 3 < 1000; decide) (Gx.put1 n_gr n_tr) ?_
      walk_at "rd"
      refine Pr.u_get upd_same Gx.val1 ?_
      walk_at "rd"
      refine q _ _ (Int.emod_nonneg _ (by omega)) (Int.emod_lt_of_pos _ m0) ⟨r', turn + 1, ns, upd_same, ?_, by omega, by omega⟩ x4.d
      rw [upd_ne (Ne.symm ndg)]; exact D4.lst
theorem u_next {H : Hp} {Q : VK} {E : XK} {d g : Addr} {b : Int} (h0 : 0 < b) (h1 : b < 2 ^ 90) (D : Draw H d g) (q : ∀ (H' : Hp) (v : Int), 0 ≤ v → v < b → Draw H' d g → ExB d g H H' → Q (.int v) H') : spNext ([.ref d, .int b] ++ []) H Q E := ⟨d, g, b, rfl, h0, h1, D, q⟩
/-- numbers below a bound that a helper draws -/
def spPick (hi : Int) : Sp := fun vs H Q _ => ∃ (d g : Addr), vs = [.ref d] ∧ Draw H d g ∧ ∀ (H' : Hp) (v : Int), 0 ≤ v → v ≤ hi → Draw H' d g → ExB d g H H' → Q (.int v) H'
theorem Draw.nd {H : Hp} {d g p : Addr} (D : Draw H d g) (h : H p = none) : p ≠ d ∧ p ≠ g := by
  obtain ⟨r, t, ns, D⟩ := D
  exact ⟨Ne.symm (ne_of_none D.dic h), Ne.symm (ne_of_none D.lst h)⟩
theorem pick_of (l : List Int) (hi : Int) (hl : l.length = 8) (hb : ∀ x ∈ l, 0 ≤ x ∧ x ≤ hi) {v : Int} (v0 : 0 ≤ v) (v1 : v < 12) :
    ∃ j x : Int, atI ([0, 1, 2, 3, 4, 5, 6, 7, 7, 7, 7, 7].map V.int) v = some (.int j) ∧ atI (l.map V.int) j = some (.int x) ∧ 0 ≤ x ∧ x ≤ hi := by
  obtain ⟨j, hj, ej⟩ := Gx.pick (l := [0, 1, 2, 3, 4, 5, 6, 7, 7, 7, 7, 7]) (P := fun j => 0 ≤ j ∧ j < 8) (by decide) v0 v1
  obtain ⟨x, hx, ex⟩ := Gx.pick (l := l) (P := fun x => 0 ≤ x ∧ x ≤ hi) hb hj.1 (by omega)
  exact ⟨j, x, ej, ex, hx.1, hx.2⟩
theorem smb {d g b : Addr} {H H' : Hp} {z : HO} (e : ExB d g H H') (h : H b = some z) (n1 : b ≠ d) (n2 : b ≠ g) : H' b = some z := e _ _ h n1 n2
theorem smbK {d g b : Addr} {H H' : Hp} {z : HO} (e : ExB d g H H') (h : H b = some z) (D : Draw H d g) (n : (∀ kvs, z ≠ .dK kvs) ∧ ∀ xs, z ≠ .lst xs) : H' b = some z := e _ _ h (fun q => by
    obtain ⟨r, t, ns, D⟩ := D
    rw [q, D.dic] at h
    exact n.1 _ (Option.some.inj h).symm) (fun q => by
    obtain ⟨r, t, ns, D⟩ := D
    rw [q, D.lst] at h
    exact n.2 _ (Option.some.inj h).symm)
theorem smbN {d g b : Addr} {H H' H0 : Hp} {z : HO} (e : ExB d g H H') (h : H b = some z) (n : H0 b = none) (D : Draw H0 d g) : H' b = some z := e _ _ h (D.nd n).1 (D.nd n).2
theorem ndN {d g p : Addr} {H : Hp} (h : H p = none) (D : Draw H d g) : p ≠ d ∧ p ≠ g := D.nd h
theorem Draw.exp {d g p : Addr} {H H' : Hp} (e : Au.ExP p H H') (D : Draw H d g) (n : p ≠ d ∧ p ≠ g) : Draw H' d g := by
  obtain ⟨r, t, ns, D⟩ := D
  exact ⟨r, t, ns, e _ _ D.dic (Ne.symm n.1), e _ _ D.lst (Ne.symm n.2), D.r0, D.r1⟩
theorem Draw.exq {d g p o : Addr} {H H' : Hp} {C1 C2 d1 d2 : Addr} {f1 f2 : List (Str × V)} (e : Pr.ExQ p o H H') (D : Draw H d g) (hp : H p = some (.ins C1 d1 f1)) (ho : H o = some (.ins C2 d2 f2)) : Draw H' d g := by
  obtain ⟨r, t, ns, D⟩ := D
  exact ⟨r, t, ns, e _ _ D.dic (fun z => by rw [← z, D.dic] at hp; cases hp) (fun z => by rw [← z, D.dic] at ho; cases ho), e _ _ D.lst (fun z => by rw [← z, D.lst] at hp; cases hp) (fun z => by rw [← z, D.lst] at ho; cases ho), D.r0, D.r1⟩
theorem int_at {ns : List Int} {i : Nat} {y : V} (h : (ns.map V.int)[i]? = some y) : ∃ z, ns[i]? = some z ∧ y = .int z := by
  rw [List.getElem?_map] at h
  cases e : ns[i]? with
  | none => rw [e] at h; cases h
  | some z => rw [e] at h; exact ⟨z, rfl, (Option.some.inj h).symm⟩
def spBegun (K : PySem.W.Frag) : Sp := fun vs H Q _ => ∃ (a : Addr) (ns : List Int), vs = [.ref a] ∧ SqL K H a (ns.map V.int) ∧ ns.length ≤ 63 ∧ ∀ H' d g, Rd.Ex H H' → Draw H' d g → Q (.ref d) H'
theorem cal__law_begun (T : Txt K mg C_Linear C_Leaping C_DrawError C_BadSeed C_BadNumber R_ROUNDS) : C8.Cal P w K mg base 1 "_law_begun" (spBegun K) [] := by
  obtain ⟨f, fd, F, b⟩ := T.d__law_begun
  refine C8.cal0 F b .nil sc__law_begun (fun vs H Q E h => ?_) (fun cdv A outer s H vs Q E hr h => ?_)
  · obtain ⟨a, ns, rfl, _⟩ := h; rfl
  · obtain ⟨a, ns, rfl, hS, hl, q⟩ := h
    have hu := hu_of hr
    have hu64 := hr.units
    have cl_Linear := T.cl_Linear
    have n_Linear_s2_x := T.n_Linear_s2_x
    have cl_Leaping := T.cl_Leaping
    have n_Leaping_s2_leap_x := T.n_Leaping_s2_leap_x
    have n_Leaping_s2_every := T.n_Leaping_s2_every
    refine ⟨_, (pss_cons (ps_set (i := 1) sc__law_begun.nd rfl (.inl rfl) (pe_op op_add pe_int (pe_op op_mul pe_int (pe_callB Rd.call_lenQ (by rfl) T.b_len PySem.boot_len (pa_cons (pv 0) pa_nil)))))
      (pss_cons (ps_for PassesOwn.never rfl (pi_enum (by rfl) T.b_enumerate (pa_cons (pv 0) pa_nil)) (pg_tup rfl (pgs_cons (pg_name (i := 2) sc__law_begun.nd rfl (.inl rfl)) (pgs_cons (pg_name (i := 3) sc__law_begun.nd rfl (.inl rfl)) pgs_nil))) (pss_one (ps_set (i := 1) sc__law_begun.nd rfl (.inl rfl) (pe_op op_mod (pe_op op_add (pe_op op_add (pe_op op_mul (pv 1) pe_int) (pv 3)) (pe_op op_mul pe_int (pv 2))) pe_int))))
      (pss_one (ps_ret (pe_disp (pps_cons pe_str (pv 1) (pps_cons pe_str (pe_lc (own := [("_law_cell", 3)]) rfl sc__law_begun.nd (pi_list (pv 0)) (blkOk_by (N := ["_law_script", "_law_run", "_law_k", "_law_cell"]) (sc := C8.fnScope s__law_begun) (by decide +kernel)) (fun _ _ _ _ _ => (pg_name (i := 3) sc__law_begun.nd rfl (.inl rfl))) (fun _ _ _ _ _ => (pts_one (pt_cmpR op_ge (pv 3) (pe_op op_pow pe_int pe_int) (nomark _)))) (fun _ _ _ _ _ => (pv 3))) (pps_cons pe_str pe_int pps_nil))) rfl rfl (by simp) (by decide)))))), ?_⟩
    walk_at "rd"
    refine Rd.lenL hS ?_
    have hl' : ((ns.map V.int).length : Int) ≤ 63 := by rw [List.length_map]; omega
    have hl0 : (0 : Int) ≤ ((ns.map V.int).length : Int) := by omega
    walk_at "rd"
    refine ⟨a, _, rfl, hS, for_it (walk_enum (K := K) (a := a) (xs := ns.map V.int)) (fun i σ' H' => ∃ (r : Int) (y2 y3 : Option V), σ' = [some (.ref a), some (.int r), y2, y3] ∧ Rd.Ex H H' ∧ 0 ≤ r ∧ r < 2305843009213693951)
      ⟨_, none, none, rfl, Same.refl H, by omega, by omega⟩ (fun i σ' H' _ hh => ?_) ?_ ?_⟩
    · obtain ⟨_, _, _, _, e, _⟩ := hh
      exact Rd.ex_l e hS
    · rintro i x σ' H' H2 hi ⟨r, y2, y3, rfl, e, r0, r1⟩ ⟨t, x1, x2, rfl, nt, rfl, e1, e2⟩
      obtain ⟨z, hz, rfl⟩ := int_at e2
      cases e1
      walk_at "rd"
      exact ⟨_, _, _, rfl, e.trans (Rd.ex_new nt), by omega, by omega⟩
    · rintro σ' H' ⟨r, y2, y3, rfl, e, r0, r1⟩
      walk_at "rd"
      intro p hp
      walk_at "rd"
      have e1 : Rd.Ex H (upd H' p (.dK [])) := e.trans (Rd.ex_new hp)
      refine ⟨a, rfl, ⟨_, Rd.ex_l e1 hS⟩, fun D hD => lc_list (K := K) (a := a) (xs := ns.map V.int) (fun i H3 => ∃ ms : List Int, H3 D = some (.lst (ms.map V.int)) ∧ ms.length ≤ i ∧ Rd.Ex (upd H' p (.dK [])) H3)
        ⟨[], upd_same, Nat.le_refl _, Rd.ex_new hD⟩ (fun i H3 _ hh => ?_) ?_ ?_⟩
      · obtain ⟨_, _, _, x3⟩ := hh
        exact Rd.ex_l (e1.trans x3) hS
      · rintro i y H3 hi ⟨ms, hm, lm, x3⟩
        obtain ⟨z, hz, rfl⟩ := int_at hi
        have hi2 : i < 63 := by
          have := (List.getElem?_eq_some_iff.mp hz).1
          omega
        walk_at "rd"
        refine ⟨rfl, ?_⟩
        walk_at "rd"
        refine Rd.both (fun c => ?_) (fun c => ?_)
        · walk_at "rd"
          refine ⟨_, hm, by rw [List.length_map]; exact small1000 (by omega), ms ++ [z], ?_, by rw [List.length_append, List.length_singleton]; omega, Rd.ex_mut x3 hD⟩
          rw [upd_same, List.map_append]
          rfl
        · exact ⟨ms, hm, by omega, x3⟩
      · rintro H3 ⟨ms, hm, lm, x3⟩
        walk_at "rd"
        refine ⟨x3 _ _ upd_same, [(kRun, .int r), (kGreat, .ref D), (kTurn, .int 0)], rfl, by show 3 ≤ 15; decide, ?_⟩
        rw [Gx.merge3 n_rg n_rt n_gt]
        have npD : D ≠ p := fun z => by subst z; rw [upd_same] at hD; cases hD
        refine q _ p D ?_ ⟨r, 0, ms, upd_same, by rw [upd_ne npD]; exact hm, r0, r1⟩
        intro b o hb
        have nb : b ≠ p := ne_of_none (e _ _ hb) hp
        rw [upd_ne nb]
        exact x3 _ _ (e1 _ _ hb)
end
end Pf

set_option Elab.async false
set_option linter.all false
set_option maxRecDepth 100000
set_option maxHeartbeats 4000000
set_option exponentiation.threshold 3000
namespace Pf
open PySem PySem.Spec PyProof.Rows L2
section
variable {P : Program} {w : World} {K : PySem.W.Frag} {mg : Str → Option Value} {base : Heap} {C_Linear C_Leaping C_DrawError C_BadSeed C_BadNumber R_ROUNDS : Addr}
local macro_rules | `(tactic| walk_at "side") => `(tactic| first | ((with_reducible show L2.CMul _ _); first | exact Or.inl ⟨by omega, by omega⟩ | exact Or.inr ⟨by omega, by omega⟩) | ((with_reducible show L2.CPow _ _); exact ⟨by decide, by decide, by decide⟩) | ((with_reducible show L2.CMulW _ _); exact wide_mul (a := 96) (b := 96) (by omega) (by omega) (by decide) (by decide) (by decide)) | ((with_reducible show L2.CDivW _ _); first | exact wide_div (b := 96) (by omega) (by omega) (by decide) (by decide) | exact wide_div (b := 300) (by omega) (by omega) (by decide) (by decide)) | (show (0 : Int) < _; omega) | (show (0 : Int) ≤ _; omega))
local macro_rules | `(tactic| walk_at "rd1") => `(tactic| first | with_reducible refine Rd.seq ?_ | with_reducible refine Rd.asg ?_ | with_reducible refine Rd.nm ?_ | with_reducible refine Rd.ret ?_ | with_reducible refine Rd.drop ?_ | with_reducible refine Rd.ifs ?_ | with_reducible refine Rd.par ?_ | with_reducible refine Rd.par3 ?_ | with_reducible refine Rd.next ?_ | with_reducible refine Rd.fr1 ?_ | with_reducible refine Rd.nxp ?_ | with_reducible refine Rd.rtp ?_ | ((with_reducible show tVar _ _ _ _); refine Rd.var rfl ?_) | with_reducible refine Rd.cst ?_ | with_reducible refine Rd.op ?_ | with_reducible refine Rd.un ?_ | with_reducible refine Rd.i0 ?_ | with_reducible refine Rd.ung ?_ | with_reducible refine Rd.eqI ?_ | with_reducible refine Rd.neI ?_ | with_reducible refine Rd.eqS ?_ | with_reducible refine Rd.neS ?_ | with_reducible refine Rd.test ?_ | with_reducible refine Rd.tstB ?_ | with_reducible refine Rd.isB ?_ | with_reducible refine Rd.not ?_ | with_reducible refine Rd.andT ?_ | with_reducible refine Rd.orT ?_ | with_reducible refine Rd.andV ?_ | with_reducible refine Rd.orV ?_ | with_reducible refine Rd.notV ?_ | with_reducible refine Rd.ifE ?_ | with_reducible refine Rd.chain ?_ | with_reducible refine Rd.nil ?_ | with_reducible refine Rd.cons ?_ | with_reducible refine Rd.call ?_ | with_reducible refine Rd.cb ?_ | with_reducible refine Rd.bm ?_ | with_reducible refine Au.revL ?_ | with_reducible refine Rd.frl ?_ | with_reducible refine Rd.frt ?_ | with_reducible refine Rd.fre ?_ | with_reducible refine Rd.disp ?_ | with_reducible refine Rd.pnil ?_ | with_reducible refine Rd.pcons ?_ | with_reducible refine Rd.gcons ?_ | with_reducible refine Rd.gnil ?_ | with_reducible refine Rd.gsub ?_ | with_reducible refine Rd.setD ?_ | ((with_reducible show gTup _ _ _ _ _ (upd _ _ (HO.tup _)) _); refine Rd.tupNew rfl ?_) | with_reducible refine Rd.fld ?_ | with_reducible refine Rd.meth ?_ | with_reducible refine Rd.make ?_ | with_reducible refine Rd.prop ?_ | with_reducible refine Au.tup ?_ | with_reducible refine Au.lst ?_ | ((with_reducible refine Au.lenOk ?hl ?_); (case hl => exact rfl)) | with_reducible refine Au.nopart ?_ | with_reducible refine Au.part ?_ | with_reducible refine Au.isI ?_ | with_reducible refine Au.sl ?_ | with_reducible refine Au.pr2 ?_ | with_reducible refine Au.pr3 ?_ | with_reducible refine Au.eqB ?_ | with_reducible refine Rd.isInt ?_ | with_reducible refine Rd.isBool ?_ | with_reducible refine Rd.mx2 ?_ | with_reducible refine Rd.mn2 ?_ | ((with_reducible show Rd.rAndM _ _ _ _); first | refine Rd.and1 ?_ | refine Rd.and48 ?_ | refine Rd.and32 ?_ | refine Rd.and64 ?_ | refine Rd.and65 ?_) | ((with_reducible refine Rd.iC ?hc ?_); (case hc => walk_at "side")) | ((with_reducible refine Rd.yes ?hc ?_); (case hc => first | omega | exact rfl)) | ((with_reducible refine Rd.no ?hc ?_); (case hc => omega)) | ((with_reducible refine Rd.noN ?hc ?_); (case hc => first | omega | exact rfl)) | ((with_reducible refine Rd.yesN ?hc ?_); (case hc => omega)) | ((with_reducible refine Rd.yesNN ?hc ?_); (case hc => omega)) | ((with_reducible refine Rd.noNN ?hc ?_); (case hc => omega)) | with_reducible refine iteT ?_ | with_reducible refine iteF ?_ | with_reducible refine Rd.iteNT ?_ | with_reducible refine Rd.iteNF ?_)
local macro_rules | `(tactic| walk_at "rd") => `(tactic| repeat (walk_at "rd1"))
local macro_rules | `(tactic| walk_at "hp") => `(tactic| first | assumption | (apply Au.sm; (focus assumption); (walk_at "hp")) | (apply Au.smp; (focus assumption); (focus (walk_at "hp")); (walk_at "ne")) | (apply Au.smn; (focus assumption); (focus (walk_at "hp")); (focus (intro _ z; cases z; done))) | fail "hp")
local macro_rules | `(tactic| walk_at "ne") => `(tactic| first | assumption | (apply Ne.symm; assumption) | (apply Au.nen; (focus assumption); (walk_at "hp")) | (apply Au.nen'; (focus assumption); (walk_at "hp")) | (apply Au.nek; (focus assumption); (focus assumption); (intro z; cases z; done)) | (apply Au.nek2; (focus assumption); (focus (walk_at "hp")); (intro z; cases z; done)) | fail "ne")
local macro_rules | `(tactic| walk_at "dp") => `(tactic| first | exact Dp.int _ | exact Dp.str _ | exact Dp.bl _ | exact Dp.non | (apply Dp.lst; (focus (apply Rd.sql; walk_at "hp")); (walk_at "dps")) | (apply Dp.tup; (focus (apply Rd.sqt; walk_at "hp")); (walk_at "dps")) | fail "dp")
local macro_rules | `(tactic| walk_at "dps") => `(tactic| first | exact DpAll.nil | (apply DpAll.cons; (focus (walk_at "dp")); (walk_at "dps")) | fail "dps")
local macro_rules | `(tactic| walk_at "shp") => `(tactic| ((simp only [SeqAt.shaped, PyData.canLay0, PyData.canLayAll0, PyData.depth, PyData.depthAll]) <;> first | decide | rfl))
local macro_rules | `(tactic| walk_at "sd") => `(tactic| first | assumption | rfl | omega | (walk_at "hp") | (refine ⟨?_, ?_⟩; (focus (walk_at "sd")); (walk_at "sd")) | fail "sd")
local macro_rules | `(tactic| walk_at "lk") => `(tactic| first | exact Rd.lk1 | rfl | decide +kernel)
local macro_rules | `(tactic| walk_at "rd1") => `(tactic| first | with_reducible refine Pr.dget ?_ | with_reducible refine Pr.dput ?_ | with_reducible refine Pr.sfld ?_ | with_reducible refine Pr.u_isInt ?_ | ((with_reducible show Pr.spNeed _ _ _ _ _ _); refine Pr.u_need (by omega) (by omega) ?_) | ((with_reducible show Pr.spIs _ _ _ _ _ _); refine Pr.u_isIn (by omega) ?_) | ((with_reducible apply Rd.fld1); (focus (walk_at "hp")); (focus assumption); (focus assumption); (focus (walk_at "lk"))) | ((with_reducible apply Au.methO); (focus (walk_at "hp")); (focus (walk_at "lk"))) | ((with_reducible apply Au.propO); (focus (walk_at "hp"))) | ((with_reducible show rIxT _ (V.ref _) (V.int _) _ _); refine Rd.ixT (Rd.sqt (by walk_at "hp")) rfl ?_) | ((with_reducible show rIxL _ (V.ref _) (V.int _) _ _); refine Rd.ixL (Rd.sql (by walk_at "hp")) rfl ?_) | ((with_reducible show Rd.rLenQ _ [V.ref _] _ _); first | refine Rd.lenL (Rd.sql (by walk_at "hp")) ?_ | refine Rd.lenT (Rd.sqt (by walk_at "hp")) ?_) | ((with_reducible show gTup _ _ _ (V.ref _) _ _ _); refine Rd.gtup (Rd.sqt (by walk_at "hp")) rfl ?_) | with_reducible refine Gx.gat ?_ | with_reducible refine Gx.gnx ?_ | with_reducible refine Gx.gthen ?_ | with_reducible refine Gx.gplain ?_ | with_reducible refine Gx.gfr ?_ | with_reducible refine Gx.lg ?_ | with_reducible refine Gx.mg ?_ | with_reducible refine Gx.sme ?_ | with_reducible refine Gx.callSD ?_ | with_reducible refine Gx.methSD ?_)
local macro_rules | `(tactic| walk_at "rd1") => `(tactic| first | with_reducible refine Gx.mkR ?_ | ((with_reducible refine Gx.makeV ?hs ?_); (case hs => rfl)) | with_reducible refine Gx.smeX ?_ | with_reducible refine Gx.cmX ?_ | with_reducible refine Gx.isBl ?_ | with_reducible refine Gx.notBl ?_ | with_reducible refine Gx.xk ?_ | with_reducible refine Gx.fr3 ?_ | with_reducible refine Gx.makeD ?_ | with_reducible refine Gx.frz ?_ | with_reducible refine Gx.lcO ?_ | with_reducible refine Gx.itupO ?_ | with_reducible refine Gx.ilistO ?_ | with_reducible refine Gx.irng1O ?_ | with_reducible refine Gx.ival ?_ | ((with_reducible apply Gx.ivalO); (focus (walk_at "hp")); (focus assumption); (focus assumption); (focus (walk_at "lk"))) | ((with_reducible show Gx.rTupOf _ [V.ref _] _ _); refine Gx.tupOfL (Rd.sql (by walk_at "hp")) ?_) | ((with_reducible show Gx.rLstOf _ [V.ref _] _ _); first | refine Gx.lstOfL (Rd.sql (by walk_at "hp")) ?_ | refine Gx.lstOfT (Rd.sqt (by walk_at "hp")) ?_))
local macro_rules | `(tactic| walk_at "hp") => `(tactic| first | assumption | (apply Pr.smq; (focus assumption); (focus (walk_at "hp")); (focus (walk_at "ne")); (walk_at "ne")))
local macro_rules | `(tactic| walk_at "hp") => `(tactic| first | assumption | (apply smb; (focus assumption); (focus (walk_at "hp")); (focus assumption); assumption) | (apply smbK; (focus assumption); (focus (walk_at "hp")); (focus (walk_at "dr")); (constructor <;> (intro _ z; cases z; done))) | (apply smbN; (focus assumption); (focus (walk_at "hp")); (focus assumption); (walk_at "dr")))
local macro_rules | `(tactic| walk_at "dr") => `(tactic| first | assumption | (apply Draw.ex; (focus assumption); (walk_at "dr")) | (apply Draw.exp; (focus assumption); (focus (walk_at "dr")); (focus (walk_at "nd"))) | fail "dr")
local macro_rules | `(tactic| walk_at "nd") => `(tactic| first | assumption | (apply ndN; (focus assumption); (walk_at "dr")) | fail "nd")
local macro_rules | `(tactic| walk_at "rd1") => `(tactic| first | with_reducible refine Gx.istrO ?_ | with_reducible refine Gx.frS ?_ | with_reducible refine Gx.ord1 ?_)
local macro_rules | `(tactic| walk_at "side") => `(tactic| first | ((with_reducible show L2.CMulW _ _); first | decide +kernel | exact wide_mul (a := 96) (b := 96) (by omega) (by omega) (by decide) (by decide) (by decide) | exact wide_mul (a := 300) (b := 96) (by decide) (by decide) (by decide) (by decide) (by decide) | exact wide_mul (a := 160) (b := 96) (by omega) (by omega) (by decide) (by decide) (by decide)))
/-- signs of a right text -/
def okS (c : Nat) : Prop := 32 ≤ c ∧ c ≤ 126 ∧ c ≠ 37
instance (c : Nat) : Decidable (okS c) := inferInstanceAs (Decidable (_ ∧ _ ∧ _))
def okT (z : Str) : Bool := decide (z.cps.size ≤ 100) && z.cps.toList.all fun c => decide (okS c)
/-- neither an integer nor a text -/
def NonIS (H : Hp) (v : V) : Prop := v = .non ∨ (∃ b, v = .bl b) ∨ (∃ a xs, v = .ref a ∧ H a = some (.tup xs)) ∨ (∃ a xs, v = .ref a ∧ H a = some (.lst xs)) ∨ ∃ a, v = .ref a ∧ H a = some (.dK [])
theorem kit_s (K : PySem.W.Frag) : PySem.W.kitOne K (.type "NoneType") (.type "str") = some false ∧ PySem.W.kitOne K (.type "bool") (.type "str") = some false ∧ PySem.W.kitOne K (.type "int") (.type "str") = some false ∧ PySem.W.kitOne K (.type "str") (.type "str") = some true ∧
    PySem.W.kitOne K (.type "tuple") (.type "str") = some false ∧ PySem.W.kitOne K (.type "list") (.type "str") = some false ∧ PySem.W.kitOne K (.type "dict") (.type "str") = some false := by
  refine ⟨?_, ?_, ?_, ?_, ?_, ?_, ?_⟩ <;> first | rfl | decide +kernel | kernel_rfl
theorem isS_no {K : PySem.W.Frag} {H : Hp} {Q : VK} {v : V} (h : NonIS H v ∨ ∃ n, v = .int n) (q : Q (.bl false) H) : rIsi K [v, .ty "str"] H Q := by
  obtain ⟨k1, k2, k3, k4, k5, k6, k7⟩ := kit_s K
  rcases h with (rfl | ⟨b, rfl⟩ | ⟨a, xs, rfl, ha⟩ | ⟨a, xs, rfl, ha⟩ | ⟨a, rfl, ha⟩) | ⟨n, rfl⟩
  · exact isiB (.base .non) k1 q
  · exact isiB (.base (.bl b)) k2 q
  · exact isiB (.base (.tup ha)) k5 q
  · exact isiB (.base (.lst ha)) k6 q
  · exact isiB (.base (.dK ha)) k7 q
  · exact isiB (.base (.int n)) k3 q
theorem isS_yes {K : PySem.W.Frag} {H : Hp} {Q : VK} {z : Str} (q : Q (.bl true) H) : rIsi K [.str z, .ty "str"] H Q := isiB (.base (.str z)) (kit_s K).2.2.2.1 q
def spIsT : Sp := fun vs H Q _ => ∃ v, vs = [v] ∧ ((∃ z, v = .str z ∧ z.cps.size ≤ 1000 ∧ ∀ H', Rd.Ex H H' → Q (.bl (okT z)) H') ∨ ((NonIS H v ∨ ∃ n, v = .int n) ∧ Q (.bl false) H))
theorem okS_1 {c : Nat} (h1 : (32 : Int) ≤ c) (h2 : (c : Int) ≤ 126) : (!decide ((c : Int) = 37)) = decide (okS c) := by
  by_cases h : c = 37
  · subst h; decide
  · rw [decide_eq_false (show ¬ (c : Int) = 37 by omega), decide_eq_true (show okS c from ⟨by omega, by omega, h⟩)]; rfl
theorem okS_0 {c : Nat} (h : ¬ okS c) : false = decide (okS c) := (decide_eq_false h).symm
theorem cal_is_seed_text (T : Txt K mg C_Linear C_Leaping C_DrawError C_BadSeed C_BadNumber R_ROUNDS) : C8.Cal P w K mg base 1 "is_seed_text" (spIsT) [] := by
  obtain ⟨f, fd, F, b⟩ := T.d_is_seed_text
  refine C8.cal0 F b .nil sc_is_seed_text (fun vs H Q E h => ?_) (fun cdv A outer s H vs Q E hr h => ?_)
  · obtain ⟨v, rfl, _⟩ := h; rfl
  · obtain ⟨v, rfl, h⟩ := h
    have hu := hu_of hr
    have hu64 := hr.units
    have cl_Linear := T.cl_Linear
    have n_Linear_s2_x := T.n_Linear_s2_x
    have cl_Leaping := T.cl_Leaping
    have n_Leaping_s2_leap_x := T.n_Leaping_s2_leap_x
    have n_Leaping_s2_every := T.n_Leaping_s2_every
    refine ⟨_, (pss_cons (ps_if (PW.pt (pw_or (pt_not (pt_val (pe_callB call_isi (by rfl) T.b_isinstance (by decide +kernel) (pa_cons (pv 0) (pa_cons (pe_bltn (v := .ty "str") (by rfl) T.b_str (by decide +kernel) rfl) pa_nil))))) (pw_or1 (pt_cmpR op_gt (pe_callB Gx.call_lenS (by rfl) T.b_len PySem.boot_len (pa_cons (pv 0) pa_nil)) (C8.pe_gc (by rfl) T.c_MOST_CHARACTERS) (nomark _))))) (pss_one (ps_ret pe_bl)) pss_nil)
      (pss_one (ps_ret (pe_callB (cr_all rfl) (by rfl) T.b_all (by decide +kernel) (pa_cons (pe_lc (own := [("character", 1)]) rfl sc_is_seed_text.nd (pi_str (pv 0)) (blkOk_by (N := ["value", "character"]) (sc := C8.fnScope s_is_seed_text) (by decide +kernel)) (fun _ _ _ _ _ => (pg_name (i := 1) sc_is_seed_text.nd rfl (.inl rfl))) (fun _ _ _ _ _ => pts_nil) (fun _ _ _ _ _ => (pe_and (pe_chain op_le op_le pe_int (pe_callB Gx.call_ordQ (by rfl) T.b_ord (by decide +kernel) (pa_cons (pv 1) pa_nil)) pe_int) (pe_one (pe_cmpR op_ne (pe_callB Gx.call_ordQ (by rfl) T.b_ord (by decide +kernel) (pa_cons (pv 1) pa_nil)) pe_int (nomark _)))))) pa_nil))))), ?_⟩
    walk_at "rd"
    rcases h with ⟨z, rfl, hz, q⟩ | ⟨h, q⟩
    · refine isS_yes ?_
      walk_at "rd"
      refine Gx.lenS hz ?_
      walk_at "rd"
      refine Rd.both (fun c => ?_) (fun c => ?_)
      · walk_at "rd"
        have : okT z = false := by unfold okT; rw [decide_eq_false (by omega)]; rfl
        rw [this] at q
        exact q H fun _ _ h => h
      · walk_at "rd"
        have fin : ∀ (D : Addr) (k : Nat) (c : Nat) (acc : List V) (H' : Hp) (b : Bool), b = decide (okS c) → z.cps[k]? = some c → acc.length ≤ k → H' D = some (.lst acc) → H D = none → acc = (z.cps.toList.take k).map (fun c => V.bl (decide (okS c))) ∧ Rd.Ex H H' →
            Gx.LcN (fun D k acc H' => acc = (z.cps.toList.take k).map (fun c => V.bl (decide (okS c))) ∧ Rd.Ex H H') D k (V.bl b) H' := by
          rintro D k c acc H' b rfl hc hl hk hD ⟨rfl, e⟩
          have hlt : k < z.cps.size := by
            rcases Nat.lt_or_ge k z.cps.size with h | h
            · exact h
            · rw [Array.getElem?_eq_none h] at hc; cases hc
          refine Gx.lcN hk hl (by omega) fun H5 m5 k5 => ⟨?_, fun c o h => by walk_at "hp"⟩
          have hc' : z.cps.toList[k]? = some c := by rw [Array.getElem?_toList]; exact hc
          obtain ⟨h1, h2⟩ := List.getElem?_eq_some_iff.mp hc'
          rw [List.take_succ_eq_append_getElem h1, h2, List.map_append]
          rfl
        refine ⟨z, rfl, Gx.lcStr (fun D k acc H' => acc = (z.cps.toList.take k).map (fun c => V.bl (decide (okS c))) ∧ Rd.Ex H H') (fun D H1 hD e1 k1 => ⟨rfl, e1⟩) (fun D k c acc H' hD hc hl hk p => ?_) (fun D acc H' hD hk p => ?_)⟩
        · walk_at "rd"
          refine Rd.both (fun c1 => ?_) (fun c1 => ?_)
          · walk_at "rd"
            refine Rd.both (fun c2 => ?_) (fun c2 => ?_)
            · walk_at "rd"
              exact fin D k c acc H' _ (okS_1 c1 c2) hc hl hk hD p
            · walk_at "rd"
              exact fin D k c acc H' _ (okS_0 fun h => by have := h.1; have := h.2.1; omega) hc hl hk hD p
          · walk_at "rd"
            exact fin D k c acc H' _ (okS_0 fun h => by have := h.1; have := h.2.1; omega) hc hl hk hD p
        · obtain ⟨rfl, e⟩ := p
          walk_at "rd"
          refine Gx.allL (bs := z.cps.toList.map fun c => decide (okS c)) (Rd.sql (by rw [hk, List.map_map, ← Array.length_toList, List.take_length]; rfl)) ?_
          walk_at "rd"
          have : okT z = (List.map (fun c => decide (okS c)) z.cps.toList).all id := by
            unfold okT
            rw [decide_eq_true (show z.cps.size ≤ 100 by omega), Bool.true_and, List.all_map]
            rfl
          rw [← this]
          exact q H' e
    · refine isS_no h ?_
      walk_at "rd"
      exact q
abbrev SEEDN : Nat := 115792089237316195423570985008687907853269984665640564039457584007913129639936
def fold256 (f : Nat) (l : List Nat) : Nat := l.foldl (fun f c => (257 * f + c) % SEEDN) f
theorem fold_snoc (f : Nat) (l : List Nat) (c : Nat) : fold256 f (l ++ [c]) = (257 * fold256 f l + c) % SEEDN := by simp [fold256]
theorem and256 {i : Int} {H : Hp} {Q : VK} (h : Q (.int (i % 115792089237316195423570985008687907853269984665640564039457584007913129639936)) H) : Rd.rAndM (.int i) (.int (115792089237316195423570985008687907853269984665640564039457584007913129639936 - 1)) H Q :=
  Rd.andM 256 (by decide) (by rw [show (2 : Int) ^ 256 = 115792089237316195423570985008687907853269984665640564039457584007913129639936 by decide]; exact h)
theorem modS (m c : Nat) : (257 * (m : Int) + (c : Int)) % 115792089237316195423570985008687907853269984665640564039457584007913129639936 = (((257 * m + c) % SEEDN : Nat) : Int) := by
  rw [Int.natCast_emod, Int.natCast_add, Int.natCast_mul]; rfl
/-- a value as a seed: its number, if it is one -/
inductive Sd (H : Hp) : V → Option Nat → Prop
  | int (n : Int) : Sd H (.int n) (if 0 ≤ n ∧ n < 115792089237316195423570985008687907853269984665640564039457584007913129639936 then some n.toNat else none)
  | str (z : Str) (h : z.cps.size ≤ 1000) : Sd H (.str z) (if okT z = true then some (fold256 1 z.cps.toList) else none)
  | non {v : V} (h : NonIS H v) : Sd H v none
theorem NonIS.ni {H : Hp} {v : V} (h : NonIS H v) : Pr.NonInt H v := by
  rcases h with h | h | h | h | ⟨a, h, k⟩
  · exact .inl h
  · exact .inr (.inl h)
  · exact .inr (.inr (.inr (.inl h)))
  · exact .inr (.inr (.inr (.inr (.inl h))))
  · exact .inr (.inr (.inr (.inr (.inr ⟨a, [], h, k⟩))))
theorem NonIS.ex {H H' : Hp} {v : V} (e : Rd.Ex H H') (h : NonIS H v) : NonIS H' v := by
  rcases h with h | h | ⟨a, xs, h, k⟩ | ⟨a, xs, h, k⟩ | ⟨a, h, k⟩
  · exact .inl h
  · exact .inr (.inl h)
  · exact .inr (.inr (.inl ⟨a, xs, h, e _ _ k⟩))
  · exact .inr (.inr (.inr (.inl ⟨a, xs, h, e _ _ k⟩)))
  · exact .inr (.inr (.inr (.inr ⟨a, h, e _ _ k⟩)))
theorem Sd.ex {H H' : Hp} {v : V} {r : Option Nat} (e : Rd.Ex H H') (h : Sd H v r) : Sd H' v r := by
  cases h with
  | int n => exact .int n
  | str z h => exact .str z h
  | non h => exact .non (h.ex e)
theorem ex_none {H H1 : Hp} {p : Addr} (e : Rd.Ex H H1) (h : H1 p = none) : H p = none := by
  cases hh : H p with
  | none => rfl
  | some o => rw [e p o hh] at h; cases h
def spIsSeed : Sp := fun vs H Q _ => ∃ v r, vs = [v] ∧ Sd H v r ∧ ∀ H', Rd.Ex H H' → Q (.bl r.isSome) H'
theorem rex (H : Hp) : Rd.Ex H H := fun _ _ h => h
theorem cal_is_seed (T : Txt K mg C_Linear C_Leaping C_DrawError C_BadSeed C_BadNumber R_ROUNDS) : C8.Cal P w K mg base 2 "is_seed" (spIsSeed) [] := by
  obtain ⟨f, fd, F, b⟩ := T.d_is_seed
  refine C8.cal0 F b .nil sc_is_seed (fun vs H Q E h => ?_) (fun cdv A outer s H vs Q E hr h => ?_)
  · obtain ⟨v, r, rfl, _⟩ := h; rfl
  · obtain ⟨v, r, rfl, S, q⟩ := h
    have hu := hu_of hr
    have hu64 := hr.units
    have cl_Linear := T.cl_Linear
    have n_Linear_s2_x := T.n_Linear_s2_x
    have cl_Leaping := T.cl_Leaping
    have n_Leaping_s2_leap_x := T.n_Leaping_s2_leap_x
    have n_Leaping_s2_every := T.n_Leaping_s2_every
    refine ⟨_, (pss_one (ps_ret (pe_or (pe_and (C8.pe_c (cal_is_integer T) hr (by omega) (by rfl) (pa_cons (pv 0) pa_nil)) (pe_one (pe_chain op_le op_lt pe_int (pv 0) (C8.pe_gc (by rfl) T.c_SEEDS)))) (pe_one (C8.pe_c (cal_is_seed_text T) hr (by omega) (by rfl) (pa_cons (pv 0) pa_nil)))))), ?_⟩
    walk_at "rd"
    cases S with
    | int n =>
      walk_at "rd"
      refine Rd.both (fun c1 => ?_) (fun c1 => ?_)
      · walk_at "rd"
        refine Rd.both (fun c2 => ?_) (fun c2 => ?_)
        · have q := q H (rex H)
          rw [if_pos ⟨c1, c2⟩] at q
          exact q
        · walk_at "rd"
          refine ⟨_, rfl, .inr ⟨.inr ⟨n, rfl⟩, ?_⟩⟩
          walk_at "rd"
          have q := q H (rex H)
          rw [if_neg (fun h => c2 h.2)] at q
          exact q
      · walk_at "rd"
        refine ⟨_, rfl, .inr ⟨.inr ⟨n, rfl⟩, ?_⟩⟩
        walk_at "rd"
        have q := q H (rex H)
        rw [if_neg (fun h => c1 h.1)] at q
        exact q
    | str z h =>
      refine ⟨_, rfl, .inr ⟨.inr (.inr (.inl ⟨z, rfl⟩)), ?_⟩⟩
      walk_at "rd"
      refine ⟨_, rfl, .inl ⟨z, rfl, h, fun H' e => ?_⟩⟩
      walk_at "rd"
      have q := q H' e
      cases hz : okT z with
      | true => rw [if_pos hz] at q; exact q
      | false => rw [if_neg (by rw [hz]; decide)] at q; exact q
    | non h =>
      refine ⟨_, rfl, .inr ⟨h.ni, ?_⟩⟩
      walk_at "rd"
      refine ⟨_, rfl, .inr ⟨.inl h, ?_⟩⟩
      walk_at "rd"
      exact q H (rex H)
/-- what a def does with a seed: g of its number, or BadSeed -/
def spSeed (CE : Addr) (g : V → Nat → V) : Sp := fun vs H Q E => ∃ v r, vs = [v] ∧ Sd H v r ∧ (∀ n, r = some n → ∀ H', Rd.Ex H H' → Q (g v n) H') ∧ (r = none → ∀ d H', H d = none → Rd.Ex H H' → H' d = some (.xd [("given", v)]) → E (.ref CE) (some d) H')
theorem calx_need_seed (T : Txt K mg C_Linear C_Leaping C_DrawError C_BadSeed C_BadNumber R_ROUNDS) : Gx.CalX P w K mg base 10 "need_seed" (spSeed C_BadSeed fun _ _ => .non) := by
  obtain ⟨f, fd, F, b⟩ := T.d_need_seed
  refine Gx.calX F b sc_need_seed (fun vs H Q E h => ?_) (fun cdv A outer s H vs Q E hr h => ?_)
  · obtain ⟨v, r, rfl, _⟩ := h; rfl
  · obtain ⟨v, r, rfl, S, q1, q2⟩ := h
    have hu := hu_of hr
    have hu64 := hr.units
    have cl_Linear := T.cl_Linear
    have n_Linear_s2_x := T.n_Linear_s2_x
    have cl_Leaping := T.cl_Leaping
    have n_Leaping_s2_leap_x := T.n_Leaping_s2_leap_x
    have n_Leaping_s2_every := T.n_Leaping_s2_every
    refine ⟨_, (pss_one (ps_if (pt_not (pt_val (C8.pe_c (cal_is_seed T) hr (by omega) (by rfl) (pa_cons (pv 0) pa_nil)))) (pss_one (ps_raise rfl Gx.takes_cx (Gx.pmk_exY (exc_BadSeed T) hr (by omega) (by rfl) (pa_cons (pv 0) pa_nil)))) pss_nil)), ?_⟩
    walk_at "rd"
    refine ⟨v, r, rfl, S, fun H1 e1 => ?_⟩
    cases r with
    | some n =>
      walk_at "rd"
      exact q1 n rfl H1 e1
    | none =>
      walk_at "rd"
      rw [if_pos (show (!(none : Option Nat).isSome) = true from rfl)]
      walk_at "rd"
      refine Gx.mkY fun d H3 hd e3 k3 => ?_
      exact q2 rfl d H3 (ex_none e1 hd) (e1.trans e3) k3
def gNum (_ : V) (n : Nat) : V := .int n
theorem calx_number_of (T : Txt K mg C_Linear C_Leaping C_DrawError C_BadSeed C_BadNumber R_ROUNDS) : Gx.CalX P w K mg base 11 "number_of" (spSeed C_BadSeed gNum) := by
  obtain ⟨f, fd, F, b⟩ := T.d_number_of
  refine Gx.calX F b sc_number_of (fun vs H Q E h => ?_) (fun cdv A outer s H vs Q E hr h => ?_)
  · obtain ⟨v, r, rfl, _⟩ := h; rfl
  · obtain ⟨v, r, rfl, S, q1, q2⟩ := h
    have hu := hu_of hr
    have hu64 := hr.units
    have cl_Linear := T.cl_Linear
    have n_Linear_s2_x := T.n_Linear_s2_x
    have cl_Leaping := T.cl_Leaping
    have n_Leaping_s2_leap_x := T.n_Leaping_s2_leap_x
    have n_Leaping_s2_every := T.n_Leaping_s2_every
    refine ⟨_, (pss_cons (ps_expr (Gx.pe_cx (calx_need_seed T) Gx.takes_cx (fun _ _ _ _ h => h) hr (by omega) (by rfl) (pa_cons (pv 0) pa_nil)))
      (pss_cons (ps_if (pt_not (pt_val (pe_callB call_isi (by rfl) T.b_isinstance (by decide +kernel) (pa_cons (pv 0) (pa_cons (pe_bltn (v := .ty "str") (by rfl) T.b_str (by decide +kernel) rfl) pa_nil))))) (pss_one (ps_ret (pv 0))) pss_nil)
      (pss_cons (ps_set (i := 1) sc_number_of.nd rfl (.inl rfl) pe_int)
      (pss_cons (ps_for (passes_of rfl) rfl (pi_str (pv 0)) (pg_name (i := 2) sc_number_of.nd rfl (.inl rfl)) (pss_one (ps_set (i := 1) sc_number_of.nd rfl (.inl rfl) (pe_op Rd.op_andM (pe_op op_add (pe_op op_mul pe_int (pv 1)) (pe_callB Gx.call_ordQ (by rfl) T.b_ord (by decide +kernel) (pa_cons (pv 2) pa_nil))) (pe_op op_sub (C8.pe_gc (by rfl) T.c_SEEDS) pe_int)))))
      (pss_one (ps_ret (pv 1))))))), ?_⟩
    walk_at "rd"
    refine ⟨v, r, rfl, S, fun n hr H1 e1 => ?_, q2⟩
    have q := q1 n hr
    clear q1 q2
    cases S with
    | non h => cases hr
    | int m =>
      walk_at "rd"
      refine isS_no (.inr ⟨m, rfl⟩) ?_
      walk_at "rd"
      split at hr
      · cases hr
        have q := q H1 e1
        unfold gNum at q
        rw [Int.toNat_of_nonneg (by omega)] at q
        exact q
      · cases hr
    | str z hz =>
      split at hr
      · cases hr
        walk_at "rd"
        refine isS_yes ?_
        walk_at "rd"
        refine ⟨z, rfl, Gx.for_str (fun i σ' H' => ∃ y2, σ' = [some (.str z), some (.int (fold256 1 (z.cps.toList.take i) : Nat)), y2] ∧ H' = H1 ∧ fold256 1 (z.cps.toList.take i) < SEEDN) ⟨none, rfl, rfl, show 1 < SEEDN by decide⟩ ?_ ?_⟩
        · rintro i c σ' H' hc ⟨y2, rfl, rfl, hf⟩
          have hc' : z.cps.toList[i]? = some c := by rw [Array.getElem?_toList]; exact hc
          obtain ⟨h1, h2⟩ := List.getElem?_eq_some_iff.mp hc'
          rw [List.take_succ_eq_append_getElem h1, h2, fold_snoc]
          generalize fold256 1 (z.cps.toList.take i) = m at hf
          walk_at "rd"
          refine and256 ?_
          walk_at "rd"
          rw [modS]
          exact ⟨_, rfl, rfl, Nat.mod_lt _ (by decide)⟩
        · rintro σ' H' ⟨y2, rfl, rfl, hf⟩
          walk_at "rd"
          rw [← Array.length_toList, List.take_length]
          exact q _ e1
      · cases hr
def coreI (s n : Nat) : Nat → Nat × Nat
  | 0 => (MX.mix s, n)
  | i + 1 => (MX.mix (((coreI s n i).1 + (coreI s n i).2) % 18446744073709551616), (coreI s n i).2 / 18446744073709551616)
def coreN (s n : Nat) : Nat := (coreI s n 4).1
def isTxt : V → Bool
  | .str _ => true
  | _ => false
def sN (v : V) : Nat := if isTxt v = true then 2 else 1
def gCore (v : V) (n : Nat) : V := .int (coreN (sN v) n : Nat)
theorem divD (n : Nat) : ((n : Int)) / 18446744073709551616 = ((n / 18446744073709551616 : Nat) : Int) := (Int.natCast_ediv n 18446744073709551616).symm
theorem modD (n : Nat) : ((n : Int)) % 18446744073709551616 = ((n % 18446744073709551616 : Nat) : Int) := (Int.natCast_emod n 18446744073709551616).symm
theorem isS_any {K : PySem.W.Frag} {H : Hp} {Q : VK} {v : V} {r : Option Nat} (S : Sd H v r) (q : Q (.bl (isTxt v)) H) : rIsi K [v, .ty "str"] H Q := by
  cases S with
  | int n => exact isS_no (.inr ⟨n, rfl⟩) q
  | str z h => exact isS_yes q
  | non h =>
    refine isS_no (.inl h) ?_
    have : isTxt v = false := by rcases h with rfl | ⟨_, rfl⟩ | ⟨_, _, rfl, _⟩ | ⟨_, _, rfl, _⟩ | ⟨_, rfl, _⟩ <;> rfl
    rw [this] at q
    exact q
theorem calx_core_of (T : Txt K mg C_Linear C_Leaping C_DrawError C_BadSeed C_BadNumber R_ROUNDS) : Gx.CalX P w K mg base 12 "core_of" (spSeed C_BadSeed gCore) := by
  obtain ⟨f, fd, F, b⟩ := T.d_core_of
  refine Gx.calX F b sc_core_of (fun vs H Q E h => ?_) (fun cdv A outer s H vs Q E hr h => ?_)
  · obtain ⟨v, r, rfl, _⟩ := h; rfl
  · obtain ⟨v, r, rfl, S, q1, q2⟩ := h
    have hu := hu_of hr
    have hu64 := hr.units
    have cl_Linear := T.cl_Linear
    have n_Linear_s2_x := T.n_Linear_s2_x
    have cl_Leaping := T.cl_Leaping
    have n_Leaping_s2_leap_x := T.n_Leaping_s2_leap_x
    have n_Leaping_s2_every := T.n_Leaping_s2_every
    refine ⟨_, (pss_cons (ps_set (i := 1) sc_core_of.nd rfl (.inl rfl) (Gx.pe_cx (calx_number_of T) Gx.takes_cx (fun _ _ _ _ h => h) hr (by omega) (by rfl) (pa_cons (pv 0) pa_nil)))
      (pss_cons (ps_set (i := 2) sc_core_of.nd rfl (.inl rfl) (C8.pe_c (cal_mixed T) hr (by omega) (by rfl) (pa_cons (pe_ifExp (pt_val (pe_callB call_isi (by rfl) T.b_isinstance (by decide +kernel) (pa_cons (pv 0) (pa_cons (pe_bltn (v := .ty "str") (by rfl) T.b_str (by decide +kernel) rfl) pa_nil)))) pe_int pe_int) pa_nil)))
      (pss_cons (ps_for (passes_of rfl) rfl (pi_range1 rfl T.b_range (pa_cons pe_int pa_nil)) (pg_name (i := 3) sc_core_of.nd rfl (.inl rfl)) (pss_cons (ps_set (i := 2) sc_core_of.nd rfl (.inl rfl) (C8.pe_c (cal_mixed T) hr (by omega) (by rfl) (pa_cons (pe_op Rd.op_andM (pe_op op_add (pv 2) (pv 1)) (pe_op op_sub (C8.pe_gc (by rfl) T.c_DOUBLES) pe_int)) pa_nil)))
      (pss_one (ps_set (i := 1) sc_core_of.nd rfl (.inl rfl) (pe_op op_fdivW (pv 1) (C8.pe_gc (by rfl) T.c_DOUBLES))))))
      (pss_one (ps_ret (pv 2)))))), ?_⟩
    walk_at "rd"
    refine ⟨v, r, rfl, S, fun n hr H1 e1 => ?_, q2⟩
    have q := q1 n hr
    clear q1 q2
    walk_at "rd"
    refine isS_any (S.ex e1) ?_
    walk_at "rd"
    refine Gx.pick_if (fun x H' => x = .int (sN v : Nat) ∧ H' = H1) ?_ (fun c key => ?_) (fun c key => ?_)
    rotate_left
    · exact key _ _ ⟨by unfold sN; rw [if_pos c]; rfl, rfl⟩
    · exact key _ _ ⟨by unfold sN; rw [if_neg c]; rfl, rfl⟩
    rintro _ _ ⟨rfl, rfl⟩
    have hs : sN v < 18446744073709551616 := by unfold sN; split <;> decide
    unfold gCore at q
    generalize sN v = s0 at q hs
    walk_at "rd"
    refine u_fn hs fun H2 e2 => ?_
    walk_at "rd"
    refine Rd.frN (n := 4) rfl (by decide) (fun i σ' H' => ∃ y3, σ' = [some v, some (.int ((coreI s0 n i).2 : Nat)), some (.int ((coreI s0 n i).1 : Nat)), y3] ∧ Rd.Ex H H') ⟨none, rfl, fun c o h => by walk_at "hp"⟩ ?_ ?_
    · rintro i σ' H' hi ⟨y3, rfl, e3⟩
      walk_at "rd"
      rw [← Int.natCast_add, modD]
      refine u_fn (Nat.mod_lt _ (by decide)) fun H4 e4 => ?_
      walk_at "rd"
      rw [divD]
      exact ⟨_, rfl, fun c o h => by walk_at "hp"⟩
    · rintro σ' H' ⟨y3, rfl, e3⟩
      walk_at "rd"
      exact q H' e3
/-- a value as a number of words -/
inductive Mn (H : Hp) : V → Option Nat → Prop
  | int (n : Int) : Mn H (.int n) (if 0 ≤ n ∧ n ≤ 1000 then some n.toNat else none)
  | non {v : V} (h : Pr.NonInt H v) : Mn H v none
theorem NonInt.ex {H H' : Hp} {v : V} (e : Rd.Ex H H') (h : Pr.NonInt H v) : Pr.NonInt H' v := by
  rcases h with h | h | h | ⟨a, xs, h, k⟩ | ⟨a, xs, h, k⟩ | ⟨a, xs, h, k⟩
  · exact .inl h
  · exact .inr (.inl h)
  · exact .inr (.inr (.inl h))
  · exact .inr (.inr (.inr (.inl ⟨a, xs, h, e _ _ k⟩)))
  · exact .inr (.inr (.inr (.inr (.inl ⟨a, xs, h, e _ _ k⟩))))
  · exact .inr (.inr (.inr (.inr (.inr ⟨a, xs, h, e _ _ k⟩))))
theorem Mn.ex {H H' : Hp} {v : V} {r : Option Nat} (e : Rd.Ex H H') (h : Mn H v r) : Mn H' v r := by
  cases h with
  | int n => exact .int n
  | non h => exact .non (NonInt.ex e h)
def swd (c i : Nat) : Nat := MX.mix ((c + 1 + i) % 18446744073709551616) / 4294967296
def swords (c k : Nat) : List Nat := (List.range k).map (swd c)
def spWordsS (CS CN : Addr) : Sp := fun vs H Q E => ∃ v m r rm, vs = [v, m] ∧ Sd H v r ∧ Mn H m rm ∧ (∀ n k, r = some n → rm = some k → k ≤ 1000 → ∀ p H', H p = none → Rd.Ex H H' → H' p = some (.tup (Pr.words (swords (coreN (sN v) n) k))) → Q (.ref p) H') ∧
  (r = none → ∀ d H', H d = none → Rd.Ex H H' → H' d = some (.xd [("given", v)]) → E (.ref CS) (some d) H') ∧
  (∀ n, r = some n → rm = none → ∀ d H', H d = none → Rd.Ex H H' → H' d = some (.xd [("given", m)]) → E (.ref CN) (some d) H')
theorem calx_seed_words (T : Txt K mg C_Linear C_Leaping C_DrawError C_BadSeed C_BadNumber R_ROUNDS) : Gx.CalX P w K mg base 13 "seed_words" (spWordsS C_BadSeed C_BadNumber) := by
  obtain ⟨f, fd, F, b⟩ := T.d_seed_words
  refine Gx.calX F b sc_seed_words (fun vs H Q E h => ?_) (fun cdv A outer s H vs Q E hr h => ?_)
  · obtain ⟨v, m, r, rm, rfl, _⟩ := h; rfl
  · obtain ⟨v, m, r, rm, rfl, S, M, q1, q2, q3⟩ := h
    have hu := hu_of hr
    have hu64 := hr.units
    have cl_Linear := T.cl_Linear
    have n_Linear_s2_x := T.n_Linear_s2_x
    have cl_Leaping := T.cl_Leaping
    have n_Leaping_s2_leap_x := T.n_Leaping_s2_leap_x
    have n_Leaping_s2_every := T.n_Leaping_s2_every
    refine ⟨_, (pss_cons (ps_set (i := 2) sc_seed_words.nd rfl (.inr rfl) (Gx.pe_cx (calx_core_of T) Gx.takes_cx (fun _ _ _ _ h => h) hr (by omega) (by rfl) (pa_cons (pv 0) pa_nil)))
      (pss_cons (ps_if (PW.pt (pw_or (pt_not (pt_val (C8.pe_c (cal_is_integer T) hr (by omega) (by rfl) (pa_cons (pv 1) pa_nil)))) (pw_or1 (pt_not (pt_chain op_le op_le pe_int (pv 1) (C8.pe_gc (by rfl) T.c_MOST_SEED_WORDS)))))) (pss_one (ps_raise rfl Gx.takes_cx (Gx.pmk_exY (exc_BadNumber T) hr (by omega) (by rfl) (pa_cons (pv 1) pa_nil)))) pss_nil)
      (pss_one (ps_ret (pe_callTy Gx.call_tupOf (by rfl) T.b_tuple (by decide +kernel) (pa_cons (pe_lc (own := [("index", 3)]) rfl sc_seed_words.nd (pi_range1 rfl T.b_range (pa_cons (pv 1) pa_nil)) (blkOk_by (N := ["seed", "many", "core", "index"]) (sc := C8.fnScope s_seed_words) (by decide +kernel)) (fun _ _ _ _ _ => (pg_name (i := 3) sc_seed_words.nd rfl (.inl rfl))) (fun _ _ _ _ _ => pts_nil) (fun _ _ _ _ _ => (pe_op op_fdivW (C8.pe_c (cal_mixed T) hr (by omega) (by rfl) (pa_cons (pe_op Rd.op_andM (pe_op op_add (pe_op op_add (pv 2) pe_int) (pv 3)) (pe_op op_sub (C8.pe_gc (by rfl) T.c_DOUBLES) pe_int)) pa_nil)) (C8.pe_gc (by rfl) T.c_WORDS)))) pa_nil)))))), ?_⟩
    walk_at "rd"
    refine ⟨v, r, rfl, S, fun n hr H1 e1 => ?_, q2⟩
    have q1 := fun k => q1 n k hr
    have q3 := q3 n hr
    unfold gCore
    generalize coreN (sN v) n = c0 at q1
    have bad : rm = none → ∀ d H2, H1 d = none → Rd.Ex H1 H2 → H2 d = some (.xd [("given", m)]) → E (.ref C_BadNumber) (some d) H2 := fun z d H2 hd e2 k2 => q3 z d H2 (ex_none e1 hd) (e1.trans e2) k2
    cases M with
    | non h =>
      walk_at "rd"
      refine ⟨m, rfl, .inr ⟨NonInt.ex e1 h, ?_⟩⟩
      walk_at "rd"
      exact Gx.mkY (bad rfl)
    | int k =>
      walk_at "rd"
      refine Rd.both (fun c1 => ?_) (fun c1 => ?_)
      · walk_at "rd"
        refine Rd.bothN (fun c2 => ?_) (fun c2 => ?_)
        · walk_at "rd"
          exact Gx.mkY (bad (if_neg fun h => c2 h.2))
        · walk_at "rd"
          obtain ⟨k, rfl⟩ := Int.eq_ofNat_of_zero_le c1
          refine ⟨_, rfl, by omega, by omega, ?_⟩
          rw [Int.toNat_natCast]
          refine Gx.lcRng (fun D i acc H' => acc = Pr.words ((List.range i).map (swd c0)) ∧ Rd.Ex H1 H') (fun D H2 hD e2 k2 => ⟨rfl, e2⟩) (fun D i acc H' hD hi hl hk p => ?_) (fun D acc H' hD hk p => ?_)
          · obtain ⟨rfl, e3⟩ := p
            walk_at "rd"
            rw [show (c0 : Int) + 1 + (i : Int) = ((c0 + 1 + i : Nat) : Int) by omega, modD]
            refine u_fn (Nat.mod_lt _ (by decide)) fun H4 e4 => ?_
            walk_at "rd"
            rw [divN]
            refine Gx.lcN (e4 _ _ hk) hl (by omega) fun H5 m5 k5 => ⟨?_, fun c o h => by walk_at "hp"⟩
            rw [List.range_succ, List.map_append]
            simp only [Pr.words, List.map_append, List.map_cons, List.map_nil]
            rfl
          · obtain ⟨rfl, e3⟩ := p
            walk_at "rd"
            refine Au.new fun p5 H5 hp5 e5 k5 => ?_
            refine q1 k (by rw [if_pos ⟨c1, c2⟩]; rfl) (by omega) p5 H5 (ex_none e1 (ex_none e3 hp5)) (fun c o h => by walk_at "hp") k5
      · walk_at "rd"
        exact Gx.mkY (bad (if_neg fun h => c1 h.1))
end
end Pf

set_option Elab.async false
set_option linter.all false
set_option maxRecDepth 100000
set_option maxHeartbeats 4000000
set_option exponentiation.threshold 3000
namespace Pf
open PySem PySem.Spec PyProof.Rows L2
section
variable {P : Program} {w : World} {K : PySem.W.Frag} {mg : Str → Option Value} {base : Heap} {C_Linear C_Leaping C_DrawError C_BadSeed C_BadNumber R_ROUNDS : Addr}
local macro_rules | `(tactic| walk_at "side") => `(tactic| first | ((with_reducible show L2.CMul _ _); first | exact Or.inl ⟨by omega, by omega⟩ | exact Or.inr ⟨by omega, by omega⟩) | ((with_reducible show L2.CPow _ _); exact ⟨by decide, by decide, by decide⟩) | ((with_reducible show L2.CMulW _ _); exact wide_mul (a := 96) (b := 96) (by omega) (by omega) (by decide) (by decide) (by decide)) | ((with_reducible show L2.CDivW _ _); first | exact wide_div (b := 96) (by omega) (by omega) (by decide) (by decide) | exact wide_div (b := 300) (by omega) (by omega) (by decide) (by decide)) | (show (0 : Int) < _; omega) | (show (0 : Int) ≤ _; omega))
local macro_rules | `(tactic| walk_at "rd1") => `(tactic| first | with_reducible refine Rd.seq ?_ | with_reducible refine Rd.asg ?_ | with_reducible refine Rd.nm ?_ | with_reducible refine Rd.ret ?_ | with_reducible refine Rd.drop ?_ | with_reducible refine Rd.ifs ?_ | with_reducible refine Rd.par ?_ | with_reducible refine Rd.par3 ?_ | with_reducible refine Rd.next ?_ | with_reducible refine Rd.fr1 ?_ | with_reducible refine Rd.nxp ?_ | with_reducible refine Rd.rtp ?_ | ((with_reducible show tVar _ _ _ _); refine Rd.var rfl ?_) | with_reducible refine Rd.cst ?_ | with_reducible refine Rd.op ?_ | with_reducible refine Rd.un ?_ | with_reducible refine Rd.i0 ?_ | with_reducible refine Rd.ung ?_ | with_reducible refine Rd.eqI ?_ | with_reducible refine Rd.neI ?_ | with_reducible refine Rd.eqS ?_ | with_reducible refine Rd.neS ?_ | with_reducible refine Rd.test ?_ | with_reducible refine Rd.tstB ?_ | with_reducible refine Rd.isB ?_ | with_reducible refine Rd.not ?_ | with_reducible refine Rd.andT ?_ | with_reducible refine Rd.orT ?_ | with_reducible refine Rd.andV ?_ | with_reducible refine Rd.orV ?_ | with_reducible refine Rd.notV ?_ | with_reducible refine Rd.ifE ?_ | with_reducible refine Rd.chain ?_ | with_reducible refine Rd.nil ?_ | with_reducible refine Rd.cons ?_ | with_reducible refine Rd.call ?_ | with_reducible refine Rd.cb ?_ | with_reducible refine Rd.bm ?_ | with_reducible refine Au.revL ?_ | with_reducible refine Rd.frl ?_ | with_reducible refine Rd.frt ?_ | with_reducible refine Rd.fre ?_ | with_reducible refine Rd.disp ?_ | with_reducible refine Rd.pnil ?_ | with_reducible refine Rd.pcons ?_ | with_reducible refine Rd.gcons ?_ | with_reducible refine Rd.gnil ?_ | with_reducible refine Rd.gsub ?_ | with_reducible refine Rd.setD ?_ | ((with_reducible show gTup _ _ _ _ _ (upd _ _ (HO.tup _)) _); refine Rd.tupNew rfl ?_) | with_reducible refine Rd.fld ?_ | with_reducible refine Rd.meth ?_ | with_reducible refine Rd.make ?_ | with_reducible refine Rd.prop ?_ | with_reducible refine Au.tup ?_ | with_reducible refine Au.lst ?_ | ((with_reducible refine Au.lenOk ?hl ?_); (case hl => exact rfl)) | with_reducible refine Au.nopart ?_ | with_reducible refine Au.part ?_ | with_reducible refine Au.isI ?_ | with_reducible refine Au.sl ?_ | with_reducible refine Au.pr2 ?_ | with_reducible refine Au.pr3 ?_ | with_reducible refine Au.eqB ?_ | with_reducible refine Rd.isInt ?_ | with_reducible refine Rd.isBool ?_ | with_reducible refine Rd.mx2 ?_ | with_reducible refine Rd.mn2 ?_ | ((with_reducible show Rd.rAndM _ _ _ _); first | refine Rd.and1 ?_ | refine Rd.and48 ?_ | refine Rd.and32 ?_ | refine Rd.and64 ?_ | refine Rd.and65 ?_) | ((with_reducible refine Rd.iC ?hc ?_); (case hc => walk_at "side")) | ((with_reducible refine Rd.yes ?hc ?_); (case hc => first | omega | exact rfl)) | ((with_reducible refine Rd.no ?hc ?_); (case hc => omega)) | ((with_reducible refine Rd.noN ?hc ?_); (case hc => first | omega | exact rfl)) | ((with_reducible refine Rd.yesN ?hc ?_); (case hc => omega)) | ((with_reducible refine Rd.yesNN ?hc ?_); (case hc => omega)) | ((with_reducible refine Rd.noNN ?hc ?_); (case hc => omega)) | with_reducible refine iteT ?_ | with_reducible refine iteF ?_ | with_reducible refine Rd.iteNT ?_ | with_reducible refine Rd.iteNF ?_)
local macro_rules | `(tactic| walk_at "rd") => `(tactic| repeat (walk_at "rd1"))
local macro_rules | `(tactic| walk_at "hp") => `(tactic| first | assumption | (apply Au.sm; (focus assumption); (walk_at "hp")) | (apply Au.smp; (focus assumption); (focus (walk_at "hp")); (walk_at "ne")) | (apply Au.smn; (focus assumption); (focus (walk_at "hp")); (focus (intro _ z; cases z; done))) | fail "hp")
local macro_rules | `(tactic| walk_at "ne") => `(tactic| first | assumption | (apply Ne.symm; assumption) | (apply Au.nen; (focus assumption); (walk_at "hp")) | (apply Au.nen'; (focus assumption); (walk_at "hp")) | (apply Au.nek; (focus assumption); (focus assumption); (intro z; cases z; done)) | (apply Au.nek2; (focus assumption); (focus (walk_at "hp")); (intro z; cases z; done)) | fail "ne")
local macro_rules | `(tactic| walk_at "dp") => `(tactic| first | exact Dp.int _ | exact Dp.str _ | exact Dp.bl _ | exact Dp.non | (apply Dp.lst; (focus (apply Rd.sql; walk_at "hp")); (walk_at "dps")) | (apply Dp.tup; (focus (apply Rd.sqt; walk_at "hp")); (walk_at "dps")) | fail "dp")
local macro_rules | `(tactic| walk_at "dps") => `(tactic| first | exact DpAll.nil | (apply DpAll.cons; (focus (walk_at "dp")); (walk_at "dps")) | fail "dps")
local macro_rules | `(tactic| walk_at "shp") => `(tactic| ((simp only [SeqAt.shaped, PyData.canLay0, PyData.canLayAll0, PyData.depth, PyData.depthAll]) <;> first | decide | rfl))
local macro_rules | `(tactic| walk_at "sd") => `(tactic| first | assumption | rfl | omega | (walk_at "hp") | (refine ⟨?_, ?_⟩; (focus (walk_at "sd")); (walk_at "sd")) | fail "sd")
local macro_rules | `(tactic| walk_at "lk") => `(tactic| first | exact Rd.lk1 | rfl | decide +kernel)
local macro_rules | `(tactic| walk_at "rd1") => `(tactic| first | with_reducible refine Pr.dget ?_ | with_reducible refine Pr.dput ?_ | with_reducible refine Pr.sfld ?_ | with_reducible refine Pr.u_isInt ?_ | ((with_reducible show Pr.spNeed _ _ _ _ _ _); refine Pr.u_need (by omega) (by omega) ?_) | ((with_reducible show Pr.spIs _ _ _ _ _ _); refine Pr.u_isIn (by omega) ?_) | ((with_reducible apply Rd.fld1); (focus (walk_at "hp")); (focus assumption); (focus assumption); (focus (walk_at "lk"))) | ((with_reducible apply Au.methO); (focus (walk_at "hp")); (focus (walk_at "lk"))) | ((with_reducible apply Au.propO); (focus (walk_at "hp"))) | ((with_reducible show rIxT _ (V.ref _) (V.int _) _ _); refine Rd.ixT (Rd.sqt (by walk_at "hp")) rfl ?_) | ((with_reducible show rIxL _ (V.ref _) (V.int _) _ _); refine Rd.ixL (Rd.sql (by walk_at "hp")) rfl ?_) | ((with_reducible show Rd.rLenQ _ [V.ref _] _ _); first | refine Rd.lenL (Rd.sql (by walk_at "hp")) ?_ | refine Rd.lenT (Rd.sqt (by walk_at "hp")) ?_) | ((with_reducible show gTup _ _ _ (V.ref _) _ _ _); refine Rd.gtup (Rd.sqt (by walk_at "hp")) rfl ?_) | with_reducible refine Gx.gat ?_ | with_reducible refine Gx.gnx ?_ | with_reducible refine Gx.gthen ?_ | with_reducible refine Gx.gplain ?_ | with_reducible refine Gx.gfr ?_ | with_reducible refine Gx.lg ?_ | with_reducible refine Gx.mg ?_ | with_reducible refine Gx.sme ?_ | with_reducible refine Gx.callSD ?_ | with_reducible refine Gx.methSD ?_)
local macro_rules | `(tactic| walk_at "rd1") => `(tactic| first | with_reducible refine Gx.mkR ?_ | ((with_reducible refine Gx.makeV ?hs ?_); (case hs => rfl)) | with_reducible refine Gx.smeX ?_ | with_reducible refine Gx.cmX ?_ | with_reducible refine Gx.isBl ?_ | with_reducible refine Gx.notBl ?_ | with_reducible refine Gx.xk ?_ | with_reducible refine Gx.fr3 ?_ | with_reducible refine Gx.makeD ?_ | with_reducible refine Gx.frz ?_ | with_reducible refine Gx.lcO ?_ | with_reducible refine Gx.itupO ?_ | with_reducible refine Gx.ilistO ?_ | with_reducible refine Gx.irng1O ?_ | with_reducible refine Gx.ival ?_ | ((with_reducible apply Gx.ivalO); (focus (walk_at "hp")); (focus assumption); (focus assumption); (focus (walk_at "lk"))) | ((with_reducible show Gx.rTupOf _ [V.ref _] _ _); refine Gx.tupOfL (Rd.sql (by walk_at "hp")) ?_) | ((with_reducible show Gx.rLstOf _ [V.ref _] _ _); first | refine Gx.lstOfL (Rd.sql (by walk_at "hp")) ?_ | refine Gx.lstOfT (Rd.sqt (by walk_at "hp")) ?_))
local macro_rules | `(tactic| walk_at "hp") => `(tactic| first | assumption | (apply Pr.smq; (focus assumption); (focus (walk_at "hp")); (focus (walk_at "ne")); (walk_at "ne")))
local macro_rules | `(tactic| walk_at "hp") => `(tactic| first | assumption | (apply smb; (focus assumption); (focus (walk_at "hp")); (focus assumption); assumption) | (apply smbK; (focus assumption); (focus (walk_at "hp")); (focus (walk_at "dr")); (constructor <;> (intro _ z; cases z; done))) | (apply smbN; (focus assumption); (focus (walk_at "hp")); (focus assumption); (walk_at "dr")))
local macro_rules | `(tactic| walk_at "dr") => `(tactic| first | assumption | (apply Draw.ex; (focus assumption); (walk_at "dr")) | (apply Draw.exp; (focus assumption); (focus (walk_at "dr")); (focus (walk_at "nd"))) | fail "dr")
local macro_rules | `(tactic| walk_at "nd") => `(tactic| first | assumption | (apply ndN; (focus assumption); (walk_at "dr")) | fail "nd")
local macro_rules | `(tactic| walk_at "rd1") => `(tactic| first | with_reducible refine Gx.istrO ?_ | with_reducible refine Gx.frS ?_ | with_reducible refine Gx.ord1 ?_)
local macro_rules | `(tactic| walk_at "side") => `(tactic| first | ((with_reducible show L2.CMulW _ _); first | decide +kernel | exact wide_mul (a := 96) (b := 96) (by omega) (by omega) (by decide) (by decide) (by decide) | exact wide_mul (a := 300) (b := 96) (by decide) (by decide) (by decide) (by decide) (by decide) | exact wide_mul (a := 160) (b := 96) (by omega) (by omega) (by decide) (by decide) (by decide)))
theorem cal_s2_is_number (T : Txt K mg C_Linear C_Leaping C_DrawError C_BadSeed C_BadNumber R_ROUNDS) : C8.Cal P w K mg base 2 "s2_is_number" (Pr.spIs 0 281474976710655) [] := by
  obtain ⟨f, fd, F, b⟩ := T.d_s2_is_number
  refine C8.cal0 F b .nil sc_s2_is_number (fun vs H Q E h => ?_) (fun cdv A outer s H vs Q E hr h => ?_)
  · obtain ⟨v, rfl, _⟩ := h; rfl
  · obtain ⟨v, rfl, h⟩ := h
    have hu := hu_of hr
    have hu64 := hr.units
    have cl_Linear := T.cl_Linear
    have n_Linear_s2_x := T.n_Linear_s2_x
    have cl_Leaping := T.cl_Leaping
    have n_Leaping_s2_leap_x := T.n_Leaping_s2_leap_x
    have n_Leaping_s2_every := T.n_Leaping_s2_every
    refine ⟨_, (pss_one (ps_ret (pe_and (C8.pe_c (cal_is_integer T) hr (by omega) (by rfl) (pa_cons (pv 0) pa_nil)) (pe_one (pe_chain op_le op_lt pe_int (pv 0) (C8.pe_gc (by rfl) T.c_MODULUS)))))), ?_⟩
    walk_at "rd"
    rcases h with ⟨n, rfl, q⟩ | ⟨h, q⟩
    · walk_at "rd"
      refine Rd.both (fun c => ?_) (fun c => ?_)
      · walk_at "rd"
        rw [show decide (n < 281474976710656) = decide (0 ≤ n ∧ n ≤ 281474976710655) from by rw [decide_eq_decide]; omega]
        exact q
      · walk_at "rd"
        rw [decide_eq_false (fun h => c h.1)] at q
        exact q
    · refine Pr.u_isNon h ?_
      walk_at "rd"
      exact q
theorem cal_s2_need_start (T : Txt K mg C_Linear C_Leaping C_DrawError C_BadSeed C_BadNumber R_ROUNDS) : C8.Cal P w K mg base 3 "s2_need_start" (Pr.spNeed 0 281474976710655) [] := by
  obtain ⟨f, fd, F, b⟩ := T.d_s2_need_start
  refine C8.cal0 F b .nil sc_s2_need_start (fun vs H Q E h => ?_) (fun cdv A outer s H vs Q E hr h => ?_)
  · obtain ⟨n, rfl, _⟩ := h; rfl
  · obtain ⟨n, rfl, h1, h2, q⟩ := h
    have hu := hu_of hr
    have hu64 := hr.units
    have cl_Linear := T.cl_Linear
    have n_Linear_s2_x := T.n_Linear_s2_x
    have cl_Leaping := T.cl_Leaping
    have n_Leaping_s2_leap_x := T.n_Leaping_s2_leap_x
    have n_Leaping_s2_every := T.n_Leaping_s2_every
    refine ⟨_, (pss_one (ps_if (pt_not (pt_val (C8.pe_c (cal_s2_is_number T) hr (by omega) (by rfl) (pa_cons (pv 0) pa_nil)))) pss_never pss_nil)), ?_⟩
    walk_at "rd"
    exact q
theorem mak_Linear (T : Txt K mg C_Linear C_Leaping C_DrawError C_BadSeed C_BadNumber R_ROUNDS) : C8.Mak P w K mg base 4 "Linear" C_Linear (Pr.spInit1 C_Linear) [] := by
  obtain ⟨f, fd, M, F, b⟩ := T.d_Linear___init__
  obtain ⟨u, hu1, hu2⟩ := T.k_Linear
  cases hu2
  refine C8.mak0 M hu1 F b .nil sc_Linear___init__ (fun vs H Q E h => ?_) (fun cdv A outer s H vs Q E hr h => ?_)
  · obtain ⟨p, dx, x, rfl, _⟩ := h; rfl
  · obtain ⟨p, dx, x, rfl, h1, hp, q⟩ := h
    have hu := hu_of hr
    have hu64 := hr.units
    have cl_Linear := T.cl_Linear
    have n_Linear_s2_x := T.n_Linear_s2_x
    have cl_Leaping := T.cl_Leaping
    have n_Leaping_s2_leap_x := T.n_Leaping_s2_leap_x
    have n_Leaping_s2_every := T.n_Leaping_s2_every
    refine ⟨_, (pss_cons (ps_expr (C8.pe_c (cal_s2_need_start T) hr (by omega) (by rfl) (pa_cons (pv 1) pa_nil)))
      (pss_one (ps_fld (pv 0) (pv 1) rfl))), ?_⟩
    walk_at "rd"
    refine Pr.stF hp T.cl_Linear T.n_Linear_s2_x rfl rfl fun H1 m1 k1 => ?_
    exact q H1 m1 k1
theorem prop_Linear_state (T : Txt K mg C_Linear C_Leaping C_DrawError C_BadSeed C_BadNumber R_ROUNDS) : Gx.PrpC P w K mg base 1 C_Linear "state" (Pr.spState1 C_Linear) := by
  obtain ⟨pp, f, fd, pr, F, b⟩ := T.d_Linear_state
  refine Gx.prp0 T.cl_Linear pr F b sc_Linear_state (fun vs H Q E h => ?_) (fun cdv A outer s H vs Q E hr h => ?_)
  · obtain ⟨p, dx, x, rfl, _⟩ := h; rfl
  · obtain ⟨p, dx, x, rfl, hp, q⟩ := h
    have hu := hu_of hr
    have hu64 := hr.units
    have cl_Linear := T.cl_Linear
    have n_Linear_s2_x := T.n_Linear_s2_x
    have cl_Leaping := T.cl_Leaping
    have n_Leaping_s2_leap_x := T.n_Leaping_s2_leap_x
    have n_Leaping_s2_every := T.n_Leaping_s2_every
    refine ⟨_, (pss_one (ps_ret (pe_tup (pa_cons (pe_fld (pv 0) rfl) pa_nil)))), ?_⟩
    walk_at "rd"
    exact Au.new q
theorem cal_s2_is_every (T : Txt K mg C_Linear C_Leaping C_DrawError C_BadSeed C_BadNumber R_ROUNDS) : C8.Cal P w K mg base 2 "s2_is_every" (Pr.spIs 1 18446744073709551616) [] := by
  obtain ⟨f, fd, F, b⟩ := T.d_s2_is_every
  refine C8.cal0 F b .nil sc_s2_is_every (fun vs H Q E h => ?_) (fun cdv A outer s H vs Q E hr h => ?_)
  · obtain ⟨v, rfl, _⟩ := h; rfl
  · obtain ⟨v, rfl, h⟩ := h
    have hu := hu_of hr
    have hu64 := hr.units
    have cl_Linear := T.cl_Linear
    have n_Linear_s2_x := T.n_Linear_s2_x
    have cl_Leaping := T.cl_Leaping
    have n_Leaping_s2_leap_x := T.n_Leaping_s2_leap_x
    have n_Leaping_s2_every := T.n_Leaping_s2_every
    refine ⟨_, (pss_one (ps_ret (pe_and (C8.pe_c (cal_is_integer T) hr (by omega) (by rfl) (pa_cons (pv 0) pa_nil)) (pe_one (pe_chain op_le op_le pe_int (pv 0) (C8.pe_gc (by rfl) T.c_MOST_STEPS)))))), ?_⟩
    walk_at "rd"
    rcases h with ⟨n, rfl, q⟩ | ⟨h, q⟩
    · walk_at "rd"
      refine Rd.both (fun c => ?_) (fun c => ?_)
      · walk_at "rd"
        rw [show decide (n ≤ 18446744073709551616) = decide (1 ≤ n ∧ n ≤ 18446744073709551616) from by rw [decide_eq_decide]; omega]
        exact q
      · walk_at "rd"
        rw [decide_eq_false (fun h => c h.1)] at q
        exact q
    · refine Pr.u_isNon h ?_
      walk_at "rd"
      exact q
theorem cal_s2_need_every (T : Txt K mg C_Linear C_Leaping C_DrawError C_BadSeed C_BadNumber R_ROUNDS) : C8.Cal P w K mg base 3 "s2_need_every" (Pr.spNeed 1 18446744073709551616) [] := by
  obtain ⟨f, fd, F, b⟩ := T.d_s2_need_every
  refine C8.cal0 F b .nil sc_s2_need_every (fun vs H Q E h => ?_) (fun cdv A outer s H vs Q E hr h => ?_)
  · obtain ⟨n, rfl, _⟩ := h; rfl
  · obtain ⟨n, rfl, h1, h2, q⟩ := h
    have hu := hu_of hr
    have hu64 := hr.units
    have cl_Linear := T.cl_Linear
    have n_Linear_s2_x := T.n_Linear_s2_x
    have cl_Leaping := T.cl_Leaping
    have n_Leaping_s2_leap_x := T.n_Leaping_s2_leap_x
    have n_Leaping_s2_every := T.n_Leaping_s2_every
    refine ⟨_, (pss_one (ps_if (pt_not (pt_val (C8.pe_c (cal_s2_is_every T) hr (by omega) (by rfl) (pa_cons (pv 0) pa_nil)))) pss_never pss_nil)), ?_⟩
    walk_at "rd"
    exact q
abbrev LeapO (C dx : Addr) (x : Int) (e : Nat) : HO := .ins C dx [("s2_leap_x", .int x), ("s2_every", .int (e : Int))]
def spInit2 (C : Addr) : Sp := fun vs H Q _ => ∃ (p dx : Addr) (x : Int) (e : Nat), vs = [.ref p, .int x, .int e] ∧ (0 ≤ x ∧ x < 281474976710656 ∧ 1 ≤ e ∧ e ≤ 18446744073709551616) ∧ H p = some (.ins C dx []) ∧ ∀ H', Au.ExP p H H' → H' p = some (LeapO C dx x e) → Q .non H'
theorem u_leap {C : Addr} {H : Hp} {Q : Addr → Hp → Prop} {E : XK} {n : Int} {e : Nat} (h1 : 0 ≤ n ∧ n < 281474976710656 ∧ 1 ≤ e ∧ e ≤ 18446744073709551616) (h : ∀ p dx H', H p = none → Rd.Ex H H' → H' p = some (LeapO C dx n e) → Q p H') :
    ∀ x dx, H x = none → H dx = none → dx ≠ x → spInit2 C (.ref x :: ([.int n, .int (e : Int)] ++ [])) (upd (upd H dx (.own x)) x (.ins C dx [])) (fun v H2 => v = .non ∧ Q x H2) E := fun x dx hx hdx hne =>
  ⟨x, dx, n, e, rfl, h1, upd_same, fun H' m k => ⟨rfl, h x dx H' hx (Pr.ex_made hx hdx m) k⟩⟩
theorem mak_Leaping (T : Txt K mg C_Linear C_Leaping C_DrawError C_BadSeed C_BadNumber R_ROUNDS) : C8.Mak P w K mg base 4 "Leaping" C_Leaping (spInit2 C_Leaping) [] := by
  obtain ⟨f, fd, M, F, b⟩ := T.d_Leaping___init__
  obtain ⟨u, hu1, hu2⟩ := T.k_Leaping
  cases hu2
  refine C8.mak0 M hu1 F b .nil sc_Leaping___init__ (fun vs H Q E h => ?_) (fun cdv A outer s H vs Q E hr h => ?_)
  · obtain ⟨p, dx, x, e, rfl, _⟩ := h; rfl
  · obtain ⟨p, dx, x, e, rfl, ⟨x0, x1, e0, e1⟩, hp, q⟩ := h
    have hu := hu_of hr
    have hu64 := hr.units
    have cl_Linear := T.cl_Linear
    have n_Linear_s2_x := T.n_Linear_s2_x
    have cl_Leaping := T.cl_Leaping
    have n_Leaping_s2_leap_x := T.n_Leaping_s2_leap_x
    have n_Leaping_s2_every := T.n_Leaping_s2_every
    refine ⟨_, (pss_cons (ps_expr (C8.pe_c (cal_s2_need_start T) hr (by omega) (by rfl) (pa_cons (pv 1) pa_nil)))
      (pss_cons (ps_expr (C8.pe_c (cal_s2_need_every T) hr (by omega) (by rfl) (pa_cons (pv 2) pa_nil)))
      (pss_one (ps_asg (pe_tup (pa_cons (pv 1) (pa_cons (pv 2) pa_nil))) (pg_tup rfl (pgs_cons (Gx.pg_fld (pv 0)) (pgs_cons (Gx.pg_fld (pv 0)) pgs_nil))))))), ?_⟩
    walk_at "rd"
    refine Au.new fun t H1 ht f1 k1 => ?_
    walk_at "rd"
    have hp1 := f1 _ _ hp
    have np := ne_of_none hp ht
    refine Gx.gfldV rfl hp1 T.cl_Leaping T.n_Leaping_s2_leap_x rfl rfl fun H2 m2 k2 => ?_
    walk_at "rd"
    refine Gx.gfldV rfl k2 T.cl_Leaping T.n_Leaping_s2_every rfl rfl fun H3 m3 k3 => ?_
    walk_at "rd"
    exact q H3 (fun c o h n => by walk_at "hp") k3
def spState2 (C : Addr) : Sp := fun vs H Q _ => ∃ (p dx : Addr) (x : Int) (e : Nat), vs = [.ref p] ∧ H p = some (LeapO C dx x e) ∧ ∀ t H', H t = none → Rd.Ex H H' → H' t = some (.tup [.int x, .int (e : Int)]) → Q (.ref t) H'
theorem u_state2 {C p dx : Addr} {x : Int} {e : Nat} {H : Hp} {Q : VK} {E : XK} (h : H p = some (LeapO C dx x e)) (q : ∀ t H', H t = none → Rd.Ex H H' → H' t = some (.tup [.int x, .int (e : Int)]) → Q (.ref t) H') : spState2 C [.ref p] H Q E := ⟨p, dx, x, e, rfl, h, q⟩
theorem prop_Leaping_state (T : Txt K mg C_Linear C_Leaping C_DrawError C_BadSeed C_BadNumber R_ROUNDS) : Gx.PrpC P w K mg base 1 C_Leaping "state" (spState2 C_Leaping) := by
  obtain ⟨pp, f, fd, pr, F, b⟩ := T.d_Leaping_state
  refine Gx.prp0 T.cl_Leaping pr F b sc_Leaping_state (fun vs H Q E h => ?_) (fun cdv A outer s H vs Q E hr h => ?_)
  · obtain ⟨p, dx, x, e, rfl, _⟩ := h; rfl
  · obtain ⟨p, dx, x, e, rfl, hp, q⟩ := h
    have hu := hu_of hr
    have hu64 := hr.units
    have cl_Linear := T.cl_Linear
    have n_Linear_s2_x := T.n_Linear_s2_x
    have cl_Leaping := T.cl_Leaping
    have n_Leaping_s2_leap_x := T.n_Leaping_s2_leap_x
    have n_Leaping_s2_every := T.n_Leaping_s2_every
    refine ⟨_, (pss_one (ps_ret (pe_tup (pa_cons (pe_fld (pv 0) rfl) (pa_cons (pe_fld (pv 0) rfl) pa_nil))))), ?_⟩
    walk_at "rd"
    exact Au.new q
def spCopy1 (C : Addr) : Sp := fun vs H Q _ => ∃ (p dx : Addr) (x : Int), vs = [.ref p] ∧ H p = some (Pr.LinO C dx x) ∧ (0 ≤ x ∧ x < 281474976710656) ∧ ∀ p' dx' H', H p' = none → Rd.Ex H H' → H' p' = some (Pr.LinO C dx' x) → Q (.ref p') H'
theorem met_Linear_copy (T : Txt K mg C_Linear C_Leaping C_DrawError C_BadSeed C_BadNumber R_ROUNDS) : C8.Met P w K mg base 6 C_Linear "copy" (spCopy1 C_Linear) [] := by
  obtain ⟨f, fd, M, F, b⟩ := T.d_Linear_copy
  refine C8.met0 T.cl_Linear M F b sc_Linear_copy (fun vs H Q E h => ?_) (fun cdv A outer s H vs Q E hr h => ?_)
  · obtain ⟨p, dx, x, rfl, _⟩ := h; rfl
  · obtain ⟨p, dx, x, rfl, hp, hx, q⟩ := h
    have hu := hu_of hr
    have hu64 := hr.units
    have cl_Linear := T.cl_Linear
    have n_Linear_s2_x := T.n_Linear_s2_x
    have cl_Leaping := T.cl_Leaping
    have n_Leaping_s2_leap_x := T.n_Leaping_s2_leap_x
    have n_Leaping_s2_every := T.n_Leaping_s2_every
    refine ⟨_, (pss_one (ps_ret (C8.pe_mk (mak_Linear T) hr (by omega) (by rfl) (pa_cons (pe_fld (pv 0) rfl) pa_nil)))), ?_⟩
    walk_at "rd"
    exact Pr.u_lin hx fun p' dx' H2 hn e2 l => q p' dx' H2 hn e2 l
theorem makx_Linear (T : Txt K mg C_Linear C_Leaping C_DrawError C_BadSeed C_BadNumber R_ROUNDS) : Gx.MakX P w K mg base 4 "Linear" C_Linear (Pr.spInit1 C_Linear) [] := Gx.MakX.of0 (mak_Linear T)
theorem makx_Leaping (T : Txt K mg C_Linear C_Leaping C_DrawError C_BadSeed C_BadNumber R_ROUNDS) : Gx.MakX P w K mg base 4 "Leaping" C_Leaping (spInit2 C_Leaping) [] := Gx.MakX.of0 (mak_Leaping T)
/-- the start that a seed gives -/
def startN (s n : Nat) : Nat := swd (coreN s n) 0 * 65536 + swd (coreN s n) 1 / 65536
theorem mix_lt64 {n : Nat} (h : n < 18446744073709551616) : MX.mix n < 18446744073709551616 := MX.mix_lt h
theorem swd_lt (c i : Nat) : swd c i < 4294967296 := by
  have := mix_lt64 (Nat.mod_lt (c + 1 + i) (show 0 < 18446744073709551616 by decide))
  unfold swd
  omega
theorem start_rng (s n : Nat) : (0 : Int) ≤ (startN s n : Nat) ∧ ((startN s n : Nat) : Int) < 281474976710656 := by
  have h1 := swd_lt (coreN s n) 0
  have h2 := swd_lt (coreN s n) 1
  unfold startN
  omega
theorem startI (s n : Nat) : ((swd (coreN s n) 0 : Nat) : Int) * 65536 + ((swd (coreN s n) 1 : Nat) : Int) / 65536 = ((startN s n : Nat) : Int) := by
  unfold startN
  omega
def spSeeded (C CS : Addr) (o : Addr → Int → HO) : Sp := fun vs H Q E => ∃ v r, vs = [.ref C, v] ∧ Sd H v r ∧ (∀ n, r = some n → ∀ p dx H', H p = none → Rd.Ex H H' → H' p = some (o dx (startN (sN v) n : Nat)) → Q (.ref p) H') ∧ (r = none → Pr.Xs CS "given" v H E)
theorem cmetx_Linear_seeded (T : Txt K mg C_Linear C_Leaping C_DrawError C_BadSeed C_BadNumber R_ROUNDS) : Gx.CMetX P w K mg base 14 C_Linear "seeded" (spSeeded C_Linear C_BadSeed fun dx x => Pr.LinO C_Linear dx x) := by
  obtain ⟨f, fd, M, F, b⟩ := T.d_Linear_seeded
  refine Gx.cmetX M F b sc_Linear_seeded (fun vs H Q E h => ?_) (fun cdv A outer s H vs Q E hr h => ?_)
  · obtain ⟨v, r, rfl, _⟩ := h; rfl
  · obtain ⟨v, r, rfl, S, q1, q2⟩ := h
    have hu := hu_of hr
    have hu64 := hr.units
    have cl_Linear := T.cl_Linear
    have n_Linear_s2_x := T.n_Linear_s2_x
    have cl_Leaping := T.cl_Leaping
    have n_Leaping_s2_leap_x := T.n_Leaping_s2_leap_x
    have n_Leaping_s2_every := T.n_Leaping_s2_every
    refine ⟨_, (pss_cons (ps_asg (Gx.pe_cx (calx_seed_words T) Gx.takes_cx (fun _ _ _ _ h => h) hr (by omega) (by rfl) (pa_cons (pv 1) (pa_cons pe_int pa_nil))) (pg_tup rfl (pgs_cons (pg_name (i := 2) sc_Linear_seeded.nd rfl (.inl rfl)) (pgs_cons (pg_name (i := 3) sc_Linear_seeded.nd rfl (.inl rfl)) pgs_nil))))
      (pss_one (ps_ret (Gx.pe_mkv (i := 0) (makx_Linear T) Gx.takes_cx (fun _ _ _ _ h => h) hr (by omega) rfl (.inl (by rfl)) (pa_cons (pe_op op_add (pe_op op_mul (pv 2) (C8.pe_gc (by rfl) T.c_LOW_WORD)) (pe_op op_fdivW (pv 3) (C8.pe_gc (by rfl) T.c_LOW_WORD))) pa_nil))))), ?_⟩
    walk_at "rd"
    refine ⟨v, .int 2, r, some 2, rfl, S, Mn.int 2, fun n k hr' hk _ p H1 hp e1 k1 => ?_, q2, fun n _ z => (by cases z)⟩
    cases hk
    walk_at "rd"
    have ew : Pr.words (swords (coreN (sN v) n) 2) = [.int (swd (coreN (sN v) n) 0 : Nat), .int (swd (coreN (sN v) n) 1 : Nat)] := rfl
    rw [ew]
    have h1 := swd_lt (coreN (sN v) n) 0
    have h2 := swd_lt (coreN (sN v) n) 1
    walk_at "rd"
    rw [startI]
    exact Pr.u_lin (start_rng _ _) fun p' dx' H2 hn e2 l => q1 n hr' p' dx' H2 (Pr.ex_none e1 hn) (e1.trans e2) l
theorem cmetx_Leaping_seeded (T : Txt K mg C_Linear C_Leaping C_DrawError C_BadSeed C_BadNumber R_ROUNDS) : Gx.CMetX P w K mg base 14 C_Leaping "seeded" (spSeeded C_Leaping C_BadSeed fun dx x => LeapO C_Leaping dx x 1) := by
  obtain ⟨f, fd, M, F, b⟩ := T.d_Leaping_seeded
  refine Gx.cmetX M F b sc_Leaping_seeded (fun vs H Q E h => ?_) (fun cdv A outer s H vs Q E hr h => ?_)
  · obtain ⟨v, r, rfl, _⟩ := h; rfl
  · obtain ⟨v, r, rfl, S, q1, q2⟩ := h
    have hu := hu_of hr
    have hu64 := hr.units
    have cl_Linear := T.cl_Linear
    have n_Linear_s2_x := T.n_Linear_s2_x
    have cl_Leaping := T.cl_Leaping
    have n_Leaping_s2_leap_x := T.n_Leaping_s2_leap_x
    have n_Leaping_s2_every := T.n_Leaping_s2_every
    refine ⟨_, (pss_cons (ps_asg (Gx.pe_cx (calx_seed_words T) Gx.takes_cx (fun _ _ _ _ h => h) hr (by omega) (by rfl) (pa_cons (pv 1) (pa_cons pe_int pa_nil))) (pg_tup rfl (pgs_cons (pg_name (i := 2) sc_Leaping_seeded.nd rfl (.inl rfl)) (pgs_cons (pg_name (i := 3) sc_Leaping_seeded.nd rfl (.inl rfl)) pgs_nil))))
      (pss_one (ps_ret (Gx.pe_mkv (i := 0) (makx_Leaping T) Gx.takes_cx (fun _ _ _ _ h => h) hr (by omega) rfl (.inl (by rfl)) (pa_cons (pe_op op_add (pe_op op_mul (pv 2) (C8.pe_gc (by rfl) T.c_LOW_WORD)) (pe_op op_fdivW (pv 3) (C8.pe_gc (by rfl) T.c_LOW_WORD))) (pa_cons pe_int pa_nil)))))), ?_⟩
    walk_at "rd"
    refine ⟨v, .int 2, r, some 2, rfl, S, Mn.int 2, fun n k hr' hk _ p H1 hp e1 k1 => ?_, q2, fun n _ z => (by cases z)⟩
    cases hk
    walk_at "rd"
    have ew : Pr.words (swords (coreN (sN v) n) 2) = [.int (swd (coreN (sN v) n) 0 : Nat), .int (swd (coreN (sN v) n) 1 : Nat)] := rfl
    rw [ew]
    have h1 := swd_lt (coreN (sN v) n) 0
    have h2 := swd_lt (coreN (sN v) n) 1
    walk_at "rd"
    rw [startI]
    have hr2 := start_rng (sN v) n
    exact u_leap (e := 1) ⟨hr2.1, hr2.2, by decide, by decide⟩ fun p' dx' H2 hn e2 l => q1 n hr' p' dx' H2 (Pr.ex_none e1 hn) (e1.trans e2) l
/-! ### the law's own mixing -/
theorem divK (a : Nat) (k : Nat) : (a : Int) / (k : Int) = ((a / k : Nat) : Int) := (Int.natCast_ediv a k).symm
theorem cal__law_tempered (T : Txt K mg C_Linear C_Leaping C_DrawError C_BadSeed C_BadNumber R_ROUNDS) : C8.Cal P w K mg base 1 "_law_tempered" (spFn 4294967296 MX.tmp) [] := by
  obtain ⟨f, fd, F, b⟩ := T.d__law_tempered
  refine C8.cal0 F b .nil sc__law_tempered (fun vs H Q E h => ?_) (fun cdv A outer s H vs Q E hr h => ?_)
  · obtain ⟨n, rfl, _⟩ := h; rfl
  · obtain ⟨n, rfl, hn, q⟩ := h
    have hu := hu_of hr
    have hu64 := hr.units
    have cl_Linear := T.cl_Linear
    have n_Linear_s2_x := T.n_Linear_s2_x
    have cl_Leaping := T.cl_Leaping
    have n_Leaping_s2_leap_x := T.n_Leaping_s2_leap_x
    have n_Leaping_s2_every := T.n_Leaping_s2_every
    refine ⟨_, (pss_cons (ps_set (i := 0) sc__law_tempered.nd rfl (.inl rfl) (pe_op op_mod (pe_op op_mul (pe_op op_xor (pv 0) (pe_op op_fdivW (pv 0) pe_int)) pe_int) pe_int))
      (pss_one (ps_ret (pe_op op_xor (pv 0) (pe_op op_fdivW (pv 0) pe_int))))), ?_⟩
    walk_at "rd"
    have d1 : (n : Int) / 8192 = ((n / 8192 : Nat) : Int) := divK n 8192
    rw [d1, xorN]
    have d2 : ((n ^^^ n / 8192 : Nat) : Int) * 3486784401 % 4294967296 = (((n ^^^ n / 8192) * MX.F % 4294967296 : Nat) : Int) := mulmodN _ 3486784401
    rw [d2]
    have d3 : ∀ m : Nat, (m : Int) / 65536 = ((m / 65536 : Nat) : Int) := fun m => divK m 65536
    rw [d3, xorN]
    exact q H fun _ _ h => h
theorem cal__law_mixed (T : Txt K mg C_Linear C_Leaping C_DrawError C_BadSeed C_BadNumber R_ROUNDS) : C8.Cal P w K mg base 2 "_law_mixed" (spFn 18446744073709551616 MX.mix) [] := by
  obtain ⟨f, fd, F, b⟩ := T.d__law_mixed
  refine C8.cal0 F b .nil sc__law_mixed (fun vs H Q E h => ?_) (fun cdv A outer s H vs Q E hr h => ?_)
  · obtain ⟨n, rfl, _⟩ := h; rfl
  · obtain ⟨n, rfl, hn, q⟩ := h
    have hu := hu_of hr
    have hu64 := hr.units
    have cl_Linear := T.cl_Linear
    have n_Linear_s2_x := T.n_Linear_s2_x
    have cl_Leaping := T.cl_Leaping
    have n_Leaping_s2_leap_x := T.n_Leaping_s2_leap_x
    have n_Leaping_s2_every := T.n_Leaping_s2_every
    refine ⟨_, (pss_cons (ps_par (i := 1) (j := 2) rfl sc__law_mixed.nd rfl rfl (by decide) rfl rfl (pa_cons (pe_op op_fdivW (pv 0) pe_int) (pa_cons (pe_op op_mod (pv 0) pe_int) pa_nil)) (by rfl))
      (pss_cons (ps_for PassesOwn.never rfl (pi_tup (pe_tup (pa_cons pe_int (pa_cons pe_int (pa_cons pe_int (pa_cons pe_int pa_nil)))))) (pg_name (i := 3) sc__law_mixed.nd rfl (.inl rfl)) (pss_one (ps_par (i := 1) (j := 2) rfl sc__law_mixed.nd rfl rfl (by decide) rfl rfl (pa_cons (pv 2) (pa_cons (pe_op op_xor (pv 1) (C8.pe_c (cal__law_tempered T) hr (by omega) (by rfl) (pa_cons (pe_op op_mod (pe_op op_add (pv 2) (pe_op op_mul pe_int (pv 3))) pe_int) pa_nil))) pa_nil)) (by rfl))))
      (pss_one (ps_ret (pe_op op_add (pe_op op_mul (pv 1) pe_int) (pv 2)))))), ?_⟩
    walk_at "rd"
    rw [divN, modN]
    refine Au.new fun tp H0 htp e0 k0 => ?_
    walk_at "rd"
    refine ⟨tp, rfl, ⟨_, Rd.sqt k0⟩, for_tup (xs := ([1, 2, 3, 4] : List Int).map V.int) (fun i σ' H' => ∃ y, σ' = [some (.int n), some (.int (fsI i (MX.spl n)).1), some (.int (fsI i (MX.spl n)).2), y] ∧ Rd.Ex H0 H') ⟨none, rfl, fun _ _ h => h⟩ ?_ ?_ ?_⟩
    · rintro i σ' H' hi ⟨y, _, e⟩
      exact Rd.sqt (e _ _ k0)
    · rintro i x σ' H' hx ⟨y, rfl, e⟩
      obtain ⟨hi, rfl⟩ := at4 hx
      have ho := fsI_ok _ (MX.ok_spl hn) i
      generalize hp : fsI i (MX.spl n) = p at ho
      have e2 : ((p.2 : Nat) : Int) + 1000003 * ((i : Int) + 1) = ((p.2 + 1000003 * (i + 1) : Nat) : Int) := by omega
      walk_at "rd"
      rw [e2, modN]
      refine u_fn (Nat.mod_lt _ (by decide)) fun H2 f2 => ?_
      walk_at "rd"
      rw [xorN]
      refine ⟨some (.int ((i : Int) + 1)), ?_, e.trans f2⟩
      show _ = [some (V.int n), some (V.int (MX.fe (i + 1) (fsI i (MX.spl n))).1), some (V.int (MX.fe (i + 1) (fsI i (MX.spl n))).2), some (.int ((i : Int) + 1))]
      rw [hp]
      rfl
    · rintro σ' H' ⟨y, rfl, e⟩
      have ho : MX.ok (fsI (List.map V.int ([1, 2, 3, 4] : List Int)).length (MX.spl n)) := fsI_ok _ (MX.ok_spl hn) 4
      have e3 : ((MX.mix n : Nat) : Int) = ((fsI 4 (MX.spl n)).1 : Int) * 4294967296 + ((fsI 4 (MX.spl n)).2 : Int) := by
        show ((((fsI 4 (MX.spl n)).1 * 4294967296 + (fsI 4 (MX.spl n)).2 : Nat)) : Int) = _
        omega
      walk_at "rd"
      have q2 := q H' (e0.trans e)
      rw [e3] at q2
      exact q2
end
end Pf

set_option Elab.async false
set_option linter.all false
set_option maxRecDepth 100000
set_option maxHeartbeats 4000000
set_option exponentiation.threshold 3000
namespace Pf
open PySem PySem.Spec PyProof.Rows L2
section
variable {P : Program} {w : World} {K : PySem.W.Frag} {mg : Str → Option Value} {base : Heap} {C_Linear C_Leaping C_DrawError C_BadSeed C_BadNumber R_ROUNDS : Addr}
local macro_rules | `(tactic| walk_at "side") => `(tactic| first | ((with_reducible show L2.CMul _ _); first | exact Or.inl ⟨by omega, by omega⟩ | exact Or.inr ⟨by omega, by omega⟩) | ((with_reducible show L2.CPow _ _); exact ⟨by decide, by decide, by decide⟩) | ((with_reducible show L2.CMulW _ _); exact wide_mul (a := 96) (b := 96) (by omega) (by omega) (by decide) (by decide) (by decide)) | ((with_reducible show L2.CDivW _ _); first | exact wide_div (b := 96) (by omega) (by omega) (by decide) (by decide) | exact wide_div (b := 300) (by omega) (by omega) (by decide) (by decide)) | (show (0 : Int) < _; omega) | (show (0 : Int) ≤ _; omega))
local macro_rules | `(tactic| walk_at "rd1") => `(tactic| first | with_reducible refine Rd.seq ?_ | with_reducible refine Rd.asg ?_ | with_reducible refine Rd.nm ?_ | with_reducible refine Rd.ret ?_ | with_reducible refine Rd.drop ?_ | with_reducible refine Rd.ifs ?_ | with_reducible refine Rd.par ?_ | with_reducible refine Rd.par3 ?_ | with_reducible refine Rd.next ?_ | with_reducible refine Rd.fr1 ?_ | with_reducible refine Rd.nxp ?_ | with_reducible refine Rd.rtp ?_ | ((with_reducible show tVar _ _ _ _); refine Rd.var rfl ?_) | with_reducible refine Rd.cst ?_ | with_reducible refine Rd.op ?_ | with_reducible refine Rd.un ?_ | with_reducible refine Rd.i0 ?_ | with_reducible refine Rd.ung ?_ | with_reducible refine Rd.eqI ?_ | with_reducible refine Rd.neI ?_ | with_reducible refine Rd.eqS ?_ | with_reducible refine Rd.neS ?_ | with_reducible refine Rd.test ?_ | with_reducible refine Rd.tstB ?_ | with_reducible refine Rd.isB ?_ | with_reducible refine Rd.not ?_ | with_reducible refine Rd.andT ?_ | with_reducible refine Rd.orT ?_ | with_reducible refine Rd.andV ?_ | with_reducible refine Rd.orV ?_ | with_reducible refine Rd.notV ?_ | with_reducible refine Rd.ifE ?_ | with_reducible refine Rd.chain ?_ | with_reducible refine Rd.nil ?_ | with_reducible refine Rd.cons ?_ | with_reducible refine Rd.call ?_ | with_reducible refine Rd.cb ?_ | with_reducible refine Rd.bm ?_ | with_reducible refine Au.revL ?_ | with_reducible refine Rd.frl ?_ | with_reducible refine Rd.frt ?_ | with_reducible refine Rd.fre ?_ | with_reducible refine Rd.disp ?_ | with_reducible refine Rd.pnil ?_ | with_reducible refine Rd.pcons ?_ | with_reducible refine Rd.gcons ?_ | with_reducible refine Rd.gnil ?_ | with_reducible refine Rd.gsub ?_ | with_reducible refine Rd.setD ?_ | ((with_reducible show gTup _ _ _ _ _ (upd _ _ (HO.tup _)) _); refine Rd.tupNew rfl ?_) | with_reducible refine Rd.fld ?_ | with_reducible refine Rd.meth ?_ | with_reducible refine Rd.make ?_ | with_reducible refine Rd.prop ?_ | with_reducible refine Au.tup ?_ | with_reducible refine Au.lst ?_ | ((with_reducible refine Au.lenOk ?hl ?_); (case hl => exact rfl)) | with_reducible refine Au.nopart ?_ | with_reducible refine Au.part ?_ | with_reducible refine Au.isI ?_ | with_reducible refine Au.sl ?_ | with_reducible refine Au.pr2 ?_ | with_reducible refine Au.pr3 ?_ | with_reducible refine Au.eqB ?_ | with_reducible refine Rd.isInt ?_ | with_reducible refine Rd.isBool ?_ | with_reducible refine Rd.mx2 ?_ | with_reducible refine Rd.mn2 ?_ | ((with_reducible show Rd.rAndM _ _ _ _); first | refine Rd.and1 ?_ | refine Rd.and48 ?_ | refine Rd.and32 ?_ | refine Rd.and64 ?_ | refine Rd.and65 ?_) | ((with_reducible refine Rd.iC ?hc ?_); (case hc => walk_at "side")) | ((with_reducible refine Rd.yes ?hc ?_); (case hc => first | omega | exact rfl)) | ((with_reducible refine Rd.no ?hc ?_); (case hc => omega)) | ((with_reducible refine Rd.noN ?hc ?_); (case hc => first | omega | exact rfl)) | ((with_reducible refine Rd.yesN ?hc ?_); (case hc => omega)) | ((with_reducible refine Rd.yesNN ?hc ?_); (case hc => omega)) | ((with_reducible refine Rd.noNN ?hc ?_); (case hc => omega)) | with_reducible refine iteT ?_ | with_reducible refine iteF ?_ | with_reducible refine Rd.iteNT ?_ | with_reducible refine Rd.iteNF ?_)
local macro_rules | `(tactic| walk_at "rd") => `(tactic| repeat (walk_at "rd1"))
local macro_rules | `(tactic| walk_at "hp") => `(tactic| first | assumption | (apply Au.sm; (focus assumption); (walk_at "hp")) | (apply Au.smp; (focus assumption); (focus (walk_at "hp")); (walk_at "ne")) | (apply Au.smn; (focus assumption); (focus (walk_at "hp")); (focus (intro _ z; cases z; done))) | fail "hp")
local macro_rules | `(tactic| walk_at "ne") => `(tactic| first | assumption | (apply Ne.symm; assumption) | (apply Au.nen; (focus assumption); (walk_at "hp")) | (apply Au.nen'; (focus assumption); (walk_at "hp")) | (apply Au.nek; (focus assumption); (focus assumption); (intro z; cases z; done)) | (apply Au.nek2; (focus assumption); (focus (walk_at "hp")); (intro z; cases z; done)) | fail "ne")
local macro_rules | `(tactic| walk_at "dp") => `(tactic| first | exact Dp.int _ | exact Dp.str _ | exact Dp.bl _ | exact Dp.non | (apply Dp.lst; (focus (apply Rd.sql; walk_at "hp")); (walk_at "dps")) | (apply Dp.tup; (focus (apply Rd.sqt; walk_at "hp")); (walk_at "dps")) | fail "dp")
local macro_rules | `(tactic| walk_at "dps") => `(tactic| first | exact DpAll.nil | (apply DpAll.cons; (focus (walk_at "dp")); (walk_at "dps")) | fail "dps")
local macro_rules | `(tactic| walk_at "shp") => `(tactic| ((simp only [SeqAt.shaped, PyData.canLay0, PyData.canLayAll0, PyData.depth, PyData.depthAll]) <;> first | decide | rfl))
local macro_rules | `(tactic| walk_at "sd") => `(tactic| first | assumption | rfl | omega | (walk_at "hp") | (refine ⟨?_, ?_⟩; (focus (walk_at "sd")); (walk_at "sd")) | fail "sd")
local macro_rules | `(tactic| walk_at "lk") => `(tactic| first | exact Rd.lk1 | rfl | decide +kernel)
local macro_rules | `(tactic| walk_at "rd1") => `(tactic| first | with_reducible refine Pr.dget ?_ | with_reducible refine Pr.dput ?_ | with_reducible refine Pr.sfld ?_ | with_reducible refine Pr.u_isInt ?_ | ((with_reducible show Pr.spNeed _ _ _ _ _ _); refine Pr.u_need (by omega) (by omega) ?_) | ((with_reducible show Pr.spIs _ _ _ _ _ _); refine Pr.u_isIn (by omega) ?_) | ((with_reducible apply Rd.fld1); (focus (walk_at "hp")); (focus assumption); (focus assumption); (focus (walk_at "lk"))) | ((with_reducible apply Au.methO); (focus (walk_at "hp")); (focus (walk_at "lk"))) | ((with_reducible apply Au.propO); (focus (walk_at "hp"))) | ((with_reducible show rIxT _ (V.ref _) (V.int _) _ _); refine Rd.ixT (Rd.sqt (by walk_at "hp")) rfl ?_) | ((with_reducible show rIxL _ (V.ref _) (V.int _) _ _); refine Rd.ixL (Rd.sql (by walk_at "hp")) rfl ?_) | ((with_reducible show Rd.rLenQ _ [V.ref _] _ _); first | refine Rd.lenL (Rd.sql (by walk_at "hp")) ?_ | refine Rd.lenT (Rd.sqt (by walk_at "hp")) ?_) | ((with_reducible show gTup _ _ _ (V.ref _) _ _ _); refine Rd.gtup (Rd.sqt (by walk_at "hp")) rfl ?_) | with_reducible refine Gx.gat ?_ | with_reducible refine Gx.gnx ?_ | with_reducible refine Gx.gthen ?_ | with_reducible refine Gx.gplain ?_ | with_reducible refine Gx.gfr ?_ | with_reducible refine Gx.lg ?_ | with_reducible refine Gx.mg ?_ | with_reducible refine Gx.sme ?_ | with_reducible refine Gx.callSD ?_ | with_reducible refine Gx.methSD ?_)
local macro_rules | `(tactic| walk_at "rd1") => `(tactic| first | with_reducible refine Gx.mkR ?_ | ((with_reducible refine Gx.makeV ?hs ?_); (case hs => rfl)) | with_reducible refine Gx.smeX ?_ | with_reducible refine Gx.cmX ?_ | with_reducible refine Gx.isBl ?_ | with_reducible refine Gx.notBl ?_ | with_reducible refine Gx.xk ?_ | with_reducible refine Gx.fr3 ?_ | with_reducible refine Gx.makeD ?_ | with_reducible refine Gx.frz ?_ | with_reducible refine Gx.lcO ?_ | with_reducible refine Gx.itupO ?_ | with_reducible refine Gx.ilistO ?_ | with_reducible refine Gx.irng1O ?_ | with_reducible refine Gx.ival ?_ | ((with_reducible apply Gx.ivalO); (focus (walk_at "hp")); (focus assumption); (focus assumption); (focus (walk_at "lk"))) | ((with_reducible show Gx.rTupOf _ [V.ref _] _ _); refine Gx.tupOfL (Rd.sql (by walk_at "hp")) ?_) | ((with_reducible show Gx.rLstOf _ [V.ref _] _ _); first | refine Gx.lstOfL (Rd.sql (by walk_at "hp")) ?_ | refine Gx.lstOfT (Rd.sqt (by walk_at "hp")) ?_))
local macro_rules | `(tactic| walk_at "hp") => `(tactic| first | assumption | (apply Pr.smq; (focus assumption); (focus (walk_at "hp")); (focus (walk_at "ne")); (walk_at "ne")))
local macro_rules | `(tactic| walk_at "hp") => `(tactic| first | assumption | (apply smb; (focus assumption); (focus (walk_at "hp")); (focus assumption); assumption) | (apply smbK; (focus assumption); (focus (walk_at "hp")); (focus (walk_at "dr")); (constructor <;> (intro _ z; cases z; done))) | (apply smbN; (focus assumption); (focus (walk_at "hp")); (focus assumption); (walk_at "dr")))
local macro_rules | `(tactic| walk_at "dr") => `(tactic| first | assumption | (apply Draw.ex; (focus assumption); (walk_at "dr")) | (apply Draw.exp; (focus assumption); (focus (walk_at "dr")); (focus (walk_at "nd"))) | fail "dr")
local macro_rules | `(tactic| walk_at "nd") => `(tactic| first | assumption | (apply ndN; (focus assumption); (walk_at "dr")) | fail "nd")
local macro_rules | `(tactic| walk_at "rd1") => `(tactic| first | with_reducible refine Gx.istrO ?_ | with_reducible refine Gx.frS ?_ | with_reducible refine Gx.ord1 ?_)
local macro_rules | `(tactic| walk_at "side") => `(tactic| first | ((with_reducible show L2.CMulW _ _); first | decide +kernel | exact wide_mul (a := 96) (b := 96) (by omega) (by omega) (by decide) (by decide) (by decide) | exact wide_mul (a := 300) (b := 96) (by decide) (by decide) (by decide) (by decide) (by decide) | exact wide_mul (a := 160) (b := 96) (by omega) (by omega) (by decide) (by decide) (by decide)))
def spStart : Sp := fun vs H Q _ => ∃ v n, vs = [v] ∧ Sd H v (some n) ∧ ∀ H', Rd.Ex H H' → Q (.int (startN (sN v) n : Nat)) H'
theorem SEED4 : (18446744073709551616 : Int) * 18446744073709551616 * 18446744073709551616 * 18446744073709551616 = 115792089237316195423570985008687907853269984665640564039457584007913129639936 := by decide
theorem coreS (s n i : Nat) : ((coreI s n i).1 : Int) + ((coreI s n i).2 : Int) % 18446744073709551616 = (((coreI s n i).1 + (coreI s n i).2 % 18446744073709551616 : Nat) : Int) := by omega
theorem Sd.good {H : Hp} {v : V} {r : Option Nat} {n : Nat} (S : Sd H v r) (e : r = some n) : v = .int (n : Int) ∨ ∃ z : Str, v = .str z ∧ z.cps.size ≤ 1000 ∧ n = fold256 1 z.cps.toList := by
  cases S with
  | int m =>
    split at e
    · cases e
      refine .inl ?_
      rw [Int.toNat_of_nonneg (by omega)]
    · cases e
  | str z h =>
    split at e
    · cases e
      exact .inr ⟨z, rfl, h, rfl⟩
    · cases e
  | non h => cases e
theorem cal__law_start (T : Txt K mg C_Linear C_Leaping C_DrawError C_BadSeed C_BadNumber R_ROUNDS) : C8.Cal P w K mg base 3 "_law_start" (spStart) [] := by
  obtain ⟨f, fd, F, b⟩ := T.d__law_start
  refine C8.cal0 F b .nil sc__law_start (fun vs H Q E h => ?_) (fun cdv A outer s H vs Q E hr h => ?_)
  · obtain ⟨v, n, rfl, _⟩ := h; rfl
  · obtain ⟨v, n, rfl, S, q⟩ := h
    have hu := hu_of hr
    have hu64 := hr.units
    have cl_Linear := T.cl_Linear
    have n_Linear_s2_x := T.n_Linear_s2_x
    have cl_Leaping := T.cl_Leaping
    have n_Leaping_s2_leap_x := T.n_Leaping_s2_leap_x
    have n_Leaping_s2_every := T.n_Leaping_s2_every
    refine ⟨_, (pss_cons (ps_par (i := 1) (j := 2) rfl sc__law_start.nd rfl rfl (by decide) rfl rfl (pa_cons pe_int (pa_cons (pv 0) pa_nil)) (by rfl))
      (C8.pss_cut (ps_if (pt_val (pe_callB call_isi (by rfl) T.b_isinstance (by decide +kernel) (pa_cons (pv 0) (pa_cons (pe_bltn (v := .ty "str") (by rfl) T.b_str (by decide +kernel) rfl) pa_nil)))) (pss_cons (ps_set (i := 2) sc__law_start.nd rfl (.inl rfl) pe_int)
      (pss_one (ps_for PassesOwn.never rfl (pi_str (pv 0)) (pg_name (i := 3) sc__law_start.nd rfl (.inl rfl)) (pss_one (ps_set (i := 2) sc__law_start.nd rfl (.inl rfl) (pe_op op_mod (pe_op op_add (pe_op op_mul pe_int (pv 2)) (pe_callB Gx.call_ordQ (by rfl) T.b_ord (by decide +kernel) (pa_cons (pv 3) pa_nil))) (pe_op op_mulW (pe_op op_mulW (pe_op op_mulW (pv 1) (pv 1)) (pv 1)) (pv 1)))))))) pss_nil)
      (pss_cons (ps_set (i := 4) sc__law_start.nd rfl (.inl rfl) (C8.pe_c (cal__law_mixed T) hr (by omega) (by rfl) (pa_cons (pe_ifExp (pt_val (pe_callB call_isi (by rfl) T.b_isinstance (by decide +kernel) (pa_cons (pv 0) (pa_cons (pe_bltn (v := .ty "str") (by rfl) T.b_str (by decide +kernel) rfl) pa_nil)))) pe_int pe_int) pa_nil)))
      (pss_cons (ps_for PassesOwn.never rfl (pi_range1 rfl T.b_range (pa_cons pe_int pa_nil)) (pg_name (i := 5) sc__law_start.nd rfl (.inl rfl)) (pss_cons (ps_set (i := 4) sc__law_start.nd rfl (.inl rfl) (C8.pe_c (cal__law_mixed T) hr (by omega) (by rfl) (pa_cons (pe_op op_mod (pe_op op_add (pv 4) (pe_op op_mod (pv 2) (pv 1))) (pv 1)) pa_nil)))
      (pss_one (ps_set (i := 2) sc__law_start.nd rfl (.inl rfl) (pe_op op_fdivW (pv 2) (pv 1))))))
      (pss_cons (ps_set (i := 6) sc__law_start.nd rfl (.inl rfl) (pe_op op_fdivW (C8.pe_c (cal__law_mixed T) hr (by omega) (by rfl) (pa_cons (pe_op op_mod (pe_op op_add (pv 4) pe_int) (pv 1)) pa_nil)) pe_int))
      (pss_one (ps_ret (pe_op op_add (pe_op op_mul (pv 6) pe_int) (pe_op op_fdivW (pe_op op_fdivW (C8.pe_c (cal__law_mixed T) hr (by omega) (by rfl) (pa_cons (pe_op op_mod (pe_op op_add (pv 4) pe_int) (pv 1)) pa_nil)) pe_int) pe_int))))))))), ?_⟩
    walk_at "rd"
    refine Rd.cut (fun σ' H' => ∃ y3, σ' = [some v, some (.int 18446744073709551616), some (.int (n : Nat)), y3, none, none, none] ∧ H = H') ?_ ?_
    · walk_at "rd"
      rcases S.good rfl with rfl | ⟨z, rfl, hz, rfl⟩
      · refine isS_no (.inr ⟨_, rfl⟩) ?_
        walk_at "rd"
        exact ⟨_, rfl, rfl⟩
      · refine isS_yes ?_
        walk_at "rd"
        refine ⟨z, rfl, Gx.for_str (fun i σ' H' => ∃ y3, σ' = [some (.str z), some (.int 18446744073709551616), some (.int (fold256 1 (z.cps.toList.take i) : Nat)), y3, none, none, none] ∧ H = H' ∧ fold256 1 (z.cps.toList.take i) < SEEDN) ⟨none, rfl, rfl, show 1 < SEEDN by decide⟩ ?_ ?_⟩
        · rintro i c σ' H' hc ⟨y3, rfl, rfl, hf⟩
          have hc' : z.cps.toList[i]? = some c := by rw [Array.getElem?_toList]; exact hc
          obtain ⟨h1, h2⟩ := List.getElem?_eq_some_iff.mp hc'
          rw [List.take_succ_eq_append_getElem h1, h2, fold_snoc]
          generalize fold256 1 (z.cps.toList.take i) = m at hf
          walk_at "rd"
          rw [SEED4, modS]
          exact ⟨_, rfl, rfl, Nat.mod_lt _ (by decide)⟩
        · rintro σ' H' ⟨y3, rfl, rfl, hf⟩
          rw [← Array.length_toList, List.take_length]
          exact ⟨_, rfl, rfl⟩
    · rintro σ' H' ⟨y3, rfl, rfl⟩
      walk_at "rd"
      refine isS_any S ?_
      walk_at "rd"
      refine Gx.pick_if (fun x H' => x = .int (sN v : Nat) ∧ H = H') ?_ (fun c key => ?_) (fun c key => ?_)
      rotate_left
      · exact key _ _ ⟨by unfold sN; rw [if_pos c]; rfl, rfl⟩
      · exact key _ _ ⟨by unfold sN; rw [if_neg c]; rfl, rfl⟩
      rintro _ _ ⟨rfl, rfl⟩
      have hs : sN v < 18446744073709551616 := by unfold sN; split <;> decide
      generalize sN v = s0 at q hs
      walk_at "rd"
      refine u_fn hs fun H2 e2 => ?_
      walk_at "rd"
      refine Rd.frN (n := 4) rfl (by decide) (fun i σ' H' => ∃ y3 y5, σ' = [some v, some (.int 18446744073709551616), some (.int ((coreI s0 n i).2 : Nat)), y3, some (.int ((coreI s0 n i).1 : Nat)), y5, none] ∧ Rd.Ex H H') ⟨_, none, rfl, fun c o h => by walk_at "hp"⟩ ?_ ?_
      · rintro i σ' H' hi ⟨y3, y5, rfl, e3⟩
        walk_at "rd"
        rw [coreS, modD, Nat.add_mod_mod]
        refine u_fn (Nat.mod_lt _ (by decide)) fun H4 e4 => ?_
        walk_at "rd"
        rw [divD]
        exact ⟨_, _, rfl, fun c o h => by walk_at "hp"⟩
      · rintro σ' H' ⟨y3, y5, rfl, e3⟩
        have hc : (coreI s0 n 4).1 = coreN s0 n := rfl
        walk_at "rd"
        rw [hc, show ((coreN s0 n : Nat) : Int) + 1 = ((coreN s0 n + 1 + 0 : Nat) : Int) by omega, modD]
        refine u_fn (Nat.mod_lt _ (by decide)) fun H4 e4 => ?_
        walk_at "rd"
        rw [show ((coreN s0 n : Nat) : Int) + 2 = ((coreN s0 n + 1 + 1 : Nat) : Int) by omega, modD]
        refine u_fn (Nat.mod_lt _ (by decide)) fun H5 e5 => ?_
        walk_at "rd"
        rw [divN, divN]
        have h0 := swd_lt (coreN s0 n) 0
        have h1 := swd_lt (coreN s0 n) 1
        have z := q H5 (fun c o h => by walk_at "hp")
        rw [← startI] at z
        exact z
end
end Pf

set_option Elab.async false
set_option linter.all false
set_option maxRecDepth 100000
set_option maxHeartbeats 4000000
set_option exponentiation.threshold 3000
namespace Pf
open PySem PySem.Spec PyProof.Rows L2
section
variable {P : Program} {w : World} {K : PySem.W.Frag} {mg : Str → Option Value} {base : Heap} {C_Linear C_Leaping C_DrawError C_BadSeed C_BadNumber R_ROUNDS : Addr}
local macro_rules | `(tactic| walk_at "side") => `(tactic| first | ((with_reducible show L2.CMul _ _); first | exact Or.inl ⟨by omega, by omega⟩ | exact Or.inr ⟨by omega, by omega⟩) | ((with_reducible show L2.CPow _ _); exact ⟨by decide, by decide, by decide⟩) | ((with_reducible show L2.CMulW _ _); exact wide_mul (a := 96) (b := 96) (by omega) (by omega) (by decide) (by decide) (by decide)) | ((with_reducible show L2.CDivW _ _); first | exact wide_div (b := 96) (by omega) (by omega) (by decide) (by decide) | exact wide_div (b := 300) (by omega) (by omega) (by decide) (by decide)) | (show (0 : Int) < _; omega) | (show (0 : Int) ≤ _; omega))
local macro_rules | `(tactic| walk_at "rd1") => `(tactic| first | with_reducible refine Rd.seq ?_ | with_reducible refine Rd.asg ?_ | with_reducible refine Rd.nm ?_ | with_reducible refine Rd.ret ?_ | with_reducible refine Rd.drop ?_ | with_reducible refine Rd.ifs ?_ | with_reducible refine Rd.par ?_ | with_reducible refine Rd.par3 ?_ | with_reducible refine Rd.next ?_ | with_reducible refine Rd.fr1 ?_ | with_reducible refine Rd.nxp ?_ | with_reducible refine Rd.rtp ?_ | ((with_reducible show tVar _ _ _ _); refine Rd.var rfl ?_) | with_reducible refine Rd.cst ?_ | with_reducible refine Rd.op ?_ | with_reducible refine Rd.un ?_ | with_reducible refine Rd.i0 ?_ | with_reducible refine Rd.ung ?_ | with_reducible refine Rd.eqI ?_ | with_reducible refine Rd.neI ?_ | with_reducible refine Rd.eqS ?_ | with_reducible refine Rd.neS ?_ | with_reducible refine Rd.test ?_ | with_reducible refine Rd.tstB ?_ | with_reducible refine Rd.isB ?_ | with_reducible refine Rd.not ?_ | with_reducible refine Rd.andT ?_ | with_reducible refine Rd.orT ?_ | with_reducible refine Rd.andV ?_ | with_reducible refine Rd.orV ?_ | with_reducible refine Rd.notV ?_ | with_reducible refine Rd.ifE ?_ | with_reducible refine Rd.chain ?_ | with_reducible refine Rd.nil ?_ | with_reducible refine Rd.cons ?_ | with_reducible refine Rd.call ?_ | with_reducible refine Rd.cb ?_ | with_reducible refine Rd.bm ?_ | with_reducible refine Au.revL ?_ | with_reducible refine Rd.frl ?_ | with_reducible refine Rd.frt ?_ | with_reducible refine Rd.fre ?_ | with_reducible refine Rd.disp ?_ | with_reducible refine Rd.pnil ?_ | with_reducible refine Rd.pcons ?_ | with_reducible refine Rd.gcons ?_ | with_reducible refine Rd.gnil ?_ | with_reducible refine Rd.gsub ?_ | with_reducible refine Rd.setD ?_ | ((with_reducible show gTup _ _ _ _ _ (upd _ _ (HO.tup _)) _); refine Rd.tupNew rfl ?_) | with_reducible refine Rd.fld ?_ | with_reducible refine Rd.meth ?_ | with_reducible refine Rd.make ?_ | with_reducible refine Rd.prop ?_ | with_reducible refine Au.tup ?_ | with_reducible refine Au.lst ?_ | ((with_reducible refine Au.lenOk ?hl ?_); (case hl => exact rfl)) | with_reducible refine Au.nopart ?_ | with_reducible refine Au.part ?_ | with_reducible refine Au.isI ?_ | with_reducible refine Au.sl ?_ | with_reducible refine Au.pr2 ?_ | with_reducible refine Au.pr3 ?_ | with_reducible refine Au.eqB ?_ | with_reducible refine Rd.isInt ?_ | with_reducible refine Rd.isBool ?_ | with_reducible refine Rd.mx2 ?_ | with_reducible refine Rd.mn2 ?_ | ((with_reducible show Rd.rAndM _ _ _ _); first | refine Rd.and1 ?_ | refine Rd.and48 ?_ | refine Rd.and32 ?_ | refine Rd.and64 ?_ | refine Rd.and65 ?_) | ((with_reducible refine Rd.iC ?hc ?_); (case hc => walk_at "side")) | ((with_reducible refine Rd.yes ?hc ?_); (case hc => first | omega | exact rfl)) | ((with_reducible refine Rd.no ?hc ?_); (case hc => omega)) | ((with_reducible refine Rd.noN ?hc ?_); (case hc => first | omega | exact rfl)) | ((with_reducible refine Rd.yesN ?hc ?_); (case hc => omega)) | ((with_reducible refine Rd.yesNN ?hc ?_); (case hc => omega)) | ((with_reducible refine Rd.noNN ?hc ?_); (case hc => omega)) | with_reducible refine iteT ?_ | with_reducible refine iteF ?_ | with_reducible refine Rd.iteNT ?_ | with_reducible refine Rd.iteNF ?_)
local macro_rules | `(tactic| walk_at "rd") => `(tactic| repeat (walk_at "rd1"))
local macro_rules | `(tactic| walk_at "hp") => `(tactic| first | assumption | (apply Au.sm; (focus assumption); (walk_at "hp")) | (apply Au.smp; (focus assumption); (focus (walk_at "hp")); (walk_at "ne")) | (apply Au.smn; (focus assumption); (focus (walk_at "hp")); (focus (intro _ z; cases z; done))) | fail "hp")
local macro_rules | `(tactic| walk_at "ne") => `(tactic| first | assumption | (apply Ne.symm; assumption) | (apply Au.nen; (focus assumption); (walk_at "hp")) | (apply Au.nen'; (focus assumption); (walk_at "hp")) | (apply Au.nek; (focus assumption); (focus assumption); (intro z; cases z; done)) | (apply Au.nek2; (focus assumption); (focus (walk_at "hp")); (intro z; cases z; done)) | fail "ne")
local macro_rules | `(tactic| walk_at "dp") => `(tactic| first | exact Dp.int _ | exact Dp.str _ | exact Dp.bl _ | exact Dp.non | (apply Dp.lst; (focus (apply Rd.sql; walk_at "hp")); (walk_at "dps")) | (apply Dp.tup; (focus (apply Rd.sqt; walk_at "hp")); (walk_at "dps")) | fail "dp")
local macro_rules | `(tactic| walk_at "dps") => `(tactic| first | exact DpAll.nil | (apply DpAll.cons; (focus (walk_at "dp")); (walk_at "dps")) | fail "dps")
local macro_rules | `(tactic| walk_at "shp") => `(tactic| ((simp only [SeqAt.shaped, PyData.canLay0, PyData.canLayAll0, PyData.depth, PyData.depthAll]) <;> first | decide | rfl))
local macro_rules | `(tactic| walk_at "sd") => `(tactic| first | assumption | rfl | omega | (walk_at "hp") | (refine ⟨?_, ?_⟩; (focus (walk_at "sd")); (walk_at "sd")) | fail "sd")
local macro_rules | `(tactic| walk_at "lk") => `(tactic| first | exact Rd.lk1 | rfl | decide +kernel)
local macro_rules | `(tactic| walk_at "rd1") => `(tactic| first | with_reducible refine Pr.dget ?_ | with_reducible refine Pr.dput ?_ | with_reducible refine Pr.sfld ?_ | with_reducible refine Pr.u_isInt ?_ | ((with_reducible show Pr.spNeed _ _ _ _ _ _); refine Pr.u_need (by omega) (by omega) ?_) | ((with_reducible show Pr.spIs _ _ _ _ _ _); refine Pr.u_isIn (by omega) ?_) | ((with_reducible apply Rd.fld1); (focus (walk_at "hp")); (focus assumption); (focus assumption); (focus (walk_at "lk"))) | ((with_reducible apply Au.methO); (focus (walk_at "hp")); (focus (walk_at "lk"))) | ((with_reducible apply Au.propO); (focus (walk_at "hp"))) | ((with_reducible show rIxT _ (V.ref _) (V.int _) _ _); refine Rd.ixT (Rd.sqt (by walk_at "hp")) rfl ?_) | ((with_reducible show rIxL _ (V.ref _) (V.int _) _ _); refine Rd.ixL (Rd.sql (by walk_at "hp")) rfl ?_) | ((with_reducible show Rd.rLenQ _ [V.ref _] _ _); first | refine Rd.lenL (Rd.sql (by walk_at "hp")) ?_ | refine Rd.lenT (Rd.sqt (by walk_at "hp")) ?_) | ((with_reducible show gTup _ _ _ (V.ref _) _ _ _); refine Rd.gtup (Rd.sqt (by walk_at "hp")) rfl ?_) | with_reducible refine Gx.gat ?_ | with_reducible refine Gx.gnx ?_ | with_reducible refine Gx.gthen ?_ | with_reducible refine Gx.gplain ?_ | with_reducible refine Gx.gfr ?_ | with_reducible refine Gx.lg ?_ | with_reducible refine Gx.mg ?_ | with_reducible refine Gx.sme ?_ | with_reducible refine Gx.callSD ?_ | with_reducible refine Gx.methSD ?_)
local macro_rules | `(tactic| walk_at "rd1") => `(tactic| first | with_reducible refine Gx.mkR ?_ | ((with_reducible refine Gx.makeV ?hs ?_); (case hs => rfl)) | with_reducible refine Gx.smeX ?_ | with_reducible refine Gx.cmX ?_ | with_reducible refine Gx.isBl ?_ | with_reducible refine Gx.notBl ?_ | with_reducible refine Gx.xk ?_ | with_reducible refine Gx.fr3 ?_ | with_reducible refine Gx.makeD ?_ | with_reducible refine Gx.frz ?_ | with_reducible refine Gx.lcO ?_ | with_reducible refine Gx.itupO ?_ | with_reducible refine Gx.ilistO ?_ | with_reducible refine Gx.irng1O ?_ | with_reducible refine Gx.ival ?_ | ((with_reducible apply Gx.ivalO); (focus (walk_at "hp")); (focus assumption); (focus assumption); (focus (walk_at "lk"))) | ((with_reducible show Gx.rTupOf _ [V.ref _] _ _); refine Gx.tupOfL (Rd.sql (by walk_at "hp")) ?_) | ((with_reducible show Gx.rLstOf _ [V.ref _] _ _); first | refine Gx.lstOfL (Rd.sql (by walk_at "hp")) ?_ | refine Gx.lstOfT (Rd.sqt (by walk_at "hp")) ?_))
local macro_rules | `(tactic| walk_at "hp") => `(tactic| first | assumption | (apply Pr.smq; (focus assumption); (focus (walk_at "hp")); (focus (walk_at "ne")); (walk_at "ne")))
local macro_rules | `(tactic| walk_at "hp") => `(tactic| first | assumption | (apply smb; (focus assumption); (focus (walk_at "hp")); (focus assumption); assumption) | (apply smbK; (focus assumption); (focus (walk_at "hp")); (focus (walk_at "dr")); (constructor <;> (intro _ z; cases z; done))) | (apply smbN; (focus assumption); (focus (walk_at "hp")); (focus assumption); (walk_at "dr")))
local macro_rules | `(tactic| walk_at "dr") => `(tactic| first | assumption | (apply Draw.ex; (focus assumption); (walk_at "dr")) | (apply Draw.exp; (focus assumption); (focus (walk_at "dr")); (focus (walk_at "nd"))) | fail "dr")
local macro_rules | `(tactic| walk_at "nd") => `(tactic| first | assumption | (apply ndN; (focus assumption); (walk_at "dr")) | fail "nd")
local macro_rules | `(tactic| walk_at "rd1") => `(tactic| first | with_reducible refine Gx.istrO ?_ | with_reducible refine Gx.frS ?_ | with_reducible refine Gx.ord1 ?_)
local macro_rules | `(tactic| walk_at "side") => `(tactic| first | ((with_reducible show L2.CMulW _ _); first | decide +kernel | exact wide_mul (a := 96) (b := 96) (by omega) (by omega) (by decide) (by decide) (by decide) | exact wide_mul (a := 300) (b := 96) (by decide) (by decide) (by decide) (by decide) (by decide) | exact wide_mul (a := 160) (b := 96) (by omega) (by omega) (by decide) (by decide) (by decide)))
def spSeedD : Sp := fun vs H Q _ => ∃ (d g : Addr), vs = [.ref d] ∧ Draw H d g ∧ ∀ (H' : Hp) (v : V) (n : Nat), Draw H' d g → ExB d g H H' → (∀ H2, Sd H2 v (some n)) → Q v H'
theorem sdInt {m : Int} (h0 : 0 ≤ m) (h1 : m < 115792089237316195423570985008687907853269984665640564039457584007913129639936) : ∀ H2, Sd H2 (.int m) (some m.toNat) := fun H2 => by
  have z := Sd.int (H := H2) m
  rwa [if_pos ⟨h0, h1⟩] at z
theorem joinE (cs : List Nat) : TL.joinL [] (cs.map fun c => [c]) = cs := by
  induction cs with
  | nil => rfl
  | cons a r ih =>
    cases r with
    | nil => rfl
    | cons b r => 
      show [a] ++ ([] ++ TL.joinL [] ((b :: r).map fun c => [c])) = a :: b :: r
      rw [ih]
      rfl
theorem cal__law_seed (T : Txt K mg C_Linear C_Leaping C_DrawError C_BadSeed C_BadNumber R_ROUNDS) : C8.Cal P w K mg base 2 "_law_seed" (spSeedD) [] := by
  obtain ⟨f, fd, F, b⟩ := T.d__law_seed
  refine C8.cal0 F b .nil sc__law_seed (fun vs H Q E h => ?_) (fun cdv A outer s H vs Q E hr h => ?_)
  · obtain ⟨d, g, rfl, _⟩ := h; rfl
  · obtain ⟨d, g, rfl, D, q⟩ := h
    have hu := hu_of hr
    have hu64 := hr.units
    have cl_Linear := T.cl_Linear
    have n_Linear_s2_x := T.n_Linear_s2_x
    have cl_Leaping := T.cl_Leaping
    have n_Leaping_s2_leap_x := T.n_Leaping_s2_leap_x
    have n_Leaping_s2_every := T.n_Leaping_s2_every
    refine ⟨_, (pss_cons (ps_set (i := 1) sc__law_seed.nd rfl (.inl rfl) pe_int)
      (pss_cons (ps_set (i := 2) sc__law_seed.nd rfl (.inl rfl) (pe_lst (pa_cons pe_int (pa_cons pe_int (pa_cons (pe_op op_sub (pv 1) pe_int) (pa_cons (pv 1) (pa_cons (pe_op op_mulW (pv 1) (pv 1)) (pa_cons (pe_op op_sub (pe_op op_mulW (pe_op op_mulW (pe_op op_mulW (pv 1) (pv 1)) (pv 1)) (pv 1)) pe_int) pa_nil))))))))
      (pss_cons (ps_expr (pe_bm PySem.F.plainAttrs_list PySem.F.slot_list_append PySem.F.type_list_append mt_append (pv 2) (pa_cons (C8.pe_c (cal__law_next T) hr (by omega) (by rfl) (pa_cons (pv 0) (pa_cons pe_int pa_nil))) pa_nil)))
      (pss_cons (ps_expr (pe_bm PySem.F.plainAttrs_list PySem.F.slot_list_append PySem.F.type_list_append mt_append (pv 2) (pa_cons (pe_op op_add (pe_op op_mulW (pe_op op_mulW (C8.pe_c (cal__law_next T) hr (by omega) (by rfl) (pa_cons (pv 0) (pa_cons (pv 1) pa_nil))) (pv 1)) (pv 1)) (C8.pe_c (cal__law_next T) hr (by omega) (by rfl) (pa_cons (pv 0) (pa_cons (pv 1) pa_nil)))) pa_nil)))
      (pss_cons (ps_if (pt_cmpR op_eq (C8.pe_c (cal__law_next T) hr (by omega) (by rfl) (pa_cons (pv 0) (pa_cons pe_int pa_nil))) pe_int (nomark _)) (pss_one (ps_ret (pe_ix ix_list (pv 2) (C8.pe_c (cal__law_next T) hr (by omega) (by rfl) (pa_cons (pv 0) (pa_cons pe_int pa_nil))) (fun _ _ => rfl)))) pss_nil)
      (pss_cons (ps_set (i := 3) sc__law_seed.nd rfl (.inr rfl) pe_str)
      (pss_cons (ps_set (i := 4) sc__law_seed.nd rfl (.inl rfl) (pe_ix ix_list (pe_lst (pa_cons pe_int (pa_cons pe_int (pa_cons pe_int (pa_cons (C8.pe_c (cal__law_next T) hr (by omega) (by rfl) (pa_cons (pv 0) (pa_cons pe_int pa_nil))) pa_nil))))) (C8.pe_c (cal__law_next T) hr (by omega) (by rfl) (pa_cons (pv 0) (pa_cons pe_int pa_nil))) (fun _ _ => rfl)))
      (pss_one (ps_ret (pe_join pe_str (pe_lc (own := [("_law_k", 5)]) rfl sc__law_seed.nd (pi_range1 rfl T.b_range (pa_cons (pv 4) pa_nil)) (blkOk_by (N := ["_law_draw", "_law_double", "_law_some", "_law_signs", "_law_many", "_law_k"]) (sc := C8.fnScope s__law_seed) (by decide +kernel)) (fun _ _ _ _ _ => (pg_name (i := 5) sc__law_seed.nd rfl (.inl rfl))) (fun _ _ _ _ _ => pts_nil) (fun _ _ _ _ _ => (pe_ix ix_str (pv 3) (C8.pe_c (cal__law_next T) hr (by omega) (by rfl) (pa_cons (pv 0) (pa_cons pe_int pa_nil))) (fun _ _ => rfl)))))))))))))), ?_⟩
    walk_at "rd"
    have bigD : (18446744073709551616 : Int) * 18446744073709551616 = 340282366920938463463374607431768211456 := by decide
    refine Au.new fun l H1 hl e1 k1 => ?_
    walk_at "rd"
    have nd := Draw.nd D hl
    refine ⟨Rd.tyL k1, ?_⟩
    walk_at "rd"
    refine u_next (by decide) (by decide) (D.ex e1) fun H2 a a0 a1 D2 x2 => ?_
    walk_at "rd"
    have k2 := x2 _ _ k1 nd.1 nd.2
    refine Au.app k2 (Nat.le_of_ble_eq_true rfl) fun H3 m3 k3 => ?_
    have nD3 : Draw H3 d g := Draw.exp m3 D2 nd
    walk_at "rd"
    refine ⟨Rd.tyL k3, ?_⟩
    walk_at "rd"
    refine u_next (by decide) (by decide) nD3 fun H4 b b0 b1 D4 x4 => ?_
    walk_at "rd"
    refine u_next (by decide) (by decide) D4 fun H5 c c0 c1 D5 x5 => ?_
    walk_at "rd"
    have k5 := x5 _ _ (x4 _ _ k3 nd.1 nd.2) nd.1 nd.2
    refine Au.app k5 (Nat.le_of_ble_eq_true rfl) fun H6 m6 k6 => ?_
    have D6 : Draw H6 d g := Draw.exp m6 D5 nd
    have X6 : ExB d g H H6 := fun c' o h n1 n2 => by walk_at "hp"
    replace k6 : H6 l = some (.lst (([0, 1, 18446744073709551616 - 1, 18446744073709551616, 18446744073709551616 * 18446744073709551616, 18446744073709551616 * 18446744073709551616 * 18446744073709551616 * 18446744073709551616 - 1, a, b * 18446744073709551616 * 18446744073709551616 + c] : List Int).map V.int)) := k6
    clear e1 x2 m3 x4 x5 m6 k1 k2 k3 k5
    walk_at "rd"
    refine u_next (by decide) (by decide) D6 fun H7 w w0 w1 D7 x7 => ?_
    have k7 := x7 _ _ k6 nd.1 nd.2
    walk_at "rd"
    refine Rd.both (fun cw => ?_) (fun cw => ?_)
    · walk_at "rd"
      refine u_next (by decide) (by decide) D7 fun H8 i i0 i1 D8 x8 => ?_
      have k8 := x8 _ _ k7 nd.1 nd.2
      walk_at "rd"
      obtain ⟨x, hx, ex⟩ := Gx.pick (P := fun x => 0 ≤ x ∧ x < 115792089237316195423570985008687907853269984665640564039457584007913129639936) (l := [0, 1, 18446744073709551616 - 1, 18446744073709551616, 18446744073709551616 * 18446744073709551616, 18446744073709551616 * 18446744073709551616 * 18446744073709551616 * 18446744073709551616 - 1, a, b * 18446744073709551616 * 18446744073709551616 + c]) (fun x hx => by
        simp only [List.mem_cons, List.not_mem_nil, or_false] at hx
        omega) i0 i1
      refine Rd.ixL (Rd.sql k8) ex ?_
      exact q H8 (.int x) x.toNat D8 ((X6.trans x7).trans x8) (sdInt hx.1 hx.2)
    · walk_at "rd"
      refine u_next (by decide) (by decide) D7 fun H8 i i0 i1 D8 x8 => ?_
      walk_at "rd"
      refine Au.new fun l4 H9 hl4 e9 k9 => ?_
      walk_at "rd"
      refine u_next (by decide) (by decide) (D8.ex e9) fun H10 j j0 j1 D10 x10 => ?_
      have nd4 := Draw.nd D8 hl4
      have k10 := x10 _ _ k9 nd4.1 nd4.2
      replace k10 : H10 l4 = some (.lst (([0, 1, 100, i] : List Int).map V.int)) := k10
      walk_at "rd"
      obtain ⟨m, hm, em⟩ := Gx.pick (P := fun x => 0 ≤ x ∧ x ≤ 100) (l := [0, 1, 100, i]) (fun x hx => by
        simp only [List.mem_cons, List.not_mem_nil, or_false] at hx
        omega) j0 j1
      refine Rd.ixL (Rd.sql k10) em ?_
      have X10 : ExB d g H H10 := ((X6.trans x7).trans x8).trans ((ExB.of e9).trans x10)
      clear x7 x8 e9 x10 k9 k10 k7 k6 X6
      obtain ⟨m, rfl⟩ := Int.eq_ofNat_of_zero_le hm.1
      walk_at "rd"
      refine ⟨⟨_, rfl⟩, ?_⟩
      walk_at "rd"
      refine ⟨_, rfl, by omega, by omega, ?_⟩
      rw [Int.toNat_natCast]
      refine Gx.lcRng (fun D' k acc H' => ∃ cs : List Nat, acc = cs.map (fun c => V.str ⟨#[c]⟩) ∧ cs.length = k ∧ (∀ c ∈ cs, okS c) ∧ Draw H' d g ∧ ExB d g H10 H') (fun D' Ha hD ea ka => ⟨[], rfl, rfl, fun c hc => (by cases hc), D10.ex ea, ExB.of ea⟩) (fun D' k acc Ha hD hk hl' ka p => ?_) (fun D' acc Ha hD ka p => ?_)
      · obtain ⟨cs, rfl, lc, hc, Da, xa⟩ := p
        have ndD := Draw.nd D10 hD
        walk_at "rd"
        refine u_next (by decide) (by decide) Da fun Hb u u0 u1 Db xb => ?_
        have kb := xb _ _ ka ndD.1 ndD.2
        obtain ⟨c, hcS, ec⟩ : ∃ c : Nat, okS c ∧ atI (Str.ofString " !abcXYZ09~").cps.toList u = some c := by
          have : u = 0 ∨ u = 1 ∨ u = 2 ∨ u = 3 ∨ u = 4 ∨ u = 5 ∨ u = 6 ∨ u = 7 ∨ u = 8 ∨ u = 9 ∨ u = 10 := by omega
          have es : (Str.ofString " !abcXYZ09~").cps.toList = [32, 33, 97, 98, 99, 88, 89, 90, 48, 57, 126] := by decide +kernel
          rw [es]
          rcases this with rfl | rfl | rfl | rfl | rfl | rfl | rfl | rfl | rfl | rfl | rfl
          · exact ⟨32, by decide, rfl⟩
          · exact ⟨33, by decide, rfl⟩
          · exact ⟨97, by decide, rfl⟩
          · exact ⟨98, by decide, rfl⟩
          · exact ⟨99, by decide, rfl⟩
          · exact ⟨88, by decide, rfl⟩
          · exact ⟨89, by decide, rfl⟩
          · exact ⟨90, by decide, rfl⟩
          · exact ⟨48, by decide, rfl⟩
          · exact ⟨57, by decide, rfl⟩
          · exact ⟨126, by decide, rfl⟩
        walk_at "rd"
        refine ⟨_, u, c, rfl, rfl, by decide +kernel, ec, ?_⟩
        refine Gx.lcN kb hl' (by omega) fun H5 m5 k5 => ⟨cs ++ [c], by simp, by simp [lc], fun c' h' => ?_, Draw.exp m5 Db ndD, fun c o h n1 n2 => by walk_at "hp"⟩
        rcases List.mem_append.mp h' with h' | h'
        · exact hc c' h'
        · cases List.mem_singleton.mp h'; exact hcS
      · obtain ⟨cs, rfl, lc, hc, Da, xa⟩ := p
        have ej : Txt.join (Str.ofString "") (cs.map fun c => (⟨#[c]⟩ : Str)) = ⟨cs.toArray⟩ := by
          have z := SX.join_S [] (cs.map fun c => [c])
          rw [joinE, List.map_map] at z
          exact z
        refine ⟨_, D', cs.map fun c => ⟨#[c]⟩, rfl, rfl, .inl (Rd.sql (by rw [ka, List.map_map]; rfl)), ?_, ?_⟩
        · rw [List.map_map]
          have : ∀ l : List Nat, (l.map ((fun x : Str => x.length) ∘ fun c => (⟨#[c]⟩ : Str))).sum = l.length := fun l => by
            induction l with
            | nil => rfl
            | cons a r ih => rw [List.map_cons, List.sum_cons, ih, List.length_cons]; show 1 + r.length = _; omega
          rw [this, show (Str.ofString "").length = 0 by decide +kernel, Nat.mul_zero]
          omega
        · rw [ej]
          have hsz : (Str.mk cs.toArray).cps.size = m := by show cs.toArray.size = m; rw [List.size_toArray]; exact lc
          refine q Ha _ (fold256 1 cs) Da (X10.trans xa) fun H2 => ?_
          have z := Sd.str (H := H2) ⟨cs.toArray⟩ (by rw [hsz]; omega)
          have ok : okT ⟨cs.toArray⟩ = true := by
            unfold okT
            rw [hsz, decide_eq_true (show m ≤ 100 by omega), Bool.true_and, List.all_eq_true]
            intro c h'
            exact decide_eq_true (hc c (by simpa using h'))
          rw [if_pos ok] at z
          exact z
def spRefd (CL : Addr) : Sp := fun vs H Q _ => ∃ (k : Str) (v : V), vs = [.str k, v] ∧ Sd H v none ∧ ∀ p H', H p = none → Rd.Ex H H' → H' p = some (.lst [v]) → Q (.ref p) H'
theorem cal__law_refused (T : Txt K mg C_Linear C_Leaping C_DrawError C_BadSeed C_BadNumber R_ROUNDS) : C8.Cal P w K mg base 15 "_law_refused" (spRefd C_Linear) [] := by
  obtain ⟨f, fd, F, b⟩ := T.d__law_refused
  refine C8.cal0 F b .nil sc__law_refused (fun vs H Q E h => ?_) (fun cdv A outer s H vs Q E hr h => ?_)
  · obtain ⟨k, v, rfl, _⟩ := h; rfl
  · obtain ⟨k, v, rfl, S, q⟩ := h
    have hu := hu_of hr
    have hu64 := hr.units
    have cl_Linear := T.cl_Linear
    have n_Linear_s2_x := T.n_Linear_s2_x
    have cl_Leaping := T.cl_Leaping
    have n_Leaping_s2_leap_x := T.n_Leaping_s2_leap_x
    have n_Leaping_s2_every := T.n_Leaping_s2_every
    refine ⟨_, (pss_cons (ps_try_as (i := 3) rfl rfl sc__law_refused.nd rfl (by rfl) ⟨by rfl, by decide, .inl T.g_BadSeed⟩ LamX.takes0 (fun W pn xe tk _ => (pss_one (ps_set (i := 2) sc__law_refused.nd rfl (.inl rfl) (pe_ifExp (pt_cmpR op_eq (pv 0) pe_str (nomark _)) (Gx.pe_cmx (cmetx_Linear_seeded T) (Gx.takesL tk) (E := fun cls d H => ∀ σ : L2.St, σ.length = 4 → W cls d σ H) (fun cls d σ H h => h σ) hr (by omega) (C8.pe_gc (by rfl) T.k_Linear) (pa_cons (pv 1) pa_nil)) (Gx.pe_cmx (cmetx_Leaping_seeded T) (Gx.takesL tk) (E := fun cls d H => ∀ σ : L2.St, σ.length = 4 → W cls d σ H) (fun cls d σ H h => h σ) hr (by omega) (C8.pe_gc (by rfl) T.k_Leaping) (pa_cons (pv 1) pa_nil)))))) (fun a oe cls d pn hz hf => (pss_one (ps_ret (pe_lst (pa_cons (pe_xf T.f_BadSeed T.n_BadSeed_given hz hf (pv 3)) pa_nil))))))
      (pss_one (ps_ret (pe_lst (pa_cons (pv 2) (pa_cons pe_non pa_nil)))))), ?_⟩
    walk_at "rd"
    have sp : ∀ (C : Addr) (o : Addr → Int → HO) (E' : XK) (Q' : VK), (∀ d H', H d = none → Rd.Ex H H' → H' d = some (.xd [("given", v)]) → E' (.ref C_BadSeed) (some d) H') → spSeeded C C_BadSeed o (.ref C :: ([v] ++ [])) H Q' E' := fun C o E' Q' hx => ⟨v, none, rfl, S, fun n z => (by cases z), fun _ => hx⟩
    have fin : ∀ (d : Addr) (H' : Hp), H d = none → Rd.Ex H H' → H' d = some (.xd [("given", v)]) → ∀ p, H' p = none → Q (.ref p) (upd H' p (.lst [v])) := fun d H' hd e hx p hp => q p _ (Pr.ex_none e hp) (e.trans (Rd.ex_new hp)) upd_same
    refine Rd.both (fun c => ?_) (fun c => ?_)
    · walk_at "rd"
      refine ⟨rfl, ?_⟩
      walk_at "rd"
      refine sp _ _ _ _ fun d H' hd e hx σ hl => ?_
      match σ, hl with
      | [x0, x1, x2, x3], _ =>
        refine Gx.asYes T.m_BadSeed fun a ha => ?_
        walk_at "rd"
        refine ⟨_, rfl, rfl, rfl, d, _, v, rfl, hx, Rd.lk1, ?_⟩
        walk_at "rd"
        exact fin d H' hd e hx
    · walk_at "rd"
      refine ⟨rfl, ?_⟩
      walk_at "rd"
      refine sp _ _ _ _ fun d H' hd e hx σ hl => ?_
      match σ, hl with
      | [x0, x1, x2, x3], _ =>
        refine Gx.asYes T.m_BadSeed fun a ha => ?_
        walk_at "rd"
        refine ⟨_, rfl, rfl, rfl, d, _, v, rfl, hx, Rd.lk1, ?_⟩
        walk_at "rd"
        exact fin d H' hd e hx
end
end Pf

set_option Elab.async false
set_option linter.all false
set_option maxRecDepth 100000
set_option maxHeartbeats 4000000
set_option exponentiation.threshold 3000
namespace Pf
open PySem PySem.Spec PyProof.Rows L2
section
variable {P : Program} {w : World} {K : PySem.W.Frag} {mg : Str → Option Value} {base : Heap} {C_Linear C_Leaping C_DrawError C_BadSeed C_BadNumber R_ROUNDS : Addr}
local macro_rules | `(tactic| walk_at "side") => `(tactic| first | ((with_reducible show L2.CMul _ _); first | exact Or.inl ⟨by omega, by omega⟩ | exact Or.inr ⟨by omega, by omega⟩) | ((with_reducible show L2.CPow _ _); exact ⟨by decide, by decide, by decide⟩) | ((with_reducible show L2.CMulW _ _); exact wide_mul (a := 96) (b := 96) (by omega) (by omega) (by decide) (by decide) (by decide)) | ((with_reducible show L2.CDivW _ _); first | exact wide_div (b := 96) (by omega) (by omega) (by decide) (by decide) | exact wide_div (b := 300) (by omega) (by omega) (by decide) (by decide)) | (show (0 : Int) < _; omega) | (show (0 : Int) ≤ _; omega))
local macro_rules | `(tactic| walk_at "rd1") => `(tactic| first | with_reducible refine Rd.seq ?_ | with_reducible refine Rd.asg ?_ | with_reducible refine Rd.nm ?_ | with_reducible refine Rd.ret ?_ | with_reducible refine Rd.drop ?_ | with_reducible refine Rd.ifs ?_ | with_reducible refine Rd.par ?_ | with_reducible refine Rd.par3 ?_ | with_reducible refine Rd.next ?_ | with_reducible refine Rd.fr1 ?_ | with_reducible refine Rd.nxp ?_ | with_reducible refine Rd.rtp ?_ | ((with_reducible show tVar _ _ _ _); refine Rd.var rfl ?_) | with_reducible refine Rd.cst ?_ | with_reducible refine Rd.op ?_ | with_reducible refine Rd.un ?_ | with_reducible refine Rd.i0 ?_ | with_reducible refine Rd.ung ?_ | with_reducible refine Rd.eqI ?_ | with_reducible refine Rd.neI ?_ | with_reducible refine Rd.eqS ?_ | with_reducible refine Rd.neS ?_ | with_reducible refine Rd.test ?_ | with_reducible refine Rd.tstB ?_ | with_reducible refine Rd.isB ?_ | with_reducible refine Rd.not ?_ | with_reducible refine Rd.andT ?_ | with_reducible refine Rd.orT ?_ | with_reducible refine Rd.andV ?_ | with_reducible refine Rd.orV ?_ | with_reducible refine Rd.notV ?_ | with_reducible refine Rd.ifE ?_ | with_reducible refine Rd.chain ?_ | with_reducible refine Rd.nil ?_ | with_reducible refine Rd.cons ?_ | with_reducible refine Rd.call ?_ | with_reducible refine Rd.cb ?_ | with_reducible refine Rd.bm ?_ | with_reducible refine Au.revL ?_ | with_reducible refine Rd.frl ?_ | with_reducible refine Rd.frt ?_ | with_reducible refine Rd.fre ?_ | with_reducible refine Rd.disp ?_ | with_reducible refine Rd.pnil ?_ | with_reducible refine Rd.pcons ?_ | with_reducible refine Rd.gcons ?_ | with_reducible refine Rd.gnil ?_ | with_reducible refine Rd.gsub ?_ | with_reducible refine Rd.setD ?_ | ((with_reducible show gTup _ _ _ _ _ (upd _ _ (HO.tup _)) _); refine Rd.tupNew rfl ?_) | with_reducible refine Rd.fld ?_ | with_reducible refine Rd.meth ?_ | with_reducible refine Rd.make ?_ | with_reducible refine Rd.prop ?_ | with_reducible refine Au.tup ?_ | with_reducible refine Au.lst ?_ | ((with_reducible refine Au.lenOk ?hl ?_); (case hl => exact rfl)) | with_reducible refine Au.nopart ?_ | with_reducible refine Au.part ?_ | with_reducible refine Au.isI ?_ | with_reducible refine Au.sl ?_ | with_reducible refine Au.pr2 ?_ | with_reducible refine Au.pr3 ?_ | with_reducible refine Au.eqB ?_ | with_reducible refine Rd.isInt ?_ | with_reducible refine Rd.isBool ?_ | with_reducible refine Rd.mx2 ?_ | with_reducible refine Rd.mn2 ?_ | ((with_reducible show Rd.rAndM _ _ _ _); first | refine Rd.and1 ?_ | refine Rd.and48 ?_ | refine Rd.and32 ?_ | refine Rd.and64 ?_ | refine Rd.and65 ?_) | ((with_reducible refine Rd.iC ?hc ?_); (case hc => walk_at "side")) | ((with_reducible refine Rd.yes ?hc ?_); (case hc => first | omega | exact rfl)) | ((with_reducible refine Rd.no ?hc ?_); (case hc => omega)) | ((with_reducible refine Rd.noN ?hc ?_); (case hc => first | omega | exact rfl)) | ((with_reducible refine Rd.yesN ?hc ?_); (case hc => omega)) | ((with_reducible refine Rd.yesNN ?hc ?_); (case hc => omega)) | ((with_reducible refine Rd.noNN ?hc ?_); (case hc => omega)) | with_reducible refine iteT ?_ | with_reducible refine iteF ?_ | with_reducible refine Rd.iteNT ?_ | with_reducible refine Rd.iteNF ?_)
local macro_rules | `(tactic| walk_at "rd") => `(tactic| repeat (walk_at "rd1"))
local macro_rules | `(tactic| walk_at "hp") => `(tactic| first | assumption | (apply Au.sm; (focus assumption); (walk_at "hp")) | (apply Au.smp; (focus assumption); (focus (walk_at "hp")); (walk_at "ne")) | (apply Au.smn; (focus assumption); (focus (walk_at "hp")); (focus (intro _ z; cases z; done))) | fail "hp")
local macro_rules | `(tactic| walk_at "ne") => `(tactic| first | assumption | (apply Ne.symm; assumption) | (apply Au.nen; (focus assumption); (walk_at "hp")) | (apply Au.nen'; (focus assumption); (walk_at "hp")) | (apply Au.nek; (focus assumption); (focus assumption); (intro z; cases z; done)) | (apply Au.nek2; (focus assumption); (focus (walk_at "hp")); (intro z; cases z; done)) | fail "ne")
local macro_rules | `(tactic| walk_at "dp") => `(tactic| first | exact Dp.int _ | exact Dp.str _ | exact Dp.bl _ | exact Dp.non | (apply Dp.lst; (focus (apply Rd.sql; walk_at "hp")); (walk_at "dps")) | (apply Dp.tup; (focus (apply Rd.sqt; walk_at "hp")); (walk_at "dps")) | fail "dp")
local macro_rules | `(tactic| walk_at "dps") => `(tactic| first | exact DpAll.nil | (apply DpAll.cons; (focus (walk_at "dp")); (walk_at "dps")) | fail "dps")
local macro_rules | `(tactic| walk_at "shp") => `(tactic| ((simp only [SeqAt.shaped, PyData.canLay0, PyData.canLayAll0, PyData.depth, PyData.depthAll]) <;> first | decide | rfl))
local macro_rules | `(tactic| walk_at "sd") => `(tactic| first | assumption | rfl | omega | (walk_at "hp") | (refine ⟨?_, ?_⟩; (focus (walk_at "sd")); (walk_at "sd")) | fail "sd")
local macro_rules | `(tactic| walk_at "lk") => `(tactic| first | exact Rd.lk1 | rfl | decide +kernel)
local macro_rules | `(tactic| walk_at "rd1") => `(tactic| first | with_reducible refine Pr.dget ?_ | with_reducible refine Pr.dput ?_ | with_reducible refine Pr.sfld ?_ | with_reducible refine Pr.u_isInt ?_ | ((with_reducible show Pr.spNeed _ _ _ _ _ _); refine Pr.u_need (by omega) (by omega) ?_) | ((with_reducible show Pr.spIs _ _ _ _ _ _); refine Pr.u_isIn (by omega) ?_) | ((with_reducible apply Rd.fld1); (focus (walk_at "hp")); (focus assumption); (focus assumption); (focus (walk_at "lk"))) | ((with_reducible apply Au.methO); (focus (walk_at "hp")); (focus (walk_at "lk"))) | ((with_reducible apply Au.propO); (focus (walk_at "hp"))) | ((with_reducible show rIxT _ (V.ref _) (V.int _) _ _); refine Rd.ixT (Rd.sqt (by walk_at "hp")) rfl ?_) | ((with_reducible show rIxL _ (V.ref _) (V.int _) _ _); refine Rd.ixL (Rd.sql (by walk_at "hp")) rfl ?_) | ((with_reducible show Rd.rLenQ _ [V.ref _] _ _); first | refine Rd.lenL (Rd.sql (by walk_at "hp")) ?_ | refine Rd.lenT (Rd.sqt (by walk_at "hp")) ?_) | ((with_reducible show gTup _ _ _ (V.ref _) _ _ _); refine Rd.gtup (Rd.sqt (by walk_at "hp")) rfl ?_) | with_reducible refine Gx.gat ?_ | with_reducible refine Gx.gnx ?_ | with_reducible refine Gx.gthen ?_ | with_reducible refine Gx.gplain ?_ | with_reducible refine Gx.gfr ?_ | with_reducible refine Gx.lg ?_ | with_reducible refine Gx.mg ?_ | with_reducible refine Gx.sme ?_ | with_reducible refine Gx.callSD ?_ | with_reducible refine Gx.methSD ?_)
local macro_rules | `(tactic| walk_at "rd1") => `(tactic| first | with_reducible refine Gx.mkR ?_ | ((with_reducible refine Gx.makeV ?hs ?_); (case hs => rfl)) | with_reducible refine Gx.smeX ?_ | with_reducible refine Gx.cmX ?_ | with_reducible refine Gx.isBl ?_ | with_reducible refine Gx.notBl ?_ | with_reducible refine Gx.xk ?_ | with_reducible refine Gx.fr3 ?_ | with_reducible refine Gx.makeD ?_ | with_reducible refine Gx.frz ?_ | with_reducible refine Gx.lcO ?_ | with_reducible refine Gx.itupO ?_ | with_reducible refine Gx.ilistO ?_ | with_reducible refine Gx.irng1O ?_ | with_reducible refine Gx.ival ?_ | ((with_reducible apply Gx.ivalO); (focus (walk_at "hp")); (focus assumption); (focus assumption); (focus (walk_at "lk"))) | ((with_reducible show Gx.rTupOf _ [V.ref _] _ _); refine Gx.tupOfL (Rd.sql (by walk_at "hp")) ?_) | ((with_reducible show Gx.rLstOf _ [V.ref _] _ _); first | refine Gx.lstOfL (Rd.sql (by walk_at "hp")) ?_ | refine Gx.lstOfT (Rd.sqt (by walk_at "hp")) ?_))
local macro_rules | `(tactic| walk_at "hp") => `(tactic| first | assumption | (apply Pr.smq; (focus assumption); (focus (walk_at "hp")); (focus (walk_at "ne")); (walk_at "ne")))
local macro_rules | `(tactic| walk_at "hp") => `(tactic| first | assumption | (apply smb; (focus assumption); (focus (walk_at "hp")); (focus assumption); assumption) | (apply smbK; (focus assumption); (focus (walk_at "hp")); (focus (walk_at "dr")); (constructor <;> (intro _ z; cases z; done))) | (apply smbN; (focus assumption); (focus (walk_at "hp")); (focus assumption); (walk_at "dr")))
local macro_rules | `(tactic| walk_at "dr") => `(tactic| first | assumption | (apply Draw.ex; (focus assumption); (walk_at "dr")) | (apply Draw.exp; (focus assumption); (focus (walk_at "dr")); (focus (walk_at "nd"))) | fail "dr")
local macro_rules | `(tactic| walk_at "nd") => `(tactic| first | assumption | (apply ndN; (focus assumption); (walk_at "dr")) | fail "nd")
local macro_rules | `(tactic| walk_at "rd1") => `(tactic| first | with_reducible refine Gx.istrO ?_ | with_reducible refine Gx.frS ?_ | with_reducible refine Gx.ord1 ?_)
local macro_rules | `(tactic| walk_at "side") => `(tactic| first | ((with_reducible show L2.CMulW _ _); first | decide +kernel | exact wide_mul (a := 96) (b := 96) (by omega) (by omega) (by decide) (by decide) (by decide) | exact wide_mul (a := 300) (b := 96) (by decide) (by decide) (by decide) (by decide) (by decide) | exact wide_mul (a := 160) (b := 96) (by omega) (by omega) (by decide) (by decide) (by decide)))
theorem u_seeded {C CS : Addr} {o : Addr → Int → HO} {H : Hp} {Q : VK} {E : XK} {v : V} {n : Nat} (S : Sd H v (some n)) (q : ∀ p dx H', H p = none → Rd.Ex H H' → H' p = some (o dx (startN (sN v) n : Nat)) → Q (.ref p) H') : spSeeded C CS o (.ref C :: ([v] ++ [])) H Q E :=
  ⟨v, some n, rfl, S, fun n' z => (by cases z; exact q), fun z => (by cases z)⟩
theorem okSt {x : Nat} (h : x < 2 ^ 64) : Gx.Okd (.list [.tuple [.int x], .tuple [.int x, .int 1], .tuple [.int x]]) := by
  have big : (2 : Nat) ^ 64 ≤ 2 ^ 600 := Nat.pow_le_pow_right (by decide) (by decide)
  have hx : (x : Int).natAbs < 2 ^ 600 := by rw [Int.natAbs_natCast]; exact Nat.lt_of_lt_of_le h big
  refine Gx.okd ?_ (by simp only [PyData.depth, PyData.depthAll]; decide) (by simp only [Gx.nodes, Gx.nodesAll]; decide)
  simp only [Gx.Sml, Gx.SmlAll]
  exact ⟨⟨hx, trivial⟩, ⟨hx, Nat.lt_of_lt_of_le (show (1 : Int).natAbs < 2 ^ 64 by decide) big, trivial⟩, ⟨hx, trivial⟩, trivial⟩
theorem sdBad {H : Hp} {n : Int} (h : ¬ (0 ≤ n ∧ n < 115792089237316195423570985008687907853269984665640564039457584007913129639936)) : Sd H (.int n) none := by
  have z := Sd.int (H := H) n
  rwa [if_neg h] at z
theorem sdStr {H : Hp} {z : Str} (h1 : z.cps.size ≤ 1000) (h2 : okT z = false) : Sd H (.str z) none := by
  have y := Sd.str (H := H) z h1
  rwa [if_neg (by rw [h2]; decide)] at y
theorem oddAt {K : PySem.W.Frag} {p1 p2 : Addr} {i : Int} (i0 : 0 ≤ i) (i1 : i < 8) :
    ∃ v d, atI [V.non, .int (-1), .int (18446744073709551616 * 18446744073709551616 * 18446744073709551616 * 18446744073709551616), .bl true, .str (Txt.mul "a" 101), .ref p1, .ref p2, .str "tab\t"] i = some v ∧ Gx.Okd (.list [.list [d], .list [d]]) ∧
      ∀ H' : Hp, H' p1 = some (.tup [.int 1]) → H' p2 = some (.lst []) → Sd H' v none ∧ Dp K H' v d := by
  have : i = 0 ∨ i = 1 ∨ i = 2 ∨ i = 3 ∨ i = 4 ∨ i = 5 ∨ i = 6 ∨ i = 7 := by omega
  rcases this with rfl | rfl | rfl | rfl | rfl | rfl | rfl | rfl
  · exact ⟨_, .none, rfl, ⟨by decide +kernel, by decide +kernel, by decide +kernel⟩, fun H' _ _ => ⟨.non (.inl rfl), .non⟩⟩
  · exact ⟨_, .int (-1), rfl, ⟨by decide +kernel, by decide +kernel, by decide +kernel⟩, fun H' _ _ => ⟨sdBad (by decide), .int _⟩⟩
  · exact ⟨_, .int _, rfl, ⟨by decide +kernel, by decide +kernel, by decide +kernel⟩, fun H' _ _ => ⟨sdBad (by decide), .int _⟩⟩
  · exact ⟨_, .bool true, rfl, ⟨by decide +kernel, by decide +kernel, by decide +kernel⟩, fun H' _ _ => ⟨.non (.inr (.inl ⟨_, rfl⟩)), .bl _⟩⟩
  · exact ⟨_, .str _, rfl, ⟨by decide +kernel, by decide +kernel, by decide +kernel⟩, fun H' _ _ => ⟨sdStr (by decide +kernel) (by decide +kernel), .str _⟩⟩
  · exact ⟨_, .tuple [.int 1], rfl, ⟨by decide +kernel, by decide +kernel, by decide +kernel⟩, fun H' h1 _ => ⟨.non (.inr (.inr (.inl ⟨_, _, rfl, h1⟩))), .tup (Rd.sqt h1) (.cons (.int _) .nil)⟩⟩
  · exact ⟨_, .list [], rfl, ⟨by decide +kernel, by decide +kernel, by decide +kernel⟩, fun H' _ h2 => ⟨.non (.inr (.inr (.inr (.inl ⟨_, _, rfl, h2⟩)))), .lst (Rd.sql h2) .nil⟩⟩
  · exact ⟨_, .str _, rfl, ⟨by decide +kernel, by decide +kernel, by decide +kernel⟩, fun H' _ _ => ⟨sdStr (by decide +kernel) (by decide +kernel), .str _⟩⟩
def spLaw (K : PySem.W.Frag) : Sp := fun vs H Q _ => ∃ (a : Addr) (ns : List Int), vs = [.ref a] ∧ SqL K H a (ns.map V.int) ∧ ns.length ≤ 63 ∧ ∀ H', Q (.bl true) H'
theorem fn_law (T : Txt K mg C_Linear C_Leaping C_DrawError C_BadSeed C_BadNumber R_ROUNDS) {f : Addr} {fd : FuncData} (F : C8.Def K mg "law" s_law f fd) : Gx.FnG P w K mg base 16 f fd ["_law_script"] (spLaw K) := by
  refine Gx.fnG_of F.fn sc_law (fun vs H Q E h => ?_) (fun cdv A outer s H vs Q gd hr h => ?_)
  · obtain ⟨a, ns, rfl, _⟩ := h; rfl
  · obtain ⟨a, ns, rfl, hS, hl, q⟩ := h
    have hu := hu_of hr
    have hu64 := hr.units
    have cl1 := T.cl_Linear
    have cl2 := T.cl_Leaping
    refine ⟨_, (pss_cons (ps_set (i := 1) sc_law.nd rfl (.inl rfl) (C8.pe_c (cal__law_begun T) hr (by omega) (by rfl) (pa_cons (pv 0) pa_nil)))
      (pss_cons (ps_for PassesOwn.never rfl (pi_range1 rfl T.b_range (pa_cons (pe_op op_add pe_int (pe_callB (Rd.call_mn2 rfl) (by rfl) T.b_min (by decide +kernel) (pa_cons pe_int (pa_cons (pe_op op_fdivW (pe_callB Rd.call_lenQ (by rfl) T.b_len PySem.boot_len (pa_cons (pv 0) pa_nil)) pe_int) pa_nil)))) pa_nil)) (pg_name (i := 2) sc_law.nd rfl (.inl rfl)) (pss_cons (ps_set (i := 3) sc_law.nd rfl (.inl rfl) (C8.pe_c (cal__law_seed T) hr (by omega) (by rfl) (pa_cons (pv 1) pa_nil)))
      (pss_cons (ps_set (i := 4) sc_law.nd rfl (.inl rfl) (C8.pe_c (cal__law_start T) hr (by omega) (by rfl) (pa_cons (pv 3) pa_nil)))
      (pss_cons (ps_set (i := 5) sc_law.nd rfl (.inl rfl) (pe_lst (pa_cons (Gx.pe_propC (Gx.pe_cmx (cmetx_Linear_seeded T) LamX.takes0 (E := fun _ _ _ => False) (fun _ _ _ _ h => h) hr (by omega) (C8.pe_gc (by rfl) T.k_Linear) (pa_cons (pv 3) pa_nil)) (prop_Linear_state T) hr (by omega) rfl) (pa_cons (Gx.pe_propC (Gx.pe_cmx (cmetx_Leaping_seeded T) LamX.takes0 (E := fun _ _ _ => False) (fun _ _ _ _ h => h) hr (by omega) (C8.pe_gc (by rfl) T.k_Leaping) (pa_cons (pv 3) pa_nil)) (prop_Leaping_state T) hr (by omega) rfl) (pa_cons (Gx.pe_propC (C8.pe_mt0 (met_Linear_copy T) hr (by omega) (Gx.pe_cmx (cmetx_Linear_seeded T) LamX.takes0 (E := fun _ _ _ => False) (fun _ _ _ _ h => h) hr (by omega) (C8.pe_gc (by rfl) T.k_Linear) (pa_cons (pv 3) pa_nil))) (prop_Linear_state T) hr (by omega) rfl) pa_nil)))))
      (pss_cons (ps_if (pt_cmpR op_ne (pe_callB (Gx.call_repr gd hu64) (by rfl) T.b_repr (by decide +kernel) (pa_cons (pv 5) pa_nil)) (pe_callB (Gx.call_repr gd hu64) (by rfl) T.b_repr (by decide +kernel) (pa_cons (pe_lst (pa_cons (pe_tup (pa_cons (pv 4) pa_nil)) (pa_cons (pe_tup (pa_cons (pv 4) (pa_cons pe_int pa_nil))) (pa_cons (pe_tup (pa_cons (pv 4) pa_nil)) pa_nil)))) pa_nil)) (nomark _)) (pss_one (ps_ret pe_bl)) pss_nil)
      (pss_cons (ps_set (i := 6) sc_law.nd rfl (.inl rfl) pe_int)
      (pss_cons (ps_set (i := 7) sc_law.nd rfl (.inl rfl) (pe_ix ix_list (pe_lst (pa_cons pe_non (pa_cons (pe_un un_neg pe_int) (pa_cons (pe_op op_mulW (pe_op op_mulW (pe_op op_mulW (pv 6) (pv 6)) (pv 6)) (pv 6)) (pa_cons pe_bl (pa_cons (pe_op Gx.op_mulS pe_str pe_int) (pa_cons (pe_tup (pa_cons pe_int pa_nil)) (pa_cons (pe_lst pa_nil) (pa_cons pe_str pa_nil))))))))) (C8.pe_c (cal__law_next T) hr (by omega) (by rfl) (pa_cons (pv 1) (pa_cons pe_int pa_nil))) (fun _ _ => rfl)))
      (pss_one (ps_if (pt_cmpR op_ne (pe_callB (Gx.call_repr gd hu64) (by rfl) T.b_repr (by decide +kernel) (pa_cons (pe_lst (pa_cons (C8.pe_c (cal__law_refused T) hr (by omega) (by rfl) (pa_cons pe_str (pa_cons (pv 7) pa_nil))) (pa_cons (C8.pe_c (cal__law_refused T) hr (by omega) (by rfl) (pa_cons pe_str (pa_cons (pv 7) pa_nil))) pa_nil))) pa_nil)) (pe_callB (Gx.call_repr gd hu64) (by rfl) T.b_repr (by decide +kernel) (pa_cons (pe_lst (pa_cons (pe_lst (pa_cons (pv 7) pa_nil)) (pa_cons (pe_lst (pa_cons (pv 7) pa_nil)) pa_nil))) pa_nil)) (nomark _)) (pss_one (ps_ret pe_bl)) pss_nil)))))))))
      (pss_one (ps_ret pe_bl)))), ?_⟩
    walk_at "rd"
    refine ⟨a, ns, rfl, hS, hl, fun H1 d g e1 D1 => ?_⟩
    walk_at "rd"
    refine Rd.lenL (Rd.ex_l e1 hS) ?_
    have hl' : ((ns.map V.int).length : Int) ≤ 63 := by rw [List.length_map]; omega
    walk_at "rd"
    refine Rd.frN (n := (5 + (if ((ns.map V.int).length : Int) / 3 < 6 then ((ns.map V.int).length : Int) / 3 else 6)).toNat) (by split <;> omega) (by split <;> omega)
      (fun i σ' H' => ∃ y2 y3 y4 y5 y6 y7, σ' = [some (.ref a), some (.ref d), y2, y3, y4, y5, y6, y7] ∧ Draw H' d g) ⟨_, _, _, _, _, _, rfl, D1⟩ ?_ ?_
    · rintro i σ' H' hi ⟨y2, y3, y4, y5, y6, y7, rfl, D2⟩
      clear D1 e1 hS
      walk_at "rd"
      refine ⟨d, g, rfl, D2, fun H3 v n D3 x3 hSd => ?_⟩
      walk_at "rd"
      refine ⟨v, n, rfl, hSd H3, fun H4 e4 => ?_⟩
      have hst := start_rng (sN v) n
      have hx64 : startN (sN v) n < 2 ^ 64 := by omega
      walk_at "rd"
      refine ⟨rfl, ?_⟩
      walk_at "rd"
      refine u_seeded (hSd H4) fun s1 dx1 H5 hs1 e5 k5 => ?_
      walk_at "rd"
      refine Pr.u_state1 k5 fun t1 H6 ht1 e6 k6 => ?_
      walk_at "rd"
      refine ⟨rfl, ?_⟩
      walk_at "rd"
      refine u_seeded (hSd H6) fun s2 dx2 H7 hs2 e7 k7 => ?_
      walk_at "rd"
      refine u_state2 k7 fun t2 H8 ht2 e8 k8 => ?_
      walk_at "rd"
      refine ⟨rfl, ?_⟩
      walk_at "rd"
      refine u_seeded (hSd H8) fun s3 dx3 H9 hs3 e9 k9 => ?_
      walk_at "rd"
      refine ⟨s3, dx3, _, rfl, k9, hst, fun s4 dx4 J1 hs4 j1 i1 => ?_⟩
      walk_at "rd"
      refine Pr.u_state1 i1 fun t3 J2 ht3 j2 i2 => ?_
      walk_at "rd"
      refine Au.new fun tl J3 htl j3 i3 => ?_
      walk_at "rd"
      refine Gx.rpr (.list [.tuple [.int (startN (sN v) n : Nat)], .tuple [.int (startN (sN v) n : Nat), .int 1], .tuple [.int (startN (sN v) n : Nat)]]) (by walk_at "dp") (okSt hx64) ?_
      have D4 : Draw J3 d g := D3.ex (fun c o h => by walk_at "hp")
      clear e4 e5 e6 e7 e8 e9 j1 j2 j3 k5 k6 k7 k8 k9 i1 i2 i3 D3 x3 D2
      walk_at "rd"
      refine Au.new fun u1 K1 hu1 l1 m1 => ?_
      walk_at "rd"
      refine Au.new fun u2 K2 hu2 l2 m2 => ?_
      walk_at "rd"
      refine Au.new fun u3 K3 hu3 l3 m3 => ?_
      walk_at "rd"
      refine Au.new fun u4 K4 hu4 l4 m4 => ?_
      walk_at "rd"
      refine Gx.rpr (.list [.tuple [.int (startN (sN v) n : Nat)], .tuple [.int (startN (sN v) n : Nat), .int 1], .tuple [.int (startN (sN v) n : Nat)]]) (by walk_at "dp") (okSt hx64) ?_
      have D5 : Draw K4 d g := D4.ex (fun c o h => by walk_at "hp")
      clear l1 l2 l3 l4 m1 m2 m3 m4 D4
      walk_at "rd"
      refine ⟨_, _, rfl, rfl, ⟨by decide +kernel, fun _ _ => by decide +kernel, fun _ _ => by decide +kernel⟩, ?_⟩
      walk_at "rd"
      refine Au.new fun p1 L1 hp1 f1 g1 => ?_
      walk_at "rd"
      refine Au.new fun p2 L2 hp2 f2 g2 => ?_
      walk_at "rd"
      refine Au.new fun lo L3 hlo f3 g3 => ?_
      walk_at "rd"
      have D6 : Draw L3 d g := D5.ex (fun c o h => by walk_at "hp")
      refine u_next (by decide) (by decide) D6 fun L4 o o0 o1 D7 x7 => ?_
      walk_at "rd"
      obtain ⟨bad, db, hat, hok, hbad⟩ := oddAt (K := K) (p1 := p1) (p2 := p2) o0 o1
      have nd1 := Draw.nd D5 hp1
      have nd2 := Draw.nd (D5.ex f1) hp2
      have nd3 := Draw.nd ((D5.ex f1).ex f2) hlo
      have g1' : L4 p1 = some (.tup [.int 1]) := x7 _ _ (f3 _ _ (f2 _ _ g1)) nd1.1 nd1.2
      have g2' : L4 p2 = some (.lst []) := x7 _ _ (f3 _ _ g2) nd2.1 nd2.2
      refine Rd.ixL (Rd.sql (x7 _ _ g3 nd3.1 nd3.2)) hat ?_
      clear f1 f2 f3 g1 g2 g3 D5 D6 x7 nd1 nd2 nd3
      walk_at "rd"
      refine ⟨_, bad, rfl, (hbad L4 g1' g2').1, fun r1 M1 hr1 a1 b1 => ?_⟩
      walk_at "rd"
      refine ⟨_, bad, rfl, (hbad M1 (a1 _ _ g1') (a1 _ _ g2')).1, fun r2 M2 hr2 a2 b2 => ?_⟩
      walk_at "rd"
      refine Au.new fun r3 M3 hr3 a3 b3 => ?_
      walk_at "rd"
      have dv := (hbad M3 (a3 _ _ (a2 _ _ (a1 _ _ g1'))) (a3 _ _ (a2 _ _ (a1 _ _ g2')))).2
      refine Gx.rpr (.list [.list [db], .list [db]]) (.lst (Rd.sql b3) (.cons (.lst (Rd.sql (a3 _ _ (a2 _ _ b1))) (.cons dv .nil)) (.cons (.lst (Rd.sql (a3 _ _ b2)) (.cons dv .nil)) .nil))) hok ?_
      walk_at "rd"
      refine Au.new fun r4 M4 hr4 a4 b4 => ?_
      walk_at "rd"
      refine Au.new fun r5 M5 hr5 a5 b5 => ?_
      walk_at "rd"
      refine Au.new fun r6 M6 hr6 a6 b6 => ?_
      walk_at "rd"
      have dv2 := (hbad M6 (by walk_at "hp") (by walk_at "hp")).2
      refine Gx.rpr (.list [.list [db], .list [db]]) (.lst (Rd.sql b6) (.cons (.lst (Rd.sql (a6 _ _ (a5 _ _ b4))) (.cons dv2 .nil)) (.cons (.lst (Rd.sql (a6 _ _ b5)) (.cons dv2 .nil)) .nil))) hok ?_
      walk_at "rd"
      exact ⟨_, _, _, _, _, _, rfl, D7.ex (fun c o h => by walk_at "hp")⟩
    · rintro σ' H' ⟨y2, y3, y4, y5, y6, y7, rfl, D2⟩
      walk_at "rd"
      exact q H'
end
theorem law_mk {l : PySem.W.OpenLaw} {w : World} {K : PySem.W.Frag} {mg : Str → Option Value} {fa C_Linear C_Leaping C_DrawError C_BadSeed C_BadNumber R_ROUNDS : Addr} {h : Heap} (hmg : mg "law" = some (.ref fa)) (T : Txt K mg C_Linear C_Leaping C_DrawError C_BadSeed C_BadNumber R_ROUNDS) : Gx.LawG l w K 16 "_law_script" mg fa h := by
  obtain ⟨f, fd, F, b, hb⟩ := T.d_law
  have e := hmg.symm.trans F.mgf
  cases e
  exact ⟨fd, [], spLaw K, fun p hp => (nomatch hp), fun p hp => (nomatch hp), fun p hp => (nomatch hp), hb, fun H a ns hl _ _ hS => ⟨a, ns, rfl, hS, hl, fun _ => rfl⟩, fun base _ _ _ => fn_law T F⟩
end Pf

set_option Elab.async false
set_option linter.all false
set_option maxRecDepth 100000
set_option maxHeartbeats 4000000
set_option exponentiation.threshold 3000
namespace Pf
open PySem PySem.Spec PyProof.Rows L2
set_option maxHeartbeats 4000000 in
theorem txt_mk {K : PySem.W.Frag} {h : Heap} {mg : Str → Option Value} {f_BadSeed___init__ f_BadNumber___init__ f_is_integer f_need_double f_own_tempered f_mixed f_is_seed_text f_is_seed f_need_seed f_number_of f_core_of f_seed_words f_s2_is_number f_s2_need_start f_Linear___init__ f_Linear_state f_Linear_copy f_Linear_seeded f_s2_is_every f_s2_need_every f_Leaping___init__ f_Leaping_state f_Leaping_seeded f__law_begun f__law_next f__law_tempered f__law_mixed f__law_start f__law_seed f__law_refused f_law p_Linear_state p_Linear_seeded p_Leaping_state p_Leaping_seeded C_Linear C_Leaping R_ROUNDS C_DrawError C_BadSeed C_BadNumber : Addr} {od_BadSeed___init__ an_BadSeed___init__ od_BadNumber___init__ an_BadNumber___init__ od_is_integer an_is_integer od_need_double an_need_double od_own_tempered an_own_tempered od_mixed an_mixed od_is_seed_text an_is_seed_text od_is_seed an_is_seed od_need_seed an_need_seed od_number_of an_number_of od_core_of an_core_of od_seed_words an_seed_words od_s2_is_number an_s2_is_number od_s2_need_start an_s2_need_start od_Linear___init__ an_Linear___init__ od_Linear_state an_Linear_state od_Linear_copy an_Linear_copy od_Linear_seeded an_Linear_seeded od_s2_is_every an_s2_is_every od_s2_need_every an_s2_need_every od_Leaping___init__ an_Leaping___init__ od_Leaping_state an_Leaping_state od_Leaping_seeded an_Leaping_seeded od__law_begun an__law_begun od__law_next an__law_next od__law_tempered an__law_tempered od__law_mixed an__law_mixed od__law_start an__law_start od__law_seed an__law_seed od__law_refused an__law_refused od_law an_law : Option Addr} {sl_BadSeed___init__ sl_BadNumber___init__ sl_is_integer sl_need_double sl_own_tempered sl_mixed sl_is_seed_text sl_is_seed sl_need_seed sl_number_of sl_core_of sl_seed_words sl_s2_is_number sl_s2_need_start sl_Linear___init__ sl_Linear_state sl_Linear_copy sl_Linear_seeded sl_s2_is_every sl_s2_need_every sl_Leaping___init__ sl_Leaping_state sl_Leaping_seeded sl__law_begun sl__law_next sl__law_tempered sl__law_mixed sl__law_start sl__law_seed sl__law_refused sl_law : Array (Option Value)} {oc_BadSeed___init__ kV_BadSeed___init__ dc_BadSeed___init__ pm_BadSeed___init__ cd_BadSeed___init__ ct_BadSeed___init__ oc_BadNumber___init__ kV_BadNumber___init__ dc_BadNumber___init__ pm_BadNumber___init__ cd_BadNumber___init__ ct_BadNumber___init__ oc_is_integer kV_is_integer dc_is_integer pm_is_integer cd_is_integer ct_is_integer oc_need_double kV_need_double dc_need_double pm_need_double cd_need_double ct_need_double oc_own_tempered kV_own_tempered dc_own_tempered pm_own_tempered cd_own_tempered ct_own_tempered oc_mixed kV_mixed dc_mixed pm_mixed cd_mixed ct_mixed oc_is_seed_text kV_is_seed_text dc_is_seed_text pm_is_seed_text cd_is_seed_text ct_is_seed_text oc_is_seed kV_is_seed dc_is_seed pm_is_seed cd_is_seed ct_is_seed oc_need_seed kV_need_seed dc_need_seed pm_need_seed cd_need_seed ct_need_seed oc_number_of kV_number_of dc_number_of pm_number_of cd_number_of ct_number_of oc_core_of kV_core_of dc_core_of pm_core_of cd_core_of ct_core_of oc_seed_words kV_seed_words dc_seed_words pm_seed_words cd_seed_words ct_seed_words oc_s2_is_number kV_s2_is_number dc_s2_is_number pm_s2_is_number cd_s2_is_number ct_s2_is_number oc_s2_need_start kV_s2_need_start dc_s2_need_start pm_s2_need_start cd_s2_need_start ct_s2_need_start oc_Linear___init__ kV_Linear___init__ dc_Linear___init__ pm_Linear___init__ cd_Linear___init__ ct_Linear___init__ oc_Linear_state kV_Linear_state dc_Linear_state pm_Linear_state cd_Linear_state ct_Linear_state oc_Linear_copy kV_Linear_copy dc_Linear_copy pm_Linear_copy cd_Linear_copy ct_Linear_copy oc_Linear_seeded kV_Linear_seeded dc_Linear_seeded pm_Linear_seeded cd_Linear_seeded ct_Linear_seeded oc_s2_is_every kV_s2_is_every dc_s2_is_every pm_s2_is_every cd_s2_is_every ct_s2_is_every oc_s2_need_every kV_s2_need_every dc_s2_need_every pm_s2_need_every cd_s2_need_every ct_s2_need_every oc_Leaping___init__ kV_Leaping___init__ dc_Leaping___init__ pm_Leaping___init__ cd_Leaping___init__ ct_Leaping___init__ oc_Leaping_state kV_Leaping_state dc_Leaping_state pm_Leaping_state cd_Leaping_state ct_Leaping_state oc_Leaping_seeded kV_Leaping_seeded dc_Leaping_seeded pm_Leaping_seeded cd_Leaping_seeded ct_Leaping_seeded oc__law_begun kV__law_begun dc__law_begun pm__law_begun cd__law_begun ct__law_begun oc__law_next kV__law_next dc__law_next pm__law_next cd__law_next ct__law_next oc__law_tempered kV__law_tempered dc__law_tempered pm__law_tempered cd__law_tempered ct__law_tempered oc__law_mixed kV__law_mixed dc__law_mixed pm__law_mixed cd__law_mixed ct__law_mixed oc__law_start kV__law_start dc__law_start pm__law_start cd__law_start ct__law_start oc__law_seed kV__law_seed dc__law_seed pm__law_seed cd__law_seed ct__law_seed oc__law_refused kV__law_refused dc__law_refused pm__law_refused cd__law_refused ct__law_refused oc_law kV_law dc_law pm_law cd_law ct_law : Value} {rs_Linear_state rs_Linear_seeded rs_Leaping_state rs_Leaping_seeded : List Value} {tk_WORDS tk_DOUBLES tk_FACTOR tk_MIX_STEP tk_MOST_SEED_WORDS tk_MOST_CHARACTERS tk_SEEDS tk_MOST_STEPS tk_MODULUS tk_LOW_WORD oT_ROUNDS_0 oT_ROUNDS_1 oT_ROUNDS_2 oT_ROUNDS_3 : Tok} {oD_ROUNDS : Option Addr} {oN_ROUNDS : Nat} {oS_ROUNDS : Array (Option Value)} (X : K.In h) (G : h.Ns mainGlobals mg)
    (a_BadSeed___init__ : PySem.W.findIn K (.ref C_BadSeed) "__init__" = some (some (.ref f_BadSeed___init__)))
    (ti_BadSeed___init__ : PySem.W.typeIn K (.ref f_BadSeed___init__) = some (.type "function"))
    (l_BadSeed___init__ : K.lookup f_BadSeed___init__ = some ⟨oc_BadSeed___init__, od_BadSeed___init__, .func (PySem.W.fnOf "__init__" "BadSeed.__init__" (C8.fnArgs s_BadSeed___init__) (C8.fnBody s_BadSeed___init__) (C8.fnScope s_BadSeed___init__) .none kV_BadSeed___init__ dc_BadSeed___init__ pm_BadSeed___init__ an_BadSeed___init__ cd_BadSeed___init__ ct_BadSeed___init__), sl_BadSeed___init__⟩)
    (c_BadSeed___init__ : PySem.W.codeIn K cd_BadSeed___init__ "BadSeed.__init__" = true)
    (a_BadNumber___init__ : PySem.W.findIn K (.ref C_BadNumber) "__init__" = some (some (.ref f_BadNumber___init__)))
    (ti_BadNumber___init__ : PySem.W.typeIn K (.ref f_BadNumber___init__) = some (.type "function"))
    (l_BadNumber___init__ : K.lookup f_BadNumber___init__ = some ⟨oc_BadNumber___init__, od_BadNumber___init__, .func (PySem.W.fnOf "__init__" "BadNumber.__init__" (C8.fnArgs s_BadNumber___init__) (C8.fnBody s_BadNumber___init__) (C8.fnScope s_BadNumber___init__) .none kV_BadNumber___init__ dc_BadNumber___init__ pm_BadNumber___init__ an_BadNumber___init__ cd_BadNumber___init__ ct_BadNumber___init__), sl_BadNumber___init__⟩)
    (c_BadNumber___init__ : PySem.W.codeIn K cd_BadNumber___init__ "BadNumber.__init__" = true)
    (a_is_integer : PySem.W.nsIn K mainGlobals "is_integer" = some (some (.ref f_is_integer)))
    (l_is_integer : K.lookup f_is_integer = some ⟨oc_is_integer, od_is_integer, .func (PySem.W.fnOf "is_integer" "is_integer" (C8.fnArgs s_is_integer) (C8.fnBody s_is_integer) (C8.fnScope s_is_integer) .none kV_is_integer dc_is_integer pm_is_integer an_is_integer cd_is_integer ct_is_integer), sl_is_integer⟩)
    (c_is_integer : PySem.W.codeIn K cd_is_integer "is_integer" = true)
    (k_is_integer : PySem.W.keepIn K (.ref f_is_integer) = true)
    (a_need_double : PySem.W.nsIn K mainGlobals "need_double" = some (some (.ref f_need_double)))
    (l_need_double : K.lookup f_need_double = some ⟨oc_need_double, od_need_double, .func (PySem.W.fnOf "need_double" "need_double" (C8.fnArgs s_need_double) (C8.fnBody s_need_double) (C8.fnScope s_need_double) .none kV_need_double dc_need_double pm_need_double an_need_double cd_need_double ct_need_double), sl_need_double⟩)
    (c_need_double : PySem.W.codeIn K cd_need_double "need_double" = true)
    (k_need_double : PySem.W.keepIn K (.ref f_need_double) = true)
    (a_own_tempered : PySem.W.nsIn K mainGlobals "own_tempered" = some (some (.ref f_own_tempered)))
    (l_own_tempered : K.lookup f_own_tempered = some ⟨oc_own_tempered, od_own_tempered, .func (PySem.W.fnOf "own_tempered" "own_tempered" (C8.fnArgs s_own_tempered) (C8.fnBody s_own_tempered) (C8.fnScope s_own_tempered) .none kV_own_tempered dc_own_tempered pm_own_tempered an_own_tempered cd_own_tempered ct_own_tempered), sl_own_tempered⟩)
    (c_own_tempered : PySem.W.codeIn K cd_own_tempered "own_tempered" = true)
    (k_own_tempered : PySem.W.keepIn K (.ref f_own_tempered) = true)
    (a_mixed : PySem.W.nsIn K mainGlobals "mixed" = some (some (.ref f_mixed)))
    (l_mixed : K.lookup f_mixed = some ⟨oc_mixed, od_mixed, .func (PySem.W.fnOf "mixed" "mixed" (C8.fnArgs s_mixed) (C8.fnBody s_mixed) (C8.fnScope s_mixed) .none kV_mixed dc_mixed pm_mixed an_mixed cd_mixed ct_mixed), sl_mixed⟩)
    (c_mixed : PySem.W.codeIn K cd_mixed "mixed" = true)
    (k_mixed : PySem.W.keepIn K (.ref f_mixed) = true)
    (a_is_seed_text : PySem.W.nsIn K mainGlobals "is_seed_text" = some (some (.ref f_is_seed_text)))
    (l_is_seed_text : K.lookup f_is_seed_text = some ⟨oc_is_seed_text, od_is_seed_text, .func (PySem.W.fnOf "is_seed_text" "is_seed_text" (C8.fnArgs s_is_seed_text) (C8.fnBody s_is_seed_text) (C8.fnScope s_is_seed_text) .none kV_is_seed_text dc_is_seed_text pm_is_seed_text an_is_seed_text cd_is_seed_text ct_is_seed_text), sl_is_seed_text⟩)
    (c_is_seed_text : PySem.W.codeIn K cd_is_seed_text "is_seed_text" = true)
    (k_is_seed_text : PySem.W.keepIn K (.ref f_is_seed_text) = true)
    (a_is_seed : PySem.W.nsIn K mainGlobals "is_seed" = some (some (.ref f_is_seed)))
    (l_is_seed : K.lookup f_is_seed = some ⟨oc_is_seed, od_is_seed, .func (PySem.W.fnOf "is_seed" "is_seed" (C8.fnArgs s_is_seed) (C8.fnBody s_is_seed) (C8.fnScope s_is_seed) .none kV_is_seed dc_is_seed pm_is_seed an_is_seed cd_is_seed ct_is_seed), sl_is_seed⟩)
    (c_is_seed : PySem.W.codeIn K cd_is_seed "is_seed" = true)
    (k_is_seed : PySem.W.keepIn K (.ref f_is_seed) = true)
    (a_need_seed : PySem.W.nsIn K mainGlobals "need_seed" = some (some (.ref f_need_seed)))
    (l_need_seed : K.lookup f_need_seed = some ⟨oc_need_seed, od_need_seed, .func (PySem.W.fnOf "need_seed" "need_seed" (C8.fnArgs s_need_seed) (C8.fnBody s_need_seed) (C8.fnScope s_need_seed) .none kV_need_seed dc_need_seed pm_need_seed an_need_seed cd_need_seed ct_need_seed), sl_need_seed⟩)
    (c_need_seed : PySem.W.codeIn K cd_need_seed "need_seed" = true)
    (k_need_seed : PySem.W.keepIn K (.ref f_need_seed) = true)
    (a_number_of : PySem.W.nsIn K mainGlobals "number_of" = some (some (.ref f_number_of)))
    (l_number_of : K.lookup f_number_of = some ⟨oc_number_of, od_number_of, .func (PySem.W.fnOf "number_of" "number_of" (C8.fnArgs s_number_of) (C8.fnBody s_number_of) (C8.fnScope s_number_of) .none kV_number_of dc_number_of pm_number_of an_number_of cd_number_of ct_number_of), sl_number_of⟩)
    (c_number_of : PySem.W.codeIn K cd_number_of "number_of" = true)
    (k_number_of : PySem.W.keepIn K (.ref f_number_of) = true)
    (a_core_of : PySem.W.nsIn K mainGlobals "core_of" = some (some (.ref f_core_of)))
    (l_core_of : K.lookup f_core_of = some ⟨oc_core_of, od_core_of, .func (PySem.W.fnOf "core_of" "core_of" (C8.fnArgs s_core_of) (C8.fnBody s_core_of) (C8.fnScope s_core_of) .none kV_core_of dc_core_of pm_core_of an_core_of cd_core_of ct_core_of), sl_core_of⟩)
    (c_core_of : PySem.W.codeIn K cd_core_of "core_of" = true)
    (k_core_of : PySem.W.keepIn K (.ref f_core_of) = true)
    (a_seed_words : PySem.W.nsIn K mainGlobals "seed_words" = some (some (.ref f_seed_words)))
    (l_seed_words : K.lookup f_seed_words = some ⟨oc_seed_words, od_seed_words, .func (PySem.W.fnOf "seed_words" "seed_words" (C8.fnArgs s_seed_words) (C8.fnBody s_seed_words) (C8.fnScope s_seed_words) .none kV_seed_words dc_seed_words pm_seed_words an_seed_words cd_seed_words ct_seed_words), sl_seed_words⟩)
    (c_seed_words : PySem.W.codeIn K cd_seed_words "seed_words" = true)
    (k_seed_words : PySem.W.keepIn K (.ref f_seed_words) = true)
    (a_s2_is_number : PySem.W.nsIn K mainGlobals "s2_is_number" = some (some (.ref f_s2_is_number)))
    (l_s2_is_number : K.lookup f_s2_is_number = some ⟨oc_s2_is_number, od_s2_is_number, .func (PySem.W.fnOf "s2_is_number" "s2_is_number" (C8.fnArgs s_s2_is_number) (C8.fnBody s_s2_is_number) (C8.fnScope s_s2_is_number) .none kV_s2_is_number dc_s2_is_number pm_s2_is_number an_s2_is_number cd_s2_is_number ct_s2_is_number), sl_s2_is_number⟩)
    (c_s2_is_number : PySem.W.codeIn K cd_s2_is_number "s2_is_number" = true)
    (k_s2_is_number : PySem.W.keepIn K (.ref f_s2_is_number) = true)
    (a_s2_need_start : PySem.W.nsIn K mainGlobals "s2_need_start" = some (some (.ref f_s2_need_start)))
    (l_s2_need_start : K.lookup f_s2_need_start = some ⟨oc_s2_need_start, od_s2_need_start, .func (PySem.W.fnOf "s2_need_start" "s2_need_start" (C8.fnArgs s_s2_need_start) (C8.fnBody s_s2_need_start) (C8.fnScope s_s2_need_start) .none kV_s2_need_start dc_s2_need_start pm_s2_need_start an_s2_need_start cd_s2_need_start ct_s2_need_start), sl_s2_need_start⟩)
    (c_s2_need_start : PySem.W.codeIn K cd_s2_need_start "s2_need_start" = true)
    (k_s2_need_start : PySem.W.keepIn K (.ref f_s2_need_start) = true)
    (a_Linear___init__ : PySem.W.findIn K (.ref C_Linear) "__init__" = some (some (.ref f_Linear___init__)))
    (i_Linear___init__ : PySem.W.isFn K (.ref f_Linear___init__) = true)
    (l_Linear___init__ : K.lookup f_Linear___init__ = some ⟨oc_Linear___init__, od_Linear___init__, .func (PySem.W.fnOf "__init__" "Linear.__init__" (C8.fnArgs s_Linear___init__) (C8.fnBody s_Linear___init__) (C8.fnScope s_Linear___init__) .none kV_Linear___init__ dc_Linear___init__ pm_Linear___init__ an_Linear___init__ cd_Linear___init__ ct_Linear___init__), sl_Linear___init__⟩)
    (c_Linear___init__ : PySem.W.codeIn K cd_Linear___init__ "Linear.__init__" = true)
    (k_Linear___init__ : PySem.W.keepIn K (.ref f_Linear___init__) = true)
    (mk_Linear___init__ : PySem.W.makesIn K C_Linear = true)
    (kc_Linear___init__ : PySem.W.keepIn K (.ref C_Linear) = true)
    (a_Linear_state : PySem.W.findIn K (.ref C_Linear) "state" = some (some (.ref p_Linear_state)))
    (g_Linear_state : PySem.W.specialIn K (.ref p_Linear_state) "__get__" = some (some (.builtin "property.__get__")))
    (t_Linear_state : PySem.W.takesIn K (.ref p_Linear_state) = some true)
    (r_Linear_state : PySem.W.recIn K p_Linear_state "property" = some (.ref f_Linear_state :: rs_Linear_state))
    (l_Linear_state : K.lookup f_Linear_state = some ⟨oc_Linear_state, od_Linear_state, .func (PySem.W.fnOf "state" "Linear.state" (C8.fnArgs s_Linear_state) (C8.fnBody s_Linear_state) (C8.fnScope s_Linear_state) .none kV_Linear_state dc_Linear_state pm_Linear_state an_Linear_state cd_Linear_state ct_Linear_state), sl_Linear_state⟩)
    (c_Linear_state : PySem.W.codeIn K cd_Linear_state "Linear.state" = true)
    (k_Linear_state : PySem.W.keepIn K (.ref f_Linear_state) = true)
    (a_Linear_copy : PySem.W.findIn K (.ref C_Linear) "copy" = some (some (.ref f_Linear_copy)))
    (i_Linear_copy : PySem.W.isFn K (.ref f_Linear_copy) = true)
    (l_Linear_copy : K.lookup f_Linear_copy = some ⟨oc_Linear_copy, od_Linear_copy, .func (PySem.W.fnOf "copy" "Linear.copy" (C8.fnArgs s_Linear_copy) (C8.fnBody s_Linear_copy) (C8.fnScope s_Linear_copy) .none kV_Linear_copy dc_Linear_copy pm_Linear_copy an_Linear_copy cd_Linear_copy ct_Linear_copy), sl_Linear_copy⟩)
    (c_Linear_copy : PySem.W.codeIn K cd_Linear_copy "Linear.copy" = true)
    (k_Linear_copy : PySem.W.keepIn K (.ref f_Linear_copy) = true)
    (rd_Linear_seeded : PySem.W.readsIn K C_Linear (.type "type") = true)
    (ga_Linear_seeded : PySem.W.specialIn K (.ref C_Linear) "__getattribute__" = some (some (.builtin "type.__getattribute__")))
    (a_Linear_seeded : PySem.W.findCls K (.ref C_Linear) (.type "type") "seeded" = some (.get (.builtin "classmethod.__get__") (.ref p_Linear_seeded) .none (.ref C_Linear)))
    (r_Linear_seeded : PySem.W.recIn K p_Linear_seeded "classmethod" = some (.ref f_Linear_seeded :: rs_Linear_seeded))
    (fi_Linear_seeded : PySem.W.fnIn K f_Linear_seeded = true)
    (l_Linear_seeded : K.lookup f_Linear_seeded = some ⟨oc_Linear_seeded, od_Linear_seeded, .func (PySem.W.fnOf "seeded" "Linear.seeded" (C8.fnArgs s_Linear_seeded) (C8.fnBody s_Linear_seeded) (C8.fnScope s_Linear_seeded) .none kV_Linear_seeded dc_Linear_seeded pm_Linear_seeded an_Linear_seeded cd_Linear_seeded ct_Linear_seeded), sl_Linear_seeded⟩)
    (c_Linear_seeded : PySem.W.codeIn K cd_Linear_seeded "Linear.seeded" = true)
    (k_Linear_seeded : PySem.W.keepIn K (.ref f_Linear_seeded) = true)
    (a_s2_is_every : PySem.W.nsIn K mainGlobals "s2_is_every" = some (some (.ref f_s2_is_every)))
    (l_s2_is_every : K.lookup f_s2_is_every = some ⟨oc_s2_is_every, od_s2_is_every, .func (PySem.W.fnOf "s2_is_every" "s2_is_every" (C8.fnArgs s_s2_is_every) (C8.fnBody s_s2_is_every) (C8.fnScope s_s2_is_every) .none kV_s2_is_every dc_s2_is_every pm_s2_is_every an_s2_is_every cd_s2_is_every ct_s2_is_every), sl_s2_is_every⟩)
    (c_s2_is_every : PySem.W.codeIn K cd_s2_is_every "s2_is_every" = true)
    (k_s2_is_every : PySem.W.keepIn K (.ref f_s2_is_every) = true)
    (a_s2_need_every : PySem.W.nsIn K mainGlobals "s2_need_every" = some (some (.ref f_s2_need_every)))
    (l_s2_need_every : K.lookup f_s2_need_every = some ⟨oc_s2_need_every, od_s2_need_every, .func (PySem.W.fnOf "s2_need_every" "s2_need_every" (C8.fnArgs s_s2_need_every) (C8.fnBody s_s2_need_every) (C8.fnScope s_s2_need_every) .none kV_s2_need_every dc_s2_need_every pm_s2_need_every an_s2_need_every cd_s2_need_every ct_s2_need_every), sl_s2_need_every⟩)
    (c_s2_need_every : PySem.W.codeIn K cd_s2_need_every "s2_need_every" = true)
    (k_s2_need_every : PySem.W.keepIn K (.ref f_s2_need_every) = true)
    (a_Leaping___init__ : PySem.W.findIn K (.ref C_Leaping) "__init__" = some (some (.ref f_Leaping___init__)))
    (i_Leaping___init__ : PySem.W.isFn K (.ref f_Leaping___init__) = true)
    (l_Leaping___init__ : K.lookup f_Leaping___init__ = some ⟨oc_Leaping___init__, od_Leaping___init__, .func (PySem.W.fnOf "__init__" "Leaping.__init__" (C8.fnArgs s_Leaping___init__) (C8.fnBody s_Leaping___init__) (C8.fnScope s_Leaping___init__) .none kV_Leaping___init__ dc_Leaping___init__ pm_Leaping___init__ an_Leaping___init__ cd_Leaping___init__ ct_Leaping___init__), sl_Leaping___init__⟩)
    (c_Leaping___init__ : PySem.W.codeIn K cd_Leaping___init__ "Leaping.__init__" = true)
    (k_Leaping___init__ : PySem.W.keepIn K (.ref f_Leaping___init__) = true)
    (mk_Leaping___init__ : PySem.W.makesIn K C_Leaping = true)
    (kc_Leaping___init__ : PySem.W.keepIn K (.ref C_Leaping) = true)
    (a_Leaping_state : PySem.W.findIn K (.ref C_Leaping) "state" = some (some (.ref p_Leaping_state)))
    (g_Leaping_state : PySem.W.specialIn K (.ref p_Leaping_state) "__get__" = some (some (.builtin "property.__get__")))
    (t_Leaping_state : PySem.W.takesIn K (.ref p_Leaping_state) = some true)
    (r_Leaping_state : PySem.W.recIn K p_Leaping_state "property" = some (.ref f_Leaping_state :: rs_Leaping_state))
    (l_Leaping_state : K.lookup f_Leaping_state = some ⟨oc_Leaping_state, od_Leaping_state, .func (PySem.W.fnOf "state" "Leaping.state" (C8.fnArgs s_Leaping_state) (C8.fnBody s_Leaping_state) (C8.fnScope s_Leaping_state) .none kV_Leaping_state dc_Leaping_state pm_Leaping_state an_Leaping_state cd_Leaping_state ct_Leaping_state), sl_Leaping_state⟩)
    (c_Leaping_state : PySem.W.codeIn K cd_Leaping_state "Leaping.state" = true)
    (k_Leaping_state : PySem.W.keepIn K (.ref f_Leaping_state) = true)
    (rd_Leaping_seeded : PySem.W.readsIn K C_Leaping (.type "type") = true)
    (ga_Leaping_seeded : PySem.W.specialIn K (.ref C_Leaping) "__getattribute__" = some (some (.builtin "type.__getattribute__")))
    (a_Leaping_seeded : PySem.W.findCls K (.ref C_Leaping) (.type "type") "seeded" = some (.get (.builtin "classmethod.__get__") (.ref p_Leaping_seeded) .none (.ref C_Leaping)))
    (r_Leaping_seeded : PySem.W.recIn K p_Leaping_seeded "classmethod" = some (.ref f_Leaping_seeded :: rs_Leaping_seeded))
    (fi_Leaping_seeded : PySem.W.fnIn K f_Leaping_seeded = true)
    (l_Leaping_seeded : K.lookup f_Leaping_seeded = some ⟨oc_Leaping_seeded, od_Leaping_seeded, .func (PySem.W.fnOf "seeded" "Leaping.seeded" (C8.fnArgs s_Leaping_seeded) (C8.fnBody s_Leaping_seeded) (C8.fnScope s_Leaping_seeded) .none kV_Leaping_seeded dc_Leaping_seeded pm_Leaping_seeded an_Leaping_seeded cd_Leaping_seeded ct_Leaping_seeded), sl_Leaping_seeded⟩)
    (c_Leaping_seeded : PySem.W.codeIn K cd_Leaping_seeded "Leaping.seeded" = true)
    (k_Leaping_seeded : PySem.W.keepIn K (.ref f_Leaping_seeded) = true)
    (a__law_begun : PySem.W.nsIn K mainGlobals "_law_begun" = some (some (.ref f__law_begun)))
    (l__law_begun : K.lookup f__law_begun = some ⟨oc__law_begun, od__law_begun, .func (PySem.W.fnOf "_law_begun" "_law_begun" (C8.fnArgs s__law_begun) (C8.fnBody s__law_begun) (C8.fnScope s__law_begun) .none kV__law_begun dc__law_begun pm__law_begun an__law_begun cd__law_begun ct__law_begun), sl__law_begun⟩)
    (c__law_begun : PySem.W.codeIn K cd__law_begun "_law_begun" = true)
    (k__law_begun : PySem.W.keepIn K (.ref f__law_begun) = true)
    (a__law_next : PySem.W.nsIn K mainGlobals "_law_next" = some (some (.ref f__law_next)))
    (l__law_next : K.lookup f__law_next = some ⟨oc__law_next, od__law_next, .func (PySem.W.fnOf "_law_next" "_law_next" (C8.fnArgs s__law_next) (C8.fnBody s__law_next) (C8.fnScope s__law_next) .none kV__law_next dc__law_next pm__law_next an__law_next cd__law_next ct__law_next), sl__law_next⟩)
    (c__law_next : PySem.W.codeIn K cd__law_next "_law_next" = true)
    (k__law_next : PySem.W.keepIn K (.ref f__law_next) = true)
    (a__law_tempered : PySem.W.nsIn K mainGlobals "_law_tempered" = some (some (.ref f__law_tempered)))
    (l__law_tempered : K.lookup f__law_tempered = some ⟨oc__law_tempered, od__law_tempered, .func (PySem.W.fnOf "_law_tempered" "_law_tempered" (C8.fnArgs s__law_tempered) (C8.fnBody s__law_tempered) (C8.fnScope s__law_tempered) .none kV__law_tempered dc__law_tempered pm__law_tempered an__law_tempered cd__law_tempered ct__law_tempered), sl__law_tempered⟩)
    (c__law_tempered : PySem.W.codeIn K cd__law_tempered "_law_tempered" = true)
    (k__law_tempered : PySem.W.keepIn K (.ref f__law_tempered) = true)
    (a__law_mixed : PySem.W.nsIn K mainGlobals "_law_mixed" = some (some (.ref f__law_mixed)))
    (l__law_mixed : K.lookup f__law_mixed = some ⟨oc__law_mixed, od__law_mixed, .func (PySem.W.fnOf "_law_mixed" "_law_mixed" (C8.fnArgs s__law_mixed) (C8.fnBody s__law_mixed) (C8.fnScope s__law_mixed) .none kV__law_mixed dc__law_mixed pm__law_mixed an__law_mixed cd__law_mixed ct__law_mixed), sl__law_mixed⟩)
    (c__law_mixed : PySem.W.codeIn K cd__law_mixed "_law_mixed" = true)
    (k__law_mixed : PySem.W.keepIn K (.ref f__law_mixed) = true)
    (a__law_start : PySem.W.nsIn K mainGlobals "_law_start" = some (some (.ref f__law_start)))
    (l__law_start : K.lookup f__law_start = some ⟨oc__law_start, od__law_start, .func (PySem.W.fnOf "_law_start" "_law_start" (C8.fnArgs s__law_start) (C8.fnBody s__law_start) (C8.fnScope s__law_start) .none kV__law_start dc__law_start pm__law_start an__law_start cd__law_start ct__law_start), sl__law_start⟩)
    (c__law_start : PySem.W.codeIn K cd__law_start "_law_start" = true)
    (k__law_start : PySem.W.keepIn K (.ref f__law_start) = true)
    (a__law_seed : PySem.W.nsIn K mainGlobals "_law_seed" = some (some (.ref f__law_seed)))
    (l__law_seed : K.lookup f__law_seed = some ⟨oc__law_seed, od__law_seed, .func (PySem.W.fnOf "_law_seed" "_law_seed" (C8.fnArgs s__law_seed) (C8.fnBody s__law_seed) (C8.fnScope s__law_seed) .none kV__law_seed dc__law_seed pm__law_seed an__law_seed cd__law_seed ct__law_seed), sl__law_seed⟩)
    (c__law_seed : PySem.W.codeIn K cd__law_seed "_law_seed" = true)
    (k__law_seed : PySem.W.keepIn K (.ref f__law_seed) = true)
    (a__law_refused : PySem.W.nsIn K mainGlobals "_law_refused" = some (some (.ref f__law_refused)))
    (l__law_refused : K.lookup f__law_refused = some ⟨oc__law_refused, od__law_refused, .func (PySem.W.fnOf "_law_refused" "_law_refused" (C8.fnArgs s__law_refused) (C8.fnBody s__law_refused) (C8.fnScope s__law_refused) .none kV__law_refused dc__law_refused pm__law_refused an__law_refused cd__law_refused ct__law_refused), sl__law_refused⟩)
    (c__law_refused : PySem.W.codeIn K cd__law_refused "_law_refused" = true)
    (k__law_refused : PySem.W.keepIn K (.ref f__law_refused) = true)
    (a_law : PySem.W.nsIn K mainGlobals "law" = some (some (.ref f_law)))
    (l_law : K.lookup f_law = some ⟨oc_law, od_law, .func (PySem.W.fnOf "law" "law" (C8.fnArgs s_law) (C8.fnBody s_law) (C8.fnScope s_law) .none kV_law dc_law pm_law an_law cd_law ct_law), sl_law⟩)
    (c_law : PySem.W.codeIn K cd_law "law" = true)
    (k_law : PySem.W.keepIn K (.ref f_law) = true)
    (e_WORDS : PySem.W.nsIn K mainGlobals "WORDS" = some (some (.int 4294967296 tk_WORDS)))
    (e_DOUBLES : PySem.W.nsIn K mainGlobals "DOUBLES" = some (some (.int 18446744073709551616 tk_DOUBLES)))
    (e_FACTOR : PySem.W.nsIn K mainGlobals "FACTOR" = some (some (.int 3486784401 tk_FACTOR)))
    (e_MIX_STEP : PySem.W.nsIn K mainGlobals "MIX_STEP" = some (some (.int 1000003 tk_MIX_STEP)))
    (e_ROUNDS : PySem.W.nsIn K mainGlobals "ROUNDS" = some (some (.ref R_ROUNDS)))
    (g_ROUNDS : K.lookup R_ROUNDS = some ⟨.type "tuple", oD_ROUNDS, .seq #[.int 1 oT_ROUNDS_0, .int 2 oT_ROUNDS_1, .int 3 oT_ROUNDS_2, .int 4 oT_ROUNDS_3] oN_ROUNDS, oS_ROUNDS⟩)
    (e_MOST_SEED_WORDS : PySem.W.nsIn K mainGlobals "MOST_SEED_WORDS" = some (some (.int 1000 tk_MOST_SEED_WORDS)))
    (e_MOST_CHARACTERS : PySem.W.nsIn K mainGlobals "MOST_CHARACTERS" = some (some (.int 100 tk_MOST_CHARACTERS)))
    (e_SEEDS : PySem.W.nsIn K mainGlobals "SEEDS" = some (some (.int 115792089237316195423570985008687907853269984665640564039457584007913129639936 tk_SEEDS)))
    (e_MOST_STEPS : PySem.W.nsIn K mainGlobals "MOST_STEPS" = some (some (.int 18446744073709551616 tk_MOST_STEPS)))
    (e_MODULUS : PySem.W.nsIn K mainGlobals "MODULUS" = some (some (.int 281474976710656 tk_MODULUS)))
    (e_LOW_WORD : PySem.W.nsIn K mainGlobals "LOW_WORD" = some (some (.int 65536 tk_LOW_WORD)))
    (q_Linear : PySem.W.nsIn K mainGlobals "Linear" = some (some (.ref C_Linear)))
    (pg_Linear : PySem.W.plainGet K C_Linear Str.empty = true)
    (hd_Linear : PySem.W.hasDictIn K C_Linear = true)
    (po_Linear : PySem.W.plainOver K C_Linear = true)
    (sa_Linear : PySem.W.findIn K (.ref C_Linear) "__setattr__" = some (some (.builtin "object.__setattr__")))
    (ha_Linear : PySem.W.findIn K (.ref C_Linear) "__class__" = some (some (.builtin "object.__class__")))
    (hn_Linear : PySem.W.specialIn K (.builtin "object.__class__") "__get__" = some (some (.builtin "getset_descriptor.__get__")))
    (ht_Linear : PySem.W.takesIn K (.builtin "object.__class__") = some true)
    (hm_Linear : PySem.W.mroIn K C_Linear (.type "object") = some true)
    (na_Linear_s2_x : PySem.W.findIn K (.ref C_Linear) "s2_x" = some none)
    (q_Leaping : PySem.W.nsIn K mainGlobals "Leaping" = some (some (.ref C_Leaping)))
    (pg_Leaping : PySem.W.plainGet K C_Leaping Str.empty = true)
    (hd_Leaping : PySem.W.hasDictIn K C_Leaping = true)
    (po_Leaping : PySem.W.plainOver K C_Leaping = true)
    (sa_Leaping : PySem.W.findIn K (.ref C_Leaping) "__setattr__" = some (some (.builtin "object.__setattr__")))
    (ha_Leaping : PySem.W.findIn K (.ref C_Leaping) "__class__" = some (some (.builtin "object.__class__")))
    (hn_Leaping : PySem.W.specialIn K (.builtin "object.__class__") "__get__" = some (some (.builtin "getset_descriptor.__get__")))
    (ht_Leaping : PySem.W.takesIn K (.builtin "object.__class__") = some true)
    (hm_Leaping : PySem.W.mroIn K C_Leaping (.type "object") = some true)
    (na_Leaping_s2_leap_x : PySem.W.findIn K (.ref C_Leaping) "s2_leap_x" = some none)
    (na_Leaping_s2_every : PySem.W.findIn K (.ref C_Leaping) "s2_every" = some none)
    (ob_Linear_Leaping : PySem.W.kitOne K (.ref C_Linear) (.ref C_Leaping) = some false)
    (ob_Leaping_Linear : PySem.W.kitOne K (.ref C_Leaping) (.ref C_Linear) = some false)
    (q_DrawError : PySem.W.nsIn K mainGlobals "DrawError" = some (some (.ref C_DrawError)))
    (rd_DrawError : PySem.W.readsIn K C_DrawError (.type "type") = true)
    (rg_DrawError : PySem.W.specialIn K (.ref C_DrawError) "__getattribute__" = some (some (.builtin "type.__getattribute__")))
    (fi_DrawError : PySem.W.findCls K (.ref C_DrawError) (.type "type") "__init__" = some (.val (.builtin "ValueError.__init__")))
    (q_BadSeed : PySem.W.nsIn K mainGlobals "BadSeed" = some (some (.ref C_BadSeed)))
    (in_BadSeed : PySem.W.excInitIn K C_BadSeed [.type "ValueError", .type "Exception", .type "BaseException", .type "object"] "ValueError.__new__" = true)
    (ov_BadSeed : PySem.W.excOver K C_BadSeed [.type "ValueError", .type "Exception", .type "BaseException", .type "object"] = true)
    (hd_BadSeed : PySem.W.hasDictIn K C_BadSeed = true)
    (sa_BadSeed : PySem.W.findIn K (.ref C_BadSeed) "__setattr__" = some (some (.builtin "object.__setattr__")))
    (ex_BadSeed : PySem.W.subIn K (.ref C_BadSeed) (.type "BaseException") = some true)
    (ty_BadSeed : PySem.W.typeIn K (.ref C_BadSeed) = some (.type "type"))
    (kc_BadSeed : PySem.W.keepIn K (.ref C_BadSeed) = true)
    (ga_BadSeed : PySem.W.findIn K (.ref C_BadSeed) "__getattribute__" = some (some (.builtin "BaseException.__getattribute__")))
    (gg_BadSeed : PySem.W.findIn K (.ref C_BadSeed) "__getattr__" = some none)
    (na_BadSeed : PySem.W.findIn K (.ref C_BadSeed) "given" = some none)
    (tk_BadSeed : PySem.W.takerIn K C_BadSeed "given" = some none)
    (sb_BadSeed : PySem.W.subIn K (.ref C_BadSeed) (.ref C_BadSeed) = some true)
    (q_BadNumber : PySem.W.nsIn K mainGlobals "BadNumber" = some (some (.ref C_BadNumber)))
    (in_BadNumber : PySem.W.excInitIn K C_BadNumber [.type "ValueError", .type "Exception", .type "BaseException", .type "object"] "ValueError.__new__" = true)
    (ov_BadNumber : PySem.W.excOver K C_BadNumber [.type "ValueError", .type "Exception", .type "BaseException", .type "object"] = true)
    (hd_BadNumber : PySem.W.hasDictIn K C_BadNumber = true)
    (sa_BadNumber : PySem.W.findIn K (.ref C_BadNumber) "__setattr__" = some (some (.builtin "object.__setattr__")))
    (ex_BadNumber : PySem.W.subIn K (.ref C_BadNumber) (.type "BaseException") = some true)
    (ty_BadNumber : PySem.W.typeIn K (.ref C_BadNumber) = some (.type "type"))
    (kc_BadNumber : PySem.W.keepIn K (.ref C_BadNumber) = true)
    (ga_BadNumber : PySem.W.findIn K (.ref C_BadNumber) "__getattribute__" = some (some (.builtin "BaseException.__getattribute__")))
    (gg_BadNumber : PySem.W.findIn K (.ref C_BadNumber) "__getattr__" = some none)
    (na_BadNumber : PySem.W.findIn K (.ref C_BadNumber) "given" = some none)
    (tk_BadNumber : PySem.W.takerIn K C_BadNumber "given" = some none)
    (sb_BadNumber : PySem.W.subIn K (.ref C_BadNumber) (.ref C_BadNumber) = some true)
    (z_all : PySem.W.nsIn K mainGlobals "all" = some none)
    (z_bool : PySem.W.nsIn K mainGlobals "bool" = some none)
    (z_enumerate : PySem.W.nsIn K mainGlobals "enumerate" = some none)
    (z_int : PySem.W.nsIn K mainGlobals "int" = some none)
    (z_isinstance : PySem.W.nsIn K mainGlobals "isinstance" = some none)
    (z_len : PySem.W.nsIn K mainGlobals "len" = some none)
    (z_max : PySem.W.nsIn K mainGlobals "max" = some none)
    (z_min : PySem.W.nsIn K mainGlobals "min" = some none)
    (z_ord : PySem.W.nsIn K mainGlobals "ord" = some none)
    (z_range : PySem.W.nsIn K mainGlobals "range" = some none)
    (z_repr : PySem.W.nsIn K mainGlobals "repr" = some none)
    (z_str : PySem.W.nsIn K mainGlobals "str" = some none)
    (z_tuple : PySem.W.nsIn K mainGlobals "tuple" = some none)
    : Txt K mg C_Linear C_Leaping C_DrawError C_BadSeed C_BadNumber R_ROUNDS :=
  { d_BadSeed___init__ := ⟨f_BadSeed___init__, _, a_BadSeed___init__, ti_BadSeed___init__, ⟨⟨oc_BadSeed___init__, od_BadSeed___init__, .none, kV_BadSeed___init__, dc_BadSeed___init__, pm_BadSeed___init__, an_BadSeed___init__, cd_BadSeed___init__, ct_BadSeed___init__, sl_BadSeed___init__, rfl, l_BadSeed___init__, c_BadSeed___init__⟩⟩, C8.Fun.binds (x := "__init__") (qual := "BadSeed.__init__") (st := s_BadSeed___init__) (f := f_BadSeed___init__) ⟨⟨oc_BadSeed___init__, od_BadSeed___init__, .none, kV_BadSeed___init__, dc_BadSeed___init__, pm_BadSeed___init__, an_BadSeed___init__, cd_BadSeed___init__, ct_BadSeed___init__, sl_BadSeed___init__, rfl, l_BadSeed___init__, c_BadSeed___init__⟩⟩ rfl (fun _ _ _ _ _ _ us hl => match us, hl with | [_, _], _ => rfl)⟩,
    d_BadNumber___init__ := ⟨f_BadNumber___init__, _, a_BadNumber___init__, ti_BadNumber___init__, ⟨⟨oc_BadNumber___init__, od_BadNumber___init__, .none, kV_BadNumber___init__, dc_BadNumber___init__, pm_BadNumber___init__, an_BadNumber___init__, cd_BadNumber___init__, ct_BadNumber___init__, sl_BadNumber___init__, rfl, l_BadNumber___init__, c_BadNumber___init__⟩⟩, C8.Fun.binds (x := "__init__") (qual := "BadNumber.__init__") (st := s_BadNumber___init__) (f := f_BadNumber___init__) ⟨⟨oc_BadNumber___init__, od_BadNumber___init__, .none, kV_BadNumber___init__, dc_BadNumber___init__, pm_BadNumber___init__, an_BadNumber___init__, cd_BadNumber___init__, ct_BadNumber___init__, sl_BadNumber___init__, rfl, l_BadNumber___init__, c_BadNumber___init__⟩⟩ rfl (fun _ _ _ _ _ _ us hl => match us, hl with | [_, _], _ => rfl)⟩,
    d_is_integer := ⟨f_is_integer, _, ⟨⟨⟨oc_is_integer, od_is_integer, .none, kV_is_integer, dc_is_integer, pm_is_integer, an_is_integer, cd_is_integer, ct_is_integer, sl_is_integer, rfl, l_is_integer, c_is_integer⟩⟩, PySem.W.mg_of X G a_is_integer, k_is_integer⟩, C8.Fun.binds (x := "is_integer") (qual := "is_integer") (st := s_is_integer) (f := f_is_integer) ⟨⟨oc_is_integer, od_is_integer, .none, kV_is_integer, dc_is_integer, pm_is_integer, an_is_integer, cd_is_integer, ct_is_integer, sl_is_integer, rfl, l_is_integer, c_is_integer⟩⟩ rfl (fun _ _ _ _ _ _ us hl => match us, hl with | [_], _ => rfl)⟩,
    d_need_double := ⟨f_need_double, _, ⟨⟨⟨oc_need_double, od_need_double, .none, kV_need_double, dc_need_double, pm_need_double, an_need_double, cd_need_double, ct_need_double, sl_need_double, rfl, l_need_double, c_need_double⟩⟩, PySem.W.mg_of X G a_need_double, k_need_double⟩, C8.Fun.binds (x := "need_double") (qual := "need_double") (st := s_need_double) (f := f_need_double) ⟨⟨oc_need_double, od_need_double, .none, kV_need_double, dc_need_double, pm_need_double, an_need_double, cd_need_double, ct_need_double, sl_need_double, rfl, l_need_double, c_need_double⟩⟩ rfl (fun _ _ _ _ _ _ us hl => match us, hl with | [_], _ => rfl)⟩,
    d_own_tempered := ⟨f_own_tempered, _, ⟨⟨⟨oc_own_tempered, od_own_tempered, .none, kV_own_tempered, dc_own_tempered, pm_own_tempered, an_own_tempered, cd_own_tempered, ct_own_tempered, sl_own_tempered, rfl, l_own_tempered, c_own_tempered⟩⟩, PySem.W.mg_of X G a_own_tempered, k_own_tempered⟩, C8.Fun.binds (x := "own_tempered") (qual := "own_tempered") (st := s_own_tempered) (f := f_own_tempered) ⟨⟨oc_own_tempered, od_own_tempered, .none, kV_own_tempered, dc_own_tempered, pm_own_tempered, an_own_tempered, cd_own_tempered, ct_own_tempered, sl_own_tempered, rfl, l_own_tempered, c_own_tempered⟩⟩ rfl (fun _ _ _ _ _ _ us hl => match us, hl with | [_], _ => rfl)⟩,
    d_mixed := ⟨f_mixed, _, ⟨⟨⟨oc_mixed, od_mixed, .none, kV_mixed, dc_mixed, pm_mixed, an_mixed, cd_mixed, ct_mixed, sl_mixed, rfl, l_mixed, c_mixed⟩⟩, PySem.W.mg_of X G a_mixed, k_mixed⟩, C8.Fun.binds (x := "mixed") (qual := "mixed") (st := s_mixed) (f := f_mixed) ⟨⟨oc_mixed, od_mixed, .none, kV_mixed, dc_mixed, pm_mixed, an_mixed, cd_mixed, ct_mixed, sl_mixed, rfl, l_mixed, c_mixed⟩⟩ rfl (fun _ _ _ _ _ _ us hl => match us, hl with | [_], _ => rfl)⟩,
    d_is_seed_text := ⟨f_is_seed_text, _, ⟨⟨⟨oc_is_seed_text, od_is_seed_text, .none, kV_is_seed_text, dc_is_seed_text, pm_is_seed_text, an_is_seed_text, cd_is_seed_text, ct_is_seed_text, sl_is_seed_text, rfl, l_is_seed_text, c_is_seed_text⟩⟩, PySem.W.mg_of X G a_is_seed_text, k_is_seed_text⟩, C8.Fun.binds (x := "is_seed_text") (qual := "is_seed_text") (st := s_is_seed_text) (f := f_is_seed_text) ⟨⟨oc_is_seed_text, od_is_seed_text, .none, kV_is_seed_text, dc_is_seed_text, pm_is_seed_text, an_is_seed_text, cd_is_seed_text, ct_is_seed_text, sl_is_seed_text, rfl, l_is_seed_text, c_is_seed_text⟩⟩ rfl (fun _ _ _ _ _ _ us hl => match us, hl with | [_], _ => rfl)⟩,
    d_is_seed := ⟨f_is_seed, _, ⟨⟨⟨oc_is_seed, od_is_seed, .none, kV_is_seed, dc_is_seed, pm_is_seed, an_is_seed, cd_is_seed, ct_is_seed, sl_is_seed, rfl, l_is_seed, c_is_seed⟩⟩, PySem.W.mg_of X G a_is_seed, k_is_seed⟩, C8.Fun.binds (x := "is_seed") (qual := "is_seed") (st := s_is_seed) (f := f_is_seed) ⟨⟨oc_is_seed, od_is_seed, .none, kV_is_seed, dc_is_seed, pm_is_seed, an_is_seed, cd_is_seed, ct_is_seed, sl_is_seed, rfl, l_is_seed, c_is_seed⟩⟩ rfl (fun _ _ _ _ _ _ us hl => match us, hl with | [_], _ => rfl)⟩,
    d_need_seed := ⟨f_need_seed, _, ⟨⟨⟨oc_need_seed, od_need_seed, .none, kV_need_seed, dc_need_seed, pm_need_seed, an_need_seed, cd_need_seed, ct_need_seed, sl_need_seed, rfl, l_need_seed, c_need_seed⟩⟩, PySem.W.mg_of X G a_need_seed, k_need_seed⟩, C8.Fun.binds (x := "need_seed") (qual := "need_seed") (st := s_need_seed) (f := f_need_seed) ⟨⟨oc_need_seed, od_need_seed, .none, kV_need_seed, dc_need_seed, pm_need_seed, an_need_seed, cd_need_seed, ct_need_seed, sl_need_seed, rfl, l_need_seed, c_need_seed⟩⟩ rfl (fun _ _ _ _ _ _ us hl => match us, hl with | [_], _ => rfl)⟩,
    d_number_of := ⟨f_number_of, _, ⟨⟨⟨oc_number_of, od_number_of, .none, kV_number_of, dc_number_of, pm_number_of, an_number_of, cd_number_of, ct_number_of, sl_number_of, rfl, l_number_of, c_number_of⟩⟩, PySem.W.mg_of X G a_number_of, k_number_of⟩, C8.Fun.binds (x := "number_of") (qual := "number_of") (st := s_number_of) (f := f_number_of) ⟨⟨oc_number_of, od_number_of, .none, kV_number_of, dc_number_of, pm_number_of, an_number_of, cd_number_of, ct_number_of, sl_number_of, rfl, l_number_of, c_number_of⟩⟩ rfl (fun _ _ _ _ _ _ us hl => match us, hl with | [_], _ => rfl)⟩,
    d_core_of := ⟨f_core_of, _, ⟨⟨⟨oc_core_of, od_core_of, .none, kV_core_of, dc_core_of, pm_core_of, an_core_of, cd_core_of, ct_core_of, sl_core_of, rfl, l_core_of, c_core_of⟩⟩, PySem.W.mg_of X G a_core_of, k_core_of⟩, C8.Fun.binds (x := "core_of") (qual := "core_of") (st := s_core_of) (f := f_core_of) ⟨⟨oc_core_of, od_core_of, .none, kV_core_of, dc_core_of, pm_core_of, an_core_of, cd_core_of, ct_core_of, sl_core_of, rfl, l_core_of, c_core_of⟩⟩ rfl (fun _ _ _ _ _ _ us hl => match us, hl with | [_], _ => rfl)⟩,
    d_seed_words := ⟨f_seed_words, _, ⟨⟨⟨oc_seed_words, od_seed_words, .none, kV_seed_words, dc_seed_words, pm_seed_words, an_seed_words, cd_seed_words, ct_seed_words, sl_seed_words, rfl, l_seed_words, c_seed_words⟩⟩, PySem.W.mg_of X G a_seed_words, k_seed_words⟩, C8.Fun.binds (x := "seed_words") (qual := "seed_words") (st := s_seed_words) (f := f_seed_words) ⟨⟨oc_seed_words, od_seed_words, .none, kV_seed_words, dc_seed_words, pm_seed_words, an_seed_words, cd_seed_words, ct_seed_words, sl_seed_words, rfl, l_seed_words, c_seed_words⟩⟩ rfl (fun _ _ _ _ _ _ us hl => match us, hl with | [_, _], _ => rfl)⟩,
    d_s2_is_number := ⟨f_s2_is_number, _, ⟨⟨⟨oc_s2_is_number, od_s2_is_number, .none, kV_s2_is_number, dc_s2_is_number, pm_s2_is_number, an_s2_is_number, cd_s2_is_number, ct_s2_is_number, sl_s2_is_number, rfl, l_s2_is_number, c_s2_is_number⟩⟩, PySem.W.mg_of X G a_s2_is_number, k_s2_is_number⟩, C8.Fun.binds (x := "s2_is_number") (qual := "s2_is_number") (st := s_s2_is_number) (f := f_s2_is_number) ⟨⟨oc_s2_is_number, od_s2_is_number, .none, kV_s2_is_number, dc_s2_is_number, pm_s2_is_number, an_s2_is_number, cd_s2_is_number, ct_s2_is_number, sl_s2_is_number, rfl, l_s2_is_number, c_s2_is_number⟩⟩ rfl (fun _ _ _ _ _ _ us hl => match us, hl with | [_], _ => rfl)⟩,
    d_s2_need_start := ⟨f_s2_need_start, _, ⟨⟨⟨oc_s2_need_start, od_s2_need_start, .none, kV_s2_need_start, dc_s2_need_start, pm_s2_need_start, an_s2_need_start, cd_s2_need_start, ct_s2_need_start, sl_s2_need_start, rfl, l_s2_need_start, c_s2_need_start⟩⟩, PySem.W.mg_of X G a_s2_need_start, k_s2_need_start⟩, C8.Fun.binds (x := "s2_need_start") (qual := "s2_need_start") (st := s_s2_need_start) (f := f_s2_need_start) ⟨⟨oc_s2_need_start, od_s2_need_start, .none, kV_s2_need_start, dc_s2_need_start, pm_s2_need_start, an_s2_need_start, cd_s2_need_start, ct_s2_need_start, sl_s2_need_start, rfl, l_s2_need_start, c_s2_need_start⟩⟩ rfl (fun _ _ _ _ _ _ us hl => match us, hl with | [_], _ => rfl)⟩,
    d_Linear___init__ := ⟨f_Linear___init__, _, ⟨mk_Linear___init__, a_Linear___init__, i_Linear___init__, kc_Linear___init__⟩, ⟨⟨oc_Linear___init__, od_Linear___init__, .none, kV_Linear___init__, dc_Linear___init__, pm_Linear___init__, an_Linear___init__, cd_Linear___init__, ct_Linear___init__, sl_Linear___init__, rfl, l_Linear___init__, c_Linear___init__⟩⟩, C8.Fun.binds (x := "__init__") (qual := "Linear.__init__") (st := s_Linear___init__) (f := f_Linear___init__) ⟨⟨oc_Linear___init__, od_Linear___init__, .none, kV_Linear___init__, dc_Linear___init__, pm_Linear___init__, an_Linear___init__, cd_Linear___init__, ct_Linear___init__, sl_Linear___init__, rfl, l_Linear___init__, c_Linear___init__⟩⟩ rfl (fun _ _ _ _ _ _ us hl => match us, hl with | [_, _], _ => rfl)⟩,
    d_Linear_state := ⟨p_Linear_state, f_Linear_state, _, ⟨a_Linear_state, g_Linear_state, t_Linear_state, _, r_Linear_state⟩, ⟨⟨oc_Linear_state, od_Linear_state, .none, kV_Linear_state, dc_Linear_state, pm_Linear_state, an_Linear_state, cd_Linear_state, ct_Linear_state, sl_Linear_state, rfl, l_Linear_state, c_Linear_state⟩⟩, C8.Fun.binds (x := "state") (qual := "Linear.state") (st := s_Linear_state) (f := f_Linear_state) ⟨⟨oc_Linear_state, od_Linear_state, .none, kV_Linear_state, dc_Linear_state, pm_Linear_state, an_Linear_state, cd_Linear_state, ct_Linear_state, sl_Linear_state, rfl, l_Linear_state, c_Linear_state⟩⟩ rfl (fun _ _ _ _ _ _ us hl => match us, hl with | [_], _ => rfl)⟩,
    d_Linear_copy := ⟨f_Linear_copy, _, ⟨a_Linear_copy, i_Linear_copy, k_Linear_copy⟩, ⟨⟨oc_Linear_copy, od_Linear_copy, .none, kV_Linear_copy, dc_Linear_copy, pm_Linear_copy, an_Linear_copy, cd_Linear_copy, ct_Linear_copy, sl_Linear_copy, rfl, l_Linear_copy, c_Linear_copy⟩⟩, C8.Fun.binds (x := "copy") (qual := "Linear.copy") (st := s_Linear_copy) (f := f_Linear_copy) ⟨⟨oc_Linear_copy, od_Linear_copy, .none, kV_Linear_copy, dc_Linear_copy, pm_Linear_copy, an_Linear_copy, cd_Linear_copy, ct_Linear_copy, sl_Linear_copy, rfl, l_Linear_copy, c_Linear_copy⟩⟩ rfl (fun _ _ _ _ _ _ us hl => match us, hl with | [_], _ => rfl)⟩,
    d_Linear_seeded := ⟨f_Linear_seeded, _, ⟨_, p_Linear_seeded, ⟨rd_Linear_seeded, ga_Linear_seeded⟩, ⟨a_Linear_seeded, ⟨_, r_Linear_seeded⟩, fi_Linear_seeded⟩⟩, ⟨⟨oc_Linear_seeded, od_Linear_seeded, .none, kV_Linear_seeded, dc_Linear_seeded, pm_Linear_seeded, an_Linear_seeded, cd_Linear_seeded, ct_Linear_seeded, sl_Linear_seeded, rfl, l_Linear_seeded, c_Linear_seeded⟩⟩, C8.Fun.binds (x := "seeded") (qual := "Linear.seeded") (st := s_Linear_seeded) (f := f_Linear_seeded) ⟨⟨oc_Linear_seeded, od_Linear_seeded, .none, kV_Linear_seeded, dc_Linear_seeded, pm_Linear_seeded, an_Linear_seeded, cd_Linear_seeded, ct_Linear_seeded, sl_Linear_seeded, rfl, l_Linear_seeded, c_Linear_seeded⟩⟩ rfl (fun _ _ _ _ _ _ us hl => match us, hl with | [_, _], _ => rfl)⟩,
    d_s2_is_every := ⟨f_s2_is_every, _, ⟨⟨⟨oc_s2_is_every, od_s2_is_every, .none, kV_s2_is_every, dc_s2_is_every, pm_s2_is_every, an_s2_is_every, cd_s2_is_every, ct_s2_is_every, sl_s2_is_every, rfl, l_s2_is_every, c_s2_is_every⟩⟩, PySem.W.mg_of X G a_s2_is_every, k_s2_is_every⟩, C8.Fun.binds (x := "s2_is_every") (qual := "s2_is_every") (st := s_s2_is_every) (f := f_s2_is_every) ⟨⟨oc_s2_is_every, od_s2_is_every, .none, kV_s2_is_every, dc_s2_is_every, pm_s2_is_every, an_s2_is_every, cd_s2_is_every, ct_s2_is_every, sl_s2_is_every, rfl, l_s2_is_every, c_s2_is_every⟩⟩ rfl (fun _ _ _ _ _ _ us hl => match us, hl with | [_], _ => rfl)⟩,
    d_s2_need_every := ⟨f_s2_need_every, _, ⟨⟨⟨oc_s2_need_every, od_s2_need_every, .none, kV_s2_need_every, dc_s2_need_every, pm_s2_need_every, an_s2_need_every, cd_s2_need_every, ct_s2_need_every, sl_s2_need_every, rfl, l_s2_need_every, c_s2_need_every⟩⟩, PySem.W.mg_of X G a_s2_need_every, k_s2_need_every⟩, C8.Fun.binds (x := "s2_need_every") (qual := "s2_need_every") (st := s_s2_need_every) (f := f_s2_need_every) ⟨⟨oc_s2_need_every, od_s2_need_every, .none, kV_s2_need_every, dc_s2_need_every, pm_s2_need_every, an_s2_need_every, cd_s2_need_every, ct_s2_need_every, sl_s2_need_every, rfl, l_s2_need_every, c_s2_need_every⟩⟩ rfl (fun _ _ _ _ _ _ us hl => match us, hl with | [_], _ => rfl)⟩,
    d_Leaping___init__ := ⟨f_Leaping___init__, _, ⟨mk_Leaping___init__, a_Leaping___init__, i_Leaping___init__, kc_Leaping___init__⟩, ⟨⟨oc_Leaping___init__, od_Leaping___init__, .none, kV_Leaping___init__, dc_Leaping___init__, pm_Leaping___init__, an_Leaping___init__, cd_Leaping___init__, ct_Leaping___init__, sl_Leaping___init__, rfl, l_Leaping___init__, c_Leaping___init__⟩⟩, C8.Fun.binds (x := "__init__") (qual := "Leaping.__init__") (st := s_Leaping___init__) (f := f_Leaping___init__) ⟨⟨oc_Leaping___init__, od_Leaping___init__, .none, kV_Leaping___init__, dc_Leaping___init__, pm_Leaping___init__, an_Leaping___init__, cd_Leaping___init__, ct_Leaping___init__, sl_Leaping___init__, rfl, l_Leaping___init__, c_Leaping___init__⟩⟩ rfl (fun _ _ _ _ _ _ us hl => match us, hl with | [_, _, _], _ => rfl)⟩,
    d_Leaping_state := ⟨p_Leaping_state, f_Leaping_state, _, ⟨a_Leaping_state, g_Leaping_state, t_Leaping_state, _, r_Leaping_state⟩, ⟨⟨oc_Leaping_state, od_Leaping_state, .none, kV_Leaping_state, dc_Leaping_state, pm_Leaping_state, an_Leaping_state, cd_Leaping_state, ct_Leaping_state, sl_Leaping_state, rfl, l_Leaping_state, c_Leaping_state⟩⟩, C8.Fun.binds (x := "state") (qual := "Leaping.state") (st := s_Leaping_state) (f := f_Leaping_state) ⟨⟨oc_Leaping_state, od_Leaping_state, .none, kV_Leaping_state, dc_Leaping_state, pm_Leaping_state, an_Leaping_state, cd_Leaping_state, ct_Leaping_state, sl_Leaping_state, rfl, l_Leaping_state, c_Leaping_state⟩⟩ rfl (fun _ _ _ _ _ _ us hl => match us, hl with | [_], _ => rfl)⟩,
    d_Leaping_seeded := ⟨f_Leaping_seeded, _, ⟨_, p_Leaping_seeded, ⟨rd_Leaping_seeded, ga_Leaping_seeded⟩, ⟨a_Leaping_seeded, ⟨_, r_Leaping_seeded⟩, fi_Leaping_seeded⟩⟩, ⟨⟨oc_Leaping_seeded, od_Leaping_seeded, .none, kV_Leaping_seeded, dc_Leaping_seeded, pm_Leaping_seeded, an_Leaping_seeded, cd_Leaping_seeded, ct_Leaping_seeded, sl_Leaping_seeded, rfl, l_Leaping_seeded, c_Leaping_seeded⟩⟩, C8.Fun.binds (x := "seeded") (qual := "Leaping.seeded") (st := s_Leaping_seeded) (f := f_Leaping_seeded) ⟨⟨oc_Leaping_seeded, od_Leaping_seeded, .none, kV_Leaping_seeded, dc_Leaping_seeded, pm_Leaping_seeded, an_Leaping_seeded, cd_Leaping_seeded, ct_Leaping_seeded, sl_Leaping_seeded, rfl, l_Leaping_seeded, c_Leaping_seeded⟩⟩ rfl (fun _ _ _ _ _ _ us hl => match us, hl with | [_, _], _ => rfl)⟩,
    d__law_begun := ⟨f__law_begun, _, ⟨⟨⟨oc__law_begun, od__law_begun, .none, kV__law_begun, dc__law_begun, pm__law_begun, an__law_begun, cd__law_begun, ct__law_begun, sl__law_begun, rfl, l__law_begun, c__law_begun⟩⟩, PySem.W.mg_of X G a__law_begun, k__law_begun⟩, C8.Fun.binds (x := "_law_begun") (qual := "_law_begun") (st := s__law_begun) (f := f__law_begun) ⟨⟨oc__law_begun, od__law_begun, .none, kV__law_begun, dc__law_begun, pm__law_begun, an__law_begun, cd__law_begun, ct__law_begun, sl__law_begun, rfl, l__law_begun, c__law_begun⟩⟩ rfl (fun _ _ _ _ _ _ us hl => match us, hl with | [_], _ => rfl)⟩,
    d__law_next := ⟨f__law_next, _, ⟨⟨⟨oc__law_next, od__law_next, .none, kV__law_next, dc__law_next, pm__law_next, an__law_next, cd__law_next, ct__law_next, sl__law_next, rfl, l__law_next, c__law_next⟩⟩, PySem.W.mg_of X G a__law_next, k__law_next⟩, C8.Fun.binds (x := "_law_next") (qual := "_law_next") (st := s__law_next) (f := f__law_next) ⟨⟨oc__law_next, od__law_next, .none, kV__law_next, dc__law_next, pm__law_next, an__law_next, cd__law_next, ct__law_next, sl__law_next, rfl, l__law_next, c__law_next⟩⟩ rfl (fun _ _ _ _ _ _ us hl => match us, hl with | [_, _], _ => rfl)⟩,
    d__law_tempered := ⟨f__law_tempered, _, ⟨⟨⟨oc__law_tempered, od__law_tempered, .none, kV__law_tempered, dc__law_tempered, pm__law_tempered, an__law_tempered, cd__law_tempered, ct__law_tempered, sl__law_tempered, rfl, l__law_tempered, c__law_tempered⟩⟩, PySem.W.mg_of X G a__law_tempered, k__law_tempered⟩, C8.Fun.binds (x := "_law_tempered") (qual := "_law_tempered") (st := s__law_tempered) (f := f__law_tempered) ⟨⟨oc__law_tempered, od__law_tempered, .none, kV__law_tempered, dc__law_tempered, pm__law_tempered, an__law_tempered, cd__law_tempered, ct__law_tempered, sl__law_tempered, rfl, l__law_tempered, c__law_tempered⟩⟩ rfl (fun _ _ _ _ _ _ us hl => match us, hl with | [_], _ => rfl)⟩,
    d__law_mixed := ⟨f__law_mixed, _, ⟨⟨⟨oc__law_mixed, od__law_mixed, .none, kV__law_mixed, dc__law_mixed, pm__law_mixed, an__law_mixed, cd__law_mixed, ct__law_mixed, sl__law_mixed, rfl, l__law_mixed, c__law_mixed⟩⟩, PySem.W.mg_of X G a__law_mixed, k__law_mixed⟩, C8.Fun.binds (x := "_law_mixed") (qual := "_law_mixed") (st := s__law_mixed) (f := f__law_mixed) ⟨⟨oc__law_mixed, od__law_mixed, .none, kV__law_mixed, dc__law_mixed, pm__law_mixed, an__law_mixed, cd__law_mixed, ct__law_mixed, sl__law_mixed, rfl, l__law_mixed, c__law_mixed⟩⟩ rfl (fun _ _ _ _ _ _ us hl => match us, hl with | [_], _ => rfl)⟩,
    d__law_start := ⟨f__law_start, _, ⟨⟨⟨oc__law_start, od__law_start, .none, kV__law_start, dc__law_start, pm__law_start, an__law_start, cd__law_start, ct__law_start, sl__law_start, rfl, l__law_start, c__law_start⟩⟩, PySem.W.mg_of X G a__law_start, k__law_start⟩, C8.Fun.binds (x := "_law_start") (qual := "_law_start") (st := s__law_start) (f := f__law_start) ⟨⟨oc__law_start, od__law_start, .none, kV__law_start, dc__law_start, pm__law_start, an__law_start, cd__law_start, ct__law_start, sl__law_start, rfl, l__law_start, c__law_start⟩⟩ rfl (fun _ _ _ _ _ _ us hl => match us, hl with | [_], _ => rfl)⟩,
    d__law_seed := ⟨f__law_seed, _, ⟨⟨⟨oc__law_seed, od__law_seed, .none, kV__law_seed, dc__law_seed, pm__law_seed, an__law_seed, cd__law_seed, ct__law_seed, sl__law_seed, rfl, l__law_seed, c__law_seed⟩⟩, PySem.W.mg_of X G a__law_seed, k__law_seed⟩, C8.Fun.binds (x := "_law_seed") (qual := "_law_seed") (st := s__law_seed) (f := f__law_seed) ⟨⟨oc__law_seed, od__law_seed, .none, kV__law_seed, dc__law_seed, pm__law_seed, an__law_seed, cd__law_seed, ct__law_seed, sl__law_seed, rfl, l__law_seed, c__law_seed⟩⟩ rfl (fun _ _ _ _ _ _ us hl => match us, hl with | [_], _ => rfl)⟩,
    d__law_refused := ⟨f__law_refused, _, ⟨⟨⟨oc__law_refused, od__law_refused, .none, kV__law_refused, dc__law_refused, pm__law_refused, an__law_refused, cd__law_refused, ct__law_refused, sl__law_refused, rfl, l__law_refused, c__law_refused⟩⟩, PySem.W.mg_of X G a__law_refused, k__law_refused⟩, C8.Fun.binds (x := "_law_refused") (qual := "_law_refused") (st := s__law_refused) (f := f__law_refused) ⟨⟨oc__law_refused, od__law_refused, .none, kV__law_refused, dc__law_refused, pm__law_refused, an__law_refused, cd__law_refused, ct__law_refused, sl__law_refused, rfl, l__law_refused, c__law_refused⟩⟩ rfl (fun _ _ _ _ _ _ us hl => match us, hl with | [_, _], _ => rfl)⟩,
    d_law := ⟨f_law, _, ⟨⟨⟨oc_law, od_law, .none, kV_law, dc_law, pm_law, an_law, cd_law, ct_law, sl_law, rfl, l_law, c_law⟩⟩, PySem.W.mg_of X G a_law, k_law⟩, C8.Fun.binds (x := "law") (qual := "law") (st := s_law) (f := f_law) ⟨⟨oc_law, od_law, .none, kV_law, dc_law, pm_law, an_law, cd_law, ct_law, sl_law, rfl, l_law, c_law⟩⟩ rfl (fun _ _ _ _ _ _ us hl => match us, hl with | [_], _ => rfl), fun s v => .of_eq rfl⟩,
    c_WORDS := ⟨_, PySem.W.mg_of X G e_WORDS, _, rfl⟩,
    c_DOUBLES := ⟨_, PySem.W.mg_of X G e_DOUBLES, _, rfl⟩,
    c_FACTOR := ⟨_, PySem.W.mg_of X G e_FACTOR, _, rfl⟩,
    c_MIX_STEP := ⟨_, PySem.W.mg_of X G e_MIX_STEP, _, rfl⟩,
    c_ROUNDS := ⟨_, PySem.W.mg_of X G e_ROUNDS, rfl⟩,
    s_ROUNDS := fun _ => .inr ⟨_, _, _, g_ROUNDS, rfl, rfl, Nat.le_of_ble_eq_true rfl, (.cons ⟨_, rfl⟩ (.cons ⟨_, rfl⟩ (.cons ⟨_, rfl⟩ (.cons ⟨_, rfl⟩ .nil))))⟩,
    c_MOST_SEED_WORDS := ⟨_, PySem.W.mg_of X G e_MOST_SEED_WORDS, _, rfl⟩,
    c_MOST_CHARACTERS := ⟨_, PySem.W.mg_of X G e_MOST_CHARACTERS, _, rfl⟩,
    c_SEEDS := ⟨_, PySem.W.mg_of X G e_SEEDS, _, rfl⟩,
    c_MOST_STEPS := ⟨_, PySem.W.mg_of X G e_MOST_STEPS, _, rfl⟩,
    c_MODULUS := ⟨_, PySem.W.mg_of X G e_MODULUS, _, rfl⟩,
    c_LOW_WORD := ⟨_, PySem.W.mg_of X G e_LOW_WORD, _, rfl⟩,
    k_Linear := ⟨_, PySem.W.mg_of X G q_Linear, rfl⟩,
    cl_Linear := ⟨pg_Linear, hd_Linear, po_Linear, sa_Linear⟩,
    is_Linear := ⟨⟨pg_Linear, hd_Linear, po_Linear, sa_Linear⟩, ha_Linear, hn_Linear, ht_Linear, hm_Linear, Rd.kit_self K C_Linear⟩,
    n_Linear_s2_x := na_Linear_s2_x,
    k_Leaping := ⟨_, PySem.W.mg_of X G q_Leaping, rfl⟩,
    cl_Leaping := ⟨pg_Leaping, hd_Leaping, po_Leaping, sa_Leaping⟩,
    is_Leaping := ⟨⟨pg_Leaping, hd_Leaping, po_Leaping, sa_Leaping⟩, ha_Leaping, hn_Leaping, ht_Leaping, hm_Leaping, Rd.kit_self K C_Leaping⟩,
    n_Leaping_s2_leap_x := na_Leaping_s2_leap_x,
    n_Leaping_s2_every := na_Leaping_s2_every,
    o_Linear_Leaping := ob_Linear_Leaping,
    o_Leaping_Linear := ob_Leaping_Linear,
    k_DrawError := ⟨_, PySem.W.mg_of X G q_DrawError, rfl⟩,
    g_DrawError := PySem.W.mg_of X G q_DrawError,
    r_DrawError := ⟨rd_DrawError, rg_DrawError⟩,
    i_DrawError := fi_DrawError,
    k_BadSeed := ⟨_, PySem.W.mg_of X G q_BadSeed, rfl⟩,
    g_BadSeed := PySem.W.mg_of X G q_BadSeed,
    y_BadSeed := ⟨⟨"ValueError", "ValueError.__new__", _, PySem.F.excBase_ValueError, PySem.F.store_ValueError, in_BadSeed, ov_BadSeed⟩, hd_BadSeed, sa_BadSeed, ex_BadSeed, ty_BadSeed, kc_BadSeed⟩,
    f_BadSeed := ⟨ga_BadSeed, gg_BadSeed, ex_BadSeed, hd_BadSeed⟩,
    n_BadSeed_given := na_BadSeed,
    t_BadSeed_given := tk_BadSeed,
    m_BadSeed := PySem.W.exm_ref ex_BadSeed hd_BadSeed ty_BadSeed sb_BadSeed,
    k_BadNumber := ⟨_, PySem.W.mg_of X G q_BadNumber, rfl⟩,
    g_BadNumber := PySem.W.mg_of X G q_BadNumber,
    y_BadNumber := ⟨⟨"ValueError", "ValueError.__new__", _, PySem.F.excBase_ValueError, PySem.F.store_ValueError, in_BadNumber, ov_BadNumber⟩, hd_BadNumber, sa_BadNumber, ex_BadNumber, ty_BadNumber, kc_BadNumber⟩,
    f_BadNumber := ⟨ga_BadNumber, gg_BadNumber, ex_BadNumber, hd_BadNumber⟩,
    n_BadNumber_given := na_BadNumber,
    t_BadNumber_given := tk_BadNumber,
    m_BadNumber := PySem.W.exm_ref ex_BadNumber hd_BadNumber ty_BadNumber sb_BadNumber,
    b_all := PySem.W.mg_none_of X G z_all,
    b_bool := PySem.W.mg_none_of X G z_bool,
    b_enumerate := PySem.W.mg_none_of X G z_enumerate,
    b_int := PySem.W.mg_none_of X G z_int,
    b_isinstance := PySem.W.mg_none_of X G z_isinstance,
    b_len := PySem.W.mg_none_of X G z_len,
    b_max := PySem.W.mg_none_of X G z_max,
    b_min := PySem.W.mg_none_of X G z_min,
    b_ord := PySem.W.mg_none_of X G z_ord,
    b_range := PySem.W.mg_none_of X G z_range,
    b_repr := PySem.W.mg_none_of X G z_repr,
    b_str := PySem.W.mg_none_of X G z_str,
    b_tuple := PySem.W.mg_none_of X G z_tuple }
end Pf
open PySem PySem.W PyProof.Rows
set_option maxRecDepth 100000 in
set_option maxHeartbeats 0 in
theorem PySem.Challenge.cw_drawstate_k18_linear_seeds_holds : PySem.Challenge.rw_drawstate_k18_linear_seeds.Holds := by
  w_on; o_law; k_head; (case hw => w_witness2)
  k_fill
  refine Gx.walkG (l := PySem.Challenge.rw_drawstate_k18_linear_seeds) (k := 16) (x := "_law_script") rfl rfl ⟨rfl, by decide, by decide⟩ (fun w h Y => PySem.W.kIn_of Y) ?F
  case F =>
    intro w mg fa h Y KX G hmg
    refine' Pf.law_mk hmg (Pf.txt_mk KX G ?a_BadSeed___init__ ?ti_BadSeed___init__ ?l_BadSeed___init__ ?c_BadSeed___init__ ?a_BadNumber___init__ ?ti_BadNumber___init__ ?l_BadNumber___init__ ?c_BadNumber___init__ ?a_is_integer ?l_is_integer ?c_is_integer ?k_is_integer ?a_need_double ?l_need_double ?c_need_double ?k_need_double ?a_own_tempered ?l_own_tempered ?c_own_tempered ?k_own_tempered ?a_mixed ?l_mixed ?c_mixed ?k_mixed ?a_is_seed_text ?l_is_seed_text ?c_is_seed_text ?k_is_seed_text ?a_is_seed ?l_is_seed ?c_is_seed ?k_is_seed ?a_need_seed ?l_need_seed ?c_need_seed ?k_need_seed ?a_number_of ?l_number_of ?c_number_of ?k_number_of ?a_core_of ?l_core_of ?c_core_of ?k_core_of ?a_seed_words ?l_seed_words ?c_seed_words ?k_seed_words ?a_s2_is_number ?l_s2_is_number ?c_s2_is_number ?k_s2_is_number ?a_s2_need_start ?l_s2_need_start ?c_s2_need_start ?k_s2_need_start ?a_Linear___init__ ?i_Linear___init__ ?l_Linear___init__ ?c_Linear___init__ ?k_Linear___init__ ?mk_Linear___init__ ?kc_Linear___init__ ?a_Linear_state ?g_Linear_state ?t_Linear_state ?r_Linear_state ?l_Linear_state ?c_Linear_state ?k_Linear_state ?a_Linear_copy ?i_Linear_copy ?l_Linear_copy ?c_Linear_copy ?k_Linear_copy ?rd_Linear_seeded ?ga_Linear_seeded ?a_Linear_seeded ?r_Linear_seeded ?fi_Linear_seeded ?l_Linear_seeded ?c_Linear_seeded ?k_Linear_seeded ?a_s2_is_every ?l_s2_is_every ?c_s2_is_every ?k_s2_is_every ?a_s2_need_every ?l_s2_need_every ?c_s2_need_every ?k_s2_need_every ?a_Leaping___init__ ?i_Leaping___init__ ?l_Leaping___init__ ?c_Leaping___init__ ?k_Leaping___init__ ?mk_Leaping___init__ ?kc_Leaping___init__ ?a_Leaping_state ?g_Leaping_state ?t_Leaping_state ?r_Leaping_state ?l_Leaping_state ?c_Leaping_state ?k_Leaping_state ?rd_Leaping_seeded ?ga_Leaping_seeded ?a_Leaping_seeded ?r_Leaping_seeded ?fi_Leaping_seeded ?l_Leaping_seeded ?c_Leaping_seeded ?k_Leaping_seeded ?a__law_begun ?l__law_begun ?c__law_begun ?k__law_begun ?a__law_next ?l__law_next ?c__law_next ?k__law_next ?a__law_tempered ?l__law_tempered ?c__law_tempered ?k__law_tempered ?a__law_mixed ?l__law_mixed ?c__law_mixed ?k__law_mixed ?a__law_start ?l__law_start ?c__law_start ?k__law_start ?a__law_seed ?l__law_seed ?c__law_seed ?k__law_seed ?a__law_refused ?l__law_refused ?c__law_refused ?k__law_refused ?a_law ?l_law ?c_law ?k_law ?e_WORDS ?e_DOUBLES ?e_FACTOR ?e_MIX_STEP ?e_ROUNDS ?g_ROUNDS ?e_MOST_SEED_WORDS ?e_MOST_CHARACTERS ?e_SEEDS ?e_MOST_STEPS ?e_MODULUS ?e_LOW_WORD ?q_Linear ?pg_Linear ?hd_Linear ?po_Linear ?sa_Linear ?ha_Linear ?hn_Linear ?ht_Linear ?hm_Linear ?na_Linear_s2_x ?q_Leaping ?pg_Leaping ?hd_Leaping ?po_Leaping ?sa_Leaping ?ha_Leaping ?hn_Leaping ?ht_Leaping ?hm_Leaping ?na_Leaping_s2_leap_x ?na_Leaping_s2_every ?ob_Linear_Leaping ?ob_Leaping_Linear ?q_DrawError ?rd_DrawError ?rg_DrawError ?fi_DrawError ?q_BadSeed ?in_BadSeed ?ov_BadSeed ?hd_BadSeed ?sa_BadSeed ?ex_BadSeed ?ty_BadSeed ?kc_BadSeed ?ga_BadSeed ?gg_BadSeed ?na_BadSeed ?tk_BadSeed ?sb_BadSeed ?q_BadNumber ?in_BadNumber ?ov_BadNumber ?hd_BadNumber ?sa_BadNumber ?ex_BadNumber ?ty_BadNumber ?kc_BadNumber ?ga_BadNumber ?gg_BadNumber ?na_BadNumber ?tk_BadNumber ?sb_BadNumber ?z_all ?z_bool ?z_enumerate ?z_int ?z_isinstance ?z_len ?z_max ?z_min ?z_ord ?z_range ?z_repr ?z_str ?z_tuple)
    (case q_Linear => k_is)
    (case q_Leaping => k_is)
    (case q_DrawError => k_is)
    (case q_BadSeed => k_is)
    (case q_BadNumber => k_is)
    (case a_BadSeed___init__ => k_is)
    (case ti_BadSeed___init__ => k_is)
    (case l_BadSeed___init__ => k_is)
    (case c_BadSeed___init__ => k_is)
    (case a_BadNumber___init__ => k_is)
    (case ti_BadNumber___init__ => k_is)
    (case l_BadNumber___init__ => k_is)
    (case c_BadNumber___init__ => k_is)
    (case a_is_integer => k_is)
    (case l_is_integer => k_is)
    (case c_is_integer => k_is)
    (case k_is_integer => k_is)
    (case a_need_double => k_is)
    (case l_need_double => k_is)
    (case c_need_double => k_is)
    (case k_need_double => k_is)
    (case a_own_tempered => k_is)
    (case l_own_tempered => k_is)
    (case c_own_tempered => k_is)
    (case k_own_tempered => k_is)
    (case a_mixed => k_is)
    (case l_mixed => k_is)
    (case c_mixed => k_is)
    (case k_mixed => k_is)
    (case a_is_seed_text => k_is)
    (case l_is_seed_text => k_is)
    (case c_is_seed_text => k_is)
    (case k_is_seed_text => k_is)
    (case a_is_seed => k_is)
    (case l_is_seed => k_is)
    (case c_is_seed => k_is)
    (case k_is_seed => k_is)
    (case a_need_seed => k_is)
    (case l_need_seed => k_is)
    (case c_need_seed => k_is)
    (case k_need_seed => k_is)
    (case a_number_of => k_is)
    (case l_number_of => k_is)
    (case c_number_of => k_is)
    (case k_number_of => k_is)
    (case a_core_of => k_is)
    (case l_core_of => k_is)
    (case c_core_of => k_is)
    (case k_core_of => k_is)
    (case a_seed_words => k_is)
    (case l_seed_words => k_is)
    (case c_seed_words => k_is)
    (case k_seed_words => k_is)
    (case a_s2_is_number => k_is)
    (case l_s2_is_number => k_is)
    (case c_s2_is_number => k_is)
    (case k_s2_is_number => k_is)
    (case a_s2_need_start => k_is)
    (case l_s2_need_start => k_is)
    (case c_s2_need_start => k_is)
    (case k_s2_need_start => k_is)
    (case a_Linear___init__ => k_is)
    (case i_Linear___init__ => k_is)
    (case l_Linear___init__ => k_is)
    (case c_Linear___init__ => k_is)
    (case k_Linear___init__ => k_is)
    (case mk_Linear___init__ => k_is)
    (case kc_Linear___init__ => k_is)
    (case a_Linear_state => k_is)
    (case g_Linear_state => k_is)
    (case t_Linear_state => k_is)
    (case r_Linear_state => k_is)
    (case l_Linear_state => k_is)
    (case c_Linear_state => k_is)
    (case k_Linear_state => k_is)
    (case a_Linear_copy => k_is)
    (case i_Linear_copy => k_is)
    (case l_Linear_copy => k_is)
    (case c_Linear_copy => k_is)
    (case k_Linear_copy => k_is)
    (case rd_Linear_seeded => k_is)
    (case ga_Linear_seeded => k_is)
    (case a_Linear_seeded => k_is)
    (case r_Linear_seeded => k_is)
    (case fi_Linear_seeded => k_is)
    (case l_Linear_seeded => k_is)
    (case c_Linear_seeded => k_is)
    (case k_Linear_seeded => k_is)
    (case a_s2_is_every => k_is)
    (case l_s2_is_every => k_is)
    (case c_s2_is_every => k_is)
    (case k_s2_is_every => k_is)
    (case a_s2_need_every => k_is)
    (case l_s2_need_every => k_is)
    (case c_s2_need_every => k_is)
    (case k_s2_need_every => k_is)
    (case a_Leaping___init__ => k_is)
    (case i_Leaping___init__ => k_is)
    (case l_Leaping___init__ => k_is)
    (case c_Leaping___init__ => k_is)
    (case k_Leaping___init__ => k_is)
    (case mk_Leaping___init__ => k_is)
    (case kc_Leaping___init__ => k_is)
    (case a_Leaping_state => k_is)
    (case g_Leaping_state => k_is)
    (case t_Leaping_state => k_is)
    (case r_Leaping_state => k_is)
    (case l_Leaping_state => k_is)
    (case c_Leaping_state => k_is)
    (case k_Leaping_state => k_is)
    (case rd_Leaping_seeded => k_is)
    (case ga_Leaping_seeded => k_is)
    (case a_Leaping_seeded => k_is)
    (case r_Leaping_seeded => k_is)
    (case fi_Leaping_seeded => k_is)
    (case l_Leaping_seeded => k_is)
    (case c_Leaping_seeded => k_is)
    (case k_Leaping_seeded => k_is)
    (case a__law_begun => k_is)
    (case l__law_begun => k_is)
    (case c__law_begun => k_is)
    (case k__law_begun => k_is)
    (case a__law_next => k_is)
    (case l__law_next => k_is)
    (case c__law_next => k_is)
    (case k__law_next => k_is)
    (case a__law_tempered => k_is)
    (case l__law_tempered => k_is)
    (case c__law_tempered => k_is)
    (case k__law_tempered => k_is)
    (case a__law_mixed => k_is)
    (case l__law_mixed => k_is)
    (case c__law_mixed => k_is)
    (case k__law_mixed => k_is)
    (case a__law_start => k_is)
    (case l__law_start => k_is)
    (case c__law_start => k_is)
    (case k__law_start => k_is)
    (case a__law_seed => k_is)
    (case l__law_seed => k_is)
    (case c__law_seed => k_is)
    (case k__law_seed => k_is)
    (case a__law_refused => k_is)
    (case l__law_refused => k_is)
    (case c__law_refused => k_is)
    (case k__law_refused => k_is)
    (case a_law => k_is)
    (case l_law => k_is)
    (case c_law => k_is)
    (case k_law => k_is)
    (case e_WORDS => k_is)
    (case e_DOUBLES => k_is)
    (case e_FACTOR => k_is)
    (case e_MIX_STEP => k_is)
    (case e_ROUNDS => k_is)
    (case g_ROUNDS => k_is)
    (case e_MOST_SEED_WORDS => k_is)
    (case e_MOST_CHARACTERS => k_is)
    (case e_SEEDS => k_is)
    (case e_MOST_STEPS => k_is)
    (case e_MODULUS => k_is)
    (case e_LOW_WORD => k_is)
    (case pg_Linear => k_is)
    (case hd_Linear => k_is)
    (case po_Linear => k_is)
    (case sa_Linear => k_is)
    (case ha_Linear => k_is)
    (case hn_Linear => k_is)
    (case ht_Linear => k_is)
    (case hm_Linear => k_is)
    (case na_Linear_s2_x => k_is)
    (case pg_Leaping => k_is)
    (case hd_Leaping => k_is)
    (case po_Leaping => k_is)
    (case sa_Leaping => k_is)
    (case ha_Leaping => k_is)
    (case hn_Leaping => k_is)
    (case ht_Leaping => k_is)
    (case hm_Leaping => k_is)
    (case na_Leaping_s2_leap_x => k_is)
    (case na_Leaping_s2_every => k_is)
    (case ob_Linear_Leaping => kernel_rfl)
    (case ob_Leaping_Linear => kernel_rfl)
    (case rd_DrawError => k_is)
    (case rg_DrawError => k_is)
    (case fi_DrawError => k_is)
    (case in_BadSeed => kernel_rfl)
    (case ov_BadSeed => kernel_rfl)
    (case hd_BadSeed => k_is)
    (case sa_BadSeed => k_is)
    (case ex_BadSeed => k_is)
    (case ty_BadSeed => k_is)
    (case kc_BadSeed => k_is)
    (case ga_BadSeed => k_is)
    (case gg_BadSeed => k_is)
    (case na_BadSeed => k_is)
    (case tk_BadSeed => k_is)
    (case sb_BadSeed => k_is)
    (case in_BadNumber => kernel_rfl)
    (case ov_BadNumber => kernel_rfl)
    (case hd_BadNumber => k_is)
    (case sa_BadNumber => k_is)
    (case ex_BadNumber => k_is)
    (case ty_BadNumber => k_is)
    (case kc_BadNumber => k_is)
    (case ga_BadNumber => k_is)
    (case gg_BadNumber => k_is)
    (case na_BadNumber => k_is)
    (case tk_BadNumber => k_is)
    (case sb_BadNumber => k_is)
    (case z_all => k_is)
    (case z_bool => k_is)
    (case z_enumerate => k_is)
    (case z_int => k_is)
    (case z_isinstance => k_is)
    (case z_len => k_is)
    (case z_max => k_is)
    (case z_min => k_is)
    (case z_ord => k_is)
    (case z_range => k_is)
    (case z_repr => k_is)
    (case z_str => k_is)
    (case z_tuple => k_is)
#print axioms PySem.Challenge.cw_drawstate_k18_linear_seeds_holds
