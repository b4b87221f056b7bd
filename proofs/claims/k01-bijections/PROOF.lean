import PyProof.Rows.All
import Wide.All
import OpenK.AllK
import Wide.FinOn
import HandS.ForMost
import HandS.Exc
import HandS.Codes
import HandS.Wide
import HandS.WideBits
import HandS.IsInst
import HandS.Property
import HandS.Style
import HandS.Flow
import HandS.Small
import HandS.Lambda
import HandS.EndTab
import HandS.GenCall
import HandS.GenList
import KE.KOpsOwn
import HandS.ClsMeth
import HandS.TupAny
import HandS.ExcInit
import HandS.ExcField
import HandS.ExcIs
import HandS.Walk
import PySem.Challenge.RW_drawstate_k01_whole_bijections_of_words
set_option Elab.async false
set_option linter.all false
set_option maxRecDepth 100000
set_option maxHeartbeats 4000000
namespace Gx
open PySem PySem.Spec PyProof.Rows L2
/-! ### repr of data: where no repr is under way -/
mutual
theorem dpNoDict {K : PySem.W.Frag} {H : Hp} : ∀ (d : PyData) (x : V), Dp K H x d → d.hasDict = false
  | .none, _, _ => by simp only [PyData.hasDict]
  | .bool _, _, _ => by simp only [PyData.hasDict]
  | .int _, _, _ => by simp only [PyData.hasDict]
  | .str _, _, _ => by simp only [PyData.hasDict]
  | .list ds, _, h => by
    cases h with
    | lst _ ha =>
      simp only [PyData.hasDict]
      exact dpNoDictAll ds _ ha
  | .tuple ds, _, h => by
    cases h with
    | tup _ ha =>
      simp only [PyData.hasDict]
      exact dpNoDictAll ds _ ha
  | .dict _, _, h => nomatch h
theorem dpNoDictAll {K : PySem.W.Frag} {H : Hp} : ∀ (ds : List PyData) (xs : List V), DpAll K H xs ds → PyData.hasDictAll ds = false
  | [], _, _ => by simp only [PyData.hasDictAll]
  | d :: ds, _, h => by
    cases h with
    | cons h1 h2 =>
      simp only [PyData.hasDictAll, Bool.or_eq_false_iff]
      exact ⟨dpNoDict d _ h1, dpNoDictAll ds _ h2⟩
end
def rRepr (K : PySem.W.Frag) : List V → Hp → VK → Prop := fun xs H Q => ∃ (x : V) (d : PyData), xs = [x] ∧ Dp K H x d ∧ d.showable = true ∧ d.depth ≤ 60 ∧ d.shown.length ≤ sizeLine ∧ Q (.str d.shown) H
theorem call_repr {X : Cx} (hg : X.A.guards = some []) (hu : X.A.units + 64 < cLine) : CallR X (.builtin "repr") (rRepr X.K) := by
  intro pins s σ H xs us Q I r h
  obtain ⟨x, d, rfl, hd, hs, hdep, hsz, q⟩ := h
  obtain ⟨u, rfl, ru⟩ := vals1 r
  obtain ⟨as, rd⟩ := Dp.reads I d x u hd ru
  have nd := dpNoDict d x hd
  cases hd with
  | non =>
    cases ru
    exact PySem.P.repr_of_none ⟨.str _, H, I.tok _, ⟨_, rfl⟩, q⟩
  | bl b =>
    cases ru
    exact PySem.P.repr_of_bool ⟨.str _, H, I.tok _, ⟨_, rfl⟩, q⟩
  | int i =>
    obtain ⟨t, rfl⟩ := ru
    exact PySem.P.repr_of_int (of_decide_eq_true (by simpa [PyData.showable] using hs)) ⟨.str _, H, I.tok _, ⟨_, rfl⟩, q⟩
  | str z =>
    obtain ⟨t, rfl⟩ := ru
    exact PySem.P.repr_of_str (hsz := hsz) ⟨.str _, H, I.tok _, ⟨_, rfl⟩, q⟩
  | lst h1 h2 =>
    cases ru
    exact repr_of_reads' rd hs (PyData.noDict_hsm nd) hg (by omega) (fun _ _ e => e) (fun h' t tk hk => ⟨.str _, H, I.kept hk, ⟨_, rfl⟩, q⟩) hsz
  | tup h1 h2 =>
    cases ru
    exact repr_of_reads' rd hs (PyData.noDict_hsm nd) hg (by omega) (fun _ _ e => e) (fun h' t tk hk => ⟨.str _, H, I.kept hk, ⟨_, rfl⟩, q⟩) hsz
/-! ### a def whose promise is kept where no repr is under way -/
structure FnG (P : Program) (w : World) (K : PySem.W.Frag) (mg : Str → Option Value) (base : Heap) (k : Nat) (f : Addr) (fd : FuncData) (ps : List Str) (sp : Sp) : Prop where
  len : ∀ vs H Q E, sp vs H Q E → vs.length = ps.length
  run : ∀ (A : Around) (outer : List Env) (s : Shared) (H : Hp) (args : Args) (us : List Value) (vs : List V) (Q : VK), A.guards = some [] → Room k A → Env0 P w K mg base A outer s H →
    BindsTo s fd args (ps.zip us) → Vals vs us → sp vs H Q C8.E0 → codeAny (model P w) A (.call (.ref f) args) (CR C8.CX0 outer P w H s Q C8.E0) s
structure CalG (P : Program) (w : World) (K : PySem.W.Frag) (mg : Str → Option Value) (base : Heap) (k : Nat) (x : Str) (sp : Sp) : Prop where
  ex : ∃ (f : Addr) (fd : FuncData) (ps : List Str), FnG P w K mg base k f fd ps sp ∧ mg x = some (.ref f) ∧ PySem.W.keepIn K (.ref f) = true ∧ Binds K fd ps []
section
variable {P : Program} {w : World} {K : PySem.W.Frag} {mg : Str → Option Value} {base : Heap}
theorem fnG_of {x qual : Str} {st : Stmt} {f : Addr} {fd : FuncData} {N ps : List Str} {k : Nat} {sp : Sp} (F : C8.Fun K x qual st f fd) (S : FnScope N ps (C8.fnScope st)) (len : ∀ vs H Q E, sp vs H Q E → vs.length = ps.length)
    (hbody : ∀ (cdv : Value) (A : Around) (outer : List Env) (s : Shared) (H : Hp) (vs : List V) (Q : VK), A.guards = some [] → Room k (A.deeper (envOfC qual (C8.fnScope st) s.heap.objs.size f cdv)) → sp vs H Q C8.E0 →
      ∃ t, PSs (cxOf C8.CX0 P w K mg base N qual (C8.fnScope st) f cdv A outer s H C8.E0).nox (C8.fnBody st) t ∧ t { nx := fun _ H' => Q .non H', rt := Q } (start N vs) H) : FnG P w K mg base (k + 1) f fd ps sp := by
  obtain ⟨oc, od, dV, kV, doc, pm, an, cdv, ct, osl, rfl, lk, hcd⟩ := F.ex
  refine ⟨len, fun A outer s H args us vs Q hg hr e0 hb r hsp => ?_⟩
  refine LamX.run_ofS (CX := C8.CX0) (E := C8.E0) lk hcd S hr e0 hb r (len _ _ _ _ hsp) fun hr' => ?_
  obtain ⟨t, h, q⟩ := hbody cdv A outer s H vs Q hg hr' hsp
  exact ⟨t, h.nox, q⟩
theorem calG {x : Str} {st : Stmt} {f : Addr} {fd : FuncData} {N ps : List Str} {k : Nat} {sp : Sp} (F : C8.Def K mg x st f fd) (b : Binds K fd ps []) (S : FnScope N ps (C8.fnScope st)) (len : ∀ vs H Q E, sp vs H Q E → vs.length = ps.length)
    (hbody : ∀ (cdv : Value) (A : Around) (outer : List Env) (s : Shared) (H : Hp) (vs : List V) (Q : VK), A.guards = some [] → Room k (A.deeper (envOfC x (C8.fnScope st) s.heap.objs.size f cdv)) → sp vs H Q C8.E0 →
      ∃ t, PSs (cxOf C8.CX0 P w K mg base N x (C8.fnScope st) f cdv A outer s H C8.E0).nox (C8.fnBody st) t ∧ t { nx := fun _ H' => Q .non H', rt := Q } (start N vs) H) : CalG P w K mg base (k + 1) x sp :=
  ⟨f, fd, ps, fnG_of F.fn S len hbody, F.mgf, F.kp, b⟩
end
section
variable {X : Cx} {k j : Nat} {x : Str} {sp : Sp} {p pos : Pos} {e : Expr} {es : List Expr} {t : TA}
theorem runG {f : Addr} {fd : FuncData} {ps : List Str} {pins : List (Addr × Obj)} {σ : L2.St} {H : Hp} {s : Shared} {Q : VK} {us : List Value} {vs : List V} (F : FnG X.prog X.w X.K X.mg X.base k f fd ps sp) (gd : X.A.guards = some []) (hr : Room k X.A) (hb : Binds X.K fd ps [])
    (I : Inv X pins σ H s) (r : Vals vs us) (h : sp vs H Q C8.E0) : wpAny (model X.prog X.w) X.A (call (.ref f) us) (EP X pins σ Q) X.xe s := by
  have hl : us.length = ps.length := r.length.symm.trans (F.len _ _ _ _ h)
  have hbt : BindsTo s fd ⟨us, []⟩ (ps.zip us) := by
    have z := hb s us I.kIn (by rw [List.append_nil]; exact hl)
    rw [List.append_nil] at z
    exact z
  have go := F.run X.A X.stack s H ⟨us, []⟩ us vs Q gd hr I.env0 hbt r h
  refine wpAny_call (codeAny_mono go fun res s2 hres => ?_)
  match res, hres with
  | .ok (.ret u), hq => exact I.after hq
  | .ok .next, hq => exact hq.elim
  | .ok .brk, hq => exact hq.elim
  | .ok .cont, hq => exact hq.elim
  | .error er, hq => exact (show False from hq).elim
theorem pe_g (c : CalG X.prog X.w X.K X.mg X.base k x sp) (gd : X.A.guards = some []) (hr : Room j X.A) (hk : k ≤ j) (hgl : Gl X x) (ha : PA X (e :: es) t)
    (hdb : (x == ("__debug__" : Str)) = false := by decide) (hst : starEach (e :: es) X.env = (false, eval e X.env) :: starEach es X.env := by rfl)
    (hpl : (backTo pos (starEach es X.env)).any (·.1) = false := by rfl) : PE X (.Call (.Name x p) (e :: es) [] pos) (tCall sp [] C8.E0 t) := by
  obtain ⟨f, fd, ps, F, hm, kp, b⟩ := c.ex
  constructor
  intro pins s σ H Q I h
  refine wpAny_Call_Name_kw (ld_glob I hgl hm ?_ hdb)
  refine PySem.W.callWith_K (h₀ := X.base) I.ok.mod.kin kp ?_ hst hpl
  refine thn (ha.run pos pins s σ H _ I h) fun us s1 got => ?_
  obtain ⟨vs, H1, I1, r, q⟩ := got
  refine ⟨I1.kIn, runG F gd (hr.mono hk) b I1 r ?_⟩
  have z : sp (vs ++ []) H1 Q C8.E0 := q
  rw [List.append_nil] at z
  exact z
end
end Gx

set_option Elab.async false
set_option linter.all false
set_option maxRecDepth 100000
set_option maxHeartbeats 4000000
namespace Gx
open PySem PySem.Spec PyProof.Rows L2
/-! ### a property by its getter's promise -/
structure PrpC (P : Program) (w : World) (K : PySem.W.Frag) (mg : Str → Option Value) (base : Heap) (k : Nat) (C : Addr) (nm : Str) (sp : Sp) : Prop where
  ex : ∃ (p f : Addr) (fd : FuncData) (ps : List Str), Cls K C ∧ PropOf K C nm p f ∧ FnOk P w K mg base C8.CX0 k f fd ps sp ∧ Binds K fd ps []
theorem prp0 {P : Program} {w : World} {K : PySem.W.Frag} {mg : Str → Option Value} {base : Heap} {nm qual : Str} {C p : Addr} {st : Stmt} {f : Addr} {fd : FuncData} {N ps : List Str} {k : Nat} {sp : Sp} (c : Cls K C) (pr : PropOf K C nm p f) (F : C8.Fun K nm qual st f fd) (b : Binds K fd ps [])
    (S : FnScope N ps (C8.fnScope st)) (len : ∀ vs H Q E, sp vs H Q E → vs.length = ps.length)
    (hbody : ∀ (cdv : Value) (A : Around) (outer : List Env) (s : Shared) (H : Hp) (vs : List V) (Q : VK) (E : XK), Room k (A.deeper (envOfC qual (C8.fnScope st) s.heap.objs.size f cdv)) → sp vs H Q E →
      ∃ t, PSs (cxOf C8.CX0 P w K mg base N qual (C8.fnScope st) f cdv A outer s H E).nox (C8.fnBody st) t ∧ t { nx := fun _ H' => Q .non H', rt := Q } (start N vs) H) : PrpC P w K mg base (k + 1) C nm sp :=
  ⟨p, f, fd, ps, c, pr, C8.fn0 F S len hbody, b⟩
theorem pe_propC {X : Cx} {k j : Nat} {C : Addr} {nm : Str} {sp : Sp} {e : Expr} {ta : TE} {pos : Pos} (he : PE X e ta) (c : PrpC X.prog X.w X.K X.mg X.base k C nm sp) (hr : Room j X.A) (hk : k + 1 ≤ j) (hab : attributeBase e nm X.env (eval e X.env) = eval e X.env) :
    PE X (.Attribute e nm pos) (tProp C sp [] C8.E0 ta) := by
  obtain ⟨p, f, fd, ps, cl, pr, F, b⟩ := c.ex
  exact pe_prop he cl pr F (hr.mono hk) b .nil C8.pass0 hab
/-! ### the end of a law: its def is called where no repr is under way; cs: the code objects that make lambdas, with their tables -/
section
variable {P : Program} {w : World} {K : PySem.W.Frag} {mg mb : Str → Option Value} {k : Nat} {fa a : Addr} {cs : List (Addr × Addr)} {fd : FuncData} {x : Str} {sp : Sp} {t : Shared} {vs : List Value} {ns : List Int}
/-- the abstract heap at the law's call: the script and the tables -/
structure Hp0 (P : Program) (w : World) (K : PySem.W.Frag) (cs : List (Addr × Addr)) (a : Addr) (ns : List Int) (h : Heap) (H : Hp) : Prop where
  tab : ∀ p ∈ cs, H p.2 = some (.tbl #[])
  only : ∀ b, H b = none ∨ b ∈ cs.map (·.2) ∨ ∃ o xs, H b = some (.frz o (.lst xs))
  seq : SqL K H a (ns.map V.int)
  ok : HOk P w H h
  dom : ∀ b, H b ≠ none → b = a ∨ b ∈ cs.map (·.2)
  scr : H a ≠ none → K.lookup a = none
theorem hp0 (KX : K.In t.heap) (hT : ∀ p ∈ cs, t.heap.get? p.2 = some { cls := .none, data := .fields #[] }) (ha : t.heap.get? a = some { cls := .type "list", data := .seq vs.toArray }) (hi : IntsAre vs ns) (hl : ns.length ≤ sizeLine) :
    ∃ H, Hp0 P w K cs a ns t.heap H := by
  have rv := vals_ints hi
  have isT : ∀ b ∈ cs.map (·.2), t.heap.get? b = some { cls := .none, data := .fields #[] } := fun b hb => by
    obtain ⟨p, hp, rfl⟩ := List.mem_map.mp hb
    exact hT p hp
  have aT : a ∉ cs.map (·.2) := fun z => by
    have q := isT a z
    rw [ha] at q
    cases congrArg Obj.data (Option.some.inj q)
  have mem : ∀ p ∈ cs, p.2 ∈ cs.map (·.2) := fun p hp => List.mem_map.mpr ⟨p, hp, rfl⟩
  cases hk : K.lookup a with
  | some o =>
    have e := KX a o hk
    rw [ha] at e
    cases e
    refine ⟨fun b => if b ∈ cs.map (·.2) then some (.tbl #[]) else none, fun p hp => if_pos (mem p hp), fun b => ?_,
      .inr ⟨_, vs.toArray, _, hk, rfl, rfl, rfl, by rw [List.size_toArray, hi.length]; exact hl, by simpa using rv⟩, fun b u z => ?_, fun b z => ?_, fun z => absurd (if_neg aT) z⟩
    · by_cases hb : b ∈ cs.map (·.2)
      · exact .inr (.inl hb)
      · exact .inl (if_neg hb)
    · by_cases hb : b ∈ cs.map (·.2)
      · cases (if_pos hb).symm.trans z
        exact isT b hb
      · cases (if_neg hb).symm.trans z
    · by_cases hb : b ∈ cs.map (·.2)
      · exact .inr hb
      · exact absurd (if_neg hb) z
  | none =>
    refine ⟨fun b => if b = a then some (.frz { cls := .type "list", data := .seq vs.toArray } (.lst (ns.map V.int))) else if b ∈ cs.map (·.2) then some (.tbl #[]) else none,
      fun p hp => ?_, fun b => ?_, .inl (.inr ⟨{ cls := .type "list", data := .seq vs.toArray }, if_pos rfl⟩), fun b u z => ?_, fun b z => ?_, fun _ => hk⟩
    · have np : ¬ p.2 = a := fun z => aT (z ▸ mem p hp)
      exact (if_neg np).trans (if_pos (mem p hp))
    · by_cases hb : b = a
      · exact .inr (.inr ⟨_, _, if_pos hb⟩)
      · by_cases hc : b ∈ cs.map (·.2)
        · exact .inr (.inl hc)
        · exact .inl ((if_neg hb).trans (if_neg hc))
    · by_cases hb : b = a
      · cases (if_pos hb).symm.trans z
        subst hb
        exact ⟨ha, by rw [List.length_map]; exact hl, vs, _, rv, ha⟩
      · have z1 := (if_neg hb).symm.trans z
        by_cases hc : b ∈ cs.map (·.2)
        · cases (if_pos hc).symm.trans z1
          exact isT b hc
        · cases (if_neg hc).symm.trans z1
    · by_cases hb : b = a
      · exact .inl hb
      · by_cases hc : b ∈ cs.map (·.2)
        · exact .inr hc
        · exact absurd ((if_neg hb).trans (if_neg hc)) z
theorem callG (KX : K.In t.heap) (hns : t.heap.Ns mainGlobals mg) (hb : t.heap.Ns builtinsNs mb) (hbb : ∀ x : Str, x ≠ "__name__" → mb x = bootBuiltins x) (hlim : t.heap.NoLimit) (hg : t.gens = #[])
    (hT : ∀ p ∈ cs, t.heap.get? p.2 = some { cls := .none, data := .fields #[] }) (nT : ∀ p ∈ cs, K.lookup p.2 = none) (C : ∀ p ∈ cs, PySem.W.CodeHd t.heap p.1 p.2)
    (hbm : ∃ (bm : Addr) (ob : Obj), mg "__builtins__" = some (.ref bm) ∧ bm ≠ builtinsNs ∧ t.heap.get? bm = some ob ∧ ob.cls = .type "module" ∧ ob.dict = some builtinsNs ∧ ob.data = .plain)
    (ha : t.heap.get? a = some { cls := .type "list", data := .seq vs.toArray }) (hi : IntsAre vs ns) (hl : ns.length ≤ sizeLine) (hr : Room k callerA)
    (F : ∀ base : Heap, K.In base → base.Ns mainGlobals mg → (∀ p ∈ cs, LamX.TabB base mg p.1 p.2) → FnG P w K mg base k fa fd [x] sp) (hbind : ∀ (s : Shared) (u : Value), BindsTo s fd ⟨[u], []⟩ [(x, u)])
    (hsp : ∀ H : Hp, (∀ p ∈ cs, H p.2 = some (.tbl #[])) → SqL K H a (ns.map V.int) → sp [.ref a] H (fun v _ => v = .bl true) C8.E0) :
    codeAny (model P w) callerA (.call (.ref fa) ⟨[.ref a], []⟩) (fun r s' => r = .ok (.ret (.bool true)) ∧ OldK t.heap s'.heap ∧ s'.os = t.os ∧ AllBare s'.gens) t := by
  obtain ⟨H, Z⟩ := hp0 (P := P) (w := w) KX hT ha hi hl
  have see : ∀ {b : Addr} {o : Obj}, t.heap.get? b = some o → H b = none → (hidT t.heap H).get? b = some o := fun e n => hidT_get e n
  -- what is neither a list nor a table is not tracked
  have off : ∀ {b : Addr} {o : Obj}, t.heap.get? b = some o → (∀ ws n, o.data ≠ .seq ws n) → o.data ≠ .fields #[] → H b = none := fun {b o} e h1 h2 => by
    cases q : H b with
    | none => rfl
    | some u =>
      rcases Z.dom b (by rw [q]; simp) with e1 | e1
      · rw [e1, ha] at e
        cases e
        exact (h1 _ _ rfl).elim
      · obtain ⟨p, hp, rfl⟩ := List.mem_map.mp e1
        rw [hT p hp] at e
        cases e
        exact (h2 rfl).elim
  have offD : ∀ {b : Addr} {o : Obj} {es : Array DictEntry} {ep : Nat}, t.heap.get? b = some o → o.data = .dict es ep → H b = none := fun {b o es ep} e d =>
    off e (fun ws n z => by rw [d] at z; cases z) (fun z => by rw [d] at z; cases z)
  have nsOk : ∀ {b : Addr} {m : Str → Option Value}, t.heap.Ns b m → (hidT t.heap H).Ns b m := fun {b m} hh => by
    obtain ⟨o, es, ep, e, d, r⟩ := hh
    exact ⟨o, es, ep, see e (offD e d), d, r⟩
  have kOk : K.In (hidT t.heap H) := fun b o e => by
    refine see (KX b o e) ?_
    cases q : H b with
    | none => rfl
    | some u =>
      rcases Z.dom b (by rw [q]; simp) with e1 | e1
      · subst e1
        rw [Z.scr (by rw [q]; simp)] at e
        cases e
      · obtain ⟨p, hp, rfl⟩ := List.mem_map.mp e1
        rw [nT p hp] at e
        cases e
  have lim : (hidT t.heap H).NoLimit := by
    obtain ⟨mc, h1, h2⟩ := hlim
    exact ⟨mc, nsOk h1, h2⟩
  have hM : L2.Mod K mg (hidT t.heap H) := ⟨kOk, nsOk hns, ⟨mb, nsOk hb, hbb⟩, lim⟩
  have TB : ∀ p ∈ cs, LamX.TabB (hidT t.heap H) mg p.1 p.2 := fun p hp => by
    have hp2 := hT p hp
    refine ⟨?_, ?_, fun z => ?_⟩
    · obtain ⟨o, us, file, tf, flags, tg, inF, text, tt, e1, r1, r2, r3, r4, r5, r6, r7, r8, hne⟩ := C p hp
      refine ⟨o, us, file, tf, flags, tg, inF, text, tt, see e1 (off e1 (fun ws n z => ?_) fun z => ?_), r1, r2, r3, r4, r5, r6, r7, r8, hne⟩
      · rw [r2] at z; cases z
      · rw [r2] at z; cases z; simp at r3
    · obtain ⟨bm, ob, b1, b2, b3, b4, b5, b6⟩ := hbm
      refine ⟨bm, ob, b1, b2, fun q => ?_, fun q => ?_, see b3 (off b3 (fun ws n z => ?_) fun z => ?_), b4, b5, b6⟩
      · obtain ⟨o, es, ep, e, hd, _⟩ := hns
        rw [q, e] at b3; cases b3; rw [hd] at b6; cases b6
      · rw [q, hp2] at b3; cases b3; cases b6
      · rw [b6] at z; cases z
      · rw [b6] at z; cases z
    · obtain ⟨o, es, ep, e, hd, _⟩ := hns
      rw [z, hp2] at e; cases e; cases hd
  have nil : ∀ b : Addr, b ∉ ([] : List Addr) := fun b z => by simp at z
  have e0 : Env0 P w K mg (hidT t.heap H) callerA [] t H := ⟨rfl, hM, fun b o e => of_hidT e, Nat.le_of_eq (hidT_size _ _), trivial, fun b z => absurd z (nil b), Z.ok, .of_eq hg⟩
  have go := (F _ kOk (nsOk hns) TB).run callerA [] t H ⟨[.ref a], []⟩ [.ref a] [.ref a] _ rfl hr e0 (hbind t (.ref a)) (.cons rfl .nil) (hsp H Z.tab Z.seq)
  refine codeAny_mono go fun res s2 hres => ?_
  match res, hres with
  | .ok .next, h => exact h.elim
  | .ok .brk, h => exact h.elim
  | .ok .cont, h => exact h.elim
  | .error e, h => exact (show False from h).elim
  | .ok (.ret u), h =>
    obtain ⟨v, H', os, bare, un, ok2, r', q⟩ := h
    obtain rfl : v = .bl true := q
    obtain rfl : u = Value.bool true := r'
    have same : ∀ b o, b ∉ cs.map (·.2) → t.heap.get? b = some o → s2.heap.get? b = some o := fun b o nb e => by
      rcases Z.only b with z | z | ⟨ob, xs, z⟩
      · exact un.keep b o e z (nil b) (nil b)
      · exact absurd z nb
      · obtain ⟨e1, _⟩ := Z.ok b _ z
        obtain ⟨e2, _⟩ := ok2 b _ (un.frzs b ob _ z)
        rw [e] at e1
        cases e1
        exact e2
    have grown : ∀ p ∈ cs, ∃ more : Array Value, s2.heap.get? p.2 = some { cls := .none, data := .fields more } := fun p hp => by
      obtain ⟨more, z⟩ := un.tbls p.2 #[] (Z.tab p hp)
      exact ⟨_, ok2 p.2 _ z⟩
    refine ⟨rfl, ⟨fun b o e => ?_, fun b o e => ?_⟩, os, bare⟩
    · by_cases hb : b ∈ cs.map (·.2)
      · obtain ⟨p, hp, rfl⟩ := List.mem_map.mp hb
        obtain ⟨more, hm⟩ := grown p hp
        rw [hT p hp] at e
        cases e
        exact .inr (.inl ⟨((C p hp).tab (hT p hp)).isCodeTable, rfl, #[], more, rfl, by rw [Array.empty_append]; exact hm⟩)
      · exact .inl (same b o hb e)
    · by_cases hb : b ∈ cs.map (·.2)
      · obtain ⟨p, hp, rfl⟩ := List.mem_map.mp hb
        obtain ⟨more, hm⟩ := grown p hp
        exact ⟨_, hm⟩
      · exact ⟨o, same b o hb e⟩
end
/-- what is known of the law's promise -/
def LawG (l : PySem.W.OpenLaw) (w : World) (K : PySem.W.Frag) (k : Nat) (x : Str) (mg : Str → Option Value) (fa : Addr) (h : Heap) : Prop :=
  ∃ (fd : FuncData) (cs : List (Addr × Addr)) (sp : Sp), (∀ p ∈ cs, h.get? p.2 = some { cls := .none, data := .fields #[] }) ∧ (∀ p ∈ cs, K.lookup p.2 = none) ∧ (∀ p ∈ cs, PySem.W.CodeHd h p.1 p.2) ∧
    (∀ (s : Shared) (u : Value), BindsTo s fd ⟨[u], []⟩ [(x, u)]) ∧
    (∀ (H : Hp) (a : Addr) (ns : List Int), ns.length ≤ 63 → (∀ z ∈ ns, Builtin.Int.intBits z ≤ 1048576) → (∀ p ∈ cs, H p.2 = some (.tbl #[])) → SqL K H a (ns.map V.int) → sp [.ref a] H (fun v _ => v = .bl true) C8.E0) ∧
    ∀ base : Heap, K.In base → base.Ns mainGlobals mg → (∀ p ∈ cs, LamX.TabB base mg p.1 p.2) → FnG l.prog w K mg base k fa fd [x] sp
theorem walkG {l : PySem.W.OpenLaw} {k : Nat} {q : Program} {loose : List Str} {XP : (Str → Option Value) → Heap → Prop} {YP : World → Heap → Prop} {d : DefRec} {K : Params → PySem.W.Frag} {x : Str}
    (hn : l.most = some 63) (hdf : d.params.defaults = []) (hr : Room k callerA) (hY : ∀ (w : World) (h : Heap), YP w h → (K w.params).In h)
    (F : ∀ (w : World) (mg : Str → Option Value) (fa : Addr) (h : Heap), YP w h → (K w.params).In h → h.Ns mainGlobals mg → mg d.name = some (.ref fa) → LawG l w (K w.params) k x mg fa h) :
    PySem.W.WalkO q loose XP YP l.row.toRowW d [] (fun f vs => PySem.call f vs) := by
  refine Att.attach_callB hn hdf ?_
  intro w s0 t mg mb fa o pm cd doc a vs ns G Y ho hd hcd hmg hobj hints hlen hbits hg
  have KX := hY w _ Y
  obtain ⟨fd, cs, sp, hT, nT, C, hb, hsp, hF⟩ := F w mg fa _ Y KX G.T.g hmg
  exact callG KX G.T.g G.T.b G.T.builtins G.T.nolimit hg hT nT C G.T.bmain hobj hints (Nat.le_trans hlen (by decide)) hr hF hb fun H hH hS => hsp H a ns hlen hbits hH hS
end Gx

set_option Elab.async false
set_option linter.all false
set_option maxRecDepth 100000
set_option maxHeartbeats 4000000
namespace Rd
open PySem PySem.Spec PyProof.Rows L2
/-! ### readings, step by step: each row takes one reading apart -/
section
variable {D : Ends} {σ : L2.St} {H H1 : Hp} {Q : VK} {QB : Bool → Hp → Prop} {QA : List V → Hp → Prop} {t1 t2 : TS} {te ta tb tc : TE} {t u : TT} {i j : Nat} {v x y : V} {m n : Int} {r r2 : R2} {K : PySem.W.Frag} {A B : Prop} {b : Bool} {p : Prop}
theorem seq (h : t1 { D with nx := t2 D } σ H) : tSeq t1 t2 D σ H := h
theorem next (h : D.nx σ H) : tNext D σ H := h
theorem asg {g : TG} (h : te σ H fun x H1 => g x σ H1 D.nx) : tAsg te g D σ H := h
theorem nm {Qs : L2.St → Hp → Prop} (h : Qs (σ.set i (some v)) H) : gName i v σ H Qs := h
theorem ret (h : te σ H D.rt) : tRet te D σ H := h
theorem drop (h : te σ H fun _ H1 => D.nx σ H1) : tDrop te D σ H := h
theorem ifs (h : t σ H fun b H1 => if b = true then t1 D σ H1 else t2 D σ H1) : tIfS t t1 t2 D σ H := h
theorem par {ta : TA} (h : ta σ H fun vs H1 => ∃ v w, vs = [v, w] ∧ D.nx ((σ.set i (some v)).set j (some w)) H1) : tPar i j ta D σ H := h
theorem par3 {l : Nat} {ta : TA} (h : ta σ H fun vs H1 => ∃ u v w, vs = [u, v, w] ∧ D.nx (((σ.set i (some u)).set j (some v)).set l (some w)) H1) : tPar3 i j l ta D σ H := h
theorem var (h : σ[i]? = some (some v)) (k : Q v H) : tVar i σ H Q := ⟨v, h, k⟩
theorem cst (k : Q v H) : tC v σ H Q := k
theorem op (h : ta σ H fun x H1 => tb σ H1 fun y H2 => r x y H2 Q) : tOp r ta tb σ H Q := h
theorem un {g : V → Hp → VK → Prop} (h : ta σ H fun x H1 => g x H1 Q) : tUn g ta σ H Q := h
theorem ung {g : Int → V} (h : Q (g m) H) : rU g (.int m) H Q := ⟨m, rfl, h⟩
theorem i0 {g : Int → Int → V} (h : Q (g m n) H) : rI0 g (.int m) (.int n) H Q := ⟨m, n, rfl, rfl, h⟩
theorem iC {C : Int → Int → Prop} {g : Int → Int → V} (hc : C m n) (h : Q (g m n) H) : rI C g (.int m) (.int n) H Q := ⟨m, n, rfl, rfl, hc, h⟩
theorem eqI (h : Q (.bl (decide (m = n))) H) : rEq (.int m) (.int n) H Q := ⟨rfl, by
  have e : decide (V.int m = V.int n) = decide (m = n) := by
    by_cases z : m = n
    · subst z; simp
    · rw [decide_eq_false z, decide_eq_false (fun q => z (V.int.inj q))]
  rw [e]; exact h⟩
theorem neI (h : Q (.bl (!decide (m = n))) H) : rNe (.int m) (.int n) H Q := ⟨rfl, by
  have e : decide (V.int m = V.int n) = decide (m = n) := by
    by_cases z : m = n
    · subst z; simp
    · rw [decide_eq_false z, decide_eq_false (fun q => z (V.int.inj q))]
  rw [e]; exact h⟩
theorem eqS {a c : Str} (h : Q (.bl (decide (a = c))) H) : rEq (.str a) (.str c) H Q := ⟨rfl, by
  have e : decide (V.str a = V.str c) = decide (a = c) := by
    by_cases z : a = c
    · subst z; simp
    · rw [decide_eq_false z, decide_eq_false (fun q => z (V.str.inj q))]
  rw [e]; exact h⟩
theorem neS {a c : Str} (h : Q (.bl (!decide (a = c))) H) : rNe (.str a) (.str c) H Q := ⟨rfl, by
  have e : decide (V.str a = V.str c) = decide (a = c) := by
    by_cases z : a = c
    · subst z; simp
    · rw [decide_eq_false z, decide_eq_false (fun q => z (V.str.inj q))]
  rw [e]; exact h⟩
theorem test (h : te σ H fun x H' => ∃ k, x = .bl k ∧ QB k H') : tTest te σ H QB := h
theorem tstB (h : te σ H fun x H' => ∃ k, x = .bl k ∧ QB k H') : tB te σ H QB := h
theorem isB {QC : Bool → Prop} (h : QC b) : ∃ k, V.bl b = .bl k ∧ QC k := ⟨b, rfl, h⟩
theorem nxp {f g c d} (h : f σ H) : (Ends.mk f g c d).nx σ H := h
theorem rtp {f g c d} (h : g v H) : (Ends.mk f g c d).rt v H := h
theorem bkp {f g c d} (h : c σ H) : (Ends.mk f g c d).bk σ H := h
theorem ctp {f g c d} (h : d σ H) : (Ends.mk f g c d).ct σ H := h
theorem not (h : t σ H fun c H1 => QB (!c) H1) : tNot t σ H QB := h
theorem andT (h : t σ H fun c H1 => if c = true then u σ H1 QB else QB false H1) : tAnd t u σ H QB := h
theorem orT (h : t σ H fun c H1 => if c = true then QB true H1 else u σ H1 QB) : tOr t u σ H QB := h
theorem andV (h : ta σ H fun x H1 => ∃ c, x = .bl c ∧ if c = true then tb σ H1 Q else Q (.bl false) H1) : tAndV ta tb σ H Q := h
theorem orV (h : ta σ H fun x H1 => ∃ c, x = .bl c ∧ if c = true then Q (.bl true) H1 else tb σ H1 Q) : tOrV ta tb σ H Q := h
theorem notV (h : ta σ H fun x H1 => ∃ c, x = .bl c ∧ Q (.bl (!c)) H1) : tNotV ta σ H Q := h
theorem ifE (h : t σ H fun c H1 => if c = true then ta σ H1 Q else tb σ H1 Q) : tIf t ta tb σ H Q := h
theorem chain (h : ta σ H fun x H1 => tb σ H1 fun y H2 => r x y H2 fun z H3 => ∃ k, z = .bl k ∧ (if k = true then tc σ H3 fun w' H4 => r2 y w' H4 Q else Q (.bl false) H3)) : tChain r r2 ta tb tc σ H Q := h
theorem nil (h : QA [] H) : tNil σ H QA := h
theorem cons {tr : TA} (h : ta σ H fun x H1 => tr σ H1 fun xs H2 => QA (x :: xs) H2) : tCons ta tr σ H QA := h
theorem call {sp : Sp} {E : XK} {tr : TA} (h : tr σ H fun vs H1 => sp (vs ++ []) H1 Q E) : tCall sp [] E tr σ H Q := h
theorem cb {g : List V → Hp → VK → Prop} {tr : TA} (h : tr σ H fun vs H1 => g vs H1 Q) : tCB g tr σ H Q := h
theorem tup {tr : TA} (h : tr σ H fun xs H1 => xs.length ≤ sizeLine ∧ ∀ p, H1 p = none → Q (.ref p) (upd H1 p (.tup xs))) : tTup tr σ H Q := h
theorem lst {tr : TA} (h : tr σ H fun xs H1 => xs.length ≤ sizeLine ∧ ∀ p, H1 p = none → Q (.ref p) (upd H1 p (.lst xs))) : tLst tr σ H Q := h
theorem yes (c : p) [Decidable p] (h : A) : if decide p = true then A else B := by
  rw [decide_eq_true c, if_pos rfl]
  exact h
theorem no (c : ¬ p) [Decidable p] (h : B) : if decide p = true then A else B := by
  rw [decide_eq_false c, if_neg Bool.false_ne_true]
  exact h
theorem yesN (c : ¬ p) [Decidable p] (h : A) : if (!decide p) = true then A else B := by
  rw [decide_eq_false c]
  exact iteT h
theorem noN (c : p) [Decidable p] (h : B) : if (!decide p) = true then A else B := by
  rw [decide_eq_true c]
  exact iteF h
theorem both [Decidable p] (h1 : p → A) (h2 : ¬ p → B) : if decide p = true then A else B := by
  by_cases c : p
  · exact yes c (h1 c)
  · exact no c (h2 c)
theorem bothN [Decidable p] (h1 : ¬ p → A) (h2 : p → B) : if (!decide p) = true then A else B := by
  by_cases c : p
  · exact noN c (h2 c)
  · exact yesN c (h1 c)
end
theorem iteNT {A B : Prop} (h : B) : if (!true) = true then A else B := iteF h
theorem iteNF {A B : Prop} (h : A) : if (!false) = true then A else B := iteT h
theorem yesNN {A B p : Prop} [Decidable p] (c : p) (h : A) : if (!(!decide p)) = true then A else B := by
  rw [decide_eq_true c]
  exact iteT h
theorem noNN {A B p : Prop} [Decidable p] (c : ¬ p) (h : B) : if (!(!decide p)) = true then A else B := by
  rw [decide_eq_false c]
  exact iteF h
/-! ### readings with a name -/
def rAndM : R2 := fun x y H Q => ∃ (i : Int) (k : Nat), x = .int i ∧ y = .int (2 ^ k - 1) ∧ Q (.int (i % 2 ^ k)) H
theorem op_andM {X : Cx} : OpR X (binaryOp .BitAnd) rAndM := L2.op_andM
theorem andM {i m : Int} {H : Hp} {Q : VK} (k : Nat) (e : m = 2 ^ k - 1) (h : Q (.int (i % 2 ^ k)) H) : rAndM (.int i) (.int m) H Q := ⟨i, k, rfl, congrArg V.int e, h⟩
theorem and48 {i : Int} {H : Hp} {Q : VK} (h : Q (.int (i % 281474976710656)) H) : rAndM (.int i) (.int (281474976710656 - 1)) H Q := andM 48 (by decide) h
theorem and32 {i : Int} {H : Hp} {Q : VK} (h : Q (.int (i % 4294967296)) H) : rAndM (.int i) (.int (4294967296 - 1)) H Q := andM 32 (by decide) h
theorem and64 {i : Int} {H : Hp} {Q : VK} (h : Q (.int (i % 18446744073709551616)) H) : rAndM (.int i) (.int (18446744073709551616 - 1)) H Q := andM 64 (by decide) h
theorem and65 {i : Int} {H : Hp} {Q : VK} (h : Q (.int (i % 36893488147419103232)) H) : rAndM (.int i) (.int (36893488147419103232 - 1)) H Q := andM 65 (by decide) h
theorem and1 {i : Int} {H : Hp} {Q : VK} (h : Q (.int (i % 2)) H) : rAndM (.int i) (.int 1) H Q := andM 1 (by decide) h
def rShl1 : R2 := fun x y H Q => ∃ k : Nat, x = .int 1 ∧ y = .int (k : Int) ∧ k ≤ 134217727 ∧ Q (.int (2 ^ k)) H
theorem op_oneShl {X : Cx} : OpR X (binaryOp .LShift) rShl1 := L2.op_oneShl
theorem shl1 {k : Nat} {H : Hp} {Q : VK} (hk : k ≤ 134217727) (h : Q (.int (2 ^ k)) H) : rShl1 (.int 1) (.int (k : Int)) H Q := ⟨k, rfl, rfl, hk, h⟩
def rLenQ (K : PySem.W.Frag) : List V → Hp → VK → Prop := fun xs H Q => ∃ p ys, xs = [.ref p] ∧ (SqL K H p ys ∨ SqT K H p ys) ∧ Q (.int ys.length) H
theorem call_lenQ {X : Cx} : CallR X (.builtin "len") (rLenQ X.K) := call_len_seq
theorem lenL {K : PySem.W.Frag} {p : Addr} {ys : List V} {H : Hp} {Q : VK} (h : SqL K H p ys) (q : Q (.int ys.length) H) : rLenQ K [.ref p] H Q := ⟨p, ys, rfl, .inl h, q⟩
theorem lenT {K : PySem.W.Frag} {p : Addr} {ys : List V} {H : Hp} {Q : VK} (h : SqT K H p ys) (q : Q (.int ys.length) H) : rLenQ K [.ref p] H Q := ⟨p, ys, rfl, .inr h, q⟩
def rMax2 : List V → Hp → VK → Prop := fun xs H Q => ∃ i j, xs = [.int i, .int j] ∧ Q (.int (if j > i then j else i)) H
theorem call_mx2 {X : Cx} (hc : X.calm = true) : CallR X (.builtin "max") rMax2 := call_max2 hc
theorem mx2 {i j : Int} {H : Hp} {Q : VK} (q : Q (.int (if j > i then j else i)) H) : rMax2 [.int i, .int j] H Q := ⟨i, j, rfl, q⟩
def rMin2 : List V → Hp → VK → Prop := fun xs H Q => ∃ i j, xs = [.int i, .int j] ∧ Q (.int (if j < i then j else i)) H
theorem call_mn2 {X : Cx} (hc : X.calm = true) : CallR X (.builtin "min") rMin2 := call_min2 hc
theorem mn2 {i j : Int} {H : Hp} {Q : VK} (q : Q (.int (if j < i then j else i)) H) : rMin2 [.int i, .int j] H Q := ⟨i, j, rfl, q⟩
/-! ### isinstance of an int -/
theorem kit_int_int (K : PySem.W.Frag) : PySem.W.kitOne K (.type "int") (.type "int") = some true := by first | rfl | decide +kernel | kernel_rfl
theorem kit_int_bool (K : PySem.W.Frag) : PySem.W.kitOne K (.type "int") (.type "bool") = some false := by first | rfl | decide +kernel | kernel_rfl
theorem kit_self (K : PySem.W.Frag) (C : Addr) : PySem.W.kitOne K (.ref C) (.ref C) = some true := by
  unfold PySem.W.kitOne
  simp
theorem isInt {K : PySem.W.Frag} {n : Int} {H : Hp} {Q : VK} (q : Q (.bl true) H) : rIsi K [.int n, .ty "int"] H Q := ⟨_, _, .type "int", _, true, rfl, .ty _, .base (.int n), kit_int_int K, q⟩
theorem isBool {K : PySem.W.Frag} {n : Int} {H : Hp} {Q : VK} (q : Q (.bl false) H) : rIsi K [.int n, .ty "bool"] H Q := ⟨_, _, .type "int", _, false, rfl, .ty _, .base (.int n), kit_int_bool K, q⟩
theorem isOwn {K : PySem.W.Frag} {C a dx : Addr} {fs : List (Str × V)} {H : Hp} {Q : VK} (c : C8.InsC K C) (h : H a = some (.ins C dx fs)) (q : Q (.bl true) H) : rIsi K [.ref a, .ref C] H Q :=
  ⟨_, _, .ref C, .ref C, true, rfl, .own C, .base (.ins h c.cl c.ha c.hn c.htk c.hm), c.me, q⟩
/-! ### tuples, lists, fields -/
theorem sqt {K : PySem.W.Frag} {H : Hp} {a : Addr} {xs : List V} (h : H a = some (.tup xs)) : SqT K H a xs := .inl (.inl h)
theorem ixT {K : PySem.W.Frag} {p : Addr} {xs : List V} {i : Int} {v : V} {H : Hp} {Q : VK} (h : SqT K H p xs) (a : atI xs i = some v) (q : Q v H) : rIxT K (.ref p) (.int i) H Q := ⟨p, xs, i, v, rfl, rfl, h, a, q⟩
theorem ixL {K : PySem.W.Frag} {p : Addr} {xs : List V} {i : Int} {v : V} {H : Hp} {Q : VK} (h : SqL K H p xs) (a : atI xs i = some v) (q : Q v H) : rIxL K (.ref p) (.int i) H Q := ⟨p, xs, i, v, rfl, rfl, h, a, q⟩
theorem fld {K : PySem.W.Frag} {ta : TE} {f : Str} {σ : L2.St} {H : Hp} {Q : VK} (h : ta σ H fun x H1 => ∃ a C dx fs v, x = .ref a ∧ H1 a = some (.ins C dx fs) ∧ Cls K C ∧ NoAttr K C f ∧ fs.lookup f = some v ∧ Q v H1) : tFld K ta f σ H Q := h
theorem sql {K : PySem.W.Frag} {H : Hp} {a : Addr} {xs : List V} (h : H a = some (.lst xs)) : SqL K H a xs := .inl (.inl h)
theorem lk1 {f : Str} {v : V} : [(f, v)].lookup f = some v := by simp [List.lookup]
theorem lk_ne {f g : Str} {v : V} (h : ¬ g = f) : [(f, v)].lookup g = none := by
  have e : (g == f) = false := by simpa using h
  simp [List.lookup, e]
theorem fld1 {K : PySem.W.Frag} {f : Str} {H : Hp} {Q : V → Prop} {a C dx : Addr} {fs : List (Str × V)} {v : V} (h : H a = some (.ins C dx fs)) (c : Cls K C) (n : NoAttr K C f) (l : fs.lookup f = some v) (q : Q v) :
    ∃ a' C' dx' fs' v', V.ref a = .ref a' ∧ H a' = some (.ins C' dx' fs') ∧ Cls K C' ∧ NoAttr K C' f ∧ fs'.lookup f = some v' ∧ Q v' := ⟨a, C, dx, fs, v, rfl, h, c, n, l, q⟩
theorem meth {C : Addr} {m : Str} {sp : Sp} {E : XK} {ta : TE} {t : TA} {σ : L2.St} {H : Hp} {Q : VK} (h : ta σ H fun x H1 => ∃ a dx fs, x = .ref a ∧ H1 a = some (.ins C dx fs) ∧ fs.lookup m = none ∧ t σ H1 fun vs H2 => sp (x :: (vs ++ [])) H2 Q E) : tMeth C m sp [] E ta t σ H Q := h
theorem make {C : Addr} {sp : Sp} {E : XK} {t : TA} {σ : L2.St} {H : Hp} {Q : VK} (h : t σ H fun vs H1 => ∀ x dx, H1 x = none → H1 dx = none → dx ≠ x →
  sp (.ref x :: (vs ++ [])) (upd (upd H1 dx (.own x)) x (.ins C dx [])) (fun v H2 => v = .non ∧ Q (.ref x) H2) E) : tMake C sp [] E t σ H Q := h
theorem prop {C : Addr} {sp : Sp} {E : XK} {ta : TE} {σ : L2.St} {H : Hp} {Q : VK} (h : ta σ H fun x H1 => ∃ a dx fs, x = .ref a ∧ H1 a = some (.ins C dx fs) ∧ sp (.ref a :: []) H1 Q E) : tProp C sp [] E ta σ H Q := h
theorem gtup {K : PySem.W.Frag} {n : Nat} {t : TGs} {a : Addr} {xs : List V} {σ : L2.St} {H : Hp} {Q : L2.St → Hp → Prop} (h : SqT K H a xs) (hl : xs.length = n) (q : t xs σ H Q) : gTup K n t (.ref a) σ H Q := ⟨a, xs, rfl, h, hl, q⟩
theorem gcons {t : TG} {u : TGs} {v : V} {r : List V} {σ : L2.St} {H : Hp} {Q : L2.St → Hp → Prop} (h : t v σ H fun σ' H' => u r σ' H' Q) : gCons t u (v :: r) σ H Q := ⟨v, r, rfl, h⟩
theorem gnil {σ : L2.St} {H : Hp} {Q : L2.St → Hp → Prop} (h : Q σ H) : gNil [] σ H Q := ⟨rfl, h⟩
theorem gsub {to ti : TE} {t : TSet} {v : V} {σ : L2.St} {H : Hp} {Q : L2.St → Hp → Prop} (h : to σ H fun o H1 => ti σ H1 fun i H2 => t o i v H2 fun H3 => Q σ H3) : gSub to ti t v σ H Q := h
theorem setD {o i v : V} {H : Hp} {Q : Hp → Prop} (h : ∃ a H', o = .ref a ∧ DPut H a i v H' ∧ Q H') : rSetD o i v H Q := h
theorem setL {p : Addr} {xs : List V} {k : Int} {j : Nat} {v : V} {H : Hp} {Q : Hp → Prop} (h : H p = some (.lst xs)) (hj : ixN xs.length k = some j) (q : Q (upd H p (.lst (xs.set j v)))) : rSetL (.ref p) (.int k) v H Q := ⟨p, xs, k, j, rfl, rfl, h, hj, q⟩
theorem tupNew {K : PySem.W.Frag} {n : Nat} {t : TGs} {p : Addr} {xs : List V} {σ : L2.St} {H : Hp} {Q : L2.St → Hp → Prop} (hl : xs.length = n) (q : t xs σ (upd H p (.tup xs)) Q) : gTup K n t (.ref p) σ (upd H p (.tup xs)) Q := gtup (sqt upd_same) hl q
theorem cut {t u : TS} {D : Ends} {σ : L2.St} {H : Hp} (Mid : L2.St → Hp → Prop) (h1 : t { D with nx := Mid } σ H) (h2 : ∀ σ' H', Mid σ' H' → u D σ' H') : C8.tCut t u D σ H := ⟨Mid, h1, h2⟩
theorem bm {K : PySem.W.Frag} {T : String} {r : V → List V → Hp → VK → Prop} {to : TE} {t : TA} {σ : L2.St} {H : Hp} {Q : VK} (h : to σ H fun x H1 => tyV K T x H1 ∧ t σ H1 fun xs H2 => r x xs H2 Q) : tBM K T r to t σ H Q := h
theorem tyL {K : PySem.W.Frag} {H : Hp} {p : Addr} {xs : List V} (h : H p = some (.lst xs)) : tyV K "list" (.ref p) H := Or.inl ⟨rfl, _, Or.inl (Or.inl h)⟩
theorem app {H : Hp} {Q : VK} {l : Addr} {xs : List V} {y : V} (h : H l = some (.lst xs)) (hl : xs.length < 100000) (q : Q .non (upd H l (.lst (xs ++ [y])))) : rAppend (.ref l) [y] H Q := ⟨l, xs, y, rfl, rfl, h, Nat.lt_of_lt_of_le hl (by decide), q⟩
theorem revL {K : PySem.W.Frag} {te : TE} {σ : L2.St} {H : Hp} {Q : VK} (h : te σ H fun x H1 => ∃ a xs, x = .ref a ∧ SqL K H1 a xs ∧ ∀ p, H1 p = none → Q (.ref p) (upd H1 p (.lst xs.reverse))) : tRevL K te σ H Q := h
theorem frl {K : PySem.W.Frag} {tl : TE} {g : TG} {tb : TS} {D : Ends} {σ : L2.St} {H : Hp} (h : tl σ H fun x H1 => ∃ a, x = .ref a ∧ (∃ xs, SqL K H1 a xs) ∧ ∃ W : Nat → Nat → L2.St → Hp → Prop, (∃ m, W 0 m σ H1) ∧ ∀ i m σ H, W i m σ H →
    ((Itl K a).stop i H ∧ D.nx σ H) ∨ ((Itl K a).go i H ∧ ∃ N : L2.St → Hp → Prop, (∀ σ' H', N σ' H' → ∃ m', m' < m ∧ W (i + 1) m' σ' H') ∧ ∀ x H', (Itl K a).yld i H x H' → g x σ H' fun σ2 H2 => tb { D with nx := N, ct := N, bk := D.nx } σ2 H2)) :
    tFor (iList K tl) g tb D σ H := h
theorem frt {K : PySem.W.Frag} {tl : TE} {g : TG} {tb : TS} {D : Ends} {σ : L2.St} {H : Hp} (h : tl σ H fun x H1 => ∃ a, x = .ref a ∧ (∃ xs, SqT K H1 a xs) ∧ ∃ W : Nat → Nat → L2.St → Hp → Prop, (∃ m, W 0 m σ H1) ∧ ∀ i m σ H, W i m σ H →
    ((Itt K a).stop i H ∧ D.nx σ H) ∨ ((Itt K a).go i H ∧ ∃ N : L2.St → Hp → Prop, (∀ σ' H', N σ' H' → ∃ m', m' < m ∧ W (i + 1) m' σ' H') ∧ ∀ x H', (Itt K a).yld i H x H' → g x σ H' fun σ2 H2 => tb { D with nx := N, ct := N, bk := D.nx } σ2 H2)) :
    tFor (iTup K tl) g tb D σ H := h
theorem fre {K : PySem.W.Frag} {ta : TA} {g : TG} {tb : TS} {D : Ends} {σ : L2.St} {H : Hp} (h : ta σ H fun vs H1 => ∃ a xs, vs = [.ref a] ∧ SqL K H1 a xs ∧ ∃ W : Nat → Nat → L2.St → Hp → Prop, (∃ m, W 0 m σ H1) ∧ ∀ i m σ H, W i m σ H →
    ((Ite K a).stop i H ∧ D.nx σ H) ∨ ((Ite K a).go i H ∧ ∃ N : L2.St → Hp → Prop, (∀ σ' H', N σ' H' → ∃ m', m' < m ∧ W (i + 1) m' σ' H') ∧ ∀ x H', (Ite K a).yld i H x H' → g x σ H' fun σ2 H2 => tb { D with nx := N, ct := N, bk := D.nx } σ2 H2)) :
    tFor (iEnum K ta) g tb D σ H := h
theorem disp {trs : List (TE × TE)} {σ : L2.St} {H : Hp} {Q : VK} (h : ∀ p, H p = none → tPairs trs σ (upd H p (.dK [])) fun ps H2 => H2 p = some (.dK []) ∧ ∃ kvs : List (Key × V), ps = kvs.map (fun kv => (kV kv.1, kv.2)) ∧ kvs.length ≤ 15 ∧ Q (.ref p) (upd H2 p (.dK (mergeK [] kvs)))) : tDisp trs σ H Q := h
theorem pnil {σ : L2.St} {H : Hp} {Q : List (V × V) → Hp → Prop} (h : Q [] H) : tPairs [] σ H Q := h
theorem pcons {tk tv : TE} {r : List (TE × TE)} {σ : L2.St} {H : Hp} {Q : List (V × V) → Hp → Prop} (h : tk σ H fun x H1 => tv σ H1 fun y H2 => tPairs r σ H2 fun ps H3 => Q ((x, y) :: ps) H3) : tPairs ((tk, tv) :: r) σ H Q := h
/-! ### loops -/
theorem whl {c : TT} {tb : TS} {D : Ends} {σ : L2.St} {H : Hp} (W : Nat → L2.St → Hp → Prop) (m : Nat) (w0 : W m σ H) (hs : ∀ m σ H, W m σ H → c σ H fun b H1 => if b = true then ∃ N : L2.St → Hp → Prop, (∀ σ' H', N σ' H' → ∃ m', m' < m ∧ W m' σ' H') ∧
    tb { D with nx := N, ct := N, bk := D.nx } σ H1 else D.nx σ H1) : tWhile c tb D σ H := ⟨W, ⟨m, w0⟩, hs⟩
theorem fr1 {ta : TA} {g : TG} {tb : TS} {D : Ends} {σ : L2.St} {H : Hp} (h : ta σ H fun vs H1 => ∃ j : Int, vs = [.int j] ∧ -(2 ^ 62) ≤ j ∧ j < 2 ^ 62 ∧ ∃ W : Nat → Nat → L2.St → Hp → Prop, (∃ m, W 0 m σ H1) ∧ ∀ i m σ H, W i m σ H →
    ((Itr 0 j.toNat).stop i H ∧ D.nx σ H) ∨ ((Itr 0 j.toNat).go i H ∧ ∃ N : L2.St → Hp → Prop, (∀ σ' H', N σ' H' → ∃ m', m' < m ∧ W (i + 1) m' σ' H') ∧ ∀ x H', (Itr 0 j.toNat).yld i H x H' → g x σ H' fun σ2 H2 => tb { D with nx := N, ct := N, bk := D.nx } σ2 H2)) :
    tFor (iRng1 ta) g tb D σ H := h
/-- range(n), the turn told as a number -/
theorem frN {n : Nat} {k : Int} {g : TG} {tb : TS} {D : Ends} {σ : L2.St} {H : Hp} (hk : k = (n : Int)) (hn : n ≤ 1000000) (Pv : Nat → L2.St → Hp → Prop) (h0 : Pv 0 σ H)
    (hs : ∀ i σ H, i < n → Pv i σ H → g (.int (i : Int)) σ H fun σ2 H2 => tb { D with nx := Pv (i + 1), ct := Pv (i + 1), bk := D.nx } σ2 H2) (hd : ∀ σ H, Pv n σ H → D.nx σ H) :
    ∃ j : Int, [V.int k] = [.int j] ∧ -(2 ^ 62) ≤ j ∧ j < 2 ^ 62 ∧ ∃ W : Nat → Nat → L2.St → Hp → Prop, (∃ m, W 0 m σ H) ∧ ∀ i m σ H, W i m σ H →
    ((Itr 0 j.toNat).stop i H ∧ D.nx σ H) ∨ ((Itr 0 j.toNat).go i H ∧ ∃ N : L2.St → Hp → Prop, (∀ σ' H', N σ' H' → ∃ m', m' < m ∧ W (i + 1) m' σ' H') ∧ ∀ x H', (Itr 0 j.toNat).yld i H x H' → g x σ H' fun σ2 H2 => tb { D with nx := N, ct := N, bk := D.nx } σ2 H2) := by
  subst hk
  refine ⟨(n : Int), rfl, by omega, by omega, ?_⟩
  rw [Int.toNat_natCast]
  refine for_range (n := n) Pv h0 (fun i σ H hi hp => ?_) hd
  have e := hs i σ H hi hp
  rw [Int.zero_add]
  exact e
/-- all that was tracked stands -/
abbrev Ex := L2.Same
theorem ex_new {H : Hp} {p : Addr} {o : HO} (h : H p = none) : Ex H (upd H p o) := fun b z e => by
  rw [upd_ne (ne_of_none e h)]
  exact e
theorem ex_mut {H H' : Hp} {p : Addr} {o : HO} (e : Ex H H') (h : H p = none) : Ex H (upd H' p o) := fun b z q => by
  rw [upd_ne (ne_of_none q h)]
  exact e b z q
theorem ex_t {K : PySem.W.Frag} {H H' : Hp} {a : Addr} {xs : List V} (e : Ex H H') (h : SqT K H a xs) : SqT K H' a xs := by
  rcases h with (h | ⟨o, h⟩) | h
  · exact .inl (.inl (e _ _ h))
  · exact .inl (.inr ⟨o, e _ _ h⟩)
  · exact .inr h
theorem ex_l {K : PySem.W.Frag} {H H' : Hp} {a : Addr} {xs : List V} (e : Ex H H') (h : SqL K H a xs) : SqL K H' a xs := e.seq h
end Rd

set_option Elab.async false
set_option linter.all false
set_option maxRecDepth 100000
set_option maxHeartbeats 1000000
/-! a for loop in a generator's body -/
namespace Gx
open PySem PySem.Spec PyProof.Rows L2 GenW
def hX (env : Env) (x : Value) : Sem PySem.Fin := (do noteFrame x env; theTreesLotGoes x : Sem Unit).wrap (fun _ => .raise x) .raise id id
theorem seg_forLoop {prog : Program} {w : World} {A : Around} {R : GenEnd} {Y : Protocol} {n : Nat} {s₀ s : Shared} {fs : List Frame} {env : Env} {tg : Expr} {it : Value} {body : List Stmt}
    (h : wpAny (model prog w) (A.over (.forLoop tg it body [] env) fs) (pyNext it) (fun r s1 => match r with
      | none => Seg (model prog w) A R Y n s₀ (.forLoop tg it body [] env) (.pure (.again (.block [] env))) fs s1
      | some v => wpAny (model prog w) (A.over (.forLoop tg it body [] env) fs) (letOwnedTupleGo tg it v) (fun _ s2 =>
          wpAny (model prog w) (A.over (.forLoop tg it body [] env) fs) (assign tg env v) (fun _ s3 =>
            Seg (model prog w) A R Y n s₀ (.forLoop tg it body [] env) ((execs body env).wrap (fun f => match f with
              | .next | .cont => .pure (.again (.forLoop tg it body [] env))
              | .brk => .pure (.done .next)
              | .ret v => .pure (.done (.ret v))) (hX env) id id) fs s3)
            (fun x s' => Seg (model prog w) A R Y n s₀ (.forLoop tg it body [] env) (hX env x) fs s') s2)
          (fun x s' => Seg (model prog w) A R Y n s₀ (.forLoop tg it body [] env) (hX env x) fs s') s1)
      (fun x s' => Seg (model prog w) A R Y n s₀ (.forLoop tg it body [] env) (hX env x) fs s') s) :
    Seg (model prog w) A R Y n s₀ (.forLoop tg it body [] env) ((model prog w).den (.forLoop tg it body [] env)) fs s := by
  have hh : ∀ e, (do noteFrame e env; theTreesLotGoes e : Sem Unit).bind (fun _ => (.raise e : Sem PySem.Fin)) = hX env e := fun e => Sem.bind_eq_wrap _ _
  show Seg _ A R Y n s₀ _ ((forTurn tg it body [] env).onRaise (fun x => do noteFrame x env; theTreesLotGoes x)) fs s
  unfold forTurn
  rw [Sem.onRaise_eq_wrap]
  refine seg_bind_wrap (wpAny_standAt ?_)
  refine seg_bind_wrap (wpAny_onRaise (wpAny_mono h (fun r s1 h1 => ?_) fun x s' hx => wpAny_standAt ?_))
  · cases r with
    | none => exact h1
    | some v =>
      refine seg_bind_wrap (wpAny_mono h1 (fun _ s2 h2 => ?_) fun x s' hx => ?_)
      · refine seg_bind_wrap (wpAny_mono h2 (fun _ s3 h3 => ?_) fun x s' hx => ?_)
        · rw [Sem.bind_eq_wrap', Sem.wrap_wrap]
          rw [Sem.wrap_congr (execs body env) _ _ (K' := fun f => match f with
              | .next | .cont => .pure (.again (.forLoop tg it body [] env))
              | .brk => .pure (.done .next)
              | .ret v => .pure (.done (.ret v))) (H' := hX env) (fun f => by cases f <;> rfl) (fun e => by exact hh e)]
          exact h3
        · rw [← hh] at hx; exact hx
      · rw [← hh] at hx; exact hx
  · rw [← hh] at hx; exact hx
def tGFor (wi : TI) (g : TG) (tb : TGn) : TGn := fun D ys σ H => wi σ H fun J H1 => ∃ W : Nat → Nat → List V → L2.St → Hp → Prop, (∃ m, W 0 m ys σ H1) ∧ ∀ i m ys σ H, W i m ys σ H →
  (J.stop i H ∧ D.nx ys σ H) ∨ (J.go i H ∧ ∃ N : List V → L2.St → Hp → Prop, (∀ ys' σ' H', N ys' σ' H' → ∃ m', m' < m ∧ W (i + 1) m' ys' σ' H') ∧
    ∀ x H', J.yld i H x H' → g x σ H' fun σ2 H2 => tb { D with nx := N, ct := N, bk := D.nx } ys σ2 H2)
section
variable {X : Cx}
theorem gs_for {tg iter : Expr} {body : List Stmt} {pos : Pos} {wi : TI} {g : TG} {tb : TGn} (hp : PassesOwn (model X.prog X.w) X.A X.env X.xe) (hc : X.calm = true) (hi : PI X tg iter wi) (hg : PG X tg g) (hb : GSs X body tb)
    (hs : ∀ x, foldedSetIterable iter X.env x = pure x := by intro _; rfl) : GS X (.For tg iter body [] pos) (tGFor wi g tb) := by
  refine ⟨fun A S ip R n ys s₀ c fs K J gd lv s σ H D gc hn k hI ht => ?_⟩
  obtain ⟨acc0, cc0, r0, I0⟩ := hI
  rw [exec_For]
  refine seg_bind_wrap (wpAny_standAt ?_)
  refine seg_bind_wrap ?_
  rw [gc.over]
  refine wpAny_mono (hi.run _ s σ H _ I0 ht) (fun v s1 h1 => ?_) fun x s' hx => k.exc n s₀ x s' hx
  refine seg_bind_wrap (wpAny_of_eq (hs v) ?_)
  refine seg_bind_wrap (wpAny_standAt ?_)
  refine seg_bind_wrap (wpAny_holding ?_)
  rw [gc.over]
  refine wpAny_mono h1 (fun itv s2 h2 => ?_) fun x s' hx => k.exc n s₀ x s' hx
  obtain ⟨it, fp, tn, JJ, H2, e, I2, T, st2, f2, W, ⟨m0, w0⟩, turn⟩ := h2
  subst e
  refine seg_call fun p => ?_
  have gl := fun (kk : Result → Sem PySem.Fin) => gc_loop (k := kk) (c' := .forLoop tg (.ref it) body [] X.env) (l := lv []) (kp := []) (p := p) gc rfl rfl
  have glb := fun (kk : Result → Sem PySem.Fin) => gc_loop (k := kk) (c' := .block [] X.env) (l := lv []) (kp := []) (p := p) gc rfl rfl
  -- the objects of the iterator
  have stat : ∀ {acc : Array Value} {cc : Nat} {H' : Hp}, (∀ b ∈ fp, H' b = none) → ∀ b ∈ fp, FpOk X ((S, lstObj acc cc) :: ip) H' b := fun {acc cc H'} hn b hb => by
    obtain ⟨_, q1, q2, q3, q4, q5⟩ := f2 b hb
    refine ⟨hn b hb, q1, q2, q3, q4, fun p hp => ?_⟩
    rcases List.mem_append.mp hp with z | z
    · exact q5 p (List.mem_append_left _ z)
    · rcases List.mem_cons.mp z with z | z
      · rw [z]; exact q5 (S, lstObj acc0 cc0) (List.mem_append_right _ List.mem_cons_self)
      · exact q5 p (List.mem_append_right _ (List.mem_cons_of_mem _ z))
  have fpS : ∀ b ∈ fp, b ≠ S := fun b hb z => (f2 b hb).2.2.2.2.2 (S, lstObj acc0 cc0) (List.mem_append_right _ List.mem_cons_self) z.symm
  have loop : ∀ (m n : Nat) (i : Nat) (ys : List V) (s₀ s : Shared) (σ : L2.St) (H : Hp), n + ys.length = sizeLine → W i m ys σ H → GI X S ip ys σ H s → tn i s.heap → (∀ b ∈ fp, H b = none) →
      Seg (model X.prog X.w) A R (GY X S) n s₀ (.forLoop tg (.ref it) body [] X.env) ((model X.prog X.w).den (.forLoop tg (.ref it) body [] X.env))
        (.ret (fun r => ((match r with | .ok f => (.pure f : Sem Flow) | .error e => .raise e).onRaise (cameBack X.env)).wrap K J gd lv) none (gd false) (lv []) c p [] :: fs) s := by
    intro m
    induction m using Nat.strongRecOn with
    | ind m ih =>
      intro n i ys s₀ s σ H hn w hI hst hfr
      have ee : ∀ (n : Nat) (s₀ : Shared) (x : Value) (s' : Shared), X.xe x s' → Seg (model X.prog X.w) A R (GY X S) n s₀ (.forLoop tg (.ref it) body [] X.env) (hX X.env x)
          (.ret (fun r => ((match r with | .ok f => (.pure f : Sem Flow) | .error e => .raise e).onRaise (cameBack X.env)).wrap K J gd lv) none (gd false) (lv []) c p [] :: fs) s' := fun n s₀ x s' hx => by
        refine seg_wrap ?_
        rw [(gl _).over]
        refine wpAny_bind (wpAny_mono (hp x s' hx) (fun _ s'' hcb => wpAny_theTreesLotGoes ?_) fun y s'' hcb => ?_)
        · exact seg_leaf (.error x) (seg_cameBack gc k hcb)
        · exact seg_leaf (.error y) (seg_cameBack gc k hcb)
      refine seg_forLoop ?_
      rw [(gl _).over]
      obtain ⟨acc, cc, r, I⟩ := hI
      rcases turn i m ys σ H w with ⟨stop, qn⟩ | ⟨go, N, hN, step⟩
      · refine wpAny_mono (T.done X rfl rfl rfl hc i _ s σ H X.xe I (stat hfr) hst stop) (fun q s4 ⟨hr, I4⟩ => ?_) fun x s' hx => ee n s₀ x s' hx
        subst hr
        refine seg_again rfl ?_
        show Seg _ _ _ _ n s₀ (.block [] X.env) (((execs [] X.env).onRaise _) >>= fun f => pure (.done f)) _ s4
        exact seg_leaf (.ok .next) (k.ok n ys s₀ s4 .next hn ⟨σ, H, ⟨acc, cc, r, I4⟩, qn⟩)
      · refine wpAny_mono (T.item X rfl rfl rfl hc i _ s σ H X.xe I (stat hfr) hst go) (fun q s4 ⟨u, hr, h4⟩ => ?_) fun x s' hx => ee n s₀ x s' hx
        subst hr
        refine wpAny_mono h4 (fun _ s5 ⟨x, H5, I5, r5, y5, st5, fr5⟩ => ?_) fun x s' hx => ee n s₀ x s' hx
        have I5' := I5.pinned (stat fr5) (T.obj _ _ st5)
        refine wpAny_mono (hg.run _ s5 σ H5 x u _ I5' r5 (step x H5 y5)) (fun _ s6 ⟨σ6, H6, I6, q6⟩ => ?_) fun x s' hx => ee n s₀ x s' hx
        have gip : ∀ p ∈ ip ++ pinsAt fp s5.heap, p.1 ≠ S := fun p hp => by
          rcases List.mem_append.mp hp with z | z
          · exact gc.ip p z
          · exact fpS _ (of_pinsAt z).1
        have un : ∀ {ys' : List V} {σ' : L2.St} {H' : Hp} {s' : Shared}, GI X S (ip ++ pinsAt fp s5.heap) ys' σ' H' s' → GI X S ip ys' σ' H' s' ∧ tn (i + 1) s'.heap ∧ ∀ b ∈ fp, H' b = none := fun {ys' σ' H' s'} hI => by
          obtain ⟨acc, cc, r, I⟩ := hI
          have pn := fun b hb o e => I.pin (b, o) (List.mem_append_right _ (List.mem_cons_of_mem _ (List.mem_append_right _ (mem_pinsAt (fp := fp) (h := s5.heap) (b := b) (o := o) hb e))))
          refine ⟨⟨acc, cc, r, I.pins_of fun p hp => I.pin p (List.mem_append_right _ ?_)⟩, T.keep _ _ _ st5 fun b hb o e => (pn b hb o e).1, fun b hb => ?_⟩
          · rcases List.mem_cons.mp hp with z | z
            · exact z ▸ List.mem_cons_self
            · exact List.mem_cons_of_mem _ (List.mem_append_left _ z)
          · obtain ⟨o, e, d⟩ := T.obj _ _ st5 b hb
            exact (pn b hb o e).2.1
        refine hb.run A S (ip ++ pinsAt fp s5.heap) R n ys s₀ _ _ _ _ id id s6 σ6 H6 { D with nx := N, ct := N, bk := D.nx } ⟨gc.pn, gip, gc.apart, (gl _).over, (gl _).split, (gl _).guard, rfl⟩ hn ⟨fun n' ys' s₀' s7 f hn' hs => ?_, fun n' s₀' x s3 hx => ee n' s₀' x s3 hx⟩ ⟨acc, cc, r, I6⟩ q6
        cases f with
        | next =>
          obtain ⟨σ7, H7, I7, n7⟩ := hs
          obtain ⟨I8, st8, fr8⟩ := un I7
          obtain ⟨m', hm, w7⟩ := hN ys' σ7 H7 n7
          exact seg_again rfl (ih m' hm n' (i + 1) ys' s₀' s7 σ7 H7 hn' w7 I8 st8 fr8)
        | cont =>
          obtain ⟨σ7, H7, I7, n7⟩ := hs
          obtain ⟨I8, st8, fr8⟩ := un I7
          obtain ⟨m', hm, w7⟩ := hN ys' σ7 H7 n7
          exact seg_again rfl (ih m' hm n' (i + 1) ys' s₀' s7 σ7 H7 hn' w7 I8 st8 fr8)
        | brk =>
          obtain ⟨σ7, H7, I7, n7⟩ := hs
          exact seg_leaf (.ok .next) (k.ok n' ys' s₀' s7 .next hn' ⟨σ7, H7, (un I7).1, n7⟩)
        | ret v =>
          obtain ⟨x7, σ7, H7, I7, r7, n7⟩ := hs
          exact seg_leaf (.ok (.ret v)) (k.ok n' ys' s₀' s7 (.ret v) hn' ⟨x7, σ7, H7, (un I7).1, r7, n7⟩)
  exact loop m0 n 0 ys s₀ s2 σ H2 hn w0 ⟨acc0, cc0, r0, I2⟩ st2 fun b hb => (f2 b hb).1
/-- over a range -/
theorem gfor_range {lo : Int} {n : Nat} {g : TG} {tb : TGn} {D : GEnds} {ys : List V} {σ : L2.St} {H : Hp} (Pv : Nat → List V → L2.St → Hp → Prop) (h0 : Pv 0 ys σ H)
    (hs : ∀ i ys σ H, i < n → Pv i ys σ H → g (.int (lo + i)) σ H fun σ2 H2 => tb { D with nx := Pv (i + 1), ct := Pv (i + 1), bk := D.nx } ys σ2 H2) (hd : ∀ ys σ H, Pv n ys σ H → D.nx ys σ H) :
    ∃ W : Nat → Nat → List V → L2.St → Hp → Prop, (∃ m, W 0 m ys σ H) ∧ ∀ i m ys σ H, W i m ys σ H →
      ((Itr lo n).stop i H ∧ D.nx ys σ H) ∨ ((Itr lo n).go i H ∧ ∃ N : List V → L2.St → Hp → Prop, (∀ ys' σ' H', N ys' σ' H' → ∃ m', m' < m ∧ W (i + 1) m' ys' σ' H') ∧ ∀ x H', (Itr lo n).yld i H x H' → g x σ H' fun σ2 H2 => tb { D with nx := N, ct := N, bk := D.nx } ys σ2 H2) := by
  refine ⟨fun i m ys σ H => m = n - i ∧ i ≤ n ∧ Pv i ys σ H, ⟨n, by simp, Nat.zero_le _, h0⟩, ?_⟩
  rintro i m ys σ H ⟨rfl, hi, p⟩
  by_cases hlt : i < n
  · refine .inr ⟨hlt, Pv (i + 1), fun ys' σ' H' p' => ⟨n - (i + 1), by omega, rfl, hlt, p'⟩, fun x H' y => ?_⟩
    obtain ⟨rfl, rfl⟩ := y
    exact hs i ys σ _ hlt p
  · have e : i = n := by omega
    subst e
    exact .inl ⟨Nat.le_refl _, hd ys σ H p⟩
end
end Gx

set_option Elab.async false
set_option linter.all false
set_option maxRecDepth 100000
set_option maxHeartbeats 1000000
/-! an operator of one's own class, a static method, list() of a generator method -/
namespace Gx
open PySem PySem.Spec PyProof.Rows L2 GenW
/-! ### an own operator, the right side an int -/
structure OwnOp (K : PySem.W.Frag) (C : Addr) (nm : String) : Prop where
  sf : PySem.W.selfFirst K C = true
  r : PySem.W.findIn K (.ref C) (dunderR nm) = some none
  l1 : ∃ fo, PySem.W.findIn K (.type "int") (PySem.dunder nm) = some fo
  l2 : ∃ ro, PySem.W.findIn K (.type "int") (dunderR nm) = some ro
  sub : PySem.W.subIn K (.type "int") (.ref C) = some false
def rOwn (C : Addr) (sp : Sp) : V → V → Hp → VK → Prop := fun x y H Q => ∃ (a dx : Addr) (fs : List (Str × V)) (n : Int), x = .ref a ∧ y = .int n ∧ H a = some (.ins C dx fs) ∧ sp ([x, y] ++ []) H (fun v H' => (∃ b, v = .ref b) ∧ Q v H') C8.E0
section
variable {X : Cx} {k j : Nat} {C : Addr} {m : Str} {sp : Sp}
theorem op_own {op : Operator} (c : C8.Met X.prog X.w X.K X.mg X.base k C m sp []) (hr : Room j X.A) (hk : k ≤ j) (o : OwnOp X.K C op.info.2) (hm : PySem.dunder op.info.2 = m) : OpR X (binaryOp op) (rOwn C sp) := by
  intro pins s σ H x y v u Q I rx ry h
  obtain ⟨a, dx, fs, n, rfl, rfl, ha, q⟩ := h
  obtain rfl : v = Value.ref a := rx
  obtain ⟨f, fd, ps, ds, hc, me, F, b, d⟩ := c.ex
  obtain ⟨mA, O, rr, _, _, _⟩ := ins_get I.hok ha
  obtain ⟨od, J, hl⟩ := O.look
  obtain ⟨m0, fr⟩ := I.fr
  obtain ⟨fo, h1⟩ := o.l1
  obtain ⟨ro, h2⟩ := o.l2
  obtain ⟨t, rfl⟩ := id ry
  subst hm
  refine PySem.W.ksp_binT fr I.mod.kin J (T := "int") rfl o.sf me.at_ me.fn o.r (.inl rfl) h1 h2 o.sub ?_
  refine thn (run_fn (us := [.ref a, .int n t]) (vs := [.ref a, .int n]) F (hr.mono hk) b d C8.pass0 I (.cons rfl (.cons ry .nil)) q) fun v s1 hv => ?_
  obtain ⟨x, H1, I1, r1, ⟨b1, rfl⟩, q1⟩ := hv
  obtain rfl : v = Value.ref b1 := r1
  exact (⟨.ref b1, H1, I1, rfl, q1⟩ : EP X pins σ Q (.ref b1) s1)
end
/-! ### a static method of a class, by the class -/
structure SMet (P : Program) (w : World) (K : PySem.W.Frag) (mg : Str → Option Value) (base : Heap) (k : Nat) (C : Addr) (m : Str) (sp : Sp) : Prop where
  ex : ∃ (mc : Value) (p f : Addr) (fd : FuncData) (ps : List Str) (rest : List Value), ClX.CRead K C mc ∧ PySem.W.findCls K (.ref C) mc m = some (.get (.builtin "staticmethod.__get__") (.ref p) .none (.ref C)) ∧
    PySem.W.recIn K p "staticmethod" = some (.ref f :: rest) ∧ PySem.W.keepIn K (.ref f) = true ∧ FnOk P w K mg base C8.CX0 k f fd ps sp ∧ Binds K fd ps []
structure SAt (K : PySem.W.Frag) (C : Addr) (m : Str) (f : Addr) : Prop where
  ex : ∃ (mc : Value) (p : Addr) (rest : List Value), ClX.CRead K C mc ∧ PySem.W.findCls K (.ref C) mc m = some (.get (.builtin "staticmethod.__get__") (.ref p) .none (.ref C)) ∧ PySem.W.recIn K p "staticmethod" = some (.ref f :: rest) ∧ PySem.W.keepIn K (.ref f) = true
theorem smet0 {P : Program} {w : World} {K : PySem.W.Frag} {mg : Str → Option Value} {base : Heap} {m qual : Str} {C : Addr} {st : Stmt} {f : Addr} {fd : FuncData} {N ps : List Str} {k : Nat} {sp : Sp} (me : SAt K C m f) (F : C8.Fun K m qual st f fd) (b : Binds K fd ps []) (S : FnScope N ps (C8.fnScope st))
    (len : ∀ vs H Q E, sp vs H Q E → vs.length = ps.length)
    (hbody : ∀ (cdv : Value) (A : Around) (outer : List Env) (s : Shared) (H : Hp) (vs : List V) (Q : VK) (E : XK), Room k (A.deeper (envOfC qual (C8.fnScope st) s.heap.objs.size f cdv)) → sp vs H Q E →
      ∃ t, PSs (cxOf C8.CX0 P w K mg base N qual (C8.fnScope st) f cdv A outer s H E).nox (C8.fnBody st) t ∧ t { nx := fun _ H' => Q .non H', rt := Q } (start N vs) H) : SMet P w K mg base (k + 1) C m sp := by
  obtain ⟨mc, p, rest, r, a, b1, kp⟩ := me.ex
  exact ⟨mc, p, f, fd, ps, rest, r, a, b1, kp, C8.fn0 F S len hbody, b⟩
def tSMeth (C : Addr) (sp : Sp) (ta : TE) (t : TA) : TE := fun σ H Q => ta σ H fun x H1 => x = .ref C ∧ t σ H1 fun vs H2 => sp (vs ++ []) H2 Q C8.E0
section
variable {X : Cx} {k j : Nat} {C : Addr} {m : Str} {sp : Sp} {pos apos : Pos} {e o : Expr} {es : List Expr} {ta : TE} {t : TA} {pl : Sem Bool}
theorem pe_sm (c : SMet X.prog X.w X.K X.mg X.base k C m sp) (hr : Room j X.A) (hk : k ≤ j) (he : PE X o ta) (ha : PA X (e :: es) t)
    (hst : starEach (e :: es) X.env = (false, eval e X.env) :: starEach es X.env := by rfl) (hpl : (backTo pos (starEach es X.env)).any (·.1) = false := by rfl)
    (ht : eval (.Call (.Attribute o m apos) (e :: es) [] pos) X.env = (do
      let ov ← eval o X.env
      standAt apos.atName
      let (f, first) ← holding [ov] (getMethod ov m pl)
      callWith pos f first (backTo pos (starEach (e :: es) X.env)) (backToKw pos (keywordEach [] X.env))) := by rfl) :
    PE X (.Call (.Attribute o m apos) (e :: es) [] pos) (tSMeth C sp ta t) := by
  obtain ⟨mc, p, f, fd, ps, rest, r, a, b1, kp, F, b⟩ := c.ex
  refine ⟨fun pins s σ H Q I h => ?_⟩
  refine PySem.W.methodCall_KW (pl := pl) (thn (he.run pins s σ H _ I h) fun u s1 ⟨x, H1, I1, rx, ex, q⟩ => ?_) ht
  subst ex
  obtain rfl : u = Value.ref C := rx
  refine PySem.W.method_cls I1.kIn r.ga (PySem.W.cls_bind I1.kIn r.rd a (wpAny_call (PySem.W.sm_get (s := { s1 with toks := s1.toks + 1 }) I1.kIn b1 (PySem.W.handed_on rfl ?_))))
  have I2 : Inv X pins σ H1 { s1 with toks := s1.toks + 1 } := I1.tok _
  refine PySem.W.callWith_K (first := []) (h₀ := X.base) I.ok.mod.kin kp (thn (ha.run pos pins _ σ H1 _ I2 q) fun us s2 ⟨vs, H2, I3, rv, q2⟩ => ⟨I3.kIn, ?_⟩) hst hpl
  exact run_fn F (hr.mono hk) b .nil C8.pass0 I3 rv q2
end
/-! ### a generator method -/
structure GMet (P : Program) (w : World) (K : PySem.W.Frag) (mg : Str → Option Value) (base : Heap) (k : Nat) (C : Addr) (m : Str) (sp : SpG) : Prop where
  ex : ∃ (f : Addr) (fd : FuncData) (ps : List Str), Cls K C ∧ Meth K C m f ∧ GFn P w K mg base k f fd ps sp ∧ Binds K fd ps []
def gscC (N P : List Str) (sc : Scope) : Bool :=
  decide (sc.kind = .function) && !sc.isCoroutine && sc.isGenerator && decide N.Nodup && decide (N.take P.length = P) && P.all (fun x => decide (sc.names.lookup x = some .local) || decide (sc.names.lookup x = some .cell)) && sc.names.all (fun y => !decide (y.2 = .free))
theorem gscope_by {N P : List Str} {sc : Scope} (h : gscC N P sc = true) : GScope N P sc := by
  simp only [gscC, Bool.and_eq_true, decide_eq_true_eq, Bool.not_eq_true', List.all_eq_true, Bool.or_eq_true, decide_eq_false_iff_not] at h
  obtain ⟨⟨⟨⟨⟨⟨h1, h2⟩, h3⟩, h4⟩, h5⟩, h6⟩, h7⟩ := h
  exact ⟨h1, h2, h3, h4, h5, h6, h7⟩
theorem gmet0 {P : Program} {w : World} {K : PySem.W.Frag} {mg : Str → Option Value} {base : Heap} {m qual : Str} {C : Addr} {st : Stmt} {f : Addr} {fd : FuncData} {N ps : List Str} {k : Nat} {sp : SpG} (c : Cls K C) (me : Meth K C m f) (F : C8.Fun K m qual st f fd) (b : Binds K fd ps [])
    (S : GScope N ps (C8.fnScope st)) (len : ∀ vs H Q E, sp vs H Q E → vs.length = ps.length)
    (hbody : ∀ (cdv : Value) (A : Around) (outer : List Env) (s : Shared) (H : Hp) (vs : List V) (Q : List V → Hp → Prop) (E : XK) (pn : List (Addr × Obj)), Room k (A.deeper (envOfC qual (C8.fnScope st) s.heap.objs.size f cdv)) → sp vs H Q E →
      ∃ t, GSs (gcxOf P w K mg base N qual (C8.fnScope st) f cdv A outer s H E pn) (C8.fnBody st) t ∧ t { nx := fun ys _ H' => Q ys H', rt := fun ys v H' => v = .non ∧ Q ys H' } [] (start N vs) H) : GMet P w K mg base (k + 1) C m sp := by
  obtain ⟨oc, od, dV, kV, doc, pm, an, cdv, ct, osl, rfl, lk, hcd⟩ := F.ex
  exact ⟨f, _, ps, c, me, gfn_of lk hcd S len (hbody cdv), b⟩
theorem pass0G {X : Cx} : Passes (CX X.prog X.w) X C8.E0 := fun _ _ _ _ _ _ _ h => by
  obtain ⟨a, B, H', cls, d, _, _, _, _, _, _, _, z⟩ := h
  exact z.elim
section
variable {X : Cx} {k j : Nat} {C : Addr} {m : Str} {sp : SpG} {p pos pos' apos : Pos} {e o : Expr} {es : List Expr} {ta : TE} {t : TA} {pl : Sem Bool}
/-- list(o.m(..)) -/
theorem pe_listM (c : GMet X.prog X.w X.K X.mg X.base k C m sp) (hr : Room j X.A) (hk : k + 3 ≤ j) (he : PE X o ta) (ha : PA X (e :: es) t) (hg : Gl X "list") (hmg : X.mg "list" = none)
    (hst : starEach (e :: es) X.env = (false, eval e X.env) :: starEach es X.env := by rfl) (hpl : (backTo pos' (starEach es X.env)).any (·.1) = false := by rfl)
    (ht : eval (.Call (.Attribute o m apos) (e :: es) [] pos') X.env = (do
      let ov ← eval o X.env
      standAt apos.atName
      let (f, first) ← holding [ov] (getMethod ov m pl)
      callWith pos' f first (backTo pos' (starEach (e :: es) X.env)) (backToKw pos' (keywordEach [] X.env))) := by rfl)
    (hst2 : starEach [.Call (.Attribute o m apos) (e :: es) [] pos'] X.env = (false, eval (.Call (.Attribute o m apos) (e :: es) [] pos') X.env) :: starEach [] X.env := by rfl) :
    PE X (.Call (.Name "list" p) [.Call (.Attribute o m apos) (e :: es) [] pos'] [] pos) (tListG (tMethG C m sp [] C8.E0 ta t)) := by
  obtain ⟨f, fd, ps, hc, hm, F, b⟩ := c.ex
  exact pe_listG (pgen_meth (pl := pl) he hc hm F (hr.mono (by omega)) b .nil ha hst hpl ht) pass0G (fun _ _ _ z => z.elim) (hr.mono hk) hg hmg (by rfl) (by decide) (by decide) hst2
end
end Gx
namespace Gx
open PySem PySem.Spec PyProof.Rows L2 GenW
theorem isTup {K : PySem.W.Frag} {a : Addr} {xs : List V} {H : Hp} {Q : VK} (h : H a = some (.tup xs)) (q : Q (.bl true) H) : rIsi K [.ref a, .ty "tuple"] H Q :=
  ⟨_, _, .type "tuple", _, true, rfl, .ty _, .base (.tup h), by first | rfl | decide +kernel | kernel_rfl, q⟩
section
variable {t u : TGn} {tp : TS} {te : TE} {D : GEnds} {ys : List V} {σ : L2.St} {H : Hp}
theorem gthen (h : t { D with nx := fun ys' σ' H' => u D ys' σ' H' } ys σ H) : tGThen t u D ys σ H := h
theorem gplain (h : tp (D.at ys) σ H) : tPlain tp D ys σ H := h
theorem gat (h : D.nx ys σ H) : (D.at ys).nx σ H := h
theorem gnx {f g c d} (h : f ys σ H) : (GEnds.mk f g c d).nx ys σ H := h
theorem sfld {K : PySem.W.Frag} {to te : TE} {f : Str} {D : Ends} (h : te σ H fun y H1 => to σ H1 fun x H2 => ∃ a C dx fs, x = .ref a ∧ H2 a = some (.ins C dx fs) ∧ Cls K C ∧ NoAttr K C f ∧ fs.length < 1000 ∧ D.nx σ (upd H2 a (.ins C dx (putF f y fs)))) : sFld K to te f D σ H := h
theorem lg {tg : TGen} {Q : VK} (h : tg σ H fun out H2 => ∀ p, H2 p = none → Q (.ref p) (upd H2 p (.lst out))) : tListG tg σ H Q := h
theorem mg {C : Addr} {m : Str} {sp : SpG} {E : XK} {ta : TE} {t : TA} {cont : List V → Hp → Prop} (h : ta σ H fun x H1 => ∃ a dx fs, x = .ref a ∧ H1 a = some (.ins C dx fs) ∧ fs.lookup m = none ∧ t σ H1 fun vs H2 => sp (x :: (vs ++ [])) H2 cont E) : tMethG C m sp [] E ta t σ H cont := h
theorem sme {C : Addr} {sp : Sp} {ta : TE} {t : TA} {Q : VK} (h : ta σ H fun x H1 => x = .ref C ∧ t σ H1 fun vs H2 => sp (vs ++ []) H2 Q C8.E0) : tSMeth C sp ta t σ H Q := h
theorem gnil (h : D.nx ys σ H) : tG0 D ys σ H := h
theorem gy (hl : ys.length < sizeLine) (h : te σ H fun x H1 => D.nx (ys ++ [x]) σ H1) : tGYield te D ys σ H := ⟨hl, h⟩
theorem gfr {ta : TA} {g : TG} {tb : TGn} (h : ta σ H fun vs H1 => ∃ j : Int, vs = [.int j] ∧ -(2 ^ 62) ≤ j ∧ j < 2 ^ 62 ∧ ∃ W : Nat → Nat → List V → L2.St → Hp → Prop, (∃ m, W 0 m ys σ H1) ∧ ∀ i m ys σ H, W i m ys σ H →
  ((Itr 0 j.toNat).stop i H ∧ D.nx ys σ H) ∨ ((Itr 0 j.toNat).go i H ∧ ∃ N : List V → L2.St → Hp → Prop, (∀ ys' σ' H', N ys' σ' H' → ∃ m', m' < m ∧ W (i + 1) m' ys' σ' H') ∧
    ∀ x H', (Itr 0 j.toNat).yld i H x H' → g x σ H' fun σ2 H2 => tb { D with nx := N, ct := N, bk := D.nx } ys σ2 H2)) : tGFor (iRng1 ta) g tb D ys σ H := h
end
end Gx
namespace Gx
open PySem PySem.Spec PyProof.Rows L2 GenW
/-- a new object's heap by a name -/
theorem newo {H : Hp} {p : Addr} {o : HO} (hp : H p = none) : ∃ H1, H1 = upd H p o ∧ Rd.Ex H H1 ∧ H1 p = some o := ⟨_, rfl, Rd.ex_new hp, upd_same⟩
/-- f() -/
theorem pe_c0 {X : Cx} {k j : Nat} {x : Str} {sp : Sp} {p pos : Pos} (c : C8.Cal X.prog X.w X.K X.mg X.base k x sp []) (hr : Room j X.A) (hk : k ≤ j) (hg : Gl X x) (hdb : (x == ("__debug__" : Str)) = false := by decide) :
    PE X (.Call (.Name x p) [] [] pos) (tCall sp [] C8.E0 tNil) := by
  obtain ⟨f, fd, ps, ds, F, hm, kp, b, d⟩ := c.ex
  exact pe_call0 F (hr.mono hk) hg hm kp b d C8.pass0 hdb
end Gx

set_option Elab.async false
set_option linter.all false
set_option maxRecDepth 100000
set_option maxHeartbeats 1000000
/-! t[::-1] of a tuple of four -/
namespace Gx
open PySem PySem.Spec PyProof.Rows L2 GenW HT
section
variable {prog : Program} {w : World} {A : Around} {E : Value → Shared → Prop} {s : Shared}
theorem cutBack {sl : Addr} {x y z : Value} {Q : Int × Int × Nat → Shared → Prop} (hs : s.heap.IsSliceOf sl x y z) (px : IsPart x none) (py : IsPart y none) (pz : IsPart z (some (-1))) (h : Q (3, -1, 4) s) :
    wpAny (model prog w) A (Builtin.Slice.sliceApplied (.ref sl) (pure ((4 : Nat) : Int))) Q E s := by
  obtain ⟨ob, e1, _, e2⟩ := id hs
  unfold Builtin.Slice.sliceApplied Builtin.Slice.sliceFields
  refine wpAny_bind (wpAny_bind (wpAny_field e1 e2 (x := x) rfl (wpAny_bind (wpAny_field e1 e2 (x := y) rfl (wpAny_bind (wpAny_field e1 e2 (x := z) rfl (wpAny_pure ?_)))))))
  refine wpAny_bind (slicePart_ pz ?_)
  show wpAny _ _ (if ((-1 : Int) == 0) = true then _ else _) _ _ s
  rw [if_neg (show ¬ (((-1 : Int) == 0) = true) by decide)]
  exact wpAny_bind (slicePart_ px (wpAny_bind (slicePart_ py (wpAny_bind (wpAny_pure (wpAny_pure h))))))
theorem itemBack {t sl : Addr} {a b c d x y z : Value} {Q : Value → Shared → Prop} (ht : IsTup s.heap t #[a, b, c, d]) (hs : s.heap.IsSliceOf sl x y z) (px : IsPart x none) (py : IsPart y none) (pz : IsPart z (some (-1)))
    (h : Q (.ref s.heap.objs.size) { s with heap := s.heap.push { cls := .type "tuple", data := .seq #[d, c, b, a] } }) : wpAny (model prog w) A (getItem (.ref t) (.ref sl)) Q E s := by
  obtain ⟨ob, e1, e0, _⟩ := id hs
  have ty : s.TypeIs (.ref sl) "slice" := ⟨ob, e1, e0⟩
  unfold getItem
  try with_reducible refine wpAny_holding ?_
  first | refine wpAny_bind (wpAny_pure ?_) | skip
  refine wpAny_bind (wpAny_sequenceKey ht.typeIs (by decide) (wpAny_bind (wpAny_callSpecial?_slot (name := Str.ofString "__getitem__") ht.typeIs PyProof.Rows.slot_tuple_getitem
    (wpAny_call_entry PyProof.Rows.slot_tuple_getitem ht.typeIs entry_tuple_getitem ?_ (args_tuple_getitem _ _)))))
  show wpAny _ _ (Builtin.Tuple.tupleItemsOf (.ref t) >>= _) _ _ s
  refine wpAny_bind (tupleItemsOf_ ht (wpAny_bind (wpAny_typeOf ty ?_)))
  rw [if_pos (show (Value.type "slice" == Value.type "slice") = true by decide)]
  refine wpAny_bind (cutBack hs px py pz ?_)
  show wpAny _ _ (if ((3 : Int) == 0 && (-1 : Int) == 1 && (4 : Nat) == 4) = true then _ else _) _ _ s
  rw [if_neg (show ¬ (((3 : Int) == 0 && (-1 : Int) == 1 && (4 : Nat) == 4) = true) by decide)]
  have sz : sizeOk (.seq #[d, c, b, a]) := Nat.le_of_ble_eq_true rfl
  show wpAny _ _ (Builtin.Tuple.tupleExact #[d, c, b, a] >>= _) _ _ s
  first
    | exact wpAny_bind (m := Builtin.Tuple.tupleExact _) (wpAny_newObj_type (wpAny_pure ⟨_, rfl, wpAny_pure h⟩) sz)
    | exact wpAny_bind (m := Builtin.Tuple.tupleExact _) (wpAny_newObj_type (wpAny_bind (wpAny_pure (wpAny_pure ⟨_, rfl, wpAny_pure h⟩))) sz)
end
def tRevT (K : PySem.W.Frag) (te : TE) : TE := fun σ H Q => te σ H fun x H1 => ∃ a v1 v2 v3 v4, x = .ref a ∧ SqT K H1 a [v1, v2, v3, v4] ∧ ∀ p, H1 p = none → Q (.ref p) (upd H1 p (.tup [v4, v3, v2, v1]))
theorem pe_revT {X : Cx} {e : Expr} {te : TE} {k : Nat} {p1 p2 p3 pos : Pos} (he : PE X e te) : PE X (.Subscript e (.Slice none none (some (.UnaryOp .USub (.Constant (.int 1) k p1) p2)) p3) pos) (tRevT X.K te) := by
  refine ⟨fun pins s σ H Q I h => Subscript_ (thn (he.run pins s σ H _ I h) fun v s1 ⟨x, H1, I1, r1, a, v1, v2, v3, v4, ex, hx, q⟩ => ?_)⟩
  subst ex
  cases r1
  have neg1 : PO X (some (.UnaryOp .USub (.Constant (.int 1) k p1) p2)) (tPart (tUn (rU fun i => .int (-i)) (tC (.int 1)))) := po_some (pe_un un_neg pe_int)
  refine wpAny_Slice (thn (po_none.run pins s1 σ H1 (fun o H2 => o = none ∧ H2 = H1) I1 ⟨rfl, rfl⟩) fun y1 s2 ⟨o1, H2, I2, t1, c1, c2⟩ => ?_)
  subst c1 c2
  refine thn (po_none.run pins s2 σ H2 (fun o H3 => o = none ∧ H3 = H2) I2 ⟨rfl, rfl⟩) fun y2 s3 ⟨o2, H3, I3, t2, c1, c2⟩ => ?_
  subst c1 c2
  refine thn (neg1.run pins s3 σ H3 (fun o H4 => o = some (-1) ∧ H4 = H3) I3 ⟨1, rfl, -1, rfl, rfl, rfl⟩) fun y3 s4 ⟨o3, H4, I4, t3, c1, c2⟩ => ?_
  subst c1 c2
  have I5 : Inv X pins σ H4 { s4 with heap := s4.heap.push { cls := .type "slice", data := .fields #[y1, y2, y3] } } := I4.kept (t' := s4.toks) fun b ob z => Heap.get?_push_of_some _ z
  obtain ⟨its, r, ht, hz⟩ := I5.tuple hx
  cases r with
  | cons ra r => cases r with
    | cons rb r => cases r with
      | cons rc r => cases r with
        | cons rd r =>
          cases r
          show wpAny (model X.prog X.w) X.A (subscriptTail e _ (.ref a) (.ref s4.heap.objs.size)) (EP X pins σ Q) X.xe _
          refine tail_any (ops := [.ref a, .ref s4.heap.objs.size]) ht.typeIs PyProof.Rows.slot_tuple_getitem.lookup ?_ (by with_unfolding_all rfl)
          refine itemBack ht (Heap.IsSliceOf.new _ y1 y2 y3) t1 t2 t3 ?_
          refine ⟨.ref _, _, I5.laid (t' := s4.toks) (o := .tup [v4, v3, v2, v1]) (fun b ob z => Heap.get?_push_of_some _ z) (Nat.le_refl _) ?_, rfl, q _ (I5.hok.fresh (Nat.le_refl _))⟩
          exact ⟨Nat.le_of_ble_eq_true rfl, _, .cons rd (.cons rc (.cons rb (.cons ra .nil))), IsTup.new _ _⟩
theorem revT {K : PySem.W.Frag} {te : TE} {σ : L2.St} {H : Hp} {Q : VK} (h : te σ H fun x H1 => ∃ a v1 v2 v3 v4, x = .ref a ∧ SqT K H1 a [v1, v2, v3, v4] ∧ ∀ p, H1 p = none → Q (.ref p) (upd H1 p (.tup [v4, v3, v2, v1]))) : tRevT K te σ H Q := h
end Gx

set_option Elab.async false
set_option linter.all false
set_option maxRecDepth 100000
set_option maxHeartbeats 1000000
/-! own exceptions that call their base's __init__ by the base's name, and defs that may raise them -/
namespace Gx
open PySem PySem.Spec PyProof.Rows L2 GenW
section
variable {X : Cx} {x : Str} {e : Expr} {es : List Expr} {ta : TA} {p p1 p2 pos : Pos}
/-- B.__init__(self, ..), B an own class over ValueError without an __init__ of its own -/
theorem pe_binit {pl : Sem Bool} {B : Addr} {mc : Value} (hg : Gl X x) (hm : X.mg x = some (.ref B)) (r : ClX.CRead X.K B mc) (hv : PySem.W.findCls X.K (.ref B) mc "__init__" = some (.val (.builtin "ValueError.__init__"))) (ha : PA X (e :: es) ta)
    (hdb : (x == ("__debug__" : Str)) = false := by decide)
    (hc : eval (.Call (.Attribute (.Name x p1) "__init__" p2) (e :: es) [] pos) X.env = (do
      let ov ← eval (.Name x p1) X.env
      standAt p2.atName
      let (f, first) ← holding [ov] (getMethod ov "__init__" pl)
      callWith pos f first (backTo pos (starEach (e :: es) X.env)) (backToKw pos (keywordEach [] X.env))) := by rfl)
    (he : starEach (e :: es) X.env = (false, eval e X.env) :: starEach es X.env := by rfl) (hpl : (backTo pos (starEach es X.env)).any (·.1) = false := by rfl) :
    PE X (.Call (.Attribute (.Name x p1) "__init__" p2) (e :: es) [] pos) (tVeI X.K ta) := by
  refine ⟨fun pins s σ H Q I h => PySem.W.methodCall_KW (ld_glob I hg hm ?_ hdb) hc⟩
  refine PySem.W.method_cls I.kIn r.ga (PySem.W.cls_value I.kIn r.rd hv (by decide +kernel) ?_)
  refine PyProof.Rows.callWith_method1 (thn (ha.run pos pins _ σ H _ (I.tok _) h) fun us s1 ⟨vs, H1, I1, r1, a, C, ws, ev, hl, T, ea, q⟩ => ?_) he hpl
  subst ev
  cases r1 with
  | @cons _ u _ ur ra rr =>
    obtain rfl : u = Value.ref a := ra
    exact oinit_ok T I1 ea (by rw [← Paired.length rr, sizeLine_eq]; omega) fun s' J => ⟨.non, H1, J, rfl, q⟩
end
/-- the promise of such a class's __init__ -/
def spExc (C : Addr) (fl : Str) : Sp := fun vs H Q _ => ∃ (p : Addr) (v : V), vs = [.ref p, v] ∧ H p = some (exo p C none) ∧ ∀ dx, H dx = none → dx ≠ p → Q .non (upd (upd H dx (exd dx [(fl, v)])) p (exo p C (some dx)))
structure ExcMk (P : Program) (w : World) (K : PySem.W.Frag) (mg : Str → Option Value) (base : Heap) (k : Nat) (x : Str) (C : Addr) (fl : Str) : Prop where
  ex : ∃ (f : Addr) (fd : FuncData) (ps : List Str), OexC K C ∧ PySem.W.findIn K (.ref C) "__init__" = some (some (.ref f)) ∧ PySem.W.typeIn K (.ref f) = some (.type "function") ∧ FnOk P w K mg base C8.CX0 k f fd ps (spExc C fl) ∧ Binds K fd ps [] ∧ mg x = some (.ref C)
section
variable {X : Cx} {x : Str} {e : Expr} {ta : TA} {p pos : Pos} {k j : Nat} {C : Addr} {fl : Str}
theorem pmk_ex (c : ExcMk X.prog X.w X.K X.mg X.base k x C fl) (hr : Room j X.A) (hk : k + 1 ≤ j) (hg : Gl X x) (ha : PA X [e] ta) (hdb : (x == ("__debug__" : Str)) = false := by decide)
    (he : starEach [e] X.env = (false, eval e X.env) :: starEach [] X.env := by rfl) (hpl : (backTo pos (starEach [] X.env)).any (·.1) = false := by rfl) : PMk X (.Call (.Name x p) [e] [] pos) (tMkO C (spExc C fl) [] ta) := by
  obtain ⟨f, fd, ps, T, i, t, F, b, hm⟩ := c.ex
  exact pmk_oex T i t F (hr.mono hk) b .nil C8.pass0 hg hm ha hdb he hpl
end
/-- the exception is made: its dict holds the value -/
theorem mkO {C : Addr} {fl : Str} {v : V} {H : Hp} {Q : XK} (q : ∀ d H', H d = none → Rd.Ex H H' → H' d = some (.xd [(fl, v)]) → Q (.ref C) (some d) H') :
    [v].length ≤ 1000 ∧ ∀ a, H a = none → spExc C fl (.ref a :: ([v] ++ [])) (upd H a (exo a C none))
      (fun r H2 => r = .non ∧ ∃ (d : Addr) (fs : List (Str × V)), H2 a = some (exo a C (some d)) ∧ H2 d = some (exd d fs) ∧ H d = none ∧ Q (.ref C) (some d) (upd (del H2 a) d (.xd fs))) (fun _ _ _ => False) := by
  refine ⟨Nat.le_of_ble_eq_true rfl, fun a ha => ⟨a, v, rfl, upd_same, fun dx hd ne => ⟨rfl, dx, [(fl, v)], upd_same, ?_, ?_, ?_⟩⟩⟩
  · rw [upd_ne ne, upd_same]
  · rw [upd_ne ne] at hd; exact hd
  · have hd' : H dx = none := by rw [upd_ne ne] at hd; exact hd
    refine q dx _ hd' (fun c o h => ?_) upd_same
    have n1 : c ≠ a := ne_of_none h ha
    have n2 : c ≠ dx := ne_of_none h hd'
    rw [upd_ne n2, del_ne n1, upd_ne n1, upd_ne n2, upd_ne n1]
    exact h
/-! ### a def that may raise -/
structure CalX (P : Program) (w : World) (K : PySem.W.Frag) (mg : Str → Option Value) (base : Heap) (k : Nat) (x : Str) (sp : Sp) : Prop where
  ex : ∃ (f : Addr) (fd : FuncData) (ps : List Str), FnOk P w K mg base (CX P w) k f fd ps sp ∧ mg x = some (.ref f) ∧ PySem.W.keepIn K (.ref f) = true ∧ Binds K fd ps []
theorem takes_cx {P : Program} {w : World} {K : PySem.W.Frag} {mg : Str → Option Value} {base : Heap} {N : List Str} {qual : Str} {scope : Scope} {f : Addr} {cd : Value} {A : Around} {outer : List Env} {s : Shared} {H : Hp} {E : XK} :
    Takes (cxOf (CX P w) P w K mg base N qual scope f cd A outer s H E) (fun cls d _ H' => E cls d H') := takes_of rfl rfl rfl rfl
theorem calX {P : Program} {w : World} {K : PySem.W.Frag} {mg : Str → Option Value} {base : Heap} {x : Str} {st : Stmt} {f : Addr} {fd : FuncData} {N ps : List Str} {k : Nat} {sp : Sp} (F : C8.Def K mg x st f fd) (b : Binds K fd ps []) (S : FnScope N ps (C8.fnScope st)) (len : ∀ vs H Q E, sp vs H Q E → vs.length = ps.length)
    (hbody : ∀ (cdv : Value) (A : Around) (outer : List Env) (s : Shared) (H : Hp) (vs : List V) (Q : VK) (E : XK), Room k (A.deeper (envOfC x (C8.fnScope st) s.heap.objs.size f cdv)) → sp vs H Q E →
      ∃ t, PSs (cxOf (CX P w) P w K mg base N x (C8.fnScope st) f cdv A outer s H E) (C8.fnBody st) t ∧ t { nx := fun _ H' => Q .non H', rt := Q } (start N vs) H) : CalX P w K mg base (k + 1) x sp := by
  obtain ⟨oc, od, dV, kV, doc, pm, an, cdv, ct, osl, rfl, lk, hcd⟩ := F.fn.ex
  exact ⟨f, _, ps, fn_of lk hcd S len (hbody cdv), F.mgf, F.kp, b⟩
section
variable {X : Cx} {k j : Nat} {x : Str} {sp : Sp} {p pos : Pos} {e : Expr} {es : List Expr} {t : TA} {W : WX} {E : XK}
theorem pe_cx (c : CalX X.prog X.w X.K X.mg X.base k x sp) (tk : Takes X W) (hW : ∀ cls d σ H, E cls d H → W cls d σ H) (hr : Room j X.A) (hk : k ≤ j) (hg : Gl X x) (ha : PA X (e :: es) t)
    (hdb : (x == ("__debug__" : Str)) = false := by decide) (he : starEach (e :: es) X.env = (false, eval e X.env) :: starEach es X.env := by rfl) (hpl : (backTo pos (starEach es X.env)).any (·.1) = false := by rfl) :
    PE X (.Call (.Name x p) (e :: es) [] pos) (tCall sp [] E t) := by
  obtain ⟨f, fd, ps, F, hm, kp, b⟩ := c.ex
  exact pe_call F (hr.mono hk) hg hm kp b .nil (passes_call tk hW) ha hdb he hpl
end
end Gx

set_option Elab.async false
set_option linter.all false
set_option maxRecDepth 100000
set_option maxHeartbeats 1000000
/-! isinstance of a caught exception that has a dict -/
namespace Gx
open PySem PySem.Spec PySem.Calls PyProof.Rows PySem.W
section
variable {prog : Program} {w : World} {A : Around} {E : Value → Shared → Prop} {s : Shared} {K : Frag} {a D : Addr} {oa odict : Obj}
/-- e.__class__ -/
theorem cls_of_exc {Q : Option Value → Shared → Prop} (G : L2.ExcC K D) (KI : K.In s.heap) (J : InstAt s.heap a oa D (some odict)) (q : Q (some (.ref D)) { s with toks := s.toks + 1 }) : wpAny (model prog w) A (getAttr? (.ref a) "__class__") Q E s := by
  have some1 : (clsIn K D).isSome = true := by
    obtain ⟨_, e, _⟩ := any_some G.hd
    rw [e]; rfl
  have found := findObj_data (od := odict) some1 G.ha G.hn G.ht
  obtain ⟨hp, gs, dr, tk, oss⟩ := s
  have M1 : Looks (model prog w) hp (typeOf (.ref a)) (.ref D) := J.type
  have M2 := looks_findIn (M := model prog w) KI G.hg
  have M3 := looks_findIn (M := model prog w) KI G.hk
  have M4 := looks_find (M := model prog w) KI J found
  have M5 : Looks (model prog w) hp (isInstance (.ref a) (.type "BaseException")) true := M1.andThen (looks_subIn KI G.hs)
  have other : (Value.builtin "BaseException.__getattribute__" == Value.builtin "object.__getattribute__") = false := by decide +kernel
  have b1 : (onTheHeap (Value.ref D) && Value.builtin "BaseException.__getattribute__" == Value.builtin "object.__getattribute__") = false := by rw [other]; rfl
  unfold getAttr? getAttrBy? getAttrBy
  refine wpAny_bind (wpAny_mkText (wpAny_bind (wpAny_attempt (wpAny_holding (wpAny_bind (M1.at (wpAny_bind (M2.at ?a1))))))))
  case a1 =>
    show wpAny _ _ (if (onTheHeap (Value.ref D) && Value.builtin "BaseException.__getattribute__" == Value.builtin "object.__getattribute__") = true then _ else _) _ _ _
    rw [b1, if_neg Bool.false_ne_true]
    unfold getAttrByItsOwn hookBefore
    refine wpAny_bind ?a2
    case a2 =>
      rw [if_pos (show onTheHeap (Value.ref D) = true from rfl)]
      refine M3.at (wpAny_bind (wpAny_attempt (wpAny_holding ?a3)))
      case a3 =>
        unfold callGetattribute
        rw [show (false && onTheHeap (Value.builtin "BaseException.__getattribute__")) = false from rfl, if_neg Bool.false_ne_true]
        unfold boundAndCalled
        rw [PySem.F.excAttr_ValueError.ga.bind (.ref a)]
        refine wpAny_bind (wpAny_pure ?a4)
        case a4 =>
          show wpAny _ _ (call (.builtin "BaseException.__getattribute__") [.ref a, .str "__class__" tk]) _ _ _
          refine wpAny_call (codeAny_call_builtin PySem.F.excAttr_ValueError.ga.plain PySem.F.entry_bexc_ga (@check_slot (model prog w) _ _ ⟨hp, gs, dr, tk + 1, oss⟩ "BaseException.__getattribute__" "BaseException" "__getattribute__" (.ref a) [.str "__class__" tk] [] _
            (by decide +kernel) (by decide +kernel) M5 (PySem.F.args_bexc_ga (.ref a) (.str "__class__" tk)) ?a5))
          case a5 =>
            unfold Builtin.«object.__getattribute__»
            refine wpAny_bind (wpAny_of_eq (a := ((Value.ref a : Value), [Value.str "__class__" tk])) (by first | rfl | (simp only [slotArgs]; rfl)) (wpAny_bind (wpAny_pure (wpAny_bind (M1.at (wpAny_bind (M4.at ?a6)))))))
            case a6 =>
              show wpAny _ _ (holding [Value.builtin "object.__class__"] (call (.builtin "getset_descriptor.__get__") [.builtin "object.__class__", .ref a, .ref D]) >>= ret) _ _ _
              refine wpAny_bind (wpAny_holding (wpAny_call (class_get (s := ⟨hp, gs, dr, tk + 1, oss⟩) KI J G.hm (wpAny_pure ?a7))))
              case a7 =>
                show wpAny _ _ (handedOut (.ref D)) _ _ _
                rw [handedOut_of (v := .ref D) rfl]
                first
                  | exact wpAny_pure (wpAny_pure q)
                  | exact wpAny_pure q
                  | exact wpAny_pure (wpAny_bind (wpAny_pure (wpAny_pure q)))
theorem kit_exc (G : L2.ExcC K D) : KitX K (.ref a) (.ref D) (fun h => InstAt h a oa D (some odict)) := by
  have atK : ∃ c d cd sl, K.lookup D = some ⟨c, d, .cls cd, sl⟩ := by
    obtain ⟨_, e, _⟩ := any_some G.hd
    unfold clsIn at e
    split at e
    · exact ⟨_, _, _, _, by assumption⟩
    · cases e
  obtain ⟨c, d, cd, sl, eD⟩ := atK
  refine ⟨fun _ _ _ J => J.type, fun _ _ KI _ => ?_, fun h tp dd its n sl' KI e => ?_, fun KI J q => cls_of_exc G KI J q⟩
  · intro A' Q' E' s' k q
    unfold isType loadHead
    exact wpAny_bind (wpAny_loadPart (k _ _ (KI _ _ eD)) (wpAny_pure q))
  · refine Bool.eq_false_iff.mpr fun z => ?_
    obtain rfl : D = tp := Value.ref.inj (beq_iff_eq.mp z)
    cases (KI _ _ eD).symm.trans e
end
open L2
/-- isinstance(e, c), e the exception that the suite holds -/
theorem call_isX {X : Cx} {a D dd : Addr} {oe : Obj} {pn : List (Addr × Obj)} (G : ExcC X.K D) (hz : Zc (.ref D) (some dd) oe) (hf : ∃ vs, oe.data = .fields vs) :
    CallR (X.suite a ((a, oe) :: pn)) (.builtin "isinstance") (fun xs H Q => (∃ fs, H dd = some (.xd fs)) ∧ rIsE X.K D a xs H Q) := by
  intro pins s σ H xs us Q I r h
  obtain ⟨⟨fs, hd⟩, c, cv, b, rfl, hcv, e, q⟩ := h
  cases r with
  | cons rx rr =>
    cases rr with
    | cons rt rr =>
      cases rr
      cases rx
      obtain rfl := hcv _ rt
      obtain ⟨at_, _⟩ := I.pin (a, oe) (List.mem_append_left _ List.mem_cons_self)
      obtain ⟨vs, hv⟩ := hf
      obtain ⟨mA, ns, _⟩ := (show ObjOk X.prog X.w H s.heap dd (.xd fs) from I.hok dd _ hd)
      obtain ⟨od, ho, _⟩ := lookIn_ns ns
      have J : PySem.W.InstAt s.heap a oe D (some od) := ⟨at_, hz.1, by unfold PySem.W.notCls; rw [hv] <;> rfl, by rw [hz.2]; exact ho⟩
      exact PySem.W.kia_one (kit_exc G) I.kIn J e (fun z => nomatch z) fun tk => ⟨.bl b, H, I.kept (t' := tk) fun _ _ z => z, rfl, q⟩
end Gx

set_option Elab.async false
set_option linter.all false
set_option maxRecDepth 100000
set_option maxHeartbeats 1000000
/-! a def that makes lambdas: its code object is known -/
namespace Gx
open PySem PySem.Spec PyProof.Rows L2
structure LamDef (K : PySem.W.Frag) (mg : Str → Option Value) (x : Str) (st : Stmt) (f c : Addr) (fd : FuncData) : Prop where
  ex : ∃ (oc : Value) (od : Option Addr) (dV kV doc pm : Value) (an : Option Addr) (ct : Value) (osl : Array (Option Value)),
    fd = PySem.W.fnOf x x (C8.fnArgs st) (C8.fnBody st) (C8.fnScope st) dV kV doc pm an (.ref c) ct ∧ K.lookup f = some ⟨oc, od, .func fd, osl⟩ ∧ PySem.W.codeIn K (.ref c) x = true
  mgf : mg x = some (.ref f)
  kp : PySem.W.keepIn K (.ref f) = true
theorem calGc {P : Program} {w : World} {K : PySem.W.Frag} {mg : Str → Option Value} {base : Heap} {x : Str} {st : Stmt} {f c : Addr} {fd : FuncData} {N ps : List Str} {k : Nat} {sp : Sp} (F : LamDef K mg x st f c fd) (b : Binds K fd ps []) (S : FnScope N ps (C8.fnScope st))
    (len : ∀ vs H Q E, sp vs H Q E → vs.length = ps.length)
    (hbody : ∀ (A : Around) (outer : List Env) (s : Shared) (H : Hp) (vs : List V) (Q : VK), A.guards = some [] → Room k (A.deeper (envOfC x (C8.fnScope st) s.heap.objs.size f (.ref c))) → sp vs H Q C8.E0 →
      ∃ t, PSs (cxOf C8.CX0 P w K mg base N x (C8.fnScope st) f (.ref c) A outer s H C8.E0).nox (C8.fnBody st) t ∧ t { nx := fun _ H' => Q .non H', rt := Q } (start N vs) H) : CalG P w K mg base (k + 1) x sp := by
  obtain ⟨oc, od, dV, kV, doc, pm, an, ct, osl, rfl, lk, hcd⟩ := F.ex
  refine ⟨f, _, ps, ⟨len, fun A outer s H args us vs Q hg hr e0 hb r hsp => LamX.run_ofS (CX := C8.CX0) (E := C8.E0) lk hcd S hr e0 hb r (len _ _ _ _ hsp) fun hr' => ?_⟩, F.mgf, F.kp, b⟩
  obtain ⟨t, h, q⟩ := hbody A outer s H vs Q hg hr' hsp
  exact ⟨t, h.nox, q⟩
theorem takes_lam {X : Cx} {A : Around} {outer : List Env} {s : Shared} {H : Hp} {E : XK} {scope : Scope} {f c : Addr} : Takes (LamX.lamCx X A outer s H E scope f c) (fun cls d _ H' => E cls d H') := takes_of rfl rfl rfl rfl
/-- x(lambda: body), x a def that calls what it gets -/
theorem pe_lam {X : Cx} {T : List (Addr × Str)} {TT : (XK → Hp → VK → Prop) → Hp → VK → Prop} {x a : Str} {st : Stmt} {g c tb : Addr} {k j : Nat} {fd : FuncData} {Ng : List Str} {params : Arguments} {body : Expr} {scope : Scope} {t : XK → TE} {p lpos pos : Pos}
    (D : C8.Def X.K X.mg x st g fd) (b : Binds X.K fd [a] []) (Sg : FnScope Ng [a] (C8.fnScope st)) (hNg : Ng[0]? = some a) (hva : Vis (C8.fnScope st) a) (hG : ∀ cdg, LamX.GivesTo X Ng x (C8.fnScope st) g cdg (C8.fnBody st) a (X.env.qual ++ "<lambda>") TT)
    (TB : LamX.TabB X.base X.mg c tb) (hcode : X.env.code = .ref c) (hmT : (tb, X.env.qual ++ "<lambda>") ∈ T) (hu : ∀ p ∈ T, p.1 = tb → p.2 = X.env.qual ++ "<lambda>") (hr : Room j X.A) (hk : k + 2 ≤ j) (hg : Gl X x) (L : LamX.LamS X.env.scope scope)
    (hbody : ∀ (A : Around) (outer : List Env) (s : Shared) (H : Hp) (E : XK) (f c' : Addr), Room k (A.deeper (LamX.lamEnv X scope s.heap.objs.size f c')) → PE (LamX.lamCx X A outer s H E scope f c') body (t E))
    (hdef : defaultsOf params X.env = ([], []) := by rfl) (hbind : ∀ (q : Str) (cl : List (Str × Addr)) (pm cv ctv : Value), bindArgs (PySem.W.kla_fn "<lambda>" q params body scope cl pm cv ctv) ⟨[], []⟩ = pure [] := by intros; rfl)
    (hdb : (x == ("__debug__" : Str)) = false := by decide) (hd : (a == ("__debug__" : Str)) = false := by decide) (hcd : (a == ("__classdict__" : Str)) = false := by decide) :
    PE X (.Call (.Name x p) [.Lambda params body scope lpos] [] pos) (LamX.tLam T TT t) := by
  obtain ⟨oc, od, dV, kV, doc, pm, an, cdv, ct, osl, rfl, lk, hc⟩ := D.fn.ex
  exact LamX.pe_lamcall hg D.mgf D.kp lk hc b Sg hNg hva (hG cdv) TB hcode hmT hu (hr.mono hk) L hdef hbind hbody hdb hd hcd
end Gx

set_option Elab.async false
set_option linter.all false
set_option maxRecDepth 100000
set_option maxHeartbeats 1000000
/-! repr of data, or of the empty dict -/
namespace Gx
open PySem PySem.Spec PyProof.Rows L2
def rReprD (K : PySem.W.Frag) : List V → Hp → VK → Prop := fun xs H Q => rRepr K xs H Q ∨ ∃ a, xs = [.ref a] ∧ H a = some (.dK []) ∧ Q (.str "{}") H
theorem call_reprD {X : Cx} (hg : X.A.guards = some []) (hu : X.A.units + 64 < cLine) : CallR X (.builtin "repr") (rReprD X.K) := by
  intro pins s σ H xs us Q I r h
  rcases h with h | ⟨a, rfl, ha, q⟩
  · exact call_repr hg hu pins s σ H xs us Q I r h
  obtain ⟨u, rfl, ru⟩ := vals1 r
  cases ru
  obtain ⟨_, nsm, vs, kv, o, es, ep, h1, h2, h3, h4⟩ := (show ObjOk X.prog X.w H s.heap a (.dK []) from I.hok a _ ha)
  cases kv
  have e : es.toList = [] := by
    have z := h4.2.1
    generalize es.toList = l at z
    cases l with
    | nil => rfl
    | cons p l => cases z
  have rd : Reads s.heap (.ref a) (.dict []) (a :: [] ++ []) := .dict (kvs := []) h1 h2.1 h3 (by rw [e]; exact .nil) (by rw [e]; exact .nil)
  have nsm' : sysModules ∉ a :: [] ++ [] := fun z => by
    rcases List.mem_cons.mp z with z | z
    · rw [← z] at nsm; simp at nsm
    · cases z
  exact repr_of_reads' rd (by decide) (fun _ => nsm') hg (by show X.A.units + 2 < cLine; omega) (fun _ _ z => z) (fun h' t tk hk => ⟨.str "{}", H, I.kept hk, ⟨_, rfl⟩, q⟩) (by decide +kernel)
end Gx

set_option Elab.async false
set_option linter.all false
set_option maxRecDepth 100000
set_option maxHeartbeats 4000000
set_option exponentiation.threshold 2000
namespace Gx
open PySem PySem.Spec PyProof.Rows L2
/-! ### texts of data: how long they are -/
mutual
def Sml : PyData → Prop
  | .none => True
  | .bool _ => True
  | .int i => i.natAbs < 2 ^ 600
  | .str _ => False
  | .list xs => SmlAll xs
  | .tuple xs => SmlAll xs
  | .dict _ => False
def SmlAll : List PyData → Prop
  | [] => True
  | x :: xs => Sml x ∧ SmlAll xs
end
mutual
def nodes : PyData → Nat
  | .list xs => nodesAll xs + 1
  | .tuple xs => nodesAll xs + 1
  | .none => 1
  | .bool _ => 1
  | .int _ => 1
  | .str _ => 1
  | .dict _ => 1
def nodesAll : List PyData → Nat
  | [] => 0
  | x :: xs => nodes x + nodesAll xs
end
theorem log_lt {n k : Nat} (hk : 0 < k) (h : n < 2 ^ k) : n.log2 < k := PySem.Flt.log2_lt_of hk h
mutual
theorem sml_show : ∀ d : PyData, Sml d → d.showable = true
  | .none, _ => by simp only [PyData.showable]
  | .bool _, _ => by simp only [PyData.showable]
  | .int i, h => by
    simp only [PyData.showable, decide_eq_true_eq]
    exact Nat.lt_trans (log_lt (by decide) (show i.natAbs < 2 ^ 600 from by simpa only [Sml] using h)) (by decide)
  | .str _, h => by simp only [Sml] at h
  | .list xs, h => by
    simp only [PyData.showable]
    exact sml_showAll xs (by simpa only [Sml] using h)
  | .tuple xs, h => by
    simp only [PyData.showable]
    exact sml_showAll xs (by simpa only [Sml] using h)
  | .dict _, h => by simp only [Sml] at h
theorem sml_showAll : ∀ xs : List PyData, SmlAll xs → PyData.showableAll xs = true
  | [], _ => by simp only [PyData.showableAll]
  | x :: xs, h => by
    simp only [SmlAll] at h
    simp only [PyData.showableAll, Bool.and_eq_true]
    exact ⟨sml_show x h.1, sml_showAll xs h.2⟩
end
mutual
theorem sml_len : ∀ d : PyData, Sml d → d.shown.length + 2 ≤ 612 * nodes d
  | .none, _ => by simp only [nodes, PyData.shown]; decide
  | .bool b, _ => by cases b <;> simp only [nodes, PyData.shown] <;> decide
  | .int i, h => by
    have z : (toString i).length ≤ 601 := int_text_length_le (by decide) (log_lt (by decide) (show i.natAbs < 2 ^ 600 from by simpa only [Sml] using h))
    have e : (PyData.shown (.int i)).length = (toString i).length := by simp only [PyData.shown]; exact PySem.ofString_length _
    rw [e]
    simp only [nodes]
    omega
  | .str _, h => by simp only [Sml] at h
  | .list xs, h => by
    simp only [PyData.shown, nodes]
    have a := listText_len_le (PyData.shownAll xs)
    have b := sml_lenAll xs (by simpa only [Sml] using h)
    omega
  | .tuple xs, h => by
    simp only [PyData.shown, nodes]
    have a := tupleText_len_le (PyData.shownAll xs)
    have b := sml_lenAll xs (by simpa only [Sml] using h)
    omega
  | .dict _, h => by simp only [Sml] at h
theorem sml_lenAll : ∀ xs : List PyData, SmlAll xs → ((PyData.shownAll xs).map (·.length)).sum + 2 * (PyData.shownAll xs).length ≤ 612 * nodesAll xs
  | [], _ => by simp [PyData.shownAll, nodesAll]
  | x :: xs, h => by
    simp only [SmlAll] at h
    have a := sml_len x h.1
    have b := sml_lenAll xs h.2
    simp only [PyData.shownAll, nodesAll, List.map_cons, List.sum_cons, List.length_cons]
    omega
end
/-- what repr asks of the data -/
structure Okd (d : PyData) : Prop where
  sh : d.showable = true
  dp : d.depth ≤ 60
  ln : d.shown.length ≤ sizeLine
theorem okd {d : PyData} (h : Sml d) (hd : d.depth ≤ 60) (hn : nodes d ≤ 20000) : Okd d := ⟨sml_show d h, hd, by
  have := sml_len d h
  have e : sizeLine = 16777216 := sizeLine_eq
  omega⟩
theorem rpr {K : PySem.W.Frag} {H : Hp} {Q : VK} {x : V} (d : PyData) (h : Dp K H x d) (o : Okd d) (q : Q (.str d.shown) H) : rRepr K [x] H Q := ⟨x, d, rfl, h, o.sh, o.dp, o.ln, q⟩
theorem okInt {i : Int} (h : i.natAbs < 2 ^ 600) : Okd (.int i) := okd (by simpa only [Sml] using h) (by simp only [PyData.depth]; omega) (by simp only [nodes]; omega)
/-! ### three pairs -/
section
variable {k1 k2 k3 : Key} {a b c v : V}
theorem val1 : valV [(k1, a), (k2, b), (k3, c)] k1 = some a := valV_pos rfl
theorem val2 (h : ¬ k1 = k2) : valV [(k1, a), (k2, b), (k3, c)] k2 = some b := (valV_neg (p := (k1, a)) h).trans (valV_pos rfl)
theorem val3 (h : ¬ k1 = k3) (h2 : ¬ k2 = k3) : valV [(k1, a), (k2, b), (k3, c)] k3 = some c := (valV_neg (p := (k1, a)) h).trans ((valV_neg (p := (k2, b)) h2).trans (valV_pos rfl))
theorem put1 (h : ¬ k2 = k1) (h3 : ¬ k3 = k1) : putK [(k1, a), (k2, b), (k3, c)] k1 v = [(k1, v), (k2, b), (k3, c)] := by simp [putK, h, h3]
theorem put2 (h : ¬ k1 = k2) (h3 : ¬ k3 = k2) : putK [(k1, a), (k2, b), (k3, c)] k2 v = [(k1, a), (k2, v), (k3, c)] := by simp [putK, h, h3]
theorem put3 (h : ¬ k1 = k3) (h3 : ¬ k2 = k3) : putK [(k1, a), (k2, b), (k3, c)] k3 v = [(k1, a), (k2, b), (k3, v)] := by simp [putK, h, h3]
theorem merge3 (h : ¬ k1 = k2) (h2 : ¬ k1 = k3) (h3 : ¬ k2 = k3) : mergeK [] [(k1, a), (k2, b), (k3, c)] = [(k1, a), (k2, b), (k3, c)] := by
  have e1 : putK [] k1 a = [(k1, a)] := by simp [putK]
  have e2 : putK [(k1, a)] k2 b = [(k1, a), (k2, b)] := by simp [putK, h]
  have e3 : putK [(k1, a), (k2, b)] k3 c = [(k1, a), (k2, b), (k3, c)] := by simp [putK, h2, h3]
  simp only [mergeK, List.foldl_cons, List.foldl_nil, e1, e2, e3]
end
/-! ### an item of a written list -/
theorem pick {l : List Int} {P : Int → Prop} (h : ∀ x ∈ l, P x) {i : Int} (h0 : 0 ≤ i) (h1 : i < (l.length : Int)) : ∃ x, P x ∧ atI (l.map V.int) i = some (.int x) := by
  obtain ⟨n, rfl⟩ := Int.eq_ofNat_of_zero_le h0
  have hl : n < l.length := by omega
  refine ⟨l[n], h _ (List.getElem_mem hl), ?_⟩
  refine atI_nat ?_
  rw [List.getElem?_map, List.getElem?_eq_getElem hl]
  rfl
theorem dpInts {K : PySem.W.Frag} {H : Hp} : ∀ ns : List Int, DpAll K H (ns.map V.int) (ns.map PyData.int)
  | [] => .nil
  | n :: ns => .cons (.int n) (dpInts ns)
theorem canInts : ∀ ns : List Int, PyData.canLayAll0 (ns.map PyData.int) = true
  | [] => rfl
  | n :: ns => by simp only [List.map_cons, PyData.canLayAll0, PyData.canLay0, canInts ns, Bool.and_self]
theorem depInts : ∀ ns : List Int, PyData.depthAll (ns.map PyData.int) = 0
  | [] => rfl
  | n :: ns => by simp only [List.map_cons, PyData.depthAll, PyData.depth, depInts ns]; omega
theorem shpInts (ns : List Int) : SeqAt.shaped (.list (ns.map PyData.int)) = true := by
  simp only [SeqAt.shaped, PyData.canLay0, canInts, PyData.depth, depInts]
  decide
theorem eqInts : ∀ ns ms : List Int, PyData.eqvAll (ns.map PyData.int) (ms.map PyData.int) = decide (ns = ms)
  | [], [] => rfl
  | [], _ :: _ => rfl
  | _ :: _, [] => rfl
  | n :: ns, m :: ms => by
    simp only [List.map_cons, PyData.eqvAll, PyData.eqv, eqInts ns ms]
    by_cases h : n = m
    · subst h; simp
    · simp [h]
/-- two lists of ints compared -/
theorem eqL {K : PySem.W.Frag} {H : Hp} {Q : VK} {p q : Addr} {ns ms : List Int} (h1 : SqL K H p (ns.map V.int)) (h2 : SqL K H q (ms.map V.int)) (k : Q (.bl (decide (ns = ms))) H) : rEqD K (.ref p) (.ref q) H Q :=
  ⟨_, _, .lst h1 (dpInts ns), .lst h2 (dpInts ms), shpInts ns, shpInts ms, by
    have e : PyData.eqv (.list (ns.map PyData.int)) (.list (ms.map PyData.int)) = decide (ns = ms) := by simp only [PyData.eqv, eqInts]
    rw [e]; exact k⟩
theorem neL {K : PySem.W.Frag} {H : Hp} {Q : VK} {p q : Addr} {ns ms : List Int} (h1 : SqL K H p (ns.map V.int)) (h2 : SqL K H q (ms.map V.int)) (k : Q (.bl (!decide (ns = ms))) H) : rNeD K (.ref p) (.ref q) H Q :=
  ⟨_, _, .lst h1 (dpInts ns), .lst h2 (dpInts ms), shpInts ns, shpInts ms, by
    have e : PyData.eqv (.list (ns.map PyData.int)) (.list (ms.map PyData.int)) = decide (ns = ms) := by simp only [PyData.eqv, eqInts]
    rw [e]; exact k⟩
end Gx

set_option Elab.async false
set_option linter.all false
set_option maxRecDepth 100000
set_option maxHeartbeats 4000000
/-! what a heap keeps: words for a search over the steps -/
namespace Au
open PySem PySem.Spec PyProof.Rows L2
def ExP (p : Addr) (H H' : Hp) : Prop := ∀ c o, H c = some o → c ≠ p → H' c = some o
theorem ExP.refl {p : Addr} (H : Hp) : ExP p H H := fun _ _ e _ => e
theorem ExP.of {p : Addr} {H H' : Hp} (e : Rd.Ex H H') : ExP p H H' := fun c o h _ => e c o h
theorem ExP.trans {p : Addr} {H H1 H2 : Hp} (a : ExP p H H1) (b : ExP p H1 H2) : ExP p H H2 := fun c o h n => b c o (a c o h n) n
section
variable {H H' : Hp} {p b c : Addr} {o o' z : HO}
theorem sm (e : Rd.Ex H H') (h : H b = some z) : H' b = some z := e _ _ h
theorem smp (e : ExP p H H') (h : H b = some z) (n : b ≠ p) : H' b = some z := e _ _ h n
theorem smn (e : LamX.ExtN H H') (h : H b = some z) (n : ∀ ps, z ≠ .tbl ps) : H' b = some z := e _ _ h n
/-- b was there when p was not -/
theorem nen (n : H p = none) (h : H b = some z) : b ≠ p := ne_of_none h n
theorem nen' (n : H p = none) (h : H b = some z) : p ≠ b := fun e => ne_of_none h n e.symm
theorem nek (h1 : H b = some o) (h2 : H p = some o') (n : o ≠ o') : b ≠ p := fun e => n (by rw [e, h2] at h1; exact (Option.some.inj h1).symm)
theorem alloc {Q : VK} (q : ∀ p H', H p = none → Rd.Ex H H' → H' p = some o → Q (.ref p) H') : ∀ p, H p = none → Q (.ref p) (upd H p o) := fun p hp => q p _ hp (Rd.ex_new hp) upd_same
theorem mutd {Q : Hp → Prop} (q : ∀ H', ExP p H H' → H' p = some o → Q H') : Q (upd H p o) := q _ (fun c z h n => by rw [upd_ne n]; exact h) upd_same
end
/-! ### data -/
section
variable {K : PySem.W.Frag} {H : Hp} {Q : VK} {x y : V} {d e : PyData}
theorem eqD (h1 : Dp K H x d) (h2 : Dp K H y e) (s1 : SeqAt.shaped d = true) (s2 : SeqAt.shaped e = true) (q : Q (.bl (PyData.eqv d e)) H) : rEqD K x y H Q := ⟨d, e, h1, h2, s1, s2, q⟩
theorem neD (h1 : Dp K H x d) (h2 : Dp K H y e) (s1 : SeqAt.shaped d = true) (s2 : SeqAt.shaped e = true) (q : Q (.bl (!PyData.eqv d e)) H) : rNeD K x y H Q := ⟨d, e, h1, h2, s1, s2, q⟩
theorem eqDs (h1 : Dp K H x d) (h2 : Dp K H y d) (s1 : SeqAt.shaped d = true) (q : Q (.bl true) H) : rEqD K x y H Q := ⟨d, d, h1, h2, s1, s1, by
  rw [PySem.SeqAt.eqv_refl d (SeqAt.canLay_of_shaped s1)]; exact q⟩
theorem neDs (h1 : Dp K H x d) (h2 : Dp K H y d) (s1 : SeqAt.shaped d = true) (q : Q (.bl false) H) : rNeD K x y H Q := ⟨d, d, h1, h2, s1, s1, by
  rw [PySem.SeqAt.eqv_refl d (SeqAt.canLay_of_shaped s1)]; exact q⟩
end
theorem cat {H : Hp} {Q : VK} {l b : Addr} {xs zs : List V} (h1 : H l = some (.lst xs)) (h2 : H b = some (.lst zs)) (hl : xs.length + zs.length ≤ 1000) (q : ∀ p H', H p = none → Rd.Ex H H' → H' p = some (.lst (xs ++ zs)) → Q (.ref p) H') : rCat (.ref l) (.ref b) H Q :=
  ⟨l, b, xs, zs, rfl, rfl, h1, h2, Nat.le_trans hl (Nat.le_of_ble_eq_true rfl), fun p hp => q p _ hp (Rd.ex_new hp) upd_same⟩
theorem rep {H : Hp} {Q : VK} {l : Addr} {k : Int} {xs : List V} (h1 : H l = some (.lst xs)) (hk : 0 ≤ k ∧ k < 100) (hl : xs.length ≤ 10) (q : ∀ p H', H p = none → Rd.Ex H H' → H' p = some (.lst (List.replicate k.toNat xs).flatten) → Q (.ref p) H') : rRep (.ref l) (.int k) H Q :=
  ⟨l, k, xs, rfl, rfl, h1, by omega, by omega, Nat.le_trans (Nat.mul_le_mul hl (show k.toNat ≤ 100 by omega)) (Nat.le_of_ble_eq_true rfl), fun p hp => q p _ hp (Rd.ex_new hp) upd_same⟩
theorem app {H : Hp} {Q : VK} {l : Addr} {xs : List V} {y : V} (h : H l = some (.lst xs)) (hl : xs.length < 100000) (q : ∀ H', ExP l H H' → H' l = some (.lst (xs ++ [y])) → Q .non H') : rAppend (.ref l) [y] H Q := Rd.app h hl (q _ (fun c z h n => by rw [upd_ne n]; exact h) upd_same)
/-! ### readings with new objects told by a new heap -/
def NewO (H : Hp) (o : HO) (Q : VK) : Prop := ∀ p, H p = none → Q (.ref p) (upd H p o)
section
variable {σ : L2.St} {H : Hp} {Q : VK} {K : PySem.W.Frag} {tr : TA} {te ti : TE} {o : HO} {a C dx : Addr} {fs : List (Str × V)} {xs : List V} {v : V}
theorem new (q : ∀ p H', H p = none → Rd.Ex H H' → H' p = some o → Q (.ref p) H') : NewO H o Q := fun p hp => q p _ hp (Rd.ex_new hp) upd_same
theorem tup (h : tr σ H fun xs H1 => xs.length ≤ sizeLine ∧ NewO H1 (.tup xs) Q) : tTup tr σ H Q := h
theorem lst (h : tr σ H fun xs H1 => xs.length ≤ sizeLine ∧ NewO H1 (.lst xs) Q) : tLst tr σ H Q := h
theorem lenOk {n : Nat} {A : Prop} (h : Nat.ble n 1000 = true) (q : A) : n ≤ sizeLine ∧ A := ⟨Nat.le_trans (Nat.le_of_ble_eq_true h) (Nat.le_of_ble_eq_true rfl), q⟩
theorem revL (h : te σ H fun x H1 => ∃ a xs, x = .ref a ∧ SqL K H1 a xs ∧ NewO H1 (.lst xs.reverse) Q) : tRevL K te σ H Q := h
theorem nopart {Q : Option Int → Hp → Prop} (h : Q none H) : tNoPart σ H Q := h
theorem part {Q : Option Int → Hp → Prop} (h : te σ H fun x H1 => ∃ i, x = .int i ∧ Q (some i) H1) : tPart te σ H Q := h
theorem isI {n : Int} {QC : Int → Prop} (h : QC n) : ∃ i, V.int n = .int i ∧ QC i := ⟨n, rfl, h⟩
theorem sl {r : V → Option Int → Option Int → Hp → VK → Prop} {tl th : TO} (h : te σ H fun x H1 => tl σ H1 fun l H2 => th σ H2 fun u H3 => r x l u H3 Q) : L2.tSl r te tl th σ H Q := h
theorem slL {lo hi : Option Int} (h : SqL K H a xs) (q : NewO H (.lst (cutV xs lo hi)) Q) : rSlL K (.ref a) lo hi H Q := ⟨a, xs, rfl, h, q⟩
theorem sum {ns : List Int} (h : SqL K H a (ns.map V.int)) (q : Q (.int ns.sum) H) : rSum K [.ref a] H Q := ⟨a, ns, rfl, h, q⟩
theorem pr2 {x y : V} {A : V → V → Prop} (h : A x y) : ∃ v w, [x, y] = [v, w] ∧ A v w := ⟨x, y, rfl, h⟩
theorem pr3 {x y z : V} {A : V → V → V → Prop} (h : A x y z) : ∃ u v w, [x, y, z] = [u, v, w] ∧ A u v w := ⟨x, y, z, rfl, h⟩
theorem methO {C : Addr} {m : Str} {A : V → Prop} (h : H a = some (.ins C dx fs)) (l : fs.lookup m = none) (q : A (.ref a)) : ∃ a' dx' fs', V.ref a = .ref a' ∧ H a' = some (.ins C dx' fs') ∧ fs'.lookup m = none ∧ A (.ref a) := ⟨a, dx, fs, rfl, h, l, q⟩
theorem propO {C : Addr} {A : Addr → Prop} (h : H a = some (.ins C dx fs)) (q : A a) : ∃ a' dx' fs', V.ref a = .ref a' ∧ H a' = some (.ins C dx' fs') ∧ A a' := ⟨a, dx, fs, rfl, h, q⟩
end
theorem eqB {a c : Bool} {H : Hp} {Q : VK} (h : Q (.bl (decide (a = c))) H) : rEq (.bl a) (.bl c) H Q := ⟨rfl, by
  have e : decide (V.bl a = V.bl c) = decide (a = c) := by
    by_cases z : a = c
    · subst z; simp
    · rw [decide_eq_false z, decide_eq_false (fun q => z (V.bl.inj q))]
  rw [e]; exact h⟩
end Au

set_option linter.all false
/-! the mixing of words, in plain numbers -/
namespace MX
def xs (k n : Nat) : Nat := n ^^^ (n / 2 ^ k)
def F : Nat := 3486784401
def U : Nat := 3396732273
theorem FU : F * U % 4294967296 = 1 := by decide
def tmp (n : Nat) : Nat := xs 16 (xs 13 n * F % 4294967296)
def utm (n : Nat) : Nat := let y := xs 16 n * U % 4294967296; y ^^^ (y / 2 ^ 13) ^^^ (y / 2 ^ 26)
theorem div_xor (a b k : Nat) : (a ^^^ b) / 2 ^ k = (a / 2 ^ k) ^^^ (b / 2 ^ k) := by
  simp only [← Nat.shiftRight_eq_div_pow, Nat.shiftRight_xor_distrib]
theorem div_div (a j k : Nat) : a / 2 ^ j / 2 ^ k = a / 2 ^ (j + k) := by rw [Nat.div_div_eq_div_mul, ← Nat.pow_add]
theorem small {a k : Nat} (h : a < 2 ^ k) : a / 2 ^ k = 0 := Nat.div_eq_of_lt h
theorem xor_lt {a b : Nat} (ha : a < 2 ^ 32) (hb : b < 2 ^ 32) : a ^^^ b < 2 ^ 32 := Nat.xor_lt_two_pow ha hb
theorem div_lt {a k : Nat} (ha : a < 2 ^ 32) : a / 2 ^ k < 2 ^ 32 := Nat.lt_of_le_of_lt (Nat.div_le_self _ _) ha
theorem xs_lt {k n : Nat} (h : n < 2 ^ 32) : xs k n < 2 ^ 32 := xor_lt h (div_lt h)
theorem xx (a b : Nat) : a ^^^ b ^^^ b = a := by rw [Nat.xor_assoc, Nat.xor_self, Nat.xor_zero]
theorem xs16 {n : Nat} (h : n < 2 ^ 32) : xs 16 (xs 16 n) = n := by
  unfold xs
  rw [div_xor, div_div, small h, Nat.xor_zero, xx]
theorem lift13 {n : Nat} (h : n < 2 ^ 32) : xs 13 n ^^^ (xs 13 n / 2 ^ 13) ^^^ (xs 13 n / 2 ^ 26) = n := by
  have h39 : n / 2 ^ 39 = 0 := small (Nat.lt_of_lt_of_le h (by decide))
  unfold xs
  rw [div_xor, div_xor, div_div, div_div]
  show n ^^^ n / 2 ^ 13 ^^^ (n / 2 ^ 13 ^^^ n / 2 ^ 26) ^^^ (n / 2 ^ 26 ^^^ n / 2 ^ 39) = n
  rw [h39, Nat.xor_zero, ← Nat.xor_assoc (n ^^^ n / 2 ^ 13), xx, xx]
theorem drop13 {y : Nat} (h : y < 2 ^ 32) : xs 13 (y ^^^ (y / 2 ^ 13) ^^^ (y / 2 ^ 26)) = y := by
  have h39 : y / 2 ^ 39 = 0 := small (Nat.lt_of_lt_of_le h (by decide))
  unfold xs
  rw [div_xor, div_xor, div_div, div_div]
  show y ^^^ y / 2 ^ 13 ^^^ y / 2 ^ 26 ^^^ (y / 2 ^ 13 ^^^ y / 2 ^ 26 ^^^ y / 2 ^ 39) = y
  rw [h39, Nat.xor_zero, Nat.xor_assoc y, xx]
theorem mulFU {a : Nat} (h : a < 2 ^ 32) : a * F % 4294967296 * U % 4294967296 = a := by
  rw [Nat.mod_mul_mod, Nat.mul_assoc, ← Nat.mul_mod_mod, FU, Nat.mul_one, Nat.mod_eq_of_lt h]
theorem mulUF {a : Nat} (h : a < 2 ^ 32) : a * U % 4294967296 * F % 4294967296 = a := by
  rw [Nat.mod_mul_mod, Nat.mul_assoc, Nat.mul_comm U F, ← Nat.mul_mod_mod, FU, Nat.mul_one, Nat.mod_eq_of_lt h]
theorem mod_lt (a : Nat) : a % 4294967296 < 2 ^ 32 := Nat.mod_lt _ (by decide)
theorem tmp_lt (n : Nat) : tmp n < 2 ^ 32 := xs_lt (mod_lt _)
theorem utm_lt (n : Nat) : utm n < 2 ^ 32 := xor_lt (xor_lt (mod_lt _) (div_lt (mod_lt _))) (div_lt (mod_lt _))
theorem utm_tmp {n : Nat} (h : n < 2 ^ 32) : utm (tmp n) = n := by
  unfold utm tmp
  rw [xs16 (mod_lt _), mulFU (xs_lt h)]
  exact lift13 h
theorem tmp_utm {n : Nat} (h : n < 2 ^ 32) : tmp (utm n) = n := by
  unfold utm tmp
  rw [drop13 (mod_lt _), mulUF (xs_lt h), xs16 h]
/-- the rounds -/
def fe (s : Nat) (p : Nat × Nat) : Nat × Nat := (p.2, p.1 ^^^ tmp ((p.2 + 1000003 * s) % 4294967296))
def bk (s : Nat) (p : Nat × Nat) : Nat × Nat := (p.2 ^^^ tmp ((p.1 + 1000003 * s) % 4294967296), p.1)
theorem bk_fe (s : Nat) (p : Nat × Nat) : bk s (fe s p) = p := by simp [bk, fe, xx]
theorem fe_bk (s : Nat) (p : Nat × Nat) : fe s (bk s p) = p := by simp [bk, fe, xx]
def ok (p : Nat × Nat) : Prop := p.1 < 2 ^ 32 ∧ p.2 < 2 ^ 32
theorem ok_fe {s : Nat} {p : Nat × Nat} (h : ok p) : ok (fe s p) := ⟨h.2, xor_lt h.1 (tmp_lt _)⟩
theorem ok_bk {s : Nat} {p : Nat × Nat} (h : ok p) : ok (bk s p) := ⟨xor_lt h.2 (tmp_lt _), h.1⟩
def spl (n : Nat) : Nat × Nat := (n / 4294967296, n % 4294967296)
def cat (p : Nat × Nat) : Nat := p.1 * 4294967296 + p.2
theorem ok_spl {n : Nat} (h : n < 2 ^ 64) : ok (spl n) := ⟨by show n / 4294967296 < 2 ^ 32; omega, mod_lt n⟩
theorem cat_spl (n : Nat) : cat (spl n) = n := by unfold cat spl; show n / 4294967296 * 4294967296 + n % 4294967296 = n; omega
theorem spl_cat {p : Nat × Nat} (h : ok p) : spl (cat p) = p := by
  obtain ⟨a, b⟩ := p
  obtain ⟨h1, h2⟩ := h
  show ((a * 4294967296 + b) / 4294967296, (a * 4294967296 + b) % 4294967296) = (a, b)
  have : b < 4294967296 := h2
  rw [show (a * 4294967296 + b) / 4294967296 = a by omega, show (a * 4294967296 + b) % 4294967296 = b by omega]
theorem cat_lt {p : Nat × Nat} (h : ok p) : cat p < 2 ^ 64 := by
  obtain ⟨h1, h2⟩ := h
  unfold cat
  omega
def mix (n : Nat) : Nat := cat (fe 4 (fe 3 (fe 2 (fe 1 (spl n)))))
def unm (n : Nat) : Nat := cat (bk 1 (bk 2 (bk 3 (bk 4 (spl n)))))
theorem unm_mix {n : Nat} (h : n < 2 ^ 64) : unm (mix n) = n := by
  unfold unm mix
  rw [spl_cat (ok_fe (ok_fe (ok_fe (ok_fe (ok_spl h))))), bk_fe, bk_fe, bk_fe, bk_fe, cat_spl]
theorem mix_unm {n : Nat} (h : n < 2 ^ 64) : mix (unm n) = n := by
  unfold unm mix
  rw [spl_cat (ok_bk (ok_bk (ok_bk (ok_bk (ok_spl h))))), fe_bk, fe_bk, fe_bk, fe_bk, cat_spl]
theorem mix_lt {n : Nat} (h : n < 2 ^ 64) : mix n < 2 ^ 64 := cat_lt (ok_fe (ok_fe (ok_fe (ok_fe (ok_spl h)))))
theorem unm_lt {n : Nat} (h : n < 2 ^ 64) : unm n < 2 ^ 64 := cat_lt (ok_bk (ok_bk (ok_bk (ok_bk (ok_spl h)))))
/-- one bit more of an exclusive or -/
theorem xor_bit (a b i : Nat) : (a ^^^ b) % 2 ^ (i + 1) = (a ^^^ b) % 2 ^ i + (if a / 2 ^ i % 2 ≠ b / 2 ^ i % 2 then 2 ^ i else 0) := by
  have e : (a ^^^ b) / 2 ^ i % 2 = if a / 2 ^ i % 2 ≠ b / 2 ^ i % 2 then 1 else 0 := by
    rw [div_xor]
    generalize a / 2 ^ i = x
    generalize b / 2 ^ i = y
    have h1 : (x ^^^ y) % 2 = (x % 2) ^^^ (y % 2) := by
      have := Nat.xor_mod_two_pow (a := x) (b := y) (n := 1)
      simpa using this
    rw [h1]
    rcases Nat.mod_two_eq_zero_or_one x with hx | hx <;> rcases Nat.mod_two_eq_zero_or_one y with hy | hy <;> rw [hx, hy] <;> decide
  rw [Nat.pow_succ, Nat.mod_mul, e]
  split <;> omega
end MX

set_option Elab.async false
set_option linter.all false
set_option maxRecDepth 100000
set_option maxHeartbeats 4000000
namespace Gx
open PySem PySem.Spec PyProof.Rows L2
theorem u_get {H : Hp} {d : Addr} {kvs : List (Key × V)} {x : Str} {v : V} {Q : V → Prop} (h : H d = some (.dK kvs)) (e : valV kvs (Sum.inr x) = some v) (q : Q v) : ∃ a v', V.ref d = .ref a ∧ DGet H a (.str x) (some v') ∧ Q v' :=
  ⟨d, v, rfl, by rw [← e]; exact DGet.k (k := Sum.inr x) h, q⟩
theorem dget {td ty : TE} {σ : L2.St} {H : Hp} {Q : VK} (h : td σ H fun x H1 => ty σ H1 fun y H2 => ∃ a v, x = .ref a ∧ DGet H2 a y (some v) ∧ Q v H2) : tDGet td ty σ H Q := h
theorem dput {td ty tv : TE} {D : Ends} {σ : L2.St} {H : Hp} (h : tv σ H fun v H1 => td σ H1 fun x H2 => ty σ H2 fun y H3 => ∃ a H4, x = .ref a ∧ DPut H3 a y v H4 ∧ D.nx σ H4) : sDPut td ty tv D σ H := h
theorem u_put {H : Hp} {d : Addr} {kvs kvs' : List (Key × V)} {x : Str} {v : V} {Q : Hp → Prop} (h : H d = some (.dK kvs)) (hl : kvs.length < 1000) (e : putK kvs (Sum.inr x) v = kvs') (q : Q (upd H d (.dK kvs'))) : ∃ a H4, V.ref d = .ref a ∧ DPut H a (.str x) v H4 ∧ Q H4 :=
  ⟨d, _, rfl, DPut.k (k := Sum.inr x) h (small1000 (by omega)), by rw [e]; exact q⟩
end Gx
namespace Pf
open PySem PySem.Spec PyProof.Rows L2
def top (i : Nat) : Stmt := PySem.Challenge.pw_drawstate_k01_whole_bijections_of_words.main.body.getD i (.Pass ⟨0, 0, 0, 0⟩)
abbrev s_BadWord___init__ : Stmt := inClass (top 2) 0
theorem sc_BadWord___init__ : FnScope ["self", "given"] ["self", "given"] (C8.fnScope s_BadWord___init__) := C8.fnScope_by (by decide +kernel)
abbrev s_BadNumber___init__ : Stmt := inClass (top 3) 0
theorem sc_BadNumber___init__ : FnScope ["self", "given"] ["self", "given"] (C8.fnScope s_BadNumber___init__) := C8.fnScope_by (by decide +kernel)
abbrev s_is_integer : Stmt := top 10
theorem sc_is_integer : FnScope ["value"] ["value"] (C8.fnScope s_is_integer) := C8.fnScope_by (by decide +kernel)
abbrev s_is_word : Stmt := top 11
theorem sc_is_word : FnScope ["value"] ["value"] (C8.fnScope s_is_word) := C8.fnScope_by (by decide +kernel)
abbrev s_need_word : Stmt := top 12
theorem sc_need_word : FnScope ["word"] ["word"] (C8.fnScope s_need_word) := C8.fnScope_by (by decide +kernel)
abbrev s_need_double : Stmt := top 13
theorem sc_need_double : FnScope ["number"] ["number"] (C8.fnScope s_need_double) := C8.fnScope_by (by decide +kernel)
abbrev s_own_tempered : Stmt := top 14
theorem sc_own_tempered : FnScope ["word"] ["word"] (C8.fnScope s_own_tempered) := C8.fnScope_by (by decide +kernel)
abbrev s_tempered : Stmt := top 15
theorem sc_tempered : FnScope ["word"] ["word"] (C8.fnScope s_tempered) := C8.fnScope_by (by decide +kernel)
abbrev s_undo_factor : Stmt := top 16
theorem sc_undo_factor : FnScope ["found", "turn"] [] (C8.fnScope s_undo_factor) := C8.fnScope_by (by decide +kernel)
abbrev s_untempered : Stmt := top 17
theorem sc_untempered : FnScope ["word"] ["word"] (C8.fnScope s_untempered) := C8.fnScope_by (by decide +kernel)
abbrev s_mixed : Stmt := top 18
theorem sc_mixed : FnScope ["number", "high", "low", "step"] ["number"] (C8.fnScope s_mixed) := C8.fnScope_by (by decide +kernel)
abbrev s_unmixed : Stmt := top 19
theorem sc_unmixed : FnScope ["number", "high", "low", "step"] ["number"] (C8.fnScope s_unmixed) := C8.fnScope_by (by decide +kernel)
abbrev s__law_mixed : Stmt := top 21
theorem sc__law_mixed : FnScope ["_law_cell", "_law_k", "_law_one"] ["_law_cell", "_law_k"] (C8.fnScope s__law_mixed) := C8.fnScope_by (by decide +kernel)
abbrev s__law_draw : Stmt := top 22
theorem sc__law_draw : FnScope ["_law_cell", "_law_k"] ["_law_cell", "_law_k"] (C8.fnScope s__law_draw) := C8.fnScope_by (by decide +kernel)
abbrev s__law_digit : Stmt := top 23
theorem sc__law_digit : FnScope ["_law_draw_here", "_law_span", "_law_j", "_law_found"] ["_law_draw_here", "_law_span"] (C8.fnScope s__law_digit) := C8.fnScope_by (by decide +kernel)
abbrev s__law_word : Stmt := top 24
theorem sc__law_word : FnScope ["_law_draw_here", "_law_some", "_law_way"] ["_law_draw_here"] (C8.fnScope s__law_word) := C8.fnScope_by (by decide +kernel)
abbrev s__law_xor : Stmt := top 25
theorem sc__law_xor : FnScope ["_law_one", "_law_other", "_law_found", "_law_power", "_law_j"] ["_law_one", "_law_other"] (C8.fnScope s__law_xor) := C8.fnScope_by (by decide +kernel)
abbrev s__law_tempered : Stmt := top 26
theorem sc__law_tempered : FnScope ["_law_word_here"] ["_law_word_here"] (C8.fnScope s__law_tempered) := C8.fnScope_by (by decide +kernel)
abbrev s__law_mixed_number : Stmt := top 27
theorem sc__law_mixed_number : FnScope ["_law_number", "_law_high", "_law_low", "_law_j"] ["_law_number"] (C8.fnScope s__law_mixed_number) := C8.fnScope_by (by decide +kernel)
abbrev s__law_told : Stmt := top 28
theorem sc__law_told : FnScope ["_law_call", "e", "_law_kind"] ["_law_call"] (C8.fnScope s__law_told) := C8.fnScope_by (by decide +kernel)
abbrev s__law_wrong_right : Stmt := top 29
theorem sc__law_wrong_right : FnScope ["_law_draw_here", "_law_odd", "_law_far", "_law_told_here"] ["_law_draw_here"] (C8.fnScope s__law_wrong_right) := C8.fnScope_by (by decide +kernel)
abbrev s_law : Stmt := top 30
theorem sc_law : FnScope ["_law_script", "_law_k", "_law_cell", "_law_draw_here", "_law_turn", "_law_word_here", "_law_high", "_law_number"] ["_law_script"] (C8.fnScope s_law) := C8.fnScope_by (by decide +kernel)
structure Txt (K : PySem.W.Frag) (mg : Str → Option Value) (C_DrawError C_BadWord C_BadNumber R_ROUNDS CO__law_wrong_right : Addr) : Prop where
  d_BadWord___init__ : ∃ f fd, PySem.W.findIn K (.ref C_BadWord) "__init__" = some (some (.ref f)) ∧ PySem.W.typeIn K (.ref f) = some (.type "function") ∧ C8.Fun K "__init__" "BadWord.__init__" s_BadWord___init__ f fd ∧ Binds K fd ["self", "given"] []
  d_BadNumber___init__ : ∃ f fd, PySem.W.findIn K (.ref C_BadNumber) "__init__" = some (some (.ref f)) ∧ PySem.W.typeIn K (.ref f) = some (.type "function") ∧ C8.Fun K "__init__" "BadNumber.__init__" s_BadNumber___init__ f fd ∧ Binds K fd ["self", "given"] []
  d_is_integer : ∃ f fd, C8.Def K mg "is_integer" s_is_integer f fd ∧ Binds K fd ["value"] []
  d_is_word : ∃ f fd, C8.Def K mg "is_word" s_is_word f fd ∧ Binds K fd ["value"] []
  d_need_word : ∃ f fd, C8.Def K mg "need_word" s_need_word f fd ∧ Binds K fd ["word"] []
  d_need_double : ∃ f fd, C8.Def K mg "need_double" s_need_double f fd ∧ Binds K fd ["number"] []
  d_own_tempered : ∃ f fd, C8.Def K mg "own_tempered" s_own_tempered f fd ∧ Binds K fd ["word"] []
  d_tempered : ∃ f fd, C8.Def K mg "tempered" s_tempered f fd ∧ Binds K fd ["word"] []
  d_undo_factor : ∃ f fd, C8.Def K mg "undo_factor" s_undo_factor f fd ∧ Binds K fd [] []
  d_untempered : ∃ f fd, C8.Def K mg "untempered" s_untempered f fd ∧ Binds K fd ["word"] []
  d_mixed : ∃ f fd, C8.Def K mg "mixed" s_mixed f fd ∧ Binds K fd ["number"] []
  d_unmixed : ∃ f fd, C8.Def K mg "unmixed" s_unmixed f fd ∧ Binds K fd ["number"] []
  d__law_mixed : ∃ f fd, C8.Def K mg "_law_mixed" s__law_mixed f fd ∧ Binds K fd ["_law_cell", "_law_k"] []
  d__law_draw : ∃ f fd, C8.Def K mg "_law_draw" s__law_draw f fd ∧ Binds K fd ["_law_cell", "_law_k"] []
  d__law_digit : ∃ f fd, C8.Def K mg "_law_digit" s__law_digit f fd ∧ Binds K fd ["_law_draw_here", "_law_span"] []
  d__law_word : ∃ f fd, C8.Def K mg "_law_word" s__law_word f fd ∧ Binds K fd ["_law_draw_here"] []
  d__law_xor : ∃ f fd, C8.Def K mg "_law_xor" s__law_xor f fd ∧ Binds K fd ["_law_one", "_law_other"] []
  d__law_tempered : ∃ f fd, C8.Def K mg "_law_tempered" s__law_tempered f fd ∧ Binds K fd ["_law_word_here"] []
  d__law_mixed_number : ∃ f fd, C8.Def K mg "_law_mixed_number" s__law_mixed_number f fd ∧ Binds K fd ["_law_number"] []
  d__law_told : ∃ f fd, C8.Def K mg "_law_told" s__law_told f fd ∧ Binds K fd ["_law_call"] []
  d__law_wrong_right : ∃ f fd, Gx.LamDef K mg "_law_wrong_right" s__law_wrong_right f CO__law_wrong_right fd ∧ Binds K fd ["_law_draw_here"] []
  d_law : ∃ f fd, C8.Def K mg "law" s_law f fd ∧ Binds K fd ["_law_script"] [] ∧ ∀ (s : Shared) (v : Value), BindsTo s fd ⟨[v], []⟩ [("_law_script", v)]
  c_WORDS : ∃ u, mg "WORDS" = some u ∧ RelV (.int 4294967296) u
  c_DOUBLES : ∃ u, mg "DOUBLES" = some u ∧ RelV (.int 18446744073709551616) u
  c_FACTOR : ∃ u, mg "FACTOR" = some u ∧ RelV (.int 3486784401) u
  c_MIX_STEP : ∃ u, mg "MIX_STEP" = some u ∧ RelV (.int 1000003) u
  c_ROUNDS : ∃ u, mg "ROUNDS" = some u ∧ RelV (.ref R_ROUNDS) u
  s_ROUNDS : ∀ H : Hp, SqT K H R_ROUNDS ([1, 2, 3, 4].map V.int)
  k_DrawError : ∃ u, mg "DrawError" = some u ∧ RelV (.ref C_DrawError) u
  g_DrawError : mg "DrawError" = some (.ref C_DrawError)
  r_DrawError : ClX.CRead K C_DrawError (.type "type")
  i_DrawError : PySem.W.findCls K (.ref C_DrawError) (.type "type") "__init__" = some (.val (.builtin "ValueError.__init__"))
  m_DrawError : ∀ {cls : Value} {b : Bool}, PySem.W.subIn K cls (.ref C_DrawError) = some b → PySem.W.exmOne K cls (.ref C_DrawError) = some b
  k_BadWord : ∃ u, mg "BadWord" = some u ∧ RelV (.ref C_BadWord) u
  g_BadWord : mg "BadWord" = some (.ref C_BadWord)
  x_BadWord : OexC K C_BadWord
  f_BadWord : XfC K C_BadWord
  e_BadWord : ExcC K C_BadWord
  n_BadWord_given : PySem.W.findIn K (.ref C_BadWord) "given" = some none
  s_BadWord_DrawError : PySem.W.subIn K (.ref C_BadWord) (.ref C_DrawError) = some true
  o_BadWord_BadNumber : PySem.W.kitOne K (.ref C_BadWord) (.ref C_BadNumber) = some false
  k_BadNumber : ∃ u, mg "BadNumber" = some u ∧ RelV (.ref C_BadNumber) u
  g_BadNumber : mg "BadNumber" = some (.ref C_BadNumber)
  x_BadNumber : OexC K C_BadNumber
  f_BadNumber : XfC K C_BadNumber
  e_BadNumber : ExcC K C_BadNumber
  n_BadNumber_given : PySem.W.findIn K (.ref C_BadNumber) "given" = some none
  s_BadNumber_DrawError : PySem.W.subIn K (.ref C_BadNumber) (.ref C_DrawError) = some true
  o_BadNumber_BadWord : PySem.W.kitOne K (.ref C_BadNumber) (.ref C_BadWord) = some false
  b_isinstance : mg "isinstance" = none
  b_int : mg "int" = none
  b_bool : mg "bool" = none
  b_range : mg "range" = none
  b_enumerate : mg "enumerate" = none
  b_sum : mg "sum" = none
  b_repr : mg "repr" = none
section
variable {P : Program} {w : World} {K : PySem.W.Frag} {mg : Str → Option Value} {base : Heap} {C_DrawError C_BadWord C_BadNumber R_ROUNDS CO__law_wrong_right : Addr}
local macro_rules | `(tactic| walk_at "side") => `(tactic| first | ((with_reducible show L2.CMul _ _); first | exact Or.inl ⟨by omega, by omega⟩ | exact Or.inr ⟨by omega, by omega⟩) | ((with_reducible show L2.CPow _ _); exact ⟨by decide, by decide, by decide⟩) | ((with_reducible show L2.CMulW _ _); exact wide_mul (a := 96) (b := 96) (by omega) (by omega) (by decide) (by decide) (by decide)) | ((with_reducible show L2.CDivW _ _); exact wide_div (b := 96) (by omega) (by omega) (by decide) (by decide)) | (show (0 : Int) < _; omega) | (show (0 : Int) ≤ _; omega))
local macro_rules | `(tactic| walk_at "rd1") => `(tactic| first | with_reducible refine Rd.seq ?_ | with_reducible refine Rd.asg ?_ | with_reducible refine Rd.nm ?_ | with_reducible refine Rd.ret ?_ | with_reducible refine Rd.drop ?_ | with_reducible refine Rd.ifs ?_ | with_reducible refine Rd.par ?_ | with_reducible refine Rd.par3 ?_ | with_reducible refine Rd.next ?_ | with_reducible refine Rd.fr1 ?_ | with_reducible refine Rd.nxp ?_ | with_reducible refine Rd.rtp ?_ | ((with_reducible show tVar _ _ _ _); refine Rd.var rfl ?_) | with_reducible refine Rd.cst ?_ | with_reducible refine Rd.op ?_ | with_reducible refine Rd.un ?_ | with_reducible refine Rd.i0 ?_ | with_reducible refine Rd.ung ?_ | with_reducible refine Rd.eqI ?_ | with_reducible refine Rd.neI ?_ | with_reducible refine Rd.eqS ?_ | with_reducible refine Rd.neS ?_ | with_reducible refine Rd.test ?_ | with_reducible refine Rd.tstB ?_ | with_reducible refine Rd.isB ?_ | with_reducible refine Rd.not ?_ | with_reducible refine Rd.andT ?_ | with_reducible refine Rd.orT ?_ | with_reducible refine Rd.andV ?_ | with_reducible refine Rd.orV ?_ | with_reducible refine Rd.notV ?_ | with_reducible refine Rd.ifE ?_ | with_reducible refine Rd.chain ?_ | with_reducible refine Rd.nil ?_ | with_reducible refine Rd.cons ?_ | with_reducible refine Rd.call ?_ | with_reducible refine Rd.cb ?_ | with_reducible refine Rd.bm ?_ | with_reducible refine Rd.revL ?_ | with_reducible refine Rd.frl ?_ | with_reducible refine Rd.frt ?_ | with_reducible refine Rd.fre ?_ | with_reducible refine Rd.disp ?_ | with_reducible refine Rd.pnil ?_ | with_reducible refine Rd.pcons ?_ | with_reducible refine Rd.gcons ?_ | with_reducible refine Rd.gnil ?_ | with_reducible refine Rd.gsub ?_ | with_reducible refine Rd.setD ?_ | ((with_reducible show gTup _ _ _ _ _ (upd _ _ (HO.tup _)) _); refine Rd.tupNew rfl ?_) | with_reducible refine Rd.fld ?_ | with_reducible refine Rd.meth ?_ | with_reducible refine Rd.make ?_ | with_reducible refine Rd.prop ?_ | with_reducible refine Rd.tup ?_ | with_reducible refine Rd.lst ?_ | ((with_reducible show (List.length _ ≤ sizeLine ∧ ∀ p, _ = none → _)); refine ⟨Nat.le_of_ble_eq_true rfl, ?_⟩) | with_reducible refine Rd.isInt ?_ | with_reducible refine Rd.isBool ?_ | with_reducible refine Rd.mx2 ?_ | with_reducible refine Rd.mn2 ?_ | ((with_reducible show Rd.rAndM _ _ _ _); first | refine Rd.and1 ?_ | refine Rd.and48 ?_ | refine Rd.and32 ?_ | refine Rd.and64 ?_ | refine Rd.and65 ?_) | ((with_reducible refine Rd.iC ?hc ?_); (case hc => walk_at "side")) | ((with_reducible refine Rd.yes ?hc ?_); (case hc => omega)) | ((with_reducible refine Rd.no ?hc ?_); (case hc => omega)) | ((with_reducible refine Rd.noN ?hc ?_); (case hc => omega)) | ((with_reducible refine Rd.yesN ?hc ?_); (case hc => omega)) | ((with_reducible refine Rd.yesNN ?hc ?_); (case hc => omega)) | ((with_reducible refine Rd.noNN ?hc ?_); (case hc => omega)) | with_reducible refine iteT ?_ | with_reducible refine iteF ?_ | with_reducible refine Rd.iteNT ?_ | with_reducible refine Rd.iteNF ?_)
local macro_rules | `(tactic| walk_at "rd") => `(tactic| repeat (walk_at "rd1"))
local macro_rules | `(tactic| walk_at "rd1") => `(tactic| first | with_reducible refine Gx.dget ?_ | with_reducible refine Gx.dput ?_)
abbrev kLeft : Key := Sum.inr "left"
abbrev kCell : Key := Sum.inr "cell"
abbrev kTurns : Key := Sum.inr "turns"
theorem n_lc : ¬ kLeft = kCell := by decide +kernel
theorem n_lt : ¬ kLeft = kTurns := by decide +kernel
theorem n_ct : ¬ kCell = kTurns := by decide +kernel
theorem n_cl : ¬ kCell = kLeft := by decide +kernel
theorem n_tl : ¬ kTurns = kLeft := by decide +kernel
theorem n_tc : ¬ kTurns = kCell := by decide +kernel
/-- a draw at d: what is left, the cell, the turns so far (at most n) -/
structure DrAt (H : Hp) (d : Addr) (left cell turns : Int) (n : Nat) : Prop where
  dic : H d = some (.dK [(kLeft, .int left), (kCell, .int cell), (kTurns, .int turns)])
  l0 : 0 ≤ left
  t0 : 0 ≤ turns
  t1 : turns ≤ n
def Dr (H : Hp) (d : Addr) (n : Nat) : Prop := ∃ left cell turns, DrAt H d left cell turns n
def ExD (d : Addr) (H H' : Hp) : Prop := ∀ c o, H c = some o → c ≠ d → H' c = some o
theorem ExD.refl {d : Addr} (H : Hp) : ExD d H H := fun _ _ e _ => e
theorem ExD.trans {d : Addr} {H H1 H2 : Hp} (a : ExD d H H1) (b : ExD d H1 H2) : ExD d H H2 := fun c o e h => b c o (a c o e h) h
theorem ExD.of {d : Addr} {H H' : Hp} (e : Rd.Ex H H') : ExD d H H' := fun c o h _ => e c o h
theorem ExD.put {d : Addr} {H H' : Hp} {o : HO} (e : ExD d H H') : ExD d H (upd H' d o) := fun c z h n => by
  rw [upd_ne n]
  exact e c z h n
theorem Dr.ex {H H' : Hp} {d : Addr} {n : Nat} (e : Rd.Ex H H') (h : Dr H d n) : Dr H' d n := by
  obtain ⟨l, c, t, h⟩ := h
  exact ⟨l, c, t, e _ _ h.dic, h.l0, h.t0, h.t1⟩
theorem Dr.mono {H : Hp} {d : Addr} {n m : Nat} (h : Dr H d n) (hn : n ≤ m) : Dr H d m := by
  obtain ⟨l, c, t, h⟩ := h
  exact ⟨l, c, t, h.dic, h.l0, h.t0, by have := h.t1; omega⟩
def spMixed : Sp := fun vs H Q _ => ∃ c k : Int, vs = [.int c, .int k] ∧ 0 ≤ k ∧ k < 2 ^ 40 ∧ ∀ (H' : Hp) (v : Int), Rd.Ex H H' → 0 ≤ v → v < 2147483647 → Q (.int v) H'
theorem cal__law_mixed (T : Txt K mg C_DrawError C_BadWord C_BadNumber R_ROUNDS CO__law_wrong_right) : C8.Cal P w K mg base 1 "_law_mixed" spMixed [] := by
  obtain ⟨f, fd, F, b⟩ := T.d__law_mixed
  refine C8.cal0 F b .nil sc__law_mixed (fun vs H Q E h => ?_) (fun cdv A outer s H vs Q E hr h => ?_)
  · obtain ⟨c, k, rfl, _⟩ := h; rfl
  · obtain ⟨c, k, rfl, k0, k1, q⟩ := h
    refine ⟨_, (pss_cons (ps_set (i := 2) sc__law_mixed.nd rfl (.inl rfl) (pe_op op_add (pe_op op_add (pe_op op_mod (pv 0) (pe_ix ix_list (pe_lst (pa_cons pe_int (pa_cons pe_int (pa_cons pe_int (pa_cons pe_int pa_nil))))) (pe_op op_mod (pv 1) pe_int) (fun _ _ => rfl))) (pe_op op_mul pe_int (pv 1))) pe_int))
      (pss_one (ps_ret (pe_op op_mod (pe_op op_mul (pe_op op_mod (pe_op op_mul (pv 2) (pv 2)) pe_int) pe_int) pe_int)))), ?_⟩
    walk_at "rd"
    intro p hp
    walk_at "rd"
    obtain ⟨m, hm, em⟩ := Gx.pick (l := [1000000007, 998244353, 2147483629, 1000000009]) (P := fun m => 0 < m ∧ m < 2147483648) (by decide) (i := k % 4) (by omega) (by show k % 4 < 4; omega)
    refine Rd.ixL (Rd.sql upd_same) em ?_
    have m0 := Int.emod_nonneg c (show m ≠ 0 by omega)
    have m1 := Int.emod_lt_of_pos c hm.1
    walk_at "rd"
    refine q _ _ (Rd.ex_new hp) (by omega) (by omega)
def spDraw : Sp := fun vs H Q _ => ∃ (c : Int) (k : Nat), vs = [.int c, .int k] ∧ ∀ (H' : Hp) (d : Addr), H d = none → Rd.Ex H H' → Dr H' d (1000 * k) → Q (.ref d) H'
theorem cal__law_draw (T : Txt K mg C_DrawError C_BadWord C_BadNumber R_ROUNDS CO__law_wrong_right) : C8.Cal P w K mg base 1 "_law_draw" spDraw [] := by
  obtain ⟨f, fd, F, b⟩ := T.d__law_draw
  refine C8.cal0 F b .nil sc__law_draw (fun vs H Q E h => ?_) (fun cdv A outer s H vs Q E hr h => ?_)
  · obtain ⟨c, k, rfl, _⟩ := h; rfl
  · obtain ⟨c, k, rfl, q⟩ := h
    refine ⟨_, (pss_one (ps_ret (pe_disp (pps_cons pe_str (pe_ifExp (pt_cmpR op_ge (pv 0) (pe_op op_pow pe_int pe_int) (nomark _)) (pv 0) pe_int) (pps_cons pe_str (pv 0) (pps_cons pe_str (pe_op op_mul pe_int (pv 1)) pps_nil))) rfl rfl (by simp) (by decide)))), ?_⟩
    walk_at "rd"
    intro p hp
    walk_at "rd"
    have fin : ∀ l : Int, 0 ≤ l → upd H p (.dK []) p = some (HO.dK []) ∧ ∃ kvs : List (Key × V), [(V.str "left", V.int l), (V.str "cell", V.int c), (V.str "turns", V.int (1000 * (k : Int)))] = kvs.map (fun kv => (kV kv.1, kv.2)) ∧ kvs.length ≤ 15 ∧ Q (.ref p) (upd (upd H p (.dK [])) p (.dK (mergeK [] kvs))) := fun l hl => by
      refine ⟨upd_same, [(kLeft, .int l), (kCell, .int c), (kTurns, .int (1000 * (k : Int)))], rfl, by show 3 ≤ 15; decide, ?_⟩
      rw [Gx.merge3 n_lc n_lt n_ct]
      refine q _ p hp (Rd.ex_mut (Rd.ex_new hp) hp) ⟨l, c, 1000 * (k : Int), upd_same, hl, by omega, by omega⟩
    refine Rd.both (fun h => ?_) (fun h => ?_)
    · have h0 : (10 : Int) ^ Int.toNat 18 = 1000000000000000000 := by decide
      walk_at "rd"
      exact fin c (by rw [h0] at h; omega)
    · walk_at "rd"
      exact fin 0 (by omega)
def spDigit : Sp := fun vs H Q _ => ∃ (d : Addr) (n : Nat) (b : Int), vs = [.ref d, .int b] ∧ 0 < b ∧ b < 2 ^ 90 ∧ n ≤ 1000000 ∧ Dr H d n ∧ ∀ (H' : Hp) (v : Int), 0 ≤ v → v < b → Dr H' d (n + 4) → ExD d H H' → Q (.int v) H'
theorem u_mixed {H : Hp} {Q : VK} {E : XK} {c k : Int} (h0 : 0 ≤ k) (h1 : k < 2 ^ 40) (q : ∀ (H' : Hp) (v : Int), Rd.Ex H H' → 0 ≤ v → v < 2147483647 → Q (.int v) H') : spMixed ([.int c, .int k] ++ []) H Q E := ⟨c, k, rfl, h0, h1, q⟩
theorem cal__law_digit (T : Txt K mg C_DrawError C_BadWord C_BadNumber R_ROUNDS CO__law_wrong_right) : C8.Cal P w K mg base 2 "_law_digit" spDigit [] := by
  obtain ⟨f, fd, F, b⟩ := T.d__law_digit
  refine C8.cal0 F b .nil sc__law_digit (fun vs H Q E h => ?_) (fun cdv A outer s H vs Q E hr h => ?_)
  · obtain ⟨d, n, b, rfl, _⟩ := h; rfl
  · obtain ⟨d, n, m, rfl, m0, m1, hn, ⟨left, cell, turns, D⟩, q⟩ := h
    have hu := hu_of hr
    have hu64 := hr.units
    refine ⟨_, (C8.pss_cut (ps_if (pt_cmpR op_eq (pe_dget hu (pv 0) pe_str (fun _ _ => rfl)) pe_int (nomark _)) (pss_one (ps_for PassesOwn.never rfl (pi_range1 rfl T.b_range (pa_cons pe_int pa_nil)) (pg_name (i := 2) sc__law_digit.nd rfl (.inl rfl)) (pss_cons (ps_dput hu (pv 0) pe_str (pe_op op_add (pe_dget hu (pv 0) pe_str (fun _ _ => rfl)) pe_int) rfl)
      (pss_one (ps_dput hu (pv 0) pe_str (pe_op op_add (pe_op op_mul (pe_dget hu (pv 0) pe_str (fun _ _ => rfl)) pe_int) (C8.pe_c (cal__law_mixed T) hr (by omega) (by rfl) (pa_cons (pe_dget hu (pv 0) pe_str (fun _ _ => rfl)) (pa_cons (pe_dget hu (pv 0) pe_str (fun _ _ => rfl)) pa_nil)))) rfl))))) pss_nil)
      (pss_cons (ps_set (i := 3) sc__law_digit.nd rfl (.inl rfl) (pe_op op_mod (pe_dget hu (pv 0) pe_str (fun _ _ => rfl)) (pv 1)))
      (pss_cons (ps_dput hu (pv 0) pe_str (pe_op op_fdivW (pe_dget hu (pv 0) pe_str (fun _ _ => rfl)) (pv 1)) rfl)
      (pss_one (ps_ret (pv 3)))))), ?_⟩
    walk_at "rd"
    refine Rd.cut (fun σ' H' => ∃ y2 y3 l t, σ' = [some (.ref d), some (.int m), y2, y3] ∧ DrAt H' d l cell t (n + 4) ∧ ExD d H H') ?_ ?_
    · walk_at "rd"
      refine Gx.u_get D.dic Gx.val1 ?_
      walk_at "rd"
      have t0 := D.t0
      have t1 := D.t1
      refine Rd.both (fun c => ?_) (fun c => ?_)
      · walk_at "rd"
        refine Rd.frN (n := 4) rfl (by decide) (fun i σ' H' => ∃ y2 y3 l, σ' = [some (.ref d), some (.int m), y2, y3] ∧ DrAt H' d l cell (turns + i) (n + i) ∧ ExD d H H') ⟨none, none, left, rfl, ⟨by simpa using D.dic, D.l0, by omega, by omega⟩, .refl H⟩ ?_ ?_
        · rintro i σ' H' hi ⟨y2, y3, l, rfl, D1, x1⟩
          have l0 := D1.l0
          have s0 := D1.t0
          have s1 := D1.t1
          walk_at "rd"
          refine Gx.u_get D1.dic (Gx.val3 n_lt n_ct) ?_
          walk_at "rd"
          refine Gx.u_put D1.dic (by show 3 < 1000; decide) (Gx.put3 n_lt n_ct) ?_
          walk_at "rd"
          generalize hH2 : upd H' d (.dK [(kLeft, .int l), (kCell, .int cell), (kTurns, .int (turns + i + 1))]) = H2
          have D2 : H2 d = some (.dK [(kLeft, .int l), (kCell, .int cell), (kTurns, .int (turns + i + 1))]) := by subst hH2; exact upd_same
          have x2 : ExD d H H2 := by subst hH2; exact x1.put
          refine Gx.u_get D2 Gx.val1 ?_
          walk_at "rd"
          refine Gx.u_get D2 (Gx.val2 n_lc) ?_
          walk_at "rd"
          refine Gx.u_get D2 (Gx.val3 n_lt n_ct) ?_
          walk_at "rd"
          refine u_mixed (by omega) (by omega) fun H3 v e3 v0 v1 => ?_
          walk_at "rd"
          refine Gx.u_put (e3 _ _ D2) (by show 3 < 1000; decide) (Gx.put1 n_cl n_tl) ?_
          walk_at "rd"
          refine ⟨_, _, l * 2147483647 + v, rfl, ⟨?_, by omega, by omega, by omega⟩, (x2.trans (.of e3)).put⟩
          rw [upd_same, show turns + ((i + 1 : Nat) : Int) = turns + i + 1 by omega]
        · rintro σ' H' ⟨y2, y3, l, rfl, D1, x1⟩
          walk_at "rd"
          exact ⟨_, _, _, _, rfl, D1, x1⟩
      · walk_at "rd"
        exact ⟨_, _, _, _, rfl, ⟨D.dic, D.l0, D.t0, by omega⟩, .refl H⟩
    · rintro σ' H' ⟨y2, y3, l, t, rfl, D2, x2⟩
      have l0 := D2.l0
      walk_at "rd"
      refine Gx.u_get D2.dic Gx.val1 ?_
      walk_at "rd"
      refine Gx.u_get D2.dic Gx.val1 ?_
      walk_at "rd"
      refine Gx.u_put D2.dic (by show 3 < 1000; decide) (Gx.put1 n_cl n_tl) ?_
      walk_at "rd"
      exact q _ _ (Int.emod_nonneg _ (by omega)) (Int.emod_lt_of_pos _ m0) ⟨l / m, cell, t, upd_same, Int.ediv_nonneg l0 (by omega), D2.t0, D2.t1⟩ x2.put
end
end Pf

set_option Elab.async false
set_option linter.all false
set_option maxRecDepth 100000
set_option maxHeartbeats 4000000
namespace Pf
open PySem PySem.Spec PyProof.Rows L2
section
variable {P : Program} {w : World} {K : PySem.W.Frag} {mg : Str → Option Value} {base : Heap} {C_DrawError C_BadWord C_BadNumber R_ROUNDS CO__law_wrong_right : Addr}
local macro_rules | `(tactic| walk_at "side") => `(tactic| first | ((with_reducible show L2.CMul _ _); first | exact Or.inl ⟨by omega, by omega⟩ | exact Or.inr ⟨by omega, by omega⟩) | ((with_reducible show L2.CPow _ _); exact ⟨by decide, by decide, by decide⟩) | ((with_reducible show L2.CMulW _ _); exact wide_mul (a := 96) (b := 96) (by omega) (by omega) (by decide) (by decide) (by decide)) | ((with_reducible show L2.CDivW _ _); exact wide_div (b := 96) (by omega) (by omega) (by decide) (by decide)) | (show (0 : Int) < _; omega) | (show (0 : Int) ≤ _; omega))
local macro_rules | `(tactic| walk_at "rd1") => `(tactic| first | with_reducible refine Rd.seq ?_ | with_reducible refine Rd.asg ?_ | with_reducible refine Rd.nm ?_ | with_reducible refine Rd.ret ?_ | with_reducible refine Rd.drop ?_ | with_reducible refine Rd.ifs ?_ | with_reducible refine Rd.par ?_ | with_reducible refine Rd.par3 ?_ | with_reducible refine Rd.next ?_ | with_reducible refine Rd.fr1 ?_ | with_reducible refine Rd.nxp ?_ | with_reducible refine Rd.rtp ?_ | ((with_reducible show tVar _ _ _ _); refine Rd.var rfl ?_) | with_reducible refine Rd.cst ?_ | with_reducible refine Rd.op ?_ | with_reducible refine Rd.un ?_ | with_reducible refine Rd.i0 ?_ | with_reducible refine Rd.ung ?_ | with_reducible refine Rd.eqI ?_ | with_reducible refine Rd.neI ?_ | with_reducible refine Rd.eqS ?_ | with_reducible refine Rd.neS ?_ | with_reducible refine Rd.test ?_ | with_reducible refine Rd.tstB ?_ | with_reducible refine Rd.isB ?_ | with_reducible refine Rd.not ?_ | with_reducible refine Rd.andT ?_ | with_reducible refine Rd.orT ?_ | with_reducible refine Rd.andV ?_ | with_reducible refine Rd.orV ?_ | with_reducible refine Rd.notV ?_ | with_reducible refine Rd.ifE ?_ | with_reducible refine Rd.chain ?_ | with_reducible refine Rd.nil ?_ | with_reducible refine Rd.cons ?_ | with_reducible refine Rd.call ?_ | with_reducible refine Rd.cb ?_ | with_reducible refine Rd.bm ?_ | with_reducible refine Rd.revL ?_ | with_reducible refine Rd.frl ?_ | with_reducible refine Rd.frt ?_ | with_reducible refine Rd.fre ?_ | with_reducible refine Rd.disp ?_ | with_reducible refine Rd.pnil ?_ | with_reducible refine Rd.pcons ?_ | with_reducible refine Rd.gcons ?_ | with_reducible refine Rd.gnil ?_ | with_reducible refine Rd.gsub ?_ | with_reducible refine Rd.setD ?_ | ((with_reducible show gTup _ _ _ _ _ (upd _ _ (HO.tup _)) _); refine Rd.tupNew rfl ?_) | with_reducible refine Rd.fld ?_ | with_reducible refine Rd.meth ?_ | with_reducible refine Rd.make ?_ | with_reducible refine Rd.prop ?_ | with_reducible refine Rd.tup ?_ | with_reducible refine Rd.lst ?_ | ((with_reducible show (List.length _ ≤ sizeLine ∧ ∀ p, _ = none → _)); refine ⟨Nat.le_of_ble_eq_true rfl, ?_⟩) | with_reducible refine Rd.isInt ?_ | with_reducible refine Rd.isBool ?_ | with_reducible refine Rd.mx2 ?_ | with_reducible refine Rd.mn2 ?_ | ((with_reducible show Rd.rAndM _ _ _ _); first | refine Rd.and1 ?_ | refine Rd.and48 ?_ | refine Rd.and32 ?_ | refine Rd.and64 ?_ | refine Rd.and65 ?_) | ((with_reducible refine Rd.iC ?hc ?_); (case hc => walk_at "side")) | ((with_reducible refine Rd.yes ?hc ?_); (case hc => omega)) | ((with_reducible refine Rd.no ?hc ?_); (case hc => omega)) | ((with_reducible refine Rd.noN ?hc ?_); (case hc => omega)) | ((with_reducible refine Rd.yesN ?hc ?_); (case hc => omega)) | ((with_reducible refine Rd.yesNN ?hc ?_); (case hc => omega)) | ((with_reducible refine Rd.noNN ?hc ?_); (case hc => omega)) | with_reducible refine iteT ?_ | with_reducible refine iteF ?_ | with_reducible refine Rd.iteNT ?_ | with_reducible refine Rd.iteNF ?_)
local macro_rules | `(tactic| walk_at "rd") => `(tactic| repeat (walk_at "rd1"))
local macro_rules | `(tactic| walk_at "rd1") => `(tactic| first | with_reducible refine Gx.dget ?_ | with_reducible refine Gx.dput ?_)
/-- a value that is no integer -/
def NonInt (H : Hp) (v : V) : Prop := v = .non ∨ (∃ b, v = .bl b) ∨ (∃ s, v = .str s) ∨ (∃ a xs, v = .ref a ∧ H a = some (.tup xs)) ∨ (∃ a xs, v = .ref a ∧ H a = some (.lst xs)) ∨ ∃ a kvs, v = .ref a ∧ H a = some (.dK kvs)
theorem NonInt.ex {H H' : Hp} {v : V} (e : Rd.Ex H H') (h : NonInt H v) : NonInt H' v := by
  rcases h with h | h | h | ⟨a, xs, h, k⟩ | ⟨a, xs, h, k⟩ | ⟨a, xs, h, k⟩
  · exact .inl h
  · exact .inr (.inl h)
  · exact .inr (.inr (.inl h))
  · exact .inr (.inr (.inr (.inl ⟨a, xs, h, e _ _ k⟩)))
  · exact .inr (.inr (.inr (.inr (.inl ⟨a, xs, h, e _ _ k⟩))))
  · exact .inr (.inr (.inr (.inr (.inr ⟨a, xs, h, e _ _ k⟩))))
theorem isiB {K : PySem.W.Frag} {H : Hp} {Q : VK} {v : V} {t : String} {T : Value} {r : Bool} (h : TyX K H v T) (k : PySem.W.kitOne K T (.type t) = some r) (q : Q (.bl r) H) : rIsi K [v, .ty t] H Q := ⟨_, _, T, _, r, rfl, .ty _, h, k, q⟩
theorem kit_t (K : PySem.W.Frag) : PySem.W.kitOne K (.type "NoneType") (.type "int") = some false ∧ PySem.W.kitOne K (.type "bool") (.type "int") = some true ∧ PySem.W.kitOne K (.type "bool") (.type "bool") = some true ∧ PySem.W.kitOne K (.type "str") (.type "int") = some false ∧
    PySem.W.kitOne K (.type "tuple") (.type "int") = some false ∧ PySem.W.kitOne K (.type "list") (.type "int") = some false ∧ PySem.W.kitOne K (.type "dict") (.type "int") = some false := by
  refine ⟨?_, ?_, ?_, ?_, ?_, ?_, ?_⟩ <;> first | rfl | decide +kernel | kernel_rfl
def spIsInt : Sp := fun vs H Q _ => ∃ v, vs = [v] ∧ ((∃ n : Int, v = .int n ∧ Q (.bl true) H) ∨ (NonInt H v ∧ Q (.bl false) H))
theorem cal_is_integer (T : Txt K mg C_DrawError C_BadWord C_BadNumber R_ROUNDS CO__law_wrong_right) : C8.Cal P w K mg base 1 "is_integer" spIsInt [] := by
  obtain ⟨f, fd, F, b⟩ := T.d_is_integer
  refine C8.cal0 F b .nil sc_is_integer (fun vs H Q E h => ?_) (fun cdv A outer s H vs Q E hr h => ?_)
  · obtain ⟨v, rfl, _⟩ := h; rfl
  · obtain ⟨v, rfl, h⟩ := h
    refine ⟨_, (pss_one (ps_ret (pe_and (pe_callB call_isi (by rfl) T.b_isinstance (by decide +kernel) (pa_cons (pv 0) (pa_cons (pe_bltn (v := .ty "int") (by rfl) T.b_int (by decide +kernel) rfl) pa_nil))) (pe_one (pe_not (pe_callB call_isi (by rfl) T.b_isinstance (by decide +kernel) (pa_cons (pv 0) (pa_cons (pe_bltn (v := .ty "bool") (by rfl) T.b_bool (by decide +kernel) rfl) pa_nil)))))))), ?_⟩
    obtain ⟨k1, k2, k3, k4, k5, k6, k7⟩ := kit_t K
    rcases h with ⟨n, rfl, q⟩ | ⟨h, q⟩
    · walk_at "rd"
      exact q
    · rcases h with rfl | ⟨b, rfl⟩ | ⟨s, rfl⟩ | ⟨a, xs, rfl, ha⟩ | ⟨a, xs, rfl, ha⟩ | ⟨a, xs, rfl, ha⟩
      · walk_at "rd"
        refine isiB (.base .non) k1 ?_
        walk_at "rd"
        exact q
      · walk_at "rd"
        refine isiB (.base (.bl b)) k2 ?_
        walk_at "rd"
        refine isiB (.base (.bl b)) k3 ?_
        walk_at "rd"
        exact q
      · walk_at "rd"
        refine isiB (.base (.str s)) k4 ?_
        walk_at "rd"
        exact q
      · walk_at "rd"
        refine isiB (.base (.tup ha)) k5 ?_
        walk_at "rd"
        exact q
      · walk_at "rd"
        refine isiB (.base (.lst ha)) k6 ?_
        walk_at "rd"
        exact q
      · walk_at "rd"
        refine isiB (.base (.dK ha)) k7 ?_
        walk_at "rd"
        exact q
theorem u_isInt {n : Int} {H : Hp} {Q : VK} {E : XK} (h : Q (.bl true) H) : spIsInt ([.int n] ++ []) H Q E := ⟨.int n, rfl, .inl ⟨n, rfl, h⟩⟩
local macro_rules | `(tactic| walk_at "rd1") => `(tactic| with_reducible refine u_isInt ?_)
def spIsW : Sp := fun vs H Q _ => ∃ v, vs = [v] ∧ ((∃ n : Int, v = .int n ∧ Q (.bl (decide (0 ≤ n ∧ n < 4294967296))) H) ∨ (NonInt H v ∧ Q (.bl false) H))
theorem cal_is_word (T : Txt K mg C_DrawError C_BadWord C_BadNumber R_ROUNDS CO__law_wrong_right) : C8.Cal P w K mg base 2 "is_word" spIsW [] := by
  obtain ⟨f, fd, F, b⟩ := T.d_is_word
  refine C8.cal0 F b .nil sc_is_word (fun vs H Q E h => ?_) (fun cdv A outer s H vs Q E hr h => ?_)
  · obtain ⟨n, rfl, _⟩ := h; rfl
  · obtain ⟨v, rfl, h⟩ := h
    refine ⟨_, (pss_one (ps_ret (pe_and (C8.pe_c (cal_is_integer T) hr (by omega) (by rfl) (pa_cons (pv 0) pa_nil)) (pe_one (pe_chain op_le op_lt pe_int (pv 0) (C8.pe_gc (by rfl) T.c_WORDS)))))), ?_⟩
    rcases h with ⟨n, rfl, q⟩ | ⟨h, q⟩
    · walk_at "rd"
      refine Rd.both (fun c => ?_) (fun c => ?_)
      · walk_at "rd"
        rw [show decide (n < 4294967296) = decide (0 ≤ n ∧ n < 4294967296) by simp [c]]
        exact q
      · walk_at "rd"
        rw [decide_eq_false (fun h => c h.1)] at q
        exact q
    · walk_at "rd"
      refine ⟨v, rfl, .inr ⟨h, ?_⟩⟩
      walk_at "rd"
      exact q
def spNeed (lo hi : Int) : Sp := fun vs H Q _ => ∃ n : Int, vs = [.int n] ∧ lo ≤ n ∧ n < hi ∧ Q .non H
theorem u_need {lo hi n : Int} {H : Hp} {Q : VK} {E : XK} (h1 : lo ≤ n) (h2 : n < hi) (h : Q .non H) : spNeed lo hi ([.int n] ++ []) H Q E := ⟨n, rfl, h1, h2, h⟩
theorem cal_need_word (T : Txt K mg C_DrawError C_BadWord C_BadNumber R_ROUNDS CO__law_wrong_right) : C8.Cal P w K mg base 3 "need_word" (spNeed 0 4294967296) [] := by
  obtain ⟨f, fd, F, b⟩ := T.d_need_word
  refine C8.cal0 F b .nil sc_need_word (fun vs H Q E h => ?_) (fun cdv A outer s H vs Q E hr h => ?_)
  · obtain ⟨n, rfl, _⟩ := h; rfl
  · obtain ⟨n, rfl, h0, h1, q⟩ := h
    refine ⟨_, (pss_one (ps_if (pt_not (pt_val (C8.pe_c (cal_is_word T) hr (by omega) (by rfl) (pa_cons (pv 0) pa_nil)))) pss_never pss_nil)), ?_⟩
    walk_at "rd"
    refine ⟨.int n, rfl, .inl ⟨n, rfl, ?_⟩⟩
    rw [decide_eq_true ⟨h0, h1⟩]
    walk_at "rd"
    exact q
theorem cal_need_double (T : Txt K mg C_DrawError C_BadWord C_BadNumber R_ROUNDS CO__law_wrong_right) : C8.Cal P w K mg base 2 "need_double" (spNeed 0 18446744073709551616) [] := by
  obtain ⟨f, fd, F, b⟩ := T.d_need_double
  refine C8.cal0 F b .nil sc_need_double (fun vs H Q E h => ?_) (fun cdv A outer s H vs Q E hr h => ?_)
  · obtain ⟨n, rfl, _⟩ := h; rfl
  · obtain ⟨n, rfl, h0, h1, q⟩ := h
    refine ⟨_, (pss_one (ps_if (PW.pt (pw_or (pt_not (pt_val (C8.pe_c (cal_is_integer T) hr (by omega) (by rfl) (pa_cons (pv 0) pa_nil)))) (pw_or1 (pt_not (pt_chain op_le op_lt pe_int (pv 0) (C8.pe_gc (by rfl) T.c_DOUBLES)))))) pss_never pss_nil)), ?_⟩
    walk_at "rd"
    exact q
local macro_rules | `(tactic| walk_at "rd1") => `(tactic| ((with_reducible show spNeed _ _ _ _ _ _); refine u_need (by omega) (by omega) ?_))
/-- a number by a function of its own -/
def spFn (hi : Nat) (g : Nat → Nat) : Sp := fun vs H Q _ => ∃ n : Nat, vs = [.int n] ∧ n < hi ∧ ∀ H', Rd.Ex H H' → Q (.int (g n)) H'
theorem u_fn {hi : Nat} {g : Nat → Nat} {n : Nat} {H : Hp} {Q : VK} {E : XK} (hn : n < hi) (q : ∀ H', Rd.Ex H H' → Q (.int (g n)) H') : spFn hi g ([.int n] ++ []) H Q E := ⟨n, rfl, hn, q⟩
theorem xorN (a b : Nat) : Builtin.bitXor (a : Int) (b : Int) = ((a ^^^ b : Nat) : Int) := by
  rw [Bits.bitXor_pp (by omega) (by omega), Int.toNat_natCast, Int.toNat_natCast]
theorem shrN (a : Nat) (k : Int) (j : Nat) (h : k.toNat = j) : ((a : Int) / 2 ^ k.toNat) = ((a / 2 ^ j : Nat) : Int) := by
  rw [h]; push_cast; rfl
theorem xsN (a : Nat) (k : Int) (j : Nat) (h : k.toNat = j) : Builtin.bitXor (a : Int) ((a : Int) / 2 ^ k.toNat) = ((MX.xs j a : Nat) : Int) := by
  rw [shrN a k j h, xorN]; rfl
theorem mulmodN (a b : Nat) : (a : Int) * (b : Int) % 4294967296 = ((a * b % 4294967296 : Nat) : Int) := by
  rw [← Int.natCast_mul]
  exact (Int.natCast_emod (a * b) 4294967296).symm
theorem cal_own_tempered (T : Txt K mg C_DrawError C_BadWord C_BadNumber R_ROUNDS CO__law_wrong_right) : C8.Cal P w K mg base 1 "own_tempered" (spFn 4294967296 MX.tmp) [] := by
  obtain ⟨f, fd, F, b⟩ := T.d_own_tempered
  refine C8.cal0 F b .nil sc_own_tempered (fun vs H Q E h => ?_) (fun cdv A outer s H vs Q E hr h => ?_)
  · obtain ⟨n, rfl, _⟩ := h; rfl
  · obtain ⟨n, rfl, hn, q⟩ := h
    refine ⟨_, (pss_cons (ps_set (i := 0) sc_own_tempered.nd rfl (.inl rfl) (pe_op Rd.op_andM (pe_op op_mul (pe_op op_xor (pv 0) (pe_op op_shr (pv 0) pe_int)) (C8.pe_gc (by rfl) T.c_FACTOR)) (pe_op op_sub (C8.pe_gc (by rfl) T.c_WORDS) pe_int)))
      (pss_one (ps_ret (pe_op op_xor (pv 0) (pe_op op_shr (pv 0) pe_int))))), ?_⟩
    walk_at "rd"
    have e2 : ((MX.xs 13 n : Nat) : Int) * 3486784401 % 4294967296 = ((MX.xs 13 n * MX.F % 4294967296 : Nat) : Int) := mulmodN _ 3486784401
    rw [xsN n 13 13 rfl, e2, xsN _ 16 16 rfl]
    exact q H fun _ _ h => h
theorem cal_tempered (T : Txt K mg C_DrawError C_BadWord C_BadNumber R_ROUNDS CO__law_wrong_right) : C8.Cal P w K mg base 4 "tempered" (spFn 4294967296 MX.tmp) [] := by
  obtain ⟨f, fd, F, b⟩ := T.d_tempered
  refine C8.cal0 F b .nil sc_tempered (fun vs H Q E h => ?_) (fun cdv A outer s H vs Q E hr h => ?_)
  · obtain ⟨n, rfl, _⟩ := h; rfl
  · obtain ⟨n, rfl, hn, q⟩ := h
    refine ⟨_, (pss_cons (ps_expr (C8.pe_c (cal_need_word T) hr (by omega) (by rfl) (pa_cons (pv 0) pa_nil)))
      (pss_one (ps_ret (C8.pe_c (cal_own_tempered T) hr (by omega) (by rfl) (pa_cons (pv 0) pa_nil))))), ?_⟩
    walk_at "rd"
    refine u_fn hn q
def uf : Nat → Int
  | 0 => 3486784401
  | i + 1 => uf i * (2 - 3486784401 * uf i) % 4294967296
theorem uf_b (i : Nat) : 0 ≤ uf i ∧ uf i < 4294967296 := by
  cases i with
  | zero => decide
  | succ i => exact ⟨Int.emod_nonneg _ (by decide), Int.emod_lt_of_pos _ (by decide)⟩
def spUndo : Sp := fun vs H Q _ => vs = [] ∧ Q (.int (MX.U : Nat)) H
theorem cal_undo_factor (T : Txt K mg C_DrawError C_BadWord C_BadNumber R_ROUNDS CO__law_wrong_right) : C8.Cal P w K mg base 1 "undo_factor" spUndo [] := by
  obtain ⟨f, fd, F, b⟩ := T.d_undo_factor
  refine C8.cal0 F b .nil sc_undo_factor (fun vs H Q E h => ?_) (fun cdv A outer s H vs Q E hr h => ?_)
  · obtain ⟨rfl, _⟩ := h; rfl
  · obtain ⟨rfl, q⟩ := h
    refine ⟨_, (pss_cons (ps_set (i := 0) sc_undo_factor.nd rfl (.inl rfl) (C8.pe_gc (by rfl) T.c_FACTOR))
      (pss_cons (ps_for PassesOwn.never rfl (pi_range1 rfl T.b_range (pa_cons pe_int pa_nil)) (pg_name (i := 1) sc_undo_factor.nd rfl (.inl rfl)) (pss_one (ps_set (i := 0) sc_undo_factor.nd rfl (.inl rfl) (pe_op Rd.op_andM (pe_op op_mul (pv 0) (pe_op op_sub pe_int (pe_op op_mul (C8.pe_gc (by rfl) T.c_FACTOR) (pv 0)))) (pe_op op_sub (C8.pe_gc (by rfl) T.c_WORDS) pe_int)))))
      (pss_one (ps_ret (pv 0))))), ?_⟩
    walk_at "rd"
    refine Rd.frN (n := 4) rfl (by decide) (fun i σ' H' => ∃ y, σ' = [some (.int (uf i)), y] ∧ H' = H) ⟨none, rfl, rfl⟩ ?_ ?_
    · rintro i σ' H' hi ⟨y, rfl, rfl⟩
      have r := uf_b i
      walk_at "rd"
      exact ⟨_, rfl, rfl⟩
    · rintro σ' H' ⟨y, rfl, rfl⟩
      walk_at "rd"
      rw [show uf 4 = ((MX.U : Nat) : Int) by decide]
      exact q
theorem cal_untempered (T : Txt K mg C_DrawError C_BadWord C_BadNumber R_ROUNDS CO__law_wrong_right) : C8.Cal P w K mg base 4 "untempered" (spFn 4294967296 MX.utm) [] := by
  obtain ⟨f, fd, F, b⟩ := T.d_untempered
  refine C8.cal0 F b .nil sc_untempered (fun vs H Q E h => ?_) (fun cdv A outer s H vs Q E hr h => ?_)
  · obtain ⟨n, rfl, _⟩ := h; rfl
  · obtain ⟨n, rfl, hn, q⟩ := h
    refine ⟨_, (pss_cons (ps_expr (C8.pe_c (cal_need_word T) hr (by omega) (by rfl) (pa_cons (pv 0) pa_nil)))
      (pss_cons (ps_set (i := 0) sc_untempered.nd rfl (.inl rfl) (pe_op Rd.op_andM (pe_op op_mul (pe_op op_xor (pv 0) (pe_op op_shr (pv 0) pe_int)) (Gx.pe_c0 (cal_undo_factor T) hr (by omega) (by rfl))) (pe_op op_sub (C8.pe_gc (by rfl) T.c_WORDS) pe_int)))
      (pss_one (ps_ret (pe_op op_xor (pe_op op_xor (pv 0) (pe_op op_shr (pv 0) pe_int)) (pe_op op_shr (pv 0) pe_int)))))), ?_⟩
    walk_at "rd"
    refine ⟨rfl, ?_⟩
    have hx : MX.xs 16 n < 2 ^ 32 := MX.xs_lt hn
    have e2 : ((MX.xs 16 n : Nat) : Int) * ((MX.U : Nat) : Int) % 4294967296 = ((MX.xs 16 n * MX.U % 4294967296 : Nat) : Int) := mulmodN _ _
    rw [xsN n 16 16 rfl]
    walk_at "rd"
    rw [e2, shrN _ 13 13 rfl, shrN _ 26 26 rfl, xorN, xorN]
    exact q H fun _ _ h => h
def fsI : Nat → Nat × Nat → Nat × Nat
  | 0, p => p
  | i + 1, p => MX.fe (i + 1) (fsI i p)
theorem fsI_ok (p : Nat × Nat) (h : MX.ok p) : ∀ i, MX.ok (fsI i p)
  | 0 => h
  | i + 1 => MX.ok_fe (fsI_ok p h i)
theorem divN (n : Nat) : ((n : Int)) / 4294967296 = ((n / 4294967296 : Nat) : Int) := (Int.natCast_ediv n 4294967296).symm
theorem modN (n : Nat) : ((n : Int)) % 4294967296 = ((n % 4294967296 : Nat) : Int) := (Int.natCast_emod n 4294967296).symm
theorem at4 {i : Nat} {x : V} (h : (([1, 2, 3, 4] : List Int).map V.int)[i]? = some x) : i < 4 ∧ x = .int ((i : Int) + 1) := by
  have hi : i < 4 := by
    rcases Nat.lt_or_ge i 4 with h' | h'
    · exact h'
    · rw [List.getElem?_eq_none (by simpa using h')] at h; cases h
  refine ⟨hi, ?_⟩
  have : i = 0 ∨ i = 1 ∨ i = 2 ∨ i = 3 := by omega
  rcases this with rfl | rfl | rfl | rfl <;> (simp at h; rw [← h]; rfl)
theorem cal_mixed (T : Txt K mg C_DrawError C_BadWord C_BadNumber R_ROUNDS CO__law_wrong_right) : C8.Cal P w K mg base 4 "mixed" (spFn 18446744073709551616 MX.mix) [] := by
  obtain ⟨f, fd, F, b⟩ := T.d_mixed
  refine C8.cal0 F b .nil sc_mixed (fun vs H Q E h => ?_) (fun cdv A outer s H vs Q E hr h => ?_)
  · obtain ⟨n, rfl, _⟩ := h; rfl
  · obtain ⟨n, rfl, hn, q⟩ := h
    refine ⟨_, (pss_cons (ps_expr (C8.pe_c (cal_need_double T) hr (by omega) (by rfl) (pa_cons (pv 0) pa_nil)))
      (pss_cons (ps_par (i := 1) (j := 2) rfl sc_mixed.nd rfl rfl (by decide) rfl rfl (pa_cons (pe_op op_fdivW (pv 0) (C8.pe_gc (by rfl) T.c_WORDS)) (pa_cons (pe_op Rd.op_andM (pv 0) (pe_op op_sub (C8.pe_gc (by rfl) T.c_WORDS) pe_int)) pa_nil)) (by rfl))
      (pss_cons (ps_for PassesOwn.never rfl (pi_tup (C8.pe_gc (by rfl) T.c_ROUNDS)) (pg_name (i := 3) sc_mixed.nd rfl (.inl rfl)) (pss_one (ps_par (i := 1) (j := 2) rfl sc_mixed.nd rfl rfl (by decide) rfl rfl (pa_cons (pv 2) (pa_cons (pe_op op_xor (pv 1) (C8.pe_c (cal_own_tempered T) hr (by omega) (by rfl) (pa_cons (pe_op Rd.op_andM (pe_op op_add (pv 2) (pe_op op_mul (C8.pe_gc (by rfl) T.c_MIX_STEP) (pv 3))) (pe_op op_sub (C8.pe_gc (by rfl) T.c_WORDS) pe_int)) pa_nil))) pa_nil)) (by rfl))))
      (pss_one (ps_ret (pe_op op_add (pe_op op_mul (pv 1) (C8.pe_gc (by rfl) T.c_WORDS)) (pv 2))))))), ?_⟩
    walk_at "rd"
    refine ⟨_, _, rfl, ?_⟩
    walk_at "rd"
    rw [divN, modN]
    refine ⟨R_ROUNDS, rfl, ⟨_, T.s_ROUNDS H⟩, for_tup (xs := ([1, 2, 3, 4] : List Int).map V.int) (fun i σ' H' => ∃ y, σ' = [some (.int n), some (.int (fsI i (MX.spl n)).1), some (.int (fsI i (MX.spl n)).2), y] ∧ Rd.Ex H H') ⟨none, rfl, fun _ _ h => h⟩ ?_ ?_ ?_⟩
    · rintro i σ' H' hi _
      exact T.s_ROUNDS H'
    · rintro i x σ' H' hx ⟨y, rfl, e⟩
      obtain ⟨hi, rfl⟩ := at4 hx
      have ho := fsI_ok _ (MX.ok_spl hn) i
      generalize hp : fsI i (MX.spl n) = p at ho
      have e2 : ((p.2 : Nat) : Int) + 1000003 * ((i : Int) + 1) = ((p.2 + 1000003 * (i + 1) : Nat) : Int) := by omega
      walk_at "rd"
      rw [e2, modN]
      refine u_fn (Nat.mod_lt _ (by decide)) fun H2 f2 => ?_
      walk_at "rd"
      refine ⟨_, _, rfl, ?_⟩
      rw [xorN]
      refine ⟨some (.int ((i : Int) + 1)), ?_, e.trans f2⟩
      show _ = [some (V.int n), some (V.int (MX.fe (i + 1) (fsI i (MX.spl n))).1), some (V.int (MX.fe (i + 1) (fsI i (MX.spl n))).2), some (.int ((i : Int) + 1))]
      rw [hp]
      rfl
    · rintro σ' H' ⟨y, rfl, e⟩
      have ho := fsI_ok _ (MX.ok_spl hn) 4
      have e3 : ((MX.mix n : Nat) : Int) = ((fsI 4 (MX.spl n)).1 : Int) * 4294967296 + ((fsI 4 (MX.spl n)).2 : Int) := by
        show ((((fsI 4 (MX.spl n)).1 * 4294967296 + (fsI 4 (MX.spl n)).2 : Nat)) : Int) = _
        omega
      have ho : MX.ok (fsI (List.map V.int ([1, 2, 3, 4] : List Int)).length (MX.spl n)) := ho
      walk_at "rd"
      have q2 := q H' e
      rw [e3] at q2
      exact q2
end
end Pf

set_option Elab.async false
set_option linter.all false
set_option maxRecDepth 100000
set_option maxHeartbeats 4000000
namespace Pf
open PySem PySem.Spec PyProof.Rows L2
section
variable {P : Program} {w : World} {K : PySem.W.Frag} {mg : Str → Option Value} {base : Heap} {C_DrawError C_BadWord C_BadNumber R_ROUNDS CO__law_wrong_right : Addr}
local macro_rules | `(tactic| walk_at "side") => `(tactic| first | ((with_reducible show L2.CMul _ _); first | exact Or.inl ⟨by omega, by omega⟩ | exact Or.inr ⟨by omega, by omega⟩) | ((with_reducible show L2.CPow _ _); exact ⟨by decide, by decide, by decide⟩) | ((with_reducible show L2.CMulW _ _); exact wide_mul (a := 96) (b := 96) (by omega) (by omega) (by decide) (by decide) (by decide)) | ((with_reducible show L2.CDivW _ _); exact wide_div (b := 96) (by omega) (by omega) (by decide) (by decide)) | (show (0 : Int) < _; omega) | (show (0 : Int) ≤ _; omega))
local macro_rules | `(tactic| walk_at "rd1") => `(tactic| first | with_reducible refine Rd.seq ?_ | with_reducible refine Rd.asg ?_ | with_reducible refine Rd.nm ?_ | with_reducible refine Rd.ret ?_ | with_reducible refine Rd.drop ?_ | with_reducible refine Rd.ifs ?_ | with_reducible refine Rd.par ?_ | with_reducible refine Rd.par3 ?_ | with_reducible refine Rd.next ?_ | with_reducible refine Rd.fr1 ?_ | with_reducible refine Rd.nxp ?_ | with_reducible refine Rd.rtp ?_ | ((with_reducible show tVar _ _ _ _); refine Rd.var rfl ?_) | with_reducible refine Rd.cst ?_ | with_reducible refine Rd.op ?_ | with_reducible refine Rd.un ?_ | with_reducible refine Rd.i0 ?_ | with_reducible refine Rd.ung ?_ | with_reducible refine Rd.eqI ?_ | with_reducible refine Rd.neI ?_ | with_reducible refine Rd.eqS ?_ | with_reducible refine Rd.neS ?_ | with_reducible refine Rd.test ?_ | with_reducible refine Rd.tstB ?_ | with_reducible refine Rd.isB ?_ | with_reducible refine Rd.not ?_ | with_reducible refine Rd.andT ?_ | with_reducible refine Rd.orT ?_ | with_reducible refine Rd.andV ?_ | with_reducible refine Rd.orV ?_ | with_reducible refine Rd.notV ?_ | with_reducible refine Rd.ifE ?_ | with_reducible refine Rd.chain ?_ | with_reducible refine Rd.nil ?_ | with_reducible refine Rd.cons ?_ | with_reducible refine Rd.call ?_ | with_reducible refine Rd.cb ?_ | with_reducible refine Rd.bm ?_ | with_reducible refine Rd.revL ?_ | with_reducible refine Rd.frl ?_ | with_reducible refine Rd.frt ?_ | with_reducible refine Rd.fre ?_ | with_reducible refine Rd.disp ?_ | with_reducible refine Rd.pnil ?_ | with_reducible refine Rd.pcons ?_ | with_reducible refine Rd.gcons ?_ | with_reducible refine Rd.gnil ?_ | with_reducible refine Rd.gsub ?_ | with_reducible refine Rd.setD ?_ | ((with_reducible show gTup _ _ _ _ _ (upd _ _ (HO.tup _)) _); refine Rd.tupNew rfl ?_) | with_reducible refine Rd.fld ?_ | with_reducible refine Rd.meth ?_ | with_reducible refine Rd.make ?_ | with_reducible refine Rd.prop ?_ | with_reducible refine Rd.tup ?_ | with_reducible refine Rd.lst ?_ | ((with_reducible show (List.length _ ≤ sizeLine ∧ ∀ p, _ = none → _)); refine ⟨Nat.le_of_ble_eq_true rfl, ?_⟩) | with_reducible refine Rd.isInt ?_ | with_reducible refine Rd.isBool ?_ | with_reducible refine Rd.mx2 ?_ | with_reducible refine Rd.mn2 ?_ | ((with_reducible show Rd.rAndM _ _ _ _); first | refine Rd.and1 ?_ | refine Rd.and48 ?_ | refine Rd.and32 ?_ | refine Rd.and64 ?_ | refine Rd.and65 ?_) | ((with_reducible refine Rd.iC ?hc ?_); (case hc => walk_at "side")) | ((with_reducible refine Rd.yes ?hc ?_); (case hc => omega)) | ((with_reducible refine Rd.no ?hc ?_); (case hc => omega)) | ((with_reducible refine Rd.noN ?hc ?_); (case hc => omega)) | ((with_reducible refine Rd.yesN ?hc ?_); (case hc => omega)) | ((with_reducible refine Rd.yesNN ?hc ?_); (case hc => omega)) | ((with_reducible refine Rd.noNN ?hc ?_); (case hc => omega)) | with_reducible refine iteT ?_ | with_reducible refine iteF ?_ | with_reducible refine Rd.iteNT ?_ | with_reducible refine Rd.iteNF ?_)
local macro_rules | `(tactic| walk_at "rd") => `(tactic| repeat (walk_at "rd1"))
local macro_rules | `(tactic| walk_at "rd1") => `(tactic| first | with_reducible refine Gx.dget ?_ | with_reducible refine Gx.dput ?_)
local macro_rules | `(tactic| walk_at "rd1") => `(tactic| with_reducible refine u_isInt ?_)
local macro_rules | `(tactic| walk_at "rd1") => `(tactic| ((with_reducible show spNeed _ _ _ _ _ _); refine u_need (by omega) (by omega) ?_))
local macro_rules | `(tactic| walk_at "rd1") => `(tactic| with_reducible refine Gx.revT ?_)
def bsI : Nat → Nat × Nat → Nat × Nat
  | 0, p => p
  | i + 1, p => MX.bk (4 - i) (bsI i p)
theorem bsI_ok (p : Nat × Nat) (h : MX.ok p) : ∀ i, MX.ok (bsI i p)
  | 0 => h
  | i + 1 => MX.ok_bk (bsI_ok p h i)
theorem at4r {i : Nat} {x : V} (h : (([4, 3, 2, 1] : List Int).map V.int)[i]? = some x) : i < 4 ∧ x = .int (4 - (i : Int)) := by
  have hi : i < 4 := by
    rcases Nat.lt_or_ge i 4 with h' | h'
    · exact h'
    · rw [List.getElem?_eq_none (by simpa using h')] at h; cases h
  refine ⟨hi, ?_⟩
  have : i = 0 ∨ i = 1 ∨ i = 2 ∨ i = 3 := by omega
  rcases this with rfl | rfl | rfl | rfl <;> (simp at h; rw [← h]; rfl)
theorem cal_unmixed (T : Txt K mg C_DrawError C_BadWord C_BadNumber R_ROUNDS CO__law_wrong_right) : C8.Cal P w K mg base 4 "unmixed" (spFn 18446744073709551616 MX.unm) [] := by
  obtain ⟨f, fd, F, b⟩ := T.d_unmixed
  refine C8.cal0 F b .nil sc_unmixed (fun vs H Q E h => ?_) (fun cdv A outer s H vs Q E hr h => ?_)
  · obtain ⟨n, rfl, _⟩ := h; rfl
  · obtain ⟨n, rfl, hn, q⟩ := h
    refine ⟨_, (pss_cons (ps_expr (C8.pe_c (cal_need_double T) hr (by omega) (by rfl) (pa_cons (pv 0) pa_nil)))
      (pss_cons (ps_par (i := 1) (j := 2) rfl sc_unmixed.nd rfl rfl (by decide) rfl rfl (pa_cons (pe_op op_fdivW (pv 0) (C8.pe_gc (by rfl) T.c_WORDS)) (pa_cons (pe_op Rd.op_andM (pv 0) (pe_op op_sub (C8.pe_gc (by rfl) T.c_WORDS) pe_int)) pa_nil)) (by rfl))
      (pss_cons (ps_for PassesOwn.never rfl (pi_tup (Gx.pe_revT (C8.pe_gc (by rfl) T.c_ROUNDS))) (pg_name (i := 3) sc_unmixed.nd rfl (.inl rfl)) (pss_one (ps_par (i := 1) (j := 2) rfl sc_unmixed.nd rfl rfl (by decide) rfl rfl (pa_cons (pe_op op_xor (pv 2) (C8.pe_c (cal_own_tempered T) hr (by omega) (by rfl) (pa_cons (pe_op Rd.op_andM (pe_op op_add (pv 1) (pe_op op_mul (C8.pe_gc (by rfl) T.c_MIX_STEP) (pv 3))) (pe_op op_sub (C8.pe_gc (by rfl) T.c_WORDS) pe_int)) pa_nil))) (pa_cons (pv 1) pa_nil)) (by rfl))))
      (pss_one (ps_ret (pe_op op_add (pe_op op_mul (pv 1) (C8.pe_gc (by rfl) T.c_WORDS)) (pv 2))))))), ?_⟩
    walk_at "rd"
    refine ⟨_, _, rfl, ?_⟩
    walk_at "rd"
    rw [divN, modN]
    refine ⟨R_ROUNDS, _, _, _, _, rfl, T.s_ROUNDS H, fun t ht => ?_⟩
    have e0 : Rd.Ex H (upd H t (.tup (([4, 3, 2, 1] : List Int).map V.int))) := Rd.ex_new ht
    refine ⟨t, rfl, ⟨_, Rd.sqt upd_same⟩, for_tup (xs := ([4, 3, 2, 1] : List Int).map V.int) (fun i σ' H' => ∃ y, σ' = [some (.int n), some (.int (bsI i (MX.spl n)).1), some (.int (bsI i (MX.spl n)).2), y] ∧ Rd.Ex H H' ∧ H' t = some (.tup (([4, 3, 2, 1] : List Int).map V.int))) ⟨none, rfl, e0, upd_same⟩ ?_ ?_ ?_⟩
    · rintro i σ' H' hi ⟨y, rfl, e, h⟩
      exact Rd.sqt h
    · rintro i x σ' H' hx ⟨y, rfl, e, ht'⟩
      obtain ⟨hi, rfl⟩ := at4r hx
      have ho := bsI_ok _ (MX.ok_spl hn) i
      generalize hp : bsI i (MX.spl n) = p at ho
      have e2 : ((p.1 : Nat) : Int) + 1000003 * (4 - (i : Int)) = ((p.1 + 1000003 * (4 - i) : Nat) : Int) := by omega
      walk_at "rd"
      rw [e2, modN]
      refine u_fn (Nat.mod_lt _ (by decide)) fun H2 f2 => ?_
      walk_at "rd"
      refine ⟨_, _, rfl, ?_⟩
      rw [xorN]
      refine ⟨some (.int (4 - (i : Int))), ?_, e.trans f2, f2 _ _ ht'⟩
      show _ = [some (V.int n), some (V.int (MX.bk (4 - i) (bsI i (MX.spl n))).1), some (V.int (MX.bk (4 - i) (bsI i (MX.spl n))).2), some (.int (4 - (i : Int)))]
      rw [hp]
      rfl
    · rintro σ' H' ⟨y, rfl, e, _⟩
      have ho := bsI_ok _ (MX.ok_spl hn) 4
      have e3 : ((MX.unm n : Nat) : Int) = ((bsI 4 (MX.spl n)).1 : Int) * 4294967296 + ((bsI 4 (MX.spl n)).2 : Int) := by
        show ((((bsI 4 (MX.spl n)).1 * 4294967296 + (bsI 4 (MX.spl n)).2 : Nat)) : Int) = _
        omega
      have ho : MX.ok (bsI (List.map V.int ([4, 3, 2, 1] : List Int)).length (MX.spl n)) := ho
      walk_at "rd"
      have q2 := q H' e
      rw [e3] at q2
      exact q2
/-! ### the law's own -/
theorem fr2 {ta : TA} {g : TG} {tb : TS} {D : Ends} {σ : L2.St} {H : Hp} (h : ta σ H fun vs H1 => ∃ i j : Int, vs = [.int i, .int j] ∧ (-(2 ^ 62) ≤ i ∧ i < 2 ^ 62 ∧ -(2 ^ 62) ≤ j ∧ j < 2 ^ 62) ∧ ∃ W : Nat → Nat → L2.St → Hp → Prop, (∃ m, W 0 m σ H1) ∧ ∀ k m σ H, W k m σ H →
    ((Itr i (j - i).toNat).stop k H ∧ D.nx σ H) ∨ ((Itr i (j - i).toNat).go k H ∧ ∃ N : L2.St → Hp → Prop, (∀ σ' H', N σ' H' → ∃ m', m' < m ∧ W (k + 1) m' σ' H') ∧ ∀ x H', (Itr i (j - i).toNat).yld k H x H' → g x σ H' fun σ2 H2 => tb { D with nx := N, ct := N, bk := D.nx } σ2 H2)) : tFor (iRng2 ta) g tb D σ H := h
theorem u_digit {H : Hp} {Q : VK} {E : XK} {d : Addr} {n : Nat} {b : Int} (h0 : 0 < b) (h1 : b < 2 ^ 90) (hn : n ≤ 1000000) (D : Dr H d n) (q : ∀ (H' : Hp) (v : Int), 0 ≤ v → v < b → Dr H' d (n + 4) → ExD d H H' → Q (.int v) H') : spDigit ([.ref d, .int b] ++ []) H Q E := ⟨d, n, b, rfl, h0, h1, hn, D, q⟩
def spWord : Sp := fun vs H Q _ => ∃ (d : Addr) (n : Nat), vs = [.ref d] ∧ n ≤ 900000 ∧ Dr H d n ∧ ∀ (H' : Hp) (v : Nat), v < 4294967296 → Dr H' d (n + 12) → ExD d H H' → Q (.int v) H'
theorem cal__law_word (T : Txt K mg C_DrawError C_BadWord C_BadNumber R_ROUNDS CO__law_wrong_right) : C8.Cal P w K mg base 3 "_law_word" spWord [] := by
  obtain ⟨f, fd, F, b⟩ := T.d__law_word
  refine C8.cal0 F b .nil sc__law_word (fun vs H Q E h => ?_) (fun cdv A outer s H vs Q E hr h => ?_)
  · obtain ⟨d, n, rfl, _⟩ := h; rfl
  · obtain ⟨d, n, rfl, hn, D, q⟩ := h
    refine ⟨_, (pss_cons (ps_set (i := 1) sc__law_word.nd rfl (.inl rfl) (pe_lst (pa_cons pe_int (pa_cons pe_int (pa_cons pe_int (pa_cons pe_int (pa_cons pe_int (pa_cons pe_int (pa_cons pe_int (pa_cons pe_int pa_nil))))))))))
      (pss_cons (ps_set (i := 2) sc__law_word.nd rfl (.inl rfl) (C8.pe_c (cal__law_digit T) hr (by omega) (by rfl) (pa_cons (pv 0) (pa_cons pe_int pa_nil))))
      (pss_one (ps_ret (pe_ifExp (pt_cmpR op_lt (pv 2) pe_int (nomark _)) (pe_ix ix_list (pv 1) (pv 2) (fun _ _ => rfl)) (pe_op op_add (pe_op op_mul (C8.pe_c (cal__law_digit T) hr (by omega) (by rfl) (pa_cons (pv 0) (pa_cons pe_int pa_nil))) pe_int) (C8.pe_c (cal__law_digit T) hr (by omega) (by rfl) (pa_cons (pv 0) (pa_cons pe_int pa_nil))))))))), ?_⟩
    walk_at "rd"
    intro p hp
    have D1 := D.ex (Rd.ex_new (o := .lst (([0, 1, 4294967295, 8191, 8192, 65535, 65536, 2147483648] : List Int).map V.int)) hp)
    have np : p ≠ d := by
      obtain ⟨l, c, t, D⟩ := D
      exact Ne.symm (ne_of_none D.dic hp)
    walk_at "rd"
    refine u_digit (by decide) (by decide) (by omega) D1 fun H2 v v0 v1 D2 x2 => ?_
    have xx := (ExD.of (Rd.ex_new (o := .lst (([0, 1, 4294967295, 8191, 8192, 65535, 65536, 2147483648] : List Int).map V.int)) hp)).trans x2
    have hl := x2 _ _ upd_same np
    walk_at "rd"
    refine Rd.both (fun c => ?_) (fun c => ?_)
    · walk_at "rd"
      obtain ⟨m, hm, em⟩ := Gx.pick (l := [0, 1, 4294967295, 8191, 8192, 65535, 65536, 2147483648]) (P := fun m => 0 ≤ m ∧ m < 4294967296) (by decide) (i := v) v0 c
      refine Rd.ixL (Rd.sql hl) em ?_
      walk_at "rd"
      obtain ⟨m', rfl⟩ : ∃ m' : Nat, m = (m' : Int) := ⟨m.toNat, by omega⟩
      exact q H2 m' (by omega) (D2.mono (by omega)) xx
    · walk_at "rd"
      refine u_digit (by decide) (by decide) (by omega) D2 fun H3 v' w0 w1 D3 x3 => ?_
      walk_at "rd"
      refine u_digit (by decide) (by decide) (by omega) D3 fun H4 u u0 u1 D4 x4 => ?_
      walk_at "rd"
      obtain ⟨m', hm⟩ : ∃ m' : Nat, v' * 65536 + u = (m' : Int) := ⟨(v' * 65536 + u).toNat, by omega⟩
      rw [hm]
      exact q H4 m' (by omega) D4 ((xx.trans x3).trans x4)
def spXor : Sp := fun vs H Q _ => ∃ a b : Nat, vs = [.int a, .int b] ∧ a < 2 ^ 32 ∧ b < 2 ^ 32 ∧ ∀ H', Rd.Ex H H' → Q (.int (a ^^^ b : Nat)) H'
theorem cal__law_xor (T : Txt K mg C_DrawError C_BadWord C_BadNumber R_ROUNDS CO__law_wrong_right) : C8.Cal P w K mg base 1 "_law_xor" spXor [] := by
  obtain ⟨f, fd, F, b⟩ := T.d__law_xor
  refine C8.cal0 F b .nil sc__law_xor (fun vs H Q E h => ?_) (fun cdv A outer s H vs Q E hr h => ?_)
  · obtain ⟨a, b, rfl, _⟩ := h; rfl
  · obtain ⟨a, b, rfl, ha, hb, q⟩ := h
    refine ⟨_, (pss_cons (ps_asg (pe_tup (pa_cons pe_int (pa_cons pe_int pa_nil))) (pg_tup rfl (pgs_cons (pg_name (i := 2) sc__law_xor.nd rfl (.inl rfl)) (pgs_cons (pg_name (i := 3) sc__law_xor.nd rfl (.inl rfl)) pgs_nil))))
      (pss_cons (ps_for PassesOwn.never rfl (pi_range1 rfl T.b_range (pa_cons pe_int pa_nil)) (pg_name (i := 4) sc__law_xor.nd rfl (.inl rfl)) (pss_cons (ps_if (pt_cmpR op_ne (pe_op op_mod (pe_op op_fdivW (pv 0) (pv 3)) pe_int) (pe_op op_mod (pe_op op_fdivW (pv 1) (pv 3)) pe_int) (nomark _)) (pss_one (ps_set (i := 2) sc__law_xor.nd rfl (.inl rfl) (pe_op op_add (pv 2) (pv 3)))) pss_nil)
      (pss_one (ps_set (i := 3) sc__law_xor.nd rfl (.inl rfl) (pe_op op_mul pe_int (pv 3))))))
      (pss_one (ps_ret (pv 2))))), ?_⟩
    walk_at "rd"
    intro t ht
    walk_at "rd"
    refine Rd.frN (n := 32) rfl (by decide) (fun i σ' H' => ∃ y, σ' = [some (.int a), some (.int b), some (.int ((a ^^^ b) % 2 ^ i : Nat)), some (.int (2 ^ i : Nat)), y] ∧ Rd.Ex H H') ⟨none, by rw [Nat.pow_zero, Nat.mod_one]; rfl, Rd.ex_new ht⟩ ?_ ?_
    · rintro i σ' H' hi ⟨y, rfl, e⟩
      have hx := MX.xor_bit a b i
      have hk : 2 ^ i ≤ 2 ^ 31 := Nat.pow_le_pow_right (by decide) (by omega)
      have hk0 : 0 < 2 ^ i := Nat.pow_pos (by decide)
      have hs : 2 ^ (i + 1) = 2 * 2 ^ i := by rw [Nat.pow_succ]; omega
      rw [hs] at hx ⊢
      generalize 2 ^ i = k at *
      have ea : ∀ a : Nat, (a : Int) / (k : Int) % 2 = ((a / k % 2 : Nat) : Int) := fun a => by rw [← Int.natCast_ediv]; exact (Int.natCast_emod _ 2).symm
      walk_at "rd"
      rw [ea, ea]
      refine Rd.bothN (fun c => ?_) (fun c => ?_)
      · rw [if_pos (fun h => c (by rw [h]))] at hx
        walk_at "rd"
        refine ⟨some (.int (i : Int)), ?_, e⟩
        rw [hx, Int.natCast_add, Int.natCast_mul]
        rfl
      · rw [if_neg (fun h => h (Int.natCast_inj.mp c))] at hx
        walk_at "rd"
        refine ⟨some (.int (i : Int)), ?_, e⟩
        rw [hx, Int.natCast_mul]
        rfl
    · rintro σ' H' ⟨y, rfl, e⟩
      walk_at "rd"
      rw [Nat.mod_eq_of_lt (MX.xor_lt ha hb)]
      exact q H' e
theorem u_xor {H : Hp} {Q : VK} {E : XK} {a b : Nat} (ha : a < 2 ^ 32) (hb : b < 2 ^ 32) (q : ∀ H', Rd.Ex H H' → Q (.int (a ^^^ b : Nat)) H') : spXor ([.int a, .int b] ++ []) H Q E := ⟨a, b, rfl, ha, hb, q⟩
theorem divK (a : Nat) (k : Nat) : (a : Int) / (k : Int) = ((a / k : Nat) : Int) := (Int.natCast_ediv a k).symm
theorem cal__law_tempered (T : Txt K mg C_DrawError C_BadWord C_BadNumber R_ROUNDS CO__law_wrong_right) : C8.Cal P w K mg base 2 "_law_tempered" (spFn 4294967296 MX.tmp) [] := by
  obtain ⟨f, fd, F, b⟩ := T.d__law_tempered
  refine C8.cal0 F b .nil sc__law_tempered (fun vs H Q E h => ?_) (fun cdv A outer s H vs Q E hr h => ?_)
  · obtain ⟨n, rfl, _⟩ := h; rfl
  · obtain ⟨n, rfl, hn, q⟩ := h
    refine ⟨_, (pss_cons (ps_set (i := 0) sc__law_tempered.nd rfl (.inl rfl) (pe_op op_mod (pe_op op_mul (C8.pe_c (cal__law_xor T) hr (by omega) (by rfl) (pa_cons (pv 0) (pa_cons (pe_op op_fdivW (pv 0) pe_int) pa_nil))) pe_int) pe_int))
      (pss_one (ps_ret (C8.pe_c (cal__law_xor T) hr (by omega) (by rfl) (pa_cons (pv 0) (pa_cons (pe_op op_fdivW (pv 0) pe_int) pa_nil)))))), ?_⟩
    have e1 : (n : Int) / 8192 = ((n / 8192 : Nat) : Int) := divK n 8192
    walk_at "rd"
    rw [e1]
    refine u_xor hn (by omega) fun H1 f1 => ?_
    have hx : n ^^^ n / 8192 < 2 ^ 32 := MX.xs_lt (k := 13) hn
    walk_at "rd"
    have e2 : ((n ^^^ n / 8192 : Nat) : Int) * 3486784401 % 4294967296 = (((n ^^^ n / 8192) * MX.F % 4294967296 : Nat) : Int) := mulmodN _ 3486784401
    rw [e2]
    have e3 : ∀ m : Nat, (m : Int) / 65536 = ((m / 65536 : Nat) : Int) := fun m => divK m 65536
    rw [e3]
    refine u_xor (MX.mod_lt _) (Nat.lt_of_le_of_lt (Nat.div_le_self _ _) (MX.mod_lt _)) fun H2 f2 => ?_
    walk_at "rd"
    exact q H2 (f1.trans f2)
theorem cal__law_mixed_number (T : Txt K mg C_DrawError C_BadWord C_BadNumber R_ROUNDS CO__law_wrong_right) : C8.Cal P w K mg base 3 "_law_mixed_number" (spFn 18446744073709551616 MX.mix) [] := by
  obtain ⟨f, fd, F, b⟩ := T.d__law_mixed_number
  refine C8.cal0 F b .nil sc__law_mixed_number (fun vs H Q E h => ?_) (fun cdv A outer s H vs Q E hr h => ?_)
  · obtain ⟨n, rfl, _⟩ := h; rfl
  · obtain ⟨n, rfl, hn, q⟩ := h
    refine ⟨_, (pss_cons (ps_par (i := 1) (j := 2) rfl sc__law_mixed_number.nd rfl rfl (by decide) rfl rfl (pa_cons (pe_op op_fdivW (pv 0) pe_int) (pa_cons (pe_op op_mod (pv 0) pe_int) pa_nil)) (by rfl))
      (pss_cons (ps_for PassesOwn.never rfl (pi_range2 rfl T.b_range (pa_cons pe_int (pa_cons pe_int pa_nil))) (pg_name (i := 3) sc__law_mixed_number.nd rfl (.inl rfl)) (pss_one (ps_par (i := 1) (j := 2) rfl sc__law_mixed_number.nd rfl rfl (by decide) rfl rfl (pa_cons (pv 2) (pa_cons (C8.pe_c (cal__law_xor T) hr (by omega) (by rfl) (pa_cons (pv 1) (pa_cons (C8.pe_c (cal__law_tempered T) hr (by omega) (by rfl) (pa_cons (pe_op op_mod (pe_op op_add (pv 2) (pe_op op_mul pe_int (pv 3))) pe_int) pa_nil)) pa_nil))) pa_nil)) (by rfl))))
      (pss_one (ps_ret (pe_op op_add (pe_op op_mul (pv 1) pe_int) (pv 2)))))), ?_⟩
    walk_at "rd"
    refine ⟨_, _, rfl, ?_⟩
    walk_at "rd"
    rw [divN, modN]
    (with_reducible refine fr2 ?_)
    walk_at "rd"
    refine ⟨1, 5, rfl, by decide, for_range (lo := 1) (n := ((5 : Int) - 1).toNat) (fun i σ' H' => ∃ y, σ' = [some (.int n), some (.int (fsI i (MX.spl n)).1), some (.int (fsI i (MX.spl n)).2), y] ∧ Rd.Ex H H') ⟨none, rfl, fun _ _ h => h⟩ ?_ ?_⟩
    · rintro i σ' H' hi ⟨y, rfl, e⟩
      have ho := fsI_ok _ (MX.ok_spl hn) i
      have hi4 : i < 4 := hi
      generalize hp : fsI i (MX.spl n) = p at ho
      have e2 : ((p.2 : Nat) : Int) + 1000003 * (1 + (i : Int)) = ((p.2 + 1000003 * (i + 1) : Nat) : Int) := by omega
      walk_at "rd"
      rw [e2, modN]
      refine u_fn (Nat.mod_lt _ (by decide)) fun H2 f2 => ?_
      walk_at "rd"
      refine u_xor ho.1 (MX.tmp_lt _) fun H3 f3 => ?_
      walk_at "rd"
      refine ⟨_, _, rfl, ?_⟩
      refine ⟨some (.int (1 + (i : Int))), ?_, (e.trans f2).trans f3⟩
      show _ = [some (V.int n), some (V.int (MX.fe (i + 1) (fsI i (MX.spl n))).1), some (V.int (MX.fe (i + 1) (fsI i (MX.spl n))).2), some (.int (1 + (i : Int)))]
      rw [hp]
      rfl
    · rintro σ' H' ⟨y, rfl, e⟩
      have ho : MX.ok (fsI ((5 : Int) - 1).toNat (MX.spl n)) := fsI_ok _ (MX.ok_spl hn) 4
      have e3 : ((MX.mix n : Nat) : Int) = ((fsI 4 (MX.spl n)).1 : Int) * 4294967296 + ((fsI 4 (MX.spl n)).2 : Int) := by
        show ((((fsI 4 (MX.spl n)).1 * 4294967296 + (fsI 4 (MX.spl n)).2 : Nat)) : Int) = _
        omega
      walk_at "rd"
      have q2 := q H' e
      rw [e3] at q2
      exact q2
end
end Pf

set_option Elab.async false
set_option linter.all false
set_option maxRecDepth 100000
set_option maxHeartbeats 4000000
namespace Pf
open PySem PySem.Spec PyProof.Rows L2
section
variable {P : Program} {w : World} {K : PySem.W.Frag} {mg : Str → Option Value} {base : Heap} {C_DrawError C_BadWord C_BadNumber R_ROUNDS CO__law_wrong_right : Addr}
local macro_rules | `(tactic| walk_at "side") => `(tactic| first | ((with_reducible show L2.CMul _ _); first | exact Or.inl ⟨by omega, by omega⟩ | exact Or.inr ⟨by omega, by omega⟩) | ((with_reducible show L2.CPow _ _); exact ⟨by decide, by decide, by decide⟩) | ((with_reducible show L2.CMulW _ _); exact wide_mul (a := 96) (b := 96) (by omega) (by omega) (by decide) (by decide) (by decide)) | ((with_reducible show L2.CDivW _ _); exact wide_div (b := 96) (by omega) (by omega) (by decide) (by decide)) | (show (0 : Int) < _; omega) | (show (0 : Int) ≤ _; omega))
local macro_rules | `(tactic| walk_at "rd1") => `(tactic| first | with_reducible refine Rd.seq ?_ | with_reducible refine Rd.asg ?_ | with_reducible refine Rd.nm ?_ | with_reducible refine Rd.ret ?_ | with_reducible refine Rd.drop ?_ | with_reducible refine Rd.ifs ?_ | with_reducible refine Rd.par ?_ | with_reducible refine Rd.par3 ?_ | with_reducible refine Rd.next ?_ | with_reducible refine Rd.fr1 ?_ | with_reducible refine Rd.nxp ?_ | with_reducible refine Rd.rtp ?_ | ((with_reducible show tVar _ _ _ _); refine Rd.var rfl ?_) | with_reducible refine Rd.cst ?_ | with_reducible refine Rd.op ?_ | with_reducible refine Rd.un ?_ | with_reducible refine Rd.i0 ?_ | with_reducible refine Rd.ung ?_ | with_reducible refine Rd.eqI ?_ | with_reducible refine Rd.neI ?_ | with_reducible refine Rd.eqS ?_ | with_reducible refine Rd.neS ?_ | with_reducible refine Rd.test ?_ | with_reducible refine Rd.tstB ?_ | with_reducible refine Rd.isB ?_ | with_reducible refine Rd.not ?_ | with_reducible refine Rd.andT ?_ | with_reducible refine Rd.orT ?_ | with_reducible refine Rd.andV ?_ | with_reducible refine Rd.orV ?_ | with_reducible refine Rd.notV ?_ | with_reducible refine Rd.ifE ?_ | with_reducible refine Rd.chain ?_ | with_reducible refine Rd.nil ?_ | with_reducible refine Rd.cons ?_ | with_reducible refine Rd.call ?_ | with_reducible refine Rd.cb ?_ | with_reducible refine Rd.bm ?_ | with_reducible refine Rd.revL ?_ | with_reducible refine Rd.frl ?_ | with_reducible refine Rd.frt ?_ | with_reducible refine Rd.fre ?_ | with_reducible refine Rd.disp ?_ | with_reducible refine Rd.pnil ?_ | with_reducible refine Rd.pcons ?_ | with_reducible refine Rd.gcons ?_ | with_reducible refine Rd.gnil ?_ | with_reducible refine Rd.gsub ?_ | with_reducible refine Rd.setD ?_ | ((with_reducible show gTup _ _ _ _ _ (upd _ _ (HO.tup _)) _); refine Rd.tupNew rfl ?_) | with_reducible refine Rd.fld ?_ | with_reducible refine Rd.meth ?_ | with_reducible refine Rd.make ?_ | with_reducible refine Rd.prop ?_ | with_reducible refine Rd.tup ?_ | with_reducible refine Rd.lst ?_ | ((with_reducible show (List.length _ ≤ sizeLine ∧ ∀ p, _ = none → _)); refine ⟨Nat.le_of_ble_eq_true rfl, ?_⟩) | with_reducible refine Rd.isInt ?_ | with_reducible refine Rd.isBool ?_ | with_reducible refine Rd.mx2 ?_ | with_reducible refine Rd.mn2 ?_ | ((with_reducible show Rd.rAndM _ _ _ _); first | refine Rd.and1 ?_ | refine Rd.and48 ?_ | refine Rd.and32 ?_ | refine Rd.and64 ?_ | refine Rd.and65 ?_) | ((with_reducible refine Rd.iC ?hc ?_); (case hc => walk_at "side")) | ((with_reducible refine Rd.yes ?hc ?_); (case hc => omega)) | ((with_reducible refine Rd.no ?hc ?_); (case hc => omega)) | ((with_reducible refine Rd.noN ?hc ?_); (case hc => omega)) | ((with_reducible refine Rd.yesN ?hc ?_); (case hc => omega)) | ((with_reducible refine Rd.yesNN ?hc ?_); (case hc => omega)) | ((with_reducible refine Rd.noNN ?hc ?_); (case hc => omega)) | with_reducible refine iteT ?_ | with_reducible refine iteF ?_ | with_reducible refine Rd.iteNT ?_ | with_reducible refine Rd.iteNF ?_)
local macro_rules | `(tactic| walk_at "rd") => `(tactic| repeat (walk_at "rd1"))
local macro_rules | `(tactic| walk_at "rd1") => `(tactic| first | with_reducible refine Gx.dget ?_ | with_reducible refine Gx.dput ?_)
local macro_rules | `(tactic| walk_at "rd1") => `(tactic| with_reducible refine u_isInt ?_)
theorem exc_BadWord (T : Txt K mg C_DrawError C_BadWord C_BadNumber R_ROUNDS CO__law_wrong_right) : Gx.ExcMk P w K mg base 1 "BadWord" C_BadWord "given" := by
  obtain ⟨f, fd, hi, ht, F, b⟩ := T.d_BadWord___init__
  refine ⟨f, fd, _, T.x_BadWord, hi, ht, C8.fn0 F sc_BadWord___init__ (fun vs H Q E h => ?_) (fun cdv A outer s H vs Q E hr h => ?_), b, T.g_BadWord⟩
  · obtain ⟨p, v, rfl, _⟩ := h; rfl
  · obtain ⟨p, v, rfl, hp, q⟩ := h
    refine ⟨_, (pss_cons (ps_expr (Gx.pe_binit (by rfl) T.g_DrawError T.r_DrawError T.i_DrawError (pa_cons (pv 0) (pa_cons pe_str pa_nil))))
      (pss_one (ps_ost (pv 0) (pv 1)))), ?_⟩
    walk_at "rd"
    exact ⟨_, rfl, p, C_BadWord, [.str "not a word"], rfl, Nat.le_of_ble_eq_true rfl, T.x_BadWord, hp, _, rfl, _, rfl, p, C_BadWord, rfl, T.x_BadWord, T.n_BadWord_given, .inl ⟨hp, q⟩⟩
theorem exc_BadNumber (T : Txt K mg C_DrawError C_BadWord C_BadNumber R_ROUNDS CO__law_wrong_right) : Gx.ExcMk P w K mg base 1 "BadNumber" C_BadNumber "given" := by
  obtain ⟨f, fd, hi, ht, F, b⟩ := T.d_BadNumber___init__
  refine ⟨f, fd, _, T.x_BadNumber, hi, ht, C8.fn0 F sc_BadNumber___init__ (fun vs H Q E h => ?_) (fun cdv A outer s H vs Q E hr h => ?_), b, T.g_BadNumber⟩
  · obtain ⟨p, v, rfl, _⟩ := h; rfl
  · obtain ⟨p, v, rfl, hp, q⟩ := h
    refine ⟨_, (pss_cons (ps_expr (Gx.pe_binit (by rfl) T.g_DrawError T.r_DrawError T.i_DrawError (pa_cons (pv 0) (pa_cons pe_str pa_nil))))
      (pss_one (ps_ost (pv 0) (pv 1)))), ?_⟩
    walk_at "rd"
    exact ⟨_, rfl, p, C_BadNumber, [.str "not an allowed number"], rfl, Nat.le_of_ble_eq_true rfl, T.x_BadNumber, hp, _, rfl, _, rfl, p, C_BadNumber, rfl, T.x_BadNumber, T.n_BadNumber_given, .inl ⟨hp, q⟩⟩
/-- a value that is no number below m -/
def Odd (m : Int) (H : Hp) (v : V) : Prop := (∃ n : Int, v = .int n ∧ ¬ (0 ≤ n ∧ n < m)) ∨ NonInt H v
def spOdd (C : Addr) (m : Int) : Sp := fun vs H _ E => ∃ v, vs = [v] ∧ Odd m H v ∧ ∀ d H', H d = none → Rd.Ex H H' → H' d = some (.xd [("given", v)]) → E (.ref C) (some d) H'
theorem calx_need_word (T : Txt K mg C_DrawError C_BadWord C_BadNumber R_ROUNDS CO__law_wrong_right) : Gx.CalX P w K mg base 3 "need_word" (spOdd C_BadWord 4294967296) := by
  obtain ⟨f, fd, F, b⟩ := T.d_need_word
  refine Gx.calX F b sc_need_word (fun vs H Q E h => ?_) (fun cdv A outer s H vs Q E hr h => ?_)
  · obtain ⟨n, rfl, _⟩ := h; rfl
  · obtain ⟨v, rfl, h, q⟩ := h
    refine ⟨_, (pss_one (ps_if (pt_not (pt_val (C8.pe_c (cal_is_word T) hr (by omega) (by rfl) (pa_cons (pv 0) pa_nil)))) (pss_one (ps_raise rfl Gx.takes_cx (Gx.pmk_ex (exc_BadWord T) hr (by omega) (by rfl) (pa_cons (pv 0) pa_nil)))) pss_nil)), ?_⟩
    walk_at "rd"
    refine ⟨v, rfl, ?_⟩
    rcases h with ⟨n, rfl, h⟩ | h
    · refine .inl ⟨n, rfl, false, by rw [decide_eq_false h], ?_⟩
      exact ⟨_, rfl, Gx.mkO q⟩
    · exact .inr ⟨h, false, rfl, _, rfl, Gx.mkO q⟩
theorem calx_need_double (T : Txt K mg C_DrawError C_BadWord C_BadNumber R_ROUNDS CO__law_wrong_right) : Gx.CalX P w K mg base 3 "need_double" (spOdd C_BadNumber 18446744073709551616) := by
  obtain ⟨f, fd, F, b⟩ := T.d_need_double
  refine Gx.calX F b sc_need_double (fun vs H Q E h => ?_) (fun cdv A outer s H vs Q E hr h => ?_)
  · obtain ⟨n, rfl, _⟩ := h; rfl
  · obtain ⟨v, rfl, h, q⟩ := h
    refine ⟨_, (pss_one (ps_if (PW.pt (pw_or (pt_not (pt_val (C8.pe_c (cal_is_integer T) hr (by omega) (by rfl) (pa_cons (pv 0) pa_nil)))) (pw_or1 (pt_not (pt_chain op_le op_lt pe_int (pv 0) (C8.pe_gc (by rfl) T.c_DOUBLES)))))) (pss_one (ps_raise rfl Gx.takes_cx (Gx.pmk_ex (exc_BadNumber T) hr (by omega) (by rfl) (pa_cons (pv 0) pa_nil)))) pss_nil)), ?_⟩
    rcases h with ⟨n, rfl, h⟩ | h
    · walk_at "rd"
      refine Rd.both (fun c => ?_) (fun c => ?_)
      · walk_at "rd"
        exact ⟨_, rfl, Gx.mkO q⟩
      · walk_at "rd"
        exact ⟨_, rfl, Gx.mkO q⟩
    · walk_at "rd"
      refine ⟨v, rfl, .inr ⟨h, ?_⟩⟩
      walk_at "rd"
      exact ⟨_, rfl, Gx.mkO q⟩
theorem calx_tempered (T : Txt K mg C_DrawError C_BadWord C_BadNumber R_ROUNDS CO__law_wrong_right) : Gx.CalX P w K mg base 4 "tempered" (spOdd C_BadWord 4294967296) := by
  obtain ⟨f, fd, F, b⟩ := T.d_tempered
  refine Gx.calX F b sc_tempered (fun vs H Q E h => ?_) (fun cdv A outer s H vs Q E hr h => ?_)
  · obtain ⟨n, rfl, _⟩ := h; rfl
  · obtain ⟨v, rfl, h, q⟩ := h
    refine ⟨_, (pss_cons (ps_expr (Gx.pe_cx (calx_need_word T) Gx.takes_cx (fun _ _ _ _ h => h) hr (by omega) (by rfl) (pa_cons (pv 0) pa_nil)))
      (pss_one (ps_ret (C8.pe_c (cal_own_tempered T) hr (by omega) (by rfl) (pa_cons (pv 0) pa_nil))))), ?_⟩
    walk_at "rd"
    exact ⟨v, rfl, h, q⟩
theorem calx_untempered (T : Txt K mg C_DrawError C_BadWord C_BadNumber R_ROUNDS CO__law_wrong_right) : Gx.CalX P w K mg base 4 "untempered" (spOdd C_BadWord 4294967296) := by
  obtain ⟨f, fd, F, b⟩ := T.d_untempered
  refine Gx.calX F b sc_untempered (fun vs H Q E h => ?_) (fun cdv A outer s H vs Q E hr h => ?_)
  · obtain ⟨n, rfl, _⟩ := h; rfl
  · obtain ⟨v, rfl, h, q⟩ := h
    refine ⟨_, (pss_cons (ps_expr (Gx.pe_cx (calx_need_word T) Gx.takes_cx (fun _ _ _ _ h => h) hr (by omega) (by rfl) (pa_cons (pv 0) pa_nil)))
      (pss_cons (ps_set (i := 0) sc_untempered.nd rfl (.inl rfl) (pe_op Rd.op_andM (pe_op op_mul (pe_op op_xor (pv 0) (pe_op op_shr (pv 0) pe_int)) (Gx.pe_c0 (cal_undo_factor T) hr (by omega) (by rfl))) (pe_op op_sub (C8.pe_gc (by rfl) T.c_WORDS) pe_int)))
      (pss_one (ps_ret (pe_op op_xor (pe_op op_xor (pv 0) (pe_op op_shr (pv 0) pe_int)) (pe_op op_shr (pv 0) pe_int)))))), ?_⟩
    walk_at "rd"
    exact ⟨v, rfl, h, q⟩
theorem calx_mixed (T : Txt K mg C_DrawError C_BadWord C_BadNumber R_ROUNDS CO__law_wrong_right) : Gx.CalX P w K mg base 4 "mixed" (spOdd C_BadNumber 18446744073709551616) := by
  obtain ⟨f, fd, F, b⟩ := T.d_mixed
  refine Gx.calX F b sc_mixed (fun vs H Q E h => ?_) (fun cdv A outer s H vs Q E hr h => ?_)
  · obtain ⟨n, rfl, _⟩ := h; rfl
  · obtain ⟨v, rfl, h, q⟩ := h
    refine ⟨_, (pss_cons (ps_expr (Gx.pe_cx (calx_need_double T) Gx.takes_cx (fun _ _ _ _ h => h) hr (by omega) (by rfl) (pa_cons (pv 0) pa_nil)))
      (pss_cons (ps_par (i := 1) (j := 2) rfl sc_mixed.nd rfl rfl (by decide) rfl rfl (pa_cons (pe_op op_fdivW (pv 0) (C8.pe_gc (by rfl) T.c_WORDS)) (pa_cons (pe_op Rd.op_andM (pv 0) (pe_op op_sub (C8.pe_gc (by rfl) T.c_WORDS) pe_int)) pa_nil)) (by rfl))
      (pss_cons (ps_for (passes_of rfl) rfl (pi_tup (C8.pe_gc (by rfl) T.c_ROUNDS)) (pg_name (i := 3) sc_mixed.nd rfl (.inl rfl)) (pss_one (ps_par (i := 1) (j := 2) rfl sc_mixed.nd rfl rfl (by decide) rfl rfl (pa_cons (pv 2) (pa_cons (pe_op op_xor (pv 1) (C8.pe_c (cal_own_tempered T) hr (by omega) (by rfl) (pa_cons (pe_op Rd.op_andM (pe_op op_add (pv 2) (pe_op op_mul (C8.pe_gc (by rfl) T.c_MIX_STEP) (pv 3))) (pe_op op_sub (C8.pe_gc (by rfl) T.c_WORDS) pe_int)) pa_nil))) pa_nil)) (by rfl))))
      (pss_one (ps_ret (pe_op op_add (pe_op op_mul (pv 1) (C8.pe_gc (by rfl) T.c_WORDS)) (pv 2))))))), ?_⟩
    walk_at "rd"
    exact ⟨v, rfl, h, q⟩
theorem calx_unmixed (T : Txt K mg C_DrawError C_BadWord C_BadNumber R_ROUNDS CO__law_wrong_right) : Gx.CalX P w K mg base 4 "unmixed" (spOdd C_BadNumber 18446744073709551616) := by
  obtain ⟨f, fd, F, b⟩ := T.d_unmixed
  refine Gx.calX F b sc_unmixed (fun vs H Q E h => ?_) (fun cdv A outer s H vs Q E hr h => ?_)
  · obtain ⟨n, rfl, _⟩ := h; rfl
  · obtain ⟨v, rfl, h, q⟩ := h
    refine ⟨_, (pss_cons (ps_expr (Gx.pe_cx (calx_need_double T) Gx.takes_cx (fun _ _ _ _ h => h) hr (by omega) (by rfl) (pa_cons (pv 0) pa_nil)))
      (pss_cons (ps_par (i := 1) (j := 2) rfl sc_unmixed.nd rfl rfl (by decide) rfl rfl (pa_cons (pe_op op_fdivW (pv 0) (C8.pe_gc (by rfl) T.c_WORDS)) (pa_cons (pe_op Rd.op_andM (pv 0) (pe_op op_sub (C8.pe_gc (by rfl) T.c_WORDS) pe_int)) pa_nil)) (by rfl))
      (pss_cons (ps_for (passes_of rfl) rfl (pi_tup (Gx.pe_revT (C8.pe_gc (by rfl) T.c_ROUNDS))) (pg_name (i := 3) sc_unmixed.nd rfl (.inl rfl)) (pss_one (ps_par (i := 1) (j := 2) rfl sc_unmixed.nd rfl rfl (by decide) rfl rfl (pa_cons (pe_op op_xor (pv 2) (C8.pe_c (cal_own_tempered T) hr (by omega) (by rfl) (pa_cons (pe_op Rd.op_andM (pe_op op_add (pv 1) (pe_op op_mul (C8.pe_gc (by rfl) T.c_MIX_STEP) (pv 3))) (pe_op op_sub (C8.pe_gc (by rfl) T.c_WORDS) pe_int)) pa_nil))) (pa_cons (pv 1) pa_nil)) (by rfl))))
      (pss_one (ps_ret (pe_op op_add (pe_op op_mul (pv 1) (C8.pe_gc (by rfl) T.c_WORDS)) (pv 2))))))), ?_⟩
    walk_at "rd"
    exact ⟨v, rfl, h, q⟩
end
end Pf

set_option Elab.async false
set_option linter.all false
set_option maxRecDepth 100000
set_option maxHeartbeats 4000000
namespace Pf
open PySem PySem.Spec PyProof.Rows L2
section
variable {P : Program} {w : World} {K : PySem.W.Frag} {mg : Str → Option Value} {base : Heap} {C_DrawError C_BadWord C_BadNumber R_ROUNDS CO__law_wrong_right : Addr}
local macro_rules | `(tactic| walk_at "side") => `(tactic| first | ((with_reducible show L2.CMul _ _); first | exact Or.inl ⟨by omega, by omega⟩ | exact Or.inr ⟨by omega, by omega⟩) | ((with_reducible show L2.CPow _ _); exact ⟨by decide, by decide, by decide⟩) | ((with_reducible show L2.CMulW _ _); exact wide_mul (a := 96) (b := 96) (by omega) (by omega) (by decide) (by decide) (by decide)) | ((with_reducible show L2.CDivW _ _); exact wide_div (b := 96) (by omega) (by omega) (by decide) (by decide)) | (show (0 : Int) < _; omega) | (show (0 : Int) ≤ _; omega))
local macro_rules | `(tactic| walk_at "rd1") => `(tactic| first | with_reducible refine Rd.seq ?_ | with_reducible refine Rd.asg ?_ | with_reducible refine Rd.nm ?_ | with_reducible refine Rd.ret ?_ | with_reducible refine Rd.drop ?_ | with_reducible refine Rd.ifs ?_ | with_reducible refine Rd.par ?_ | with_reducible refine Rd.par3 ?_ | with_reducible refine Rd.next ?_ | with_reducible refine Rd.fr1 ?_ | with_reducible refine Rd.nxp ?_ | with_reducible refine Rd.rtp ?_ | ((with_reducible show tVar _ _ _ _); refine Rd.var rfl ?_) | with_reducible refine Rd.cst ?_ | with_reducible refine Rd.op ?_ | with_reducible refine Rd.un ?_ | with_reducible refine Rd.i0 ?_ | with_reducible refine Rd.ung ?_ | with_reducible refine Rd.eqI ?_ | with_reducible refine Rd.neI ?_ | with_reducible refine Rd.eqS ?_ | with_reducible refine Rd.neS ?_ | with_reducible refine Rd.test ?_ | with_reducible refine Rd.tstB ?_ | with_reducible refine Rd.isB ?_ | with_reducible refine Rd.not ?_ | with_reducible refine Rd.andT ?_ | with_reducible refine Rd.orT ?_ | with_reducible refine Rd.andV ?_ | with_reducible refine Rd.orV ?_ | with_reducible refine Rd.notV ?_ | with_reducible refine Rd.ifE ?_ | with_reducible refine Rd.chain ?_ | with_reducible refine Rd.nil ?_ | with_reducible refine Rd.cons ?_ | with_reducible refine Rd.call ?_ | with_reducible refine Rd.cb ?_ | with_reducible refine Rd.bm ?_ | with_reducible refine Rd.revL ?_ | with_reducible refine Rd.frl ?_ | with_reducible refine Rd.frt ?_ | with_reducible refine Rd.fre ?_ | with_reducible refine Rd.disp ?_ | with_reducible refine Rd.pnil ?_ | with_reducible refine Rd.pcons ?_ | with_reducible refine Rd.gcons ?_ | with_reducible refine Rd.gnil ?_ | with_reducible refine Rd.gsub ?_ | with_reducible refine Rd.setD ?_ | ((with_reducible show gTup _ _ _ _ _ (upd _ _ (HO.tup _)) _); refine Rd.tupNew rfl ?_) | with_reducible refine Rd.fld ?_ | with_reducible refine Rd.meth ?_ | with_reducible refine Rd.make ?_ | with_reducible refine Rd.prop ?_ | with_reducible refine Rd.tup ?_ | with_reducible refine Rd.lst ?_ | ((with_reducible show (List.length _ ≤ sizeLine ∧ ∀ p, _ = none → _)); refine ⟨Nat.le_of_ble_eq_true rfl, ?_⟩) | with_reducible refine Rd.isInt ?_ | with_reducible refine Rd.isBool ?_ | with_reducible refine Rd.mx2 ?_ | with_reducible refine Rd.mn2 ?_ | ((with_reducible show Rd.rAndM _ _ _ _); first | refine Rd.and1 ?_ | refine Rd.and48 ?_ | refine Rd.and32 ?_ | refine Rd.and64 ?_ | refine Rd.and65 ?_) | ((with_reducible refine Rd.iC ?hc ?_); (case hc => walk_at "side")) | ((with_reducible refine Rd.yes ?hc ?_); (case hc => omega)) | ((with_reducible refine Rd.no ?hc ?_); (case hc => omega)) | ((with_reducible refine Rd.noN ?hc ?_); (case hc => omega)) | ((with_reducible refine Rd.yesN ?hc ?_); (case hc => omega)) | ((with_reducible refine Rd.yesNN ?hc ?_); (case hc => omega)) | ((with_reducible refine Rd.noNN ?hc ?_); (case hc => omega)) | with_reducible refine iteT ?_ | with_reducible refine iteF ?_ | with_reducible refine Rd.iteNT ?_ | with_reducible refine Rd.iteNF ?_)
local macro_rules | `(tactic| walk_at "rd") => `(tactic| repeat (walk_at "rd1"))
local macro_rules | `(tactic| walk_at "rd1") => `(tactic| first | with_reducible refine Gx.dget ?_ | with_reducible refine Gx.dput ?_)
/-- repr(v) is the text t -/
def Shw (K : PySem.W.Frag) (H : Hp) (v : V) (t : Str) : Prop := ∀ Q : VK, Q (.str t) H → Gx.rReprD K [v] H Q
theorem Shw.data {K : PySem.W.Frag} {H : Hp} {v : V} {d : PyData} (h : Dp K H v d) (o : Gx.Okd d) : Shw K H v d.shown := fun _ q => .inl (Gx.rpr d h o q)
theorem Shw.dict {K : PySem.W.Frag} {H : Hp} {a : Addr} (h : H a = some (.dK [])) : Shw K H (.ref a) "{}" := fun _ q => .inr ⟨a, rfl, h, q⟩
/-- what is told of an exception of the class at C -/
def told (K : PySem.W.Frag) (C : Addr) (kind : Str) (Q : VK) : XK := fun cls d H => cls = .ref C ∧ ∃ (dd : Addr) (v : V) (t : Str), d = some dd ∧ H dd = some (.xd [("given", v)]) ∧ Shw K H v t ∧ ∀ p, H p = none → Q (.ref p) (upd H p (.lst [.str kind, .str t]))
def TTold (K : PySem.W.Frag) (C1 C2 : Addr) : (XK → Hp → VK → Prop) → Hp → VK → Prop := fun tl H Q =>
  tl (fun cls d H' => told K C1 "word" Q cls d H' ∨ told K C2 "number" Q cls d H') H (fun _ H1 => ([] : List V).length ≤ sizeLine ∧ ∀ p, H1 p = none → Q (.ref p) (upd H1 p (.lst [])))
theorem gives_told (T : Txt K mg C_DrawError C_BadWord C_BadNumber R_ROUNDS CO__law_wrong_right) {X : Cx} (eK : X.K = K) (em : X.mg = mg) (gd : X.A.guards = some []) (hr : Room 2 X.A) {g : Addr} {cdg : Value} {q : Str} :
    LamX.GivesTo X ["_law_call", "e", "_law_kind"] "_law_told" (C8.fnScope s__law_told) g cdg (C8.fnBody s__law_told) "_law_call" q (TTold K C_BadWord C_BadNumber) := by
  subst eK em
  intro f c' s H Q tl act hc h
  have hu64 := (hr.deeper (envOfC "_law_told" (C8.fnScope s__law_told) s.heap.objs.size g cdg)).units
  refine ⟨_, pss_cons (ps_try_as (X := (cxOf C8.CX0 X.prog X.w X.K X.mg X.base ["_law_call", "e", "_law_kind"] "_law_told" (C8.fnScope s__law_told) g cdg X.A X.stack s H C8.E0).nox) (c := .ref C_DrawError) (i := 1)
      (tb := fun W D σ H => ∃ Ech : XK, (∀ cls d σ' H', Ech cls d H' → W cls d σ' H') ∧ σ[0]? = some (some (.ref f)) ∧ H c' = some (LamX.CodeO c' q) ∧ tl Ech H (fun _ H1 => D.nx σ H1))
      (ts := fun a cls d D σ H => (σ.length = 3 → ∃ x0 x2, σ = [x0, some (.ref a), x2]) ∧ (told X.K C_BadWord "word" D.rt cls d H ∨ told X.K C_BadNumber "number" D.rt cls d H))
      rfl rfl sc__law_told.nd rfl (by rfl) ⟨by rfl, by decide, .inl T.g_DrawError⟩ LamX.takes0 (fun W pn xe tk _ => ?_) (fun a oe cls d pn hz hf => ?_)) (pss_one (ps_ret (pe_lst pa_nil))), ?_⟩
  · refine ⟨fun pins s' σ H' D I h' => ?_⟩
    obtain ⟨Ech, hW, h1, h2, h3⟩ := h'
    have hp := fun p1 p2 => act W pn xe Ech p1 p2 tk hW
    exact (pss_one (ps_expr (hp _ _))).run pins s' σ H' D I ⟨h1, h2, h3⟩
  · refine ⟨fun pins s' σ H' D I h' => ?_⟩
    obtain ⟨hs, h'⟩ := h'
    obtain ⟨x0, x2, rfl⟩ := hs I.len
    rcases h' with h' | h'
    · obtain ⟨rfl, dd, v, dt, rfl, hx, dp, hq⟩ := h'
      refine (fun t hd ht => PSs.run (t := t) hd pins s' _ H' D I ht) _ (pss_cons
        (ps_set (i := 2) sc__law_told.nd rfl (.inl rfl) (pe_ifExp (pt_val (pe_callB (Gx.call_isX T.e_BadWord hz hf) (by rfl) T.b_isinstance (by decide +kernel) (pa_cons (pv 1) (pa_cons (C8.pe_gc (by rfl) T.k_BadWord) pa_nil)))) pe_str
          (pe_ifExp (pt_val (pe_callB (Gx.call_isX T.e_BadWord hz hf) (by rfl) T.b_isinstance (by decide +kernel) (pa_cons (pv 1) (pa_cons (C8.pe_gc (by rfl) T.k_BadNumber) pa_nil)))) pe_str pe_str)))
        (pss_one (ps_ret (pe_lst (pa_cons (pv 2) (pa_cons (pe_callB (Gx.call_reprD gd hu64) (by rfl) T.b_repr (by decide +kernel) (pa_cons (pe_xf T.f_BadWord T.n_BadWord_given hz hf (pv 1)) pa_nil)) pa_nil)))))) ?_
      walk_at "rd"
      refine ⟨⟨_, hx⟩, _, .ref C_BadWord, true, rfl, fun u r => r, Rd.kit_self _ _, ?_⟩
      walk_at "rd"
      refine ⟨_, rfl, rfl, rfl, dd, _, v, rfl, hx, Rd.lk1, ?_⟩
      walk_at "rd"
      refine dp _ ?_
      walk_at "rd"
      exact hq
    · obtain ⟨rfl, dd, v, dt, rfl, hx, dp, hq⟩ := h'
      refine (fun t hd ht => PSs.run (t := t) hd pins s' _ H' D I ht) _ (pss_cons
        (ps_set (i := 2) sc__law_told.nd rfl (.inl rfl) (pe_ifExp (pt_val (pe_callB (Gx.call_isX T.e_BadNumber hz hf) (by rfl) T.b_isinstance (by decide +kernel) (pa_cons (pv 1) (pa_cons (C8.pe_gc (by rfl) T.k_BadWord) pa_nil)))) pe_str
          (pe_ifExp (pt_val (pe_callB (Gx.call_isX T.e_BadNumber hz hf) (by rfl) T.b_isinstance (by decide +kernel) (pa_cons (pv 1) (pa_cons (C8.pe_gc (by rfl) T.k_BadNumber) pa_nil)))) pe_str pe_str)))
        (pss_one (ps_ret (pe_lst (pa_cons (pv 2) (pa_cons (pe_callB (Gx.call_reprD gd hu64) (by rfl) T.b_repr (by decide +kernel) (pa_cons (pe_xf T.f_BadNumber T.n_BadNumber_given hz hf (pv 1)) pa_nil)) pa_nil)))))) ?_
      walk_at "rd"
      refine ⟨⟨_, hx⟩, _, .ref C_BadWord, false, rfl, fun u r => r, T.o_BadNumber_BadWord, ?_⟩
      walk_at "rd"
      refine ⟨⟨_, hx⟩, _, .ref C_BadNumber, true, rfl, fun u r => r, Rd.kit_self _ _, ?_⟩
      walk_at "rd"
      refine ⟨_, rfl, rfl, rfl, dd, _, v, rfl, hx, Rd.lk1, ?_⟩
      walk_at "rd"
      refine dp _ ?_
      walk_at "rd"
      exact hq
  · walk_at "rd"
    refine ⟨fun cls d H' => told X.K C_BadWord "word" Q cls d H' ∨ told X.K C_BadNumber "number" Q cls d H', fun cls d σ' H' ht => ⟨true, ?_, fun _ a ha => ⟨fun hl => ?_, ht⟩, fun z => by cases z⟩, rfl, hc, ?_⟩
    · rcases ht with ⟨rfl, _⟩ | ⟨rfl, _⟩
      · exact T.m_DrawError T.s_BadWord_DrawError
      · exact T.m_DrawError T.s_BadNumber_DrawError
    · match σ', hl with
      | [x0, x1, x2], _ => exact ⟨x0, x2, rfl⟩
    · exact h
end
end Pf

set_option Elab.async false
set_option linter.all false
set_option maxRecDepth 100000
set_option maxHeartbeats 4000000
namespace Pf
open PySem PySem.Spec PyProof.Rows L2
section
variable {P : Program} {w : World} {K : PySem.W.Frag} {mg : Str → Option Value} {base : Heap} {C_DrawError C_BadWord C_BadNumber R_ROUNDS CO__law_wrong_right TA : Addr}
local macro_rules | `(tactic| walk_at "side") => `(tactic| first | ((with_reducible show L2.CMul _ _); first | exact Or.inl ⟨by omega, by omega⟩ | exact Or.inr ⟨by omega, by omega⟩) | ((with_reducible show L2.CPow _ _); exact ⟨by decide, by decide, by decide⟩) | ((with_reducible show L2.CMulW _ _); exact wide_mul (a := 96) (b := 96) (by omega) (by omega) (by decide) (by decide) (by decide)) | ((with_reducible show L2.CDivW _ _); exact wide_div (b := 96) (by omega) (by omega) (by decide) (by decide)) | (show (0 : Int) < _; omega) | (show (0 : Int) ≤ _; omega))
local macro_rules | `(tactic| walk_at "rd1") => `(tactic| first | with_reducible refine Rd.seq ?_ | with_reducible refine Rd.asg ?_ | with_reducible refine Rd.nm ?_ | with_reducible refine Rd.ret ?_ | with_reducible refine Rd.drop ?_ | with_reducible refine Rd.ifs ?_ | with_reducible refine Rd.par ?_ | with_reducible refine Rd.par3 ?_ | with_reducible refine Rd.next ?_ | with_reducible refine Rd.fr1 ?_ | with_reducible refine Rd.nxp ?_ | with_reducible refine Rd.rtp ?_ | ((with_reducible show tVar _ _ _ _); refine Rd.var rfl ?_) | with_reducible refine Rd.cst ?_ | with_reducible refine Rd.op ?_ | with_reducible refine Rd.un ?_ | with_reducible refine Rd.i0 ?_ | with_reducible refine Rd.ung ?_ | with_reducible refine Rd.eqI ?_ | with_reducible refine Rd.neI ?_ | with_reducible refine Rd.eqS ?_ | with_reducible refine Rd.neS ?_ | with_reducible refine Rd.test ?_ | with_reducible refine Rd.tstB ?_ | with_reducible refine Rd.isB ?_ | with_reducible refine Rd.not ?_ | with_reducible refine Rd.andT ?_ | with_reducible refine Rd.orT ?_ | with_reducible refine Rd.andV ?_ | with_reducible refine Rd.orV ?_ | with_reducible refine Rd.notV ?_ | with_reducible refine Rd.ifE ?_ | with_reducible refine Rd.chain ?_ | with_reducible refine Rd.nil ?_ | with_reducible refine Rd.cons ?_ | with_reducible refine Rd.call ?_ | with_reducible refine Rd.cb ?_ | with_reducible refine Rd.bm ?_ | with_reducible refine Rd.revL ?_ | with_reducible refine Rd.frl ?_ | with_reducible refine Rd.frt ?_ | with_reducible refine Rd.fre ?_ | with_reducible refine Rd.disp ?_ | with_reducible refine Rd.pnil ?_ | with_reducible refine Rd.pcons ?_ | with_reducible refine Rd.gcons ?_ | with_reducible refine Rd.gnil ?_ | with_reducible refine Rd.gsub ?_ | with_reducible refine Rd.setD ?_ | ((with_reducible show gTup _ _ _ _ _ (upd _ _ (HO.tup _)) _); refine Rd.tupNew rfl ?_) | with_reducible refine Rd.fld ?_ | with_reducible refine Rd.meth ?_ | with_reducible refine Rd.make ?_ | with_reducible refine Rd.prop ?_ | with_reducible refine Rd.tup ?_ | with_reducible refine Rd.lst ?_ | ((with_reducible show (List.length _ ≤ sizeLine ∧ ∀ p, _ = none → _)); refine ⟨Nat.le_of_ble_eq_true rfl, ?_⟩) | with_reducible refine Rd.isInt ?_ | with_reducible refine Rd.isBool ?_ | with_reducible refine Rd.mx2 ?_ | with_reducible refine Rd.mn2 ?_ | ((with_reducible show Rd.rAndM _ _ _ _); first | refine Rd.and1 ?_ | refine Rd.and48 ?_ | refine Rd.and32 ?_ | refine Rd.and64 ?_ | refine Rd.and65 ?_) | ((with_reducible refine Rd.iC ?hc ?_); (case hc => walk_at "side")) | ((with_reducible refine Rd.yes ?hc ?_); (case hc => omega)) | ((with_reducible refine Rd.no ?hc ?_); (case hc => omega)) | ((with_reducible refine Rd.noN ?hc ?_); (case hc => omega)) | ((with_reducible refine Rd.yesN ?hc ?_); (case hc => omega)) | ((with_reducible refine Rd.yesNN ?hc ?_); (case hc => omega)) | ((with_reducible refine Rd.noNN ?hc ?_); (case hc => omega)) | with_reducible refine iteT ?_ | with_reducible refine iteF ?_ | with_reducible refine Rd.iteNT ?_ | with_reducible refine Rd.iteNF ?_)
local macro_rules | `(tactic| walk_at "rd") => `(tactic| repeat (walk_at "rd1"))
local macro_rules | `(tactic| walk_at "rd1") => `(tactic| first | with_reducible refine Gx.dget ?_ | with_reducible refine Gx.dput ?_)
local macro_rules | `(tactic| walk_at "hp") => `(tactic| first | assumption | (apply Au.sm; (focus assumption); (walk_at "hp")) | (apply Au.smp; (focus assumption); (focus (walk_at "hp")); (walk_at "ne")) | (apply Au.smn; (focus assumption); (focus (walk_at "hp")); (focus (intro _ z; cases z))) | fail "hp")
local macro_rules | `(tactic| walk_at "ne") => `(tactic| first | assumption | (apply Ne.symm; assumption) | (apply Au.nen; (focus assumption); (walk_at "hp")) | (apply Au.nen'; (focus assumption); (walk_at "hp")) | (apply Au.nek; (focus (walk_at "hp")); (focus (walk_at "hp")); (intro z; cases z)) | fail "ne")
local macro_rules | `(tactic| walk_at "dp") => `(tactic| first | exact Dp.int _ | exact Dp.str _ | exact Dp.bl _ | exact Dp.non | (apply Dp.lst; (focus (apply Rd.sql; walk_at "hp")); (walk_at "dps")) | (apply Dp.tup; (focus (apply Rd.sqt; walk_at "hp")); (walk_at "dps")) | fail "dp")
local macro_rules | `(tactic| walk_at "dps") => `(tactic| first | exact DpAll.nil | (apply DpAll.cons; (focus (walk_at "dp")); (walk_at "dps")) | fail "dps")
local macro_rules | `(tactic| walk_at "shp") => `(tactic| ((simp only [SeqAt.shaped, PyData.canLay0, PyData.canLayAll0, PyData.depth, PyData.depthAll]) <;> decide))
theorem okC {d : PyData} (h1 : d.showable = true) (h2 : d.depth ≤ 60) (h3 : d.shown.length ≤ 1000) : Gx.Okd d := ⟨h1, h2, Nat.le_trans h3 (Nat.le_of_ble_eq_true rfl)⟩
/-- one of the nine odd values -/
theorem oddPick {K : PySem.W.Frag} {m : Int} (hs : PyData.strOk (PyData.shown (.int m)) = true) (m0 : 0 < m) (m1 : m ≤ 18446744073709551616) {p1 p2 p3 : Addr} {v : Int} (v0 : 0 ≤ v) (v1 : v < 9) :
    ∃ x t, atI [V.int (-1), .int m, .bl true, .non, .str "1", .ref p1, .ref p2, .int (10 ^ Int.toNat 30), .ref p3] v = some x ∧ PyData.strOk t = true ∧ ∀ H' : Hp, H' p1 = some (.tup [.int 1]) → H' p2 = some (.lst [.int 0]) → H' p3 = some (.dK []) → Odd m H' x ∧ Shw K H' x t := by
  have e30 : (10 : Int) ^ Int.toNat 30 = 1000000000000000000000000000000 := by decide
  rw [e30]
  have nb : ∀ n : Int, n.natAbs < 2 ^ 128 → n.natAbs < 2 ^ 600 := fun n h => Nat.lt_of_lt_of_le h (Nat.pow_le_pow_right (by decide) (by decide))
  have : v = 0 ∨ v = 1 ∨ v = 2 ∨ v = 3 ∨ v = 4 ∨ v = 5 ∨ v = 6 ∨ v = 7 ∨ v = 8 := by omega
  rcases this with rfl | rfl | rfl | rfl | rfl | rfl | rfl | rfl | rfl
  · exact ⟨_, _, rfl, by decide +kernel, fun H' _ _ _ => ⟨.inl ⟨-1, rfl, by omega⟩, Shw.data (.int _) (Gx.okInt (nb _ (by decide)))⟩⟩
  · exact ⟨_, _, rfl, hs, fun H' _ _ _ => ⟨.inl ⟨m, rfl, by omega⟩, Shw.data (.int _) (Gx.okInt (nb _ (by omega)))⟩⟩
  · exact ⟨_, _, rfl, by decide +kernel, fun H' _ _ _ => ⟨.inr (.inr (.inl ⟨true, rfl⟩)), Shw.data (.bl true) (okC (by decide) (by decide) (by decide))⟩⟩
  · exact ⟨_, _, rfl, by decide +kernel, fun H' _ _ _ => ⟨.inr (.inl rfl), Shw.data .non (okC (by decide) (by decide) (by decide))⟩⟩
  · exact ⟨_, _, rfl, by decide +kernel, fun H' _ _ _ => ⟨.inr (.inr (.inr (.inl ⟨_, rfl⟩))), Shw.data (.str _) (okC (by decide) (by decide) (by decide +kernel))⟩⟩
  · exact ⟨_, _, rfl, by decide +kernel, fun H' h1 _ _ => ⟨.inr (.inr (.inr (.inr (.inl ⟨_, _, rfl, h1⟩)))), Shw.data (d := .tuple [.int 1]) (.tup (Rd.sqt h1) (.cons (.int 1) .nil)) (okC (by decide) (by decide) (by decide +kernel))⟩⟩
  · exact ⟨_, _, rfl, by decide +kernel, fun H' _ h2 _ => ⟨.inr (.inr (.inr (.inr (.inr (.inl ⟨_, _, rfl, h2⟩))))), Shw.data (d := .list [.int 0]) (.lst (Rd.sql h2) (.cons (.int 0) .nil)) (okC (by decide) (by decide) (by decide +kernel))⟩⟩
  · exact ⟨_, _, rfl, by decide +kernel, fun H' _ _ _ => ⟨.inl ⟨_, rfl, by omega⟩, Shw.data (.int _) (Gx.okInt (nb _ (by decide)))⟩⟩
  · exact ⟨_, _, rfl, by decide +kernel, fun H' _ _ h3 => ⟨.inr (.inr (.inr (.inr (.inr (.inr ⟨_, _, rfl, h3⟩))))), Shw.dict h3⟩⟩
theorem u_toldW {K : PySem.W.Frag} {T : List (Addr × Str)} {C1 C2 : Addr} {m : Int} {σ : L2.St} {i : Nat} {v : V} {t : Str} {H : Hp} {Q : VK} (hT : LamX.Tabs T H) (hv : σ[i]? = some (some v)) (ho : ∀ H', LamX.ExtN H H' → Odd m H' v ∧ Shw K H' v t)
    (q : ∀ p H', LamX.ExtN H H' → LamX.Tabs T H' → H' p = some (.lst [.str "word", .str t]) → Q (.ref p) H') : LamX.tLam T (TTold K C1 C2) (fun E => tCall (spOdd C1 m) [] E (tCons (tVar i) tNil)) σ H Q := by
  refine ⟨hT, fun H1 eN T1 => ⟨v, hv, v, rfl, (ho H1 eN).1, fun dd H' hd e hx => .inl ⟨rfl, dd, v, t, rfl, hx, (ho H' (eN.trans (.of e))).2, fun p hp => ?_⟩⟩⟩
  have e2 := e.trans (Rd.ex_new (o := .lst [.str "word", .str t]) hp)
  exact q p _ (eN.trans (.of e2)) (T1.ext e2) upd_same
theorem u_toldN {K : PySem.W.Frag} {T : List (Addr × Str)} {C1 C2 : Addr} {m : Int} {σ : L2.St} {i : Nat} {v : V} {t : Str} {H : Hp} {Q : VK} (hT : LamX.Tabs T H) (hv : σ[i]? = some (some v)) (ho : ∀ H', LamX.ExtN H H' → Odd m H' v ∧ Shw K H' v t)
    (q : ∀ p H', LamX.ExtN H H' → LamX.Tabs T H' → H' p = some (.lst [.str "number", .str t]) → Q (.ref p) H') : LamX.tLam T (TTold K C1 C2) (fun E => tCall (spOdd C2 m) [] E (tCons (tVar i) tNil)) σ H Q := by
  refine ⟨hT, fun H1 eN T1 => ⟨v, hv, v, rfl, (ho H1 eN).1, fun dd H' hd e hx => .inr ⟨rfl, dd, v, t, rfl, hx, (ho H' (eN.trans (.of e))).2, fun p hp => ?_⟩⟩⟩
  have e2 := e.trans (Rd.ex_new (o := .lst [.str "number", .str t]) hp)
  exact q p _ (eN.trans (.of e2)) (T1.ext e2) upd_same
theorem tabs_exd {T : List (Addr × Str)} {H H' : Hp} {d : Addr} {n : Nat} (t : LamX.Tabs T H) (D : Dr H d n) (x : ExD d H H') : LamX.Tabs T H' := fun p hp => by
  obtain ⟨ps, h1, h2, h3⟩ := t p hp
  obtain ⟨l, c, tt, D⟩ := D
  refine ⟨ps, x _ _ h1 (fun z => by rw [z, D.dic] at h1; cases h1), h2, fun pos cv hc => ?_⟩
  obtain ⟨c', rfl, hc'⟩ := h3 pos cv hc
  exact ⟨c', rfl, x _ _ hc' (fun z => by rw [z, D.dic] at hc'; cases hc')⟩
theorem tabs_exp {T : List (Addr × Str)} {H H' : Hp} {d : Addr} {xs : List V} (t : LamX.Tabs T H) (D : H d = some (.lst xs)) (x : Au.ExP d H H') : LamX.Tabs T H' := fun p hp => by
  obtain ⟨ps, h1, h2, h3⟩ := t p hp
  refine ⟨ps, x _ _ h1 (fun z => by rw [z, D] at h1; cases h1), h2, fun pos cv hc => ?_⟩
  obtain ⟨c', rfl, hc'⟩ := h3 pos cv hc
  exact ⟨c', rfl, x _ _ hc' (fun z => by rw [z, D] at hc'; cases hc')⟩
theorem shp4 {t1 t2 : Str} (h1 : PyData.strOk t1 = true) (h2 : PyData.strOk t2 = true) : SeqAt.shaped (.list [.list [.str "word", .str t1], .list [.str "word", .str t1], .list [.str "number", .str t2], .list [.str "number", .str t2]]) = true := by
  have w : PyData.strOk "word" = true := by decide +kernel
  have n : PyData.strOk "number" = true := by decide +kernel
  simp only [SeqAt.shaped, PyData.canLay0, PyData.canLayAll0, PyData.depth, PyData.depthAll, h1, h2, w, n]
  rfl
theorem kitsT (K : PySem.W.Frag) {H : Hp} {v : V} {Q : VK} (h : NonInt H v) (q1 : Q (.bl false) H) (q2 : (∃ b, v = .bl b) → Q (.bl true) H) : rIsi K [v, .ty "int"] H Q := by
  obtain ⟨k1, k2, k3, k4, k5, k6, k7⟩ := kit_t K
  rcases h with rfl | ⟨b, rfl⟩ | ⟨s, rfl⟩ | ⟨a, xs, rfl, ha⟩ | ⟨a, xs, rfl, ha⟩ | ⟨a, xs, rfl, ha⟩
  · exact isiB (.base .non) k1 q1
  · exact isiB (.base (.bl b)) k2 (q2 ⟨b, rfl⟩)
  · exact isiB (.base (.str s)) k4 q1
  · exact isiB (.base (.tup ha)) k5 q1
  · exact isiB (.base (.lst ha)) k6 q1
  · exact isiB (.base (.dK ha)) k7 q1
def spWrong (TA : Addr) : Sp := fun vs H Q _ => ∃ (d : Addr) (n : Nat), vs = [.ref d] ∧ n ≤ 900000 ∧ Dr H d n ∧ LamX.Tabs [(TA, "_law_wrong_right.<locals>.<lambda>")] H ∧
  ∀ (H' : Hp), Dr H' d (n + 8) → LamX.Tabs [(TA, "_law_wrong_right.<locals>.<lambda>")] H' → (∀ c xs, H c = some (.lst xs) → H' c = some (.lst xs)) → Q (.bl true) H'
theorem cal__law_wrong_right (T : Txt K mg C_DrawError C_BadWord C_BadNumber R_ROUNDS CO__law_wrong_right) (TB : LamX.TabB base mg CO__law_wrong_right TA) : Gx.CalG P w K mg base 9 "_law_wrong_right" (spWrong TA) := by
  obtain ⟨f, fd, F, b⟩ := T.d__law_wrong_right
  obtain ⟨f2, fd2, D__law_told, b__law_told⟩ := T.d__law_told
  refine Gx.calGc F b sc__law_wrong_right (fun vs H Q E h => ?_) (fun A outer s H vs Q gd hr h => ?_)
  · obtain ⟨d, n, rfl, _⟩ := h; rfl
  · obtain ⟨d, n, rfl, hn, D, tb, q⟩ := h
    have hu := hu_of hr
    have hu64 := hr.units
    refine ⟨_, (pss_cons (ps_set (i := 1) sc__law_wrong_right.nd rfl (.inr rfl) (pe_ix ix_list (pe_lst (pa_cons (pe_un un_neg pe_int) (pa_cons pe_int (pa_cons pe_bl (pa_cons pe_non (pa_cons pe_str (pa_cons (pe_tup (pa_cons pe_int pa_nil)) (pa_cons (pe_lst (pa_cons pe_int pa_nil)) (pa_cons (pe_op op_pow pe_int pe_int) (pa_cons pe_dnewK pa_nil)))))))))) (C8.pe_c (cal__law_digit T) hr (by omega) (by rfl) (pa_cons (pv 0) (pa_cons pe_int pa_nil))) (fun _ _ => rfl)))
      (pss_cons (ps_set (i := 2) sc__law_wrong_right.nd rfl (.inr rfl) (pe_ix ix_list (pe_lst (pa_cons (pe_un un_neg pe_int) (pa_cons pe_int (pa_cons pe_bl (pa_cons pe_non (pa_cons pe_str (pa_cons (pe_tup (pa_cons pe_int pa_nil)) (pa_cons (pe_lst (pa_cons pe_int pa_nil)) (pa_cons (pe_op op_pow pe_int pe_int) (pa_cons pe_dnewK pa_nil)))))))))) (C8.pe_c (cal__law_digit T) hr (by omega) (by rfl) (pa_cons (pv 0) (pa_cons pe_int pa_nil))) (fun _ _ => rfl)))
      (pss_cons (ps_set (i := 3) sc__law_wrong_right.nd rfl (.inl rfl) (pe_lst (pa_cons (Gx.pe_lam (k := 5) D__law_told b__law_told sc__law_told rfl (.inl (by rfl)) (fun _ => gives_told T rfl rfl gd (hr.mono (by omega))) TB rfl (List.mem_singleton.mpr rfl) (fun _ hp _ => congrArg Prod.snd (List.mem_singleton.mp hp)) hr (by omega) (by rfl) (LamX.lamS_by (sc := C8.fnScope s__law_wrong_right) (by decide +kernel)) (fun _ _ _ _ _ _ _ hr2 => (Gx.pe_cx (calx_tempered T) Gx.takes_lam (fun _ _ _ _ h => h) hr2 (by omega) (by rfl) (pa_cons (pv 1) pa_nil)))) pa_nil)))
      (pss_cons (ps_expr (pe_bm PySem.F.plainAttrs_list PySem.F.slot_list_append PySem.F.type_list_append mt_append (pv 3) (pa_cons (Gx.pe_lam (k := 5) D__law_told b__law_told sc__law_told rfl (.inl (by rfl)) (fun _ => gives_told T rfl rfl gd (hr.mono (by omega))) TB rfl (List.mem_singleton.mpr rfl) (fun _ hp _ => congrArg Prod.snd (List.mem_singleton.mp hp)) hr (by omega) (by rfl) (LamX.lamS_by (sc := C8.fnScope s__law_wrong_right) (by decide +kernel)) (fun _ _ _ _ _ _ _ hr2 => (Gx.pe_cx (calx_untempered T) Gx.takes_lam (fun _ _ _ _ h => h) hr2 (by omega) (by rfl) (pa_cons (pv 1) pa_nil)))) pa_nil)))
      (pss_cons (ps_expr (pe_bm PySem.F.plainAttrs_list PySem.F.slot_list_append PySem.F.type_list_append mt_append (pv 3) (pa_cons (Gx.pe_lam (k := 5) D__law_told b__law_told sc__law_told rfl (.inl (by rfl)) (fun _ => gives_told T rfl rfl gd (hr.mono (by omega))) TB rfl (List.mem_singleton.mpr rfl) (fun _ hp _ => congrArg Prod.snd (List.mem_singleton.mp hp)) hr (by omega) (by rfl) (LamX.lamS_by (sc := C8.fnScope s__law_wrong_right) (by decide +kernel)) (fun _ _ _ _ _ _ _ hr2 => (Gx.pe_cx (calx_mixed T) Gx.takes_lam (fun _ _ _ _ h => h) hr2 (by omega) (by rfl) (pa_cons (pv 2) pa_nil)))) pa_nil)))
      (pss_cons (ps_expr (pe_bm PySem.F.plainAttrs_list PySem.F.slot_list_append PySem.F.type_list_append mt_append (pv 3) (pa_cons (Gx.pe_lam (k := 5) D__law_told b__law_told sc__law_told rfl (.inl (by rfl)) (fun _ => gives_told T rfl rfl gd (hr.mono (by omega))) TB rfl (List.mem_singleton.mpr rfl) (fun _ hp _ => congrArg Prod.snd (List.mem_singleton.mp hp)) hr (by omega) (by rfl) (LamX.lamS_by (sc := C8.fnScope s__law_wrong_right) (by decide +kernel)) (fun _ _ _ _ _ _ _ hr2 => (Gx.pe_cx (calx_unmixed T) Gx.takes_lam (fun _ _ _ _ h => h) hr2 (by omega) (by rfl) (pa_cons (pv 2) pa_nil)))) pa_nil)))
      (pss_cons (ps_if (PW.pt (pw_or (pt_cmpR (op_neD hu64) (pv 3) (pe_op op_cat (pe_op op_rep (pe_lst (pa_cons (pe_lst (pa_cons pe_str (pa_cons (pe_callB (Gx.call_reprD gd hu64) (by rfl) T.b_repr (by decide +kernel) (pa_cons (pv 1) pa_nil)) pa_nil))) pa_nil)) pe_int) (pe_op op_rep (pe_lst (pa_cons (pe_lst (pa_cons pe_str (pa_cons (pe_callB (Gx.call_reprD gd hu64) (by rfl) T.b_repr (by decide +kernel) (pa_cons (pv 2) pa_nil)) pa_nil))) pa_nil)) pe_int)) (nomark _)) (pw_or1 (pt_val (C8.pe_c (cal_is_word T) hr (by omega) (by rfl) (pa_cons (pv 1) pa_nil)))))) (pss_one (ps_ret pe_bl)) pss_nil)
      (pss_one (ps_ret (pe_cmpR op_eq (C8.pe_c (cal_is_integer T) hr (by omega) (by rfl) (pa_cons (pv 1) pa_nil)) (pe_and (pe_callB call_isi (by rfl) T.b_isinstance (by decide +kernel) (pa_cons (pv 1) (pa_cons (pe_bltn (v := .ty "int") (by rfl) T.b_int (by decide +kernel) rfl) pa_nil))) (pe_one (pe_not (pe_callB call_isi (by rfl) T.b_isinstance (by decide +kernel) (pa_cons (pv 1) (pa_cons (pe_bltn (v := .ty "bool") (by rfl) T.b_bool (by decide +kernel) rfl) pa_nil)))))) (nomark _))))))))))), ?_⟩
    walk_at "rd"
    intro p1 hp1
    obtain ⟨H1, hHx, e1, k1⟩ := Gx.newo (o := (HO.tup [V.int 1])) hp1
    rw [← hHx]
    clear hHx
    walk_at "rd"
    intro p2 hp2
    obtain ⟨H2, hHx, e2, k2⟩ := Gx.newo (o := (HO.lst [V.int 0])) hp2
    rw [← hHx]
    clear hHx
    walk_at "rd"
    intro p3 hp3
    obtain ⟨H3, hHx, e3, k3⟩ := Gx.newo (o := (HO.dK [])) hp3
    rw [← hHx]
    clear hHx
    walk_at "rd"
    intro l1 hl1
    obtain ⟨H4, hHx, e4, k4⟩ := Gx.newo (o := (HO.lst [V.int (-1), .int 4294967296, .bl true, .non, .str "1", .ref p1, .ref p2, .int (10 ^ Int.toNat 30), .ref p3])) hl1
    rw [← hHx]
    clear hHx
    walk_at "rd"
    have E4 := ((e1.trans e2).trans e3).trans e4
    have nd : ∀ {c : Addr} {o : HO}, H4 c = some o → (∀ kvs, o = .dK kvs → kvs = []) → c ≠ d := fun {c o} hc hz z => by
      obtain ⟨l, ce, t, D⟩ := D.ex E4
      rw [z, D.dic] at hc
      cases hc
      cases hz _ rfl
    refine u_digit (by decide) (by decide) (by omega) (D.ex E4) fun H5 v v0 v1 D5 x5 => ?_
    obtain ⟨o1, t1, eo1, so1, fo1⟩ := oddPick (K := K) (m := 4294967296) (p1 := p1) (p2 := p2) (p3 := p3) (by decide +kernel) (by decide) (by decide) v0 v1
    have g1 := x5 _ _ (e4 _ _ (e3 _ _ (e2 _ _ k1))) (nd (e4 _ _ (e3 _ _ (e2 _ _ k1))) (fun _ z => by cases z))
    have g2 := x5 _ _ (e4 _ _ (e3 _ _ k2)) (nd (e4 _ _ (e3 _ _ k2)) (fun _ z => by cases z))
    have g3 := x5 _ _ (e4 _ _ k3) (nd (e4 _ _ k3) (fun _ z => by cases z; rfl))
    refine Rd.ixL (Rd.sql (x5 _ _ k4 (nd k4 (fun _ z => by cases z)))) eo1 ?_
    walk_at "rd"
    intro q1 hq1
    obtain ⟨J1, hHx, j1, i1⟩ := Gx.newo (o := (HO.tup [V.int 1])) hq1
    rw [← hHx]
    clear hHx
    walk_at "rd"
    intro q2 hq2
    obtain ⟨J2, hHx, j2, i2⟩ := Gx.newo (o := (HO.lst [V.int 0])) hq2
    rw [← hHx]
    clear hHx
    walk_at "rd"
    intro q3 hq3
    obtain ⟨J3, hHx, j3, i3⟩ := Gx.newo (o := (HO.dK [])) hq3
    rw [← hHx]
    clear hHx
    walk_at "rd"
    intro l2 hl2
    obtain ⟨J4, hHx, j4, i4⟩ := Gx.newo (o := (HO.lst [V.int (-1), .int 18446744073709551616, .bl true, .non, .str "1", .ref q1, .ref q2, .int (10 ^ Int.toNat 30), .ref q3])) hl2
    rw [← hHx]
    clear hHx
    walk_at "rd"
    have F4 := ((j1.trans j2).trans j3).trans j4
    have nd2 : ∀ {c : Addr} {o : HO}, J4 c = some o → (∀ kvs, o = .dK kvs → kvs = []) → c ≠ d := fun {c o} hc hz z => by
      obtain ⟨l, ce, t, D⟩ := D5.ex F4
      rw [z, D.dic] at hc
      cases hc
      cases hz _ rfl
    refine u_digit (by decide) (by decide) (by omega) (D5.ex F4) fun J5 y y0 y1 D6 x6 => ?_
    obtain ⟨o2, t2, eo2, so2, fo2⟩ := oddPick (K := K) (m := 18446744073709551616) (p1 := q1) (p2 := q2) (p3 := q3) (by decide +kernel) (by decide) (by decide) y0 y1
    have r1 := x6 _ _ (j4 _ _ (j3 _ _ (j2 _ _ i1))) (nd2 (j4 _ _ (j3 _ _ (j2 _ _ i1))) (fun _ z => by cases z))
    have r2 := x6 _ _ (j4 _ _ (j3 _ _ i2)) (nd2 (j4 _ _ (j3 _ _ i2)) (fun _ z => by cases z))
    have r3 := x6 _ _ (j4 _ _ i3) (nd2 (j4 _ _ i3) (fun _ z => by cases z; rfl))
    have g1 := x6 _ _ (F4 _ _ g1) (nd2 (F4 _ _ g1) (fun _ z => by cases z))
    have g2 := x6 _ _ (F4 _ _ g2) (nd2 (F4 _ _ g2) (fun _ z => by cases z))
    have g3 := x6 _ _ (F4 _ _ g3) (nd2 (F4 _ _ g3) (fun _ z => by cases z; rfl))
    refine Rd.ixL (Rd.sql (x6 _ _ i4 (nd2 i4 (fun _ z => by cases z)))) eo2 ?_
    walk_at "rd"
    have all1 : ∀ H', LamX.ExtN J5 H' → Odd 4294967296 H' o1 ∧ Shw K H' o1 t1 := fun H' e => fo1 H' (e _ _ g1 (fun _ z => by cases z)) (e _ _ g2 (fun _ z => by cases z)) (e _ _ g3 (fun _ z => by cases z))
    have all2 : ∀ H', LamX.ExtN J5 H' → Odd 18446744073709551616 H' o2 ∧ Shw K H' o2 t2 := fun H' e => fo2 H' (e _ _ r1 (fun _ z => by cases z)) (e _ _ r2 (fun _ z => by cases z)) (e _ _ r3 (fun _ z => by cases z))
    have T5 := tabs_exd ((tabs_exd (tb.ext E4) (D.ex E4) x5).ext F4) (D5.ex F4) x6
    refine u_toldW T5 rfl all1 fun r1 J6 n6 T6 a1 => ?_
    walk_at "rd"
    intro rl hrl
    obtain ⟨J7, hHx, j7, i7⟩ := Gx.newo (o := (HO.lst [V.ref r1])) hrl
    rw [← hHx]
    clear hHx
    walk_at "rd"
    refine ⟨Rd.tyL i7, ?_⟩
    walk_at "rd"
    have N7 := n6.trans (.of j7)
    refine u_toldW (T6.ext j7) rfl (fun H' e => all1 H' (N7.trans e)) fun r2 J8 n8 T8 a2 => ?_
    walk_at "rd"
    refine Au.app (by walk_at "hp") (Nat.le_of_ble_eq_true rfl) fun J9 m9 i9 => ?_
    have all1' : Odd 4294967296 J9 o1 ∧ Shw K J9 o1 t1 := fo1 J9 (by walk_at "hp") (by walk_at "hp") (by walk_at "hp")
    have al2 : ∀ H', LamX.ExtN J9 H' → Odd 18446744073709551616 H' o2 ∧ Shw K H' o2 t2 := fun H' e => fo2 H' (by walk_at "hp") (by walk_at "hp") (by walk_at "hp")
    walk_at "rd"
    refine ⟨Rd.tyL i9, ?_⟩
    walk_at "rd"
    refine u_toldN (tabs_exp T8 (by walk_at "hp") m9) rfl al2 fun r3 J10 n10 T10 a3 => ?_
    walk_at "rd"
    refine Au.app (by walk_at "hp") (Nat.le_of_ble_eq_true rfl) fun J11 m11 i11 => ?_
    have al3 : ∀ H', LamX.ExtN J11 H' → Odd 18446744073709551616 H' o2 ∧ Shw K H' o2 t2 := fun H' e => fo2 H' (by walk_at "hp") (by walk_at "hp") (by walk_at "hp")
    walk_at "rd"
    refine ⟨Rd.tyL i11, ?_⟩
    walk_at "rd"
    refine u_toldN (tabs_exp T10 (by walk_at "hp") m11) rfl al3 fun r4 J12 n12 T12 a4 => ?_
    walk_at "rd"
    refine Au.app (by walk_at "hp") (Nat.le_of_ble_eq_true rfl) fun J13 m13 i13 => ?_
    have TF := tabs_exp T12 (by walk_at "hp") m13
    have al4 : Odd 4294967296 J13 o1 ∧ Shw K J13 o1 t1 := fo1 J13 (by walk_at "hp") (by walk_at "hp") (by walk_at "hp")
    have al5 : Odd 18446744073709551616 J13 o2 ∧ Shw K J13 o2 t2 := fo2 J13 (by walk_at "hp") (by walk_at "hp") (by walk_at "hp")
    walk_at "rd"
    refine al4.2 _ ?_
    walk_at "rd"
    intro c1 hc1
    obtain ⟨K1, hHx, f1, g1⟩ := Gx.newo (o := (HO.lst [V.str "word", .str t1])) hc1
    rw [← hHx]
    clear hHx
    walk_at "rd"
    intro c2 hc2
    obtain ⟨K2, hHx, f2, g2⟩ := Gx.newo (o := (HO.lst [V.ref c1])) hc2
    rw [← hHx]
    clear hHx
    walk_at "rd"
    refine Au.rep g2 (by decide) (Nat.le_of_ble_eq_true rfl) fun c3 K3 hc3 f3 g3 => ?_
    replace g3 : K3 c3 = some (.lst [.ref c1, .ref c1]) := g3
    have al6 : Odd 18446744073709551616 K3 o2 ∧ Shw K K3 o2 t2 := fo2 K3 (by walk_at "hp") (by walk_at "hp") (by walk_at "hp")
    walk_at "rd"
    refine al6.2 _ ?_
    walk_at "rd"
    intro c4 hc4
    obtain ⟨K4, hHx, f4, g4⟩ := Gx.newo (o := (HO.lst [V.str "number", .str t2])) hc4
    rw [← hHx]
    clear hHx
    walk_at "rd"
    intro c5 hc5
    obtain ⟨K5, hHx, f5, g5⟩ := Gx.newo (o := (HO.lst [V.ref c4])) hc5
    rw [← hHx]
    clear hHx
    walk_at "rd"
    refine Au.rep g5 (by decide) (Nat.le_of_ble_eq_true rfl) fun c6 K6 hc6 f6 g6 => ?_
    replace g6 : K6 c6 = some (.lst [.ref c4, .ref c4]) := g6
    walk_at "rd"
    refine Au.cat (by walk_at "hp") (by walk_at "hp") (Nat.le_of_ble_eq_true rfl) fun c7 K7 hc7 f7 g7 => ?_
    replace g7 : K7 c7 = some (.lst [.ref c1, .ref c1, .ref c4, .ref c4]) := g7
    replace i13 : J13 rl = some (.lst [.ref r1, .ref r2, .ref r3, .ref r4]) := i13
    walk_at "rd"
    refine Au.neDs (d := .list [.list [.str "word", .str t1], .list [.str "word", .str t1], .list [.str "number", .str t2], .list [.str "number", .str t2]]) (by walk_at "dp") (by walk_at "dp") (shp4 so1 so2) ?_
    have al7 : Odd 4294967296 K7 o1 ∧ Shw K K7 o1 t1 := fo1 K7 (by walk_at "hp") (by walk_at "hp") (by walk_at "hp")
    walk_at "rd"
    have D13 : Dr K7 d (n + 8) := by
      obtain ⟨l, ce, tt, D⟩ := D6
      have Dd := D.dic
      exact ⟨l, ce, tt, by walk_at "hp", D.l0, D.t0, by have := D.t1; omega⟩
    have fin := q K7 D13 (TF.ext (fun c o h => by walk_at "hp")) (fun c xs h => by
      obtain ⟨l0, ce0, tt0, DD⟩ := D
      have Dd0 := DD.dic
      have x5' : Au.ExP d H4 H5 := x5
      have x6' : Au.ExP d J4 J5 := x6
      obtain ⟨l1, ce1, tt1, DD1⟩ := D5
      have Dd1 := DD1.dic
      clear E4 F4 N7
      walk_at "hp")
    rcases al7.1 with ⟨m, rfl, hm⟩ | hm
    · refine ⟨_, rfl, .inl ⟨m, rfl, ?_⟩⟩
      rw [decide_eq_false hm]
      walk_at "rd"
      refine ⟨_, rfl, .inl ⟨m, rfl, ?_⟩⟩
      walk_at "rd"
      exact ⟨rfl, fin⟩
    · refine ⟨_, rfl, .inr ⟨hm, ?_⟩⟩
      walk_at "rd"
      refine ⟨_, rfl, .inr ⟨hm, ?_⟩⟩
      walk_at "rd"
      refine kitsT K hm ?_ ?_
      · walk_at "rd"
        exact ⟨rfl, fin⟩
      · rintro ⟨b, rfl⟩
        walk_at "rd"
        refine isiB (.base (.bl b)) (kit_t K).2.2.1 ?_
        walk_at "rd"
        exact ⟨rfl, fin⟩
end
end Pf

set_option Elab.async false
set_option linter.all false
set_option maxRecDepth 100000
set_option maxHeartbeats 4000000
namespace Pf
open PySem PySem.Spec PyProof.Rows L2
section
variable {P : Program} {w : World} {K : PySem.W.Frag} {mg : Str → Option Value} {base : Heap} {C_DrawError C_BadWord C_BadNumber R_ROUNDS CO__law_wrong_right TA : Addr}
local macro_rules | `(tactic| walk_at "side") => `(tactic| first | ((with_reducible show L2.CMul _ _); first | exact Or.inl ⟨by omega, by omega⟩ | exact Or.inr ⟨by omega, by omega⟩) | ((with_reducible show L2.CPow _ _); exact ⟨by decide, by decide, by decide⟩) | ((with_reducible show L2.CMulW _ _); exact wide_mul (a := 96) (b := 96) (by omega) (by omega) (by decide) (by decide) (by decide)) | ((with_reducible show L2.CDivW _ _); exact wide_div (b := 96) (by omega) (by omega) (by decide) (by decide)) | (show (0 : Int) < _; omega) | (show (0 : Int) ≤ _; omega))
local macro_rules | `(tactic| walk_at "rd1") => `(tactic| first | with_reducible refine Rd.seq ?_ | with_reducible refine Rd.asg ?_ | with_reducible refine Rd.nm ?_ | with_reducible refine Rd.ret ?_ | with_reducible refine Rd.drop ?_ | with_reducible refine Rd.ifs ?_ | with_reducible refine Rd.par ?_ | with_reducible refine Rd.par3 ?_ | with_reducible refine Rd.next ?_ | with_reducible refine Rd.fr1 ?_ | with_reducible refine Rd.nxp ?_ | with_reducible refine Rd.rtp ?_ | ((with_reducible show tVar _ _ _ _); refine Rd.var rfl ?_) | with_reducible refine Rd.cst ?_ | with_reducible refine Rd.op ?_ | with_reducible refine Rd.un ?_ | with_reducible refine Rd.i0 ?_ | with_reducible refine Rd.ung ?_ | with_reducible refine Rd.eqI ?_ | with_reducible refine Rd.neI ?_ | with_reducible refine Rd.eqS ?_ | with_reducible refine Rd.neS ?_ | with_reducible refine Rd.test ?_ | with_reducible refine Rd.tstB ?_ | with_reducible refine Rd.isB ?_ | with_reducible refine Rd.not ?_ | with_reducible refine Rd.andT ?_ | with_reducible refine Rd.orT ?_ | with_reducible refine Rd.andV ?_ | with_reducible refine Rd.orV ?_ | with_reducible refine Rd.notV ?_ | with_reducible refine Rd.ifE ?_ | with_reducible refine Rd.chain ?_ | with_reducible refine Rd.nil ?_ | with_reducible refine Rd.cons ?_ | with_reducible refine Rd.call ?_ | with_reducible refine Rd.cb ?_ | with_reducible refine Rd.bm ?_ | with_reducible refine Au.revL ?_ | with_reducible refine Rd.frl ?_ | with_reducible refine Rd.frt ?_ | with_reducible refine Rd.fre ?_ | with_reducible refine Rd.disp ?_ | with_reducible refine Rd.pnil ?_ | with_reducible refine Rd.pcons ?_ | with_reducible refine Rd.gcons ?_ | with_reducible refine Rd.gnil ?_ | with_reducible refine Rd.gsub ?_ | with_reducible refine Rd.setD ?_ | ((with_reducible show gTup _ _ _ _ _ (upd _ _ (HO.tup _)) _); refine Rd.tupNew rfl ?_) | with_reducible refine Rd.fld ?_ | with_reducible refine Rd.meth ?_ | with_reducible refine Rd.make ?_ | with_reducible refine Rd.prop ?_ | with_reducible refine Au.tup ?_ | with_reducible refine Au.lst ?_ | ((with_reducible refine Au.lenOk ?hl ?_); (case hl => exact rfl)) | with_reducible refine Au.nopart ?_ | with_reducible refine Au.part ?_ | with_reducible refine Au.isI ?_ | with_reducible refine Au.sl ?_ | with_reducible refine Au.pr2 ?_ | with_reducible refine Au.pr3 ?_ | with_reducible refine Gx.dget ?_ | with_reducible refine Gx.dput ?_ | with_reducible refine Au.eqB ?_ | with_reducible refine Rd.isInt ?_ | with_reducible refine Rd.isBool ?_ | with_reducible refine Rd.mx2 ?_ | with_reducible refine Rd.mn2 ?_ | ((with_reducible show Rd.rAndM _ _ _ _); first | refine Rd.and1 ?_ | refine Rd.and48 ?_ | refine Rd.and32 ?_ | refine Rd.and64 ?_ | refine Rd.and65 ?_) | ((with_reducible refine Rd.iC ?hc ?_); (case hc => walk_at "side")) | ((with_reducible refine Rd.yes ?hc ?_); (case hc => omega)) | ((with_reducible refine Rd.no ?hc ?_); (case hc => omega)) | ((with_reducible refine Rd.noN ?hc ?_); (case hc => omega)) | ((with_reducible refine Rd.yesN ?hc ?_); (case hc => omega)) | ((with_reducible refine Rd.yesNN ?hc ?_); (case hc => omega)) | ((with_reducible refine Rd.noNN ?hc ?_); (case hc => omega)) | with_reducible refine iteT ?_ | with_reducible refine iteF ?_ | with_reducible refine Rd.iteNT ?_ | with_reducible refine Rd.iteNF ?_)
local macro_rules | `(tactic| walk_at "rd") => `(tactic| repeat (walk_at "rd1"))
local macro_rules | `(tactic| walk_at "rd1") => `(tactic| first | with_reducible refine Gx.dget ?_ | with_reducible refine Gx.dput ?_)
local macro_rules | `(tactic| walk_at "hp") => `(tactic| first | assumption | (apply Au.sm; (focus assumption); (walk_at "hp")) | (apply Au.smp; (focus assumption); (focus (walk_at "hp")); (walk_at "ne")) | (apply Au.smn; (focus assumption); (focus (walk_at "hp")); (focus (intro _ z; cases z))) | fail "hp")
local macro_rules | `(tactic| walk_at "ne") => `(tactic| first | assumption | (apply Ne.symm; assumption) | (apply Au.nen; (focus assumption); (walk_at "hp")) | (apply Au.nen'; (focus assumption); (walk_at "hp")) | (apply Au.nek; (focus (walk_at "hp")); (focus (walk_at "hp")); (intro z; cases z)) | fail "ne")
local macro_rules | `(tactic| walk_at "dp") => `(tactic| first | exact Dp.int _ | exact Dp.str _ | exact Dp.bl _ | exact Dp.non | (apply Dp.lst; (focus (apply Rd.sql; walk_at "hp")); (walk_at "dps")) | (apply Dp.tup; (focus (apply Rd.sqt; walk_at "hp")); (walk_at "dps")) | fail "dp")
local macro_rules | `(tactic| walk_at "dps") => `(tactic| first | exact DpAll.nil | (apply DpAll.cons; (focus (walk_at "dp")); (walk_at "dps")) | fail "dps")
local macro_rules | `(tactic| walk_at "shp") => `(tactic| ((simp only [SeqAt.shaped, PyData.canLay0, PyData.canLayAll0, PyData.depth, PyData.depthAll]) <;> decide))
theorem int_at {ns : List Int} {i : Nat} {y : V} (h : (ns.map V.int)[i]? = some y) : ∃ z, ns[i]? = some z ∧ y = .int z := by
  rw [List.getElem?_map] at h
  cases e : ns[i]? with
  | none => rw [e] at h; cases h
  | some z => rw [e] at h; exact ⟨z, rfl, (Option.some.inj h).symm⟩
theorem u_word {H : Hp} {Q : VK} {E : XK} {d : Addr} {n : Nat} (hn : n ≤ 900000) (D : Dr H d n) (q : ∀ (H' : Hp) (v : Nat), v < 4294967296 → Dr H' d (n + 12) → ExD d H H' → Q (.int v) H') : spWord ([.ref d] ++ []) H Q E := ⟨d, n, rfl, hn, D, q⟩
def spLaw (K : PySem.W.Frag) (TA : Addr) : Sp := fun vs H Q _ => ∃ (a : Addr) (ns : List Int), vs = [.ref a] ∧ SqL K H a (ns.map V.int) ∧ ns.length ≤ 63 ∧ LamX.Tabs [(TA, "_law_wrong_right.<locals>.<lambda>")] H ∧ ∀ H', Q (.bl true) H'
theorem fn_law (T : Txt K mg C_DrawError C_BadWord C_BadNumber R_ROUNDS CO__law_wrong_right) (TB : LamX.TabB base mg CO__law_wrong_right TA) {f : Addr} {fd : FuncData} (F : C8.Def K mg "law" s_law f fd) : Gx.FnG P w K mg base 10 f fd ["_law_script"] (spLaw K TA) := by
  refine Gx.fnG_of F.fn sc_law (fun vs H Q E h => ?_) (fun cdv A outer s H vs Q gd hr h => ?_)
  · obtain ⟨a, ns, rfl, _⟩ := h; rfl
  · obtain ⟨a, ns, rfl, hS, hl, tb, q⟩ := h
    have hu := hu_of hr
    have hu64 := hr.units
    refine ⟨_, (pss_cons (ps_if (pt_cmpR (op_neD hu64) (pe_lst (pa_cons (C8.pe_gc (by rfl) T.c_WORDS) (pa_cons (C8.pe_gc (by rfl) T.c_FACTOR) pa_nil))) (pe_lst (pa_cons pe_int (pa_cons pe_int pa_nil))) (nomark _)) (pss_one (ps_ret pe_bl)) pss_nil)
      (pss_cons (ps_for PassesOwn.never rfl (pi_enum (by rfl) T.b_enumerate (pa_cons (pe_op op_cat (pe_slice sl_list (pv 0) po_none (po_some pe_int)) (pe_lst (pa_cons (pe_callB (cr_sum rfl) (by rfl) T.b_sum (by decide +kernel) (pa_cons (pv 0) pa_nil)) pa_nil))) pa_nil)) (pg_tup rfl (pgs_cons (pg_name (i := 1) sc_law.nd rfl (.inl rfl)) (pgs_cons (pg_name (i := 2) sc_law.nd rfl (.inl rfl)) pgs_nil))) (pss_cons (ps_set (i := 3) sc_law.nd rfl (.inl rfl) (C8.pe_c (cal__law_draw T) hr (by omega) (by rfl) (pa_cons (pv 2) (pa_cons (pv 1) pa_nil))))
      (pss_cons (ps_for PassesOwn.never rfl (pi_range1 rfl T.b_range (pa_cons pe_int pa_nil)) (pg_name (i := 4) sc_law.nd rfl (.inl rfl)) (pss_cons (ps_par (i := 5) (j := 6) rfl sc_law.nd rfl rfl (by decide) rfl rfl (pa_cons (C8.pe_c (cal__law_word T) hr (by omega) (by rfl) (pa_cons (pv 3) pa_nil)) (pa_cons (C8.pe_c (cal__law_word T) hr (by omega) (by rfl) (pa_cons (pv 3) pa_nil)) pa_nil)) (by rfl))
      (pss_cons (ps_set (i := 7) sc_law.nd rfl (.inl rfl) (pe_op op_add (pe_op op_mul (pv 6) pe_int) (pv 5)))
      (pss_cons (ps_if (PW.pt (pw_or (pt_cmpR op_ne (C8.pe_c (cal_tempered T) hr (by omega) (by rfl) (pa_cons (pv 5) pa_nil)) (C8.pe_c (cal__law_tempered T) hr (by omega) (by rfl) (pa_cons (pv 5) pa_nil)) (nomark _)) (pw_or1 (pt_cmpR op_ne (C8.pe_c (cal_mixed T) hr (by omega) (by rfl) (pa_cons (pv 7) pa_nil)) (C8.pe_c (cal__law_mixed_number T) hr (by omega) (by rfl) (pa_cons (pv 7) pa_nil)) (nomark _))))) (pss_one (ps_ret pe_bl)) pss_nil)
      (pss_cons (ps_if (PW.pt (pw_or (pt_cmpR op_ne (C8.pe_c (cal_untempered T) hr (by omega) (by rfl) (pa_cons (C8.pe_c (cal_tempered T) hr (by omega) (by rfl) (pa_cons (pv 5) pa_nil)) pa_nil)) (pv 5) (nomark _)) (pw_or1 (pt_cmpR op_ne (C8.pe_c (cal_tempered T) hr (by omega) (by rfl) (pa_cons (C8.pe_c (cal_untempered T) hr (by omega) (by rfl) (pa_cons (pv 5) pa_nil)) pa_nil)) (pv 5) (nomark _))))) (pss_one (ps_ret pe_bl)) pss_nil)
      (pss_one (ps_if (PW.pt (pw_or (pt_cmpR op_ne (C8.pe_c (cal_unmixed T) hr (by omega) (by rfl) (pa_cons (C8.pe_c (cal_mixed T) hr (by omega) (by rfl) (pa_cons (pv 7) pa_nil)) pa_nil)) (pv 7) (nomark _)) (pw_or (pt_cmpR op_ne (C8.pe_c (cal_mixed T) hr (by omega) (by rfl) (pa_cons (C8.pe_c (cal_unmixed T) hr (by omega) (by rfl) (pa_cons (pv 7) pa_nil)) pa_nil)) (pv 7) (nomark _)) (pw_or1 (pt_not (pt_val (C8.pe_c (cal_is_word T) hr (by omega) (by rfl) (pa_cons (pv 5) pa_nil)))))))) (pss_one (ps_ret pe_bl)) pss_nil)))))))
      (pss_one (ps_if (pt_not (pt_val (Gx.pe_g (cal__law_wrong_right T TB) gd hr (by omega) (by rfl) (pa_cons (pv 3) pa_nil)))) (pss_one (ps_ret pe_bl)) pss_nil)))))
      (pss_one (ps_ret pe_bl)))), ?_⟩
    walk_at "rd"
    refine Au.new fun p1 H1 hp1 e1 k1 => ?_
    walk_at "rd"
    refine Au.new fun p2 H2 hp2 e2 k2 => ?_
    walk_at "rd"
    refine Au.neDs (d := .list [.int 4294967296, .int 3486784401]) (by walk_at "dp") (by walk_at "dp") (by decide) ?_
    walk_at "rd"
    refine Au.slL (Rd.ex_l (e1.trans e2) hS) ?_
    refine Au.new fun p3 H3 hp3 e3 k3 => ?_
    walk_at "rd"
    refine Au.sum (Rd.ex_l ((e1.trans e2).trans e3) hS) ?_
    walk_at "rd"
    refine Au.new fun p4 H4 hp4 e4 k4 => ?_
    walk_at "rd"
    have hcl := cutV_length (ns.map V.int) none (some 6)
    rw [List.length_map] at hcl
    refine Au.cat (by walk_at "hp") k4 (by simp only [List.length_cons, List.length_nil]; omega) fun pL HL hpL eL kL => ?_
    walk_at "rd"
    obtain ⟨L, eLL, hLL⟩ : ∃ L : List Int, cutV (ns.map V.int) none (some 6) ++ [V.int ns.sum] = L.map V.int ∧ L.length ≤ 64 := by
      refine ⟨((ns.drop (HT.sIx (ns.map V.int).length 0 none)).take (HT.sIx (ns.map V.int).length (ns.map V.int).length (some 6) - HT.sIx (ns.map V.int).length 0 none)) ++ [ns.sum], ?_, ?_⟩
      · unfold cutV
        rw [List.map_append, List.map_take, List.map_drop]
        rfl
      · have h1 : ((ns.drop (HT.sIx (ns.map V.int).length 0 none)).take (HT.sIx (ns.map V.int).length (ns.map V.int).length (some 6) - HT.sIx (ns.map V.int).length 0 none)).length ≤ ns.length := by
          rw [List.length_take, List.length_drop]; omega
        rw [List.length_append]
        simp only [List.length_cons, List.length_nil]
        omega
    rw [eLL] at kL
    have TL : LamX.Tabs [(TA, "_law_wrong_right.<locals>.<lambda>")] HL := tb.ext (fun c o h => by walk_at "hp")
    refine ⟨pL, _, rfl, Rd.sql kL, for_it (walk_enum (K := K) (a := pL) (xs := L.map V.int)) (fun i σ' H' => ∃ y1 y2 y3 y4 y5 y6 y7, σ' = [some (.ref a), y1, y2, y3, y4, y5, y6, y7] ∧ H' pL = some (.lst (L.map V.int)) ∧ LamX.Tabs [(TA, "_law_wrong_right.<locals>.<lambda>")] H')
      ⟨none, none, none, none, none, none, none, rfl, kL, TL⟩ (fun i σ' H' _ hh => ?_) ?_ ?_⟩
    · obtain ⟨_, _, _, _, _, _, _, _, h, _⟩ := hh
      exact Rd.sql h
    · rintro i x σ' H' H2 hi ⟨y1, y2, y3, y4, y5, y6, y7, rfl, kL, TL⟩ ⟨t, x1, x2, rfl, nt, rfl, f1, f2⟩
      obtain ⟨z, hz, rfl⟩ := int_at f2
      cases f1
      have hi2 : i < 64 := by rw [List.length_map] at hi; omega
      walk_at "rd"
      refine ⟨z, i, rfl, fun H6 d hd e6 D6 => ?_⟩
      have kL6 : H6 pL = some (.lst (L.map V.int)) := by
        refine e6 _ _ ?_
        rw [upd_ne (ne_of_none kL nt)]
        exact kL
      have TL6 := (TL.ext (Rd.ex_new (o := .tup [V.int (i : Int), V.int z]) nt)).ext e6
      have hd' : H' d = none := by
        cases q : H' d with
        | none => rfl
        | some o => rw [Rd.ex_new nt _ _ q] at hd; cases hd
      walk_at "rd"
      refine Rd.frN (n := 4) rfl (by decide) (fun j σ' H' => ∃ y4 y5 y6 y7, σ' = [some (.ref a), some (.int i), some (.int z), some (.ref d), y4, y5, y6, y7] ∧ H' pL = some (.lst (L.map V.int)) ∧ LamX.Tabs [(TA, "_law_wrong_right.<locals>.<lambda>")] H' ∧ Dr H' d (1000 * i + 24 * j))
        ⟨_, _, _, _, rfl, kL6, TL6, D6⟩ ?_ ?_
      · rintro j σ' H7 hj ⟨y4, y5, y6, y7, rfl, kL, TL, D⟩
        have hT8 : ∀ {H8 n} , Dr H7 d n → ExD d H7 H8 → H8 pL = some (.lst (L.map V.int)) := fun {H8 n} D x => x _ _ kL (by
          obtain ⟨l, c, t, D⟩ := D
          intro z
          rw [z, D.dic] at kL
          cases kL)
        walk_at "rd"
        refine u_word (by omega) D fun H8 v hv D8 x8 => ?_
        walk_at "rd"
        refine u_word (by omega) D8 fun H9 u hu D9 x9 => ?_
        have kL9 := hT8 D (x8.trans x9)
        have TL9 := tabs_exd TL D (x8.trans x9)
        walk_at "rd"
        have en : (u : Int) * 4294967296 + (v : Int) = ((u * 4294967296 + v : Nat) : Int) := by omega
        rw [en]
        have hN : u * 4294967296 + v < 18446744073709551616 := by omega
        generalize u * 4294967296 + v = N at hN
        refine u_fn hv fun J1 j1 => ?_
        walk_at "rd"
        refine u_fn hv fun J2 j2 => ?_
        walk_at "rd"
        refine u_fn hN fun J3 j3 => ?_
        walk_at "rd"
        refine u_fn hN fun J4 j4 => ?_
        walk_at "rd"
        refine u_fn hv fun J5 j5 => ?_
        walk_at "rd"
        refine u_fn (MX.tmp_lt v) fun J6 j6 => ?_
        rw [MX.utm_tmp hv]
        walk_at "rd"
        refine u_fn hv fun J7 j7 => ?_
        walk_at "rd"
        refine u_fn (MX.utm_lt v) fun J8 j8 => ?_
        rw [MX.tmp_utm hv]
        walk_at "rd"
        refine u_fn hN fun J9 j9 => ?_
        walk_at "rd"
        refine u_fn (MX.mix_lt hN) fun J10 j10 => ?_
        rw [MX.unm_mix hN]
        walk_at "rd"
        refine u_fn hN fun J11 j11 => ?_
        walk_at "rd"
        refine u_fn (MX.unm_lt hN) fun J12 j12 => ?_
        rw [MX.mix_unm hN]
        walk_at "rd"
        refine ⟨_, rfl, .inl ⟨v, rfl, ?_⟩⟩
        rw [decide_eq_true ⟨by omega, by omega⟩]
        walk_at "rd"
        refine ⟨_, _, _, _, rfl, by walk_at "hp", TL9.ext (fun c o h => by walk_at "hp"), (D9.ex (fun c o h => by walk_at "hp")).mono (by omega)⟩
      · rintro σ' H7 ⟨y4, y5, y6, y7, rfl, kL, TL, D⟩
        walk_at "rd"
        refine ⟨d, 1000 * i + 24 * 4, rfl, by omega, D, TL, fun H8 D8 T8 fr => ?_⟩
        walk_at "rd"
        exact ⟨_, _, _, _, _, _, _, rfl, fr _ _ kL, T8⟩
    · rintro σ' H' ⟨y1, y2, y3, y4, y5, y6, y7, rfl, _, _⟩
      walk_at "rd"
      exact q H'
end
end Pf

set_option Elab.async false
set_option linter.all false
set_option maxRecDepth 100000
set_option maxHeartbeats 4000000
namespace Pf
open PySem PySem.Spec PyProof.Rows L2
theorem law_mk {l : PySem.W.OpenLaw} {w : World} {K : PySem.W.Frag} {mg : Str → Option Value} {fa C_DrawError C_BadWord C_BadNumber R_ROUNDS CO__law_wrong_right TA : Addr} {h : Heap} (hmg : mg "law" = some (.ref fa)) (T : Txt K mg C_DrawError C_BadWord C_BadNumber R_ROUNDS CO__law_wrong_right)
    (hT : h.get? TA = some { cls := .none, data := .fields #[] }) (nT : K.lookup TA = none) (hC : PySem.W.CodeHd h CO__law_wrong_right TA) : Gx.LawG l w K 10 "_law_script" mg fa h := by
  obtain ⟨f, fd, F, b, hb⟩ := T.d_law
  have e := hmg.symm.trans F.mgf
  cases e
  refine ⟨fd, [(CO__law_wrong_right, TA)], spLaw K TA, fun p hp => ?_, fun p hp => ?_, fun p hp => ?_, hb, fun H a ns hl _ hH hS => ⟨a, ns, rfl, hS, hl, fun p hp => ?_, fun _ => rfl⟩, fun base _ _ hTB => fn_law T (hTB _ (List.mem_singleton.mpr rfl)) F⟩
  · cases List.mem_singleton.mp hp; exact hT
  · cases List.mem_singleton.mp hp; exact nT
  · cases List.mem_singleton.mp hp; exact hC
  · cases List.mem_singleton.mp hp
    exact ⟨#[], hH _ (List.mem_singleton.mpr rfl), by first | exact .nil | simp [LamX.TriplesOk] | trivial, fun pos cv hc => by simp [codeAmong] at hc⟩
set_option maxHeartbeats 4000000 in
theorem txt_mk {K : PySem.W.Frag} {h : Heap} {mg : Str → Option Value} {f_BadWord___init__ f_BadNumber___init__ f_is_integer f_is_word f_need_word f_need_double f_own_tempered f_tempered f_undo_factor f_untempered f_mixed f_unmixed f__law_mixed f__law_draw f__law_digit f__law_word f__law_xor f__law_tempered f__law_mixed_number f__law_told f__law_wrong_right f_law R_ROUNDS CO__law_wrong_right C_DrawError C_BadWord C_BadNumber : Addr} {od_BadWord___init__ an_BadWord___init__ od_BadNumber___init__ an_BadNumber___init__ od_is_integer an_is_integer od_is_word an_is_word od_need_word an_need_word od_need_double an_need_double od_own_tempered an_own_tempered od_tempered an_tempered od_undo_factor an_undo_factor od_untempered an_untempered od_mixed an_mixed od_unmixed an_unmixed od__law_mixed an__law_mixed od__law_draw an__law_draw od__law_digit an__law_digit od__law_word an__law_word od__law_xor an__law_xor od__law_tempered an__law_tempered od__law_mixed_number an__law_mixed_number od__law_told an__law_told od__law_wrong_right an__law_wrong_right od_law an_law : Option Addr} {sl_BadWord___init__ sl_BadNumber___init__ sl_is_integer sl_is_word sl_need_word sl_need_double sl_own_tempered sl_tempered sl_undo_factor sl_untempered sl_mixed sl_unmixed sl__law_mixed sl__law_draw sl__law_digit sl__law_word sl__law_xor sl__law_tempered sl__law_mixed_number sl__law_told sl__law_wrong_right sl_law : Array (Option Value)} {oc_BadWord___init__ kV_BadWord___init__ dc_BadWord___init__ pm_BadWord___init__ cd_BadWord___init__ ct_BadWord___init__ oc_BadNumber___init__ kV_BadNumber___init__ dc_BadNumber___init__ pm_BadNumber___init__ cd_BadNumber___init__ ct_BadNumber___init__ oc_is_integer kV_is_integer dc_is_integer pm_is_integer cd_is_integer ct_is_integer oc_is_word kV_is_word dc_is_word pm_is_word cd_is_word ct_is_word oc_need_word kV_need_word dc_need_word pm_need_word cd_need_word ct_need_word oc_need_double kV_need_double dc_need_double pm_need_double cd_need_double ct_need_double oc_own_tempered kV_own_tempered dc_own_tempered pm_own_tempered cd_own_tempered ct_own_tempered oc_tempered kV_tempered dc_tempered pm_tempered cd_tempered ct_tempered oc_undo_factor kV_undo_factor dc_undo_factor pm_undo_factor cd_undo_factor ct_undo_factor oc_untempered kV_untempered dc_untempered pm_untempered cd_untempered ct_untempered oc_mixed kV_mixed dc_mixed pm_mixed cd_mixed ct_mixed oc_unmixed kV_unmixed dc_unmixed pm_unmixed cd_unmixed ct_unmixed oc__law_mixed kV__law_mixed dc__law_mixed pm__law_mixed cd__law_mixed ct__law_mixed oc__law_draw kV__law_draw dc__law_draw pm__law_draw cd__law_draw ct__law_draw oc__law_digit kV__law_digit dc__law_digit pm__law_digit cd__law_digit ct__law_digit oc__law_word kV__law_word dc__law_word pm__law_word cd__law_word ct__law_word oc__law_xor kV__law_xor dc__law_xor pm__law_xor cd__law_xor ct__law_xor oc__law_tempered kV__law_tempered dc__law_tempered pm__law_tempered cd__law_tempered ct__law_tempered oc__law_mixed_number kV__law_mixed_number dc__law_mixed_number pm__law_mixed_number cd__law_mixed_number ct__law_mixed_number oc__law_told kV__law_told dc__law_told pm__law_told cd__law_told ct__law_told oc__law_wrong_right kV__law_wrong_right dc__law_wrong_right pm__law_wrong_right ct__law_wrong_right oc_law kV_law dc_law pm_law cd_law ct_law : Value} {tk_WORDS tk_DOUBLES tk_FACTOR tk_MIX_STEP oT_ROUNDS_0 oT_ROUNDS_1 oT_ROUNDS_2 oT_ROUNDS_3 : Tok} {oD_ROUNDS : Option Addr} {oN_ROUNDS : Nat} {oS_ROUNDS : Array (Option Value)} {xnm_BadWord xq_BadWord : Str} {xN_BadWord : Addr} {xbs_BadWord xbm_BadWord xsub_BadWord : List Value} {xsn_BadWord : List Str} {xab_BadWord : Bool} {xcol_BadWord : Option Bool} {xdd_BadWord : Option Addr} {xk0_BadWord xk1_BadWord xk2_BadWord xk3_BadWord xk5_BadWord : Option Value} {xnm_BadNumber xq_BadNumber : Str} {xN_BadNumber : Addr} {xbs_BadNumber xbm_BadNumber xsub_BadNumber : List Value} {xsn_BadNumber : List Str} {xab_BadNumber : Bool} {xcol_BadNumber : Option Bool} {xdd_BadNumber : Option Addr} {xk0_BadNumber xk1_BadNumber xk2_BadNumber xk3_BadNumber xk5_BadNumber : Option Value} (X : K.In h) (G : h.Ns mainGlobals mg)
    (a_BadWord___init__ : PySem.W.findIn K (.ref C_BadWord) "__init__" = some (some (.ref f_BadWord___init__)))
    (ti_BadWord___init__ : PySem.W.typeIn K (.ref f_BadWord___init__) = some (.type "function"))
    (l_BadWord___init__ : K.lookup f_BadWord___init__ = some ⟨oc_BadWord___init__, od_BadWord___init__, .func (PySem.W.fnOf "__init__" "BadWord.__init__" (C8.fnArgs s_BadWord___init__) (C8.fnBody s_BadWord___init__) (C8.fnScope s_BadWord___init__) .none kV_BadWord___init__ dc_BadWord___init__ pm_BadWord___init__ an_BadWord___init__ cd_BadWord___init__ ct_BadWord___init__), sl_BadWord___init__⟩)
    (c_BadWord___init__ : PySem.W.codeIn K cd_BadWord___init__ "BadWord.__init__" = true)
    (a_BadNumber___init__ : PySem.W.findIn K (.ref C_BadNumber) "__init__" = some (some (.ref f_BadNumber___init__)))
    (ti_BadNumber___init__ : PySem.W.typeIn K (.ref f_BadNumber___init__) = some (.type "function"))
    (l_BadNumber___init__ : K.lookup f_BadNumber___init__ = some ⟨oc_BadNumber___init__, od_BadNumber___init__, .func (PySem.W.fnOf "__init__" "BadNumber.__init__" (C8.fnArgs s_BadNumber___init__) (C8.fnBody s_BadNumber___init__) (C8.fnScope s_BadNumber___init__) .none kV_BadNumber___init__ dc_BadNumber___init__ pm_BadNumber___init__ an_BadNumber___init__ cd_BadNumber___init__ ct_BadNumber___init__), sl_BadNumber___init__⟩)
    (c_BadNumber___init__ : PySem.W.codeIn K cd_BadNumber___init__ "BadNumber.__init__" = true)
    (a_is_integer : PySem.W.nsIn K mainGlobals "is_integer" = some (some (.ref f_is_integer)))
    (l_is_integer : K.lookup f_is_integer = some ⟨oc_is_integer, od_is_integer, .func (PySem.W.fnOf "is_integer" "is_integer" (C8.fnArgs s_is_integer) (C8.fnBody s_is_integer) (C8.fnScope s_is_integer) .none kV_is_integer dc_is_integer pm_is_integer an_is_integer cd_is_integer ct_is_integer), sl_is_integer⟩)
    (c_is_integer : PySem.W.codeIn K cd_is_integer "is_integer" = true)
    (k_is_integer : PySem.W.keepIn K (.ref f_is_integer) = true)
    (a_is_word : PySem.W.nsIn K mainGlobals "is_word" = some (some (.ref f_is_word)))
    (l_is_word : K.lookup f_is_word = some ⟨oc_is_word, od_is_word, .func (PySem.W.fnOf "is_word" "is_word" (C8.fnArgs s_is_word) (C8.fnBody s_is_word) (C8.fnScope s_is_word) .none kV_is_word dc_is_word pm_is_word an_is_word cd_is_word ct_is_word), sl_is_word⟩)
    (c_is_word : PySem.W.codeIn K cd_is_word "is_word" = true)
    (k_is_word : PySem.W.keepIn K (.ref f_is_word) = true)
    (a_need_word : PySem.W.nsIn K mainGlobals "need_word" = some (some (.ref f_need_word)))
    (l_need_word : K.lookup f_need_word = some ⟨oc_need_word, od_need_word, .func (PySem.W.fnOf "need_word" "need_word" (C8.fnArgs s_need_word) (C8.fnBody s_need_word) (C8.fnScope s_need_word) .none kV_need_word dc_need_word pm_need_word an_need_word cd_need_word ct_need_word), sl_need_word⟩)
    (c_need_word : PySem.W.codeIn K cd_need_word "need_word" = true)
    (k_need_word : PySem.W.keepIn K (.ref f_need_word) = true)
    (a_need_double : PySem.W.nsIn K mainGlobals "need_double" = some (some (.ref f_need_double)))
    (l_need_double : K.lookup f_need_double = some ⟨oc_need_double, od_need_double, .func (PySem.W.fnOf "need_double" "need_double" (C8.fnArgs s_need_double) (C8.fnBody s_need_double) (C8.fnScope s_need_double) .none kV_need_double dc_need_double pm_need_double an_need_double cd_need_double ct_need_double), sl_need_double⟩)
    (c_need_double : PySem.W.codeIn K cd_need_double "need_double" = true)
    (k_need_double : PySem.W.keepIn K (.ref f_need_double) = true)
    (a_own_tempered : PySem.W.nsIn K mainGlobals "own_tempered" = some (some (.ref f_own_tempered)))
    (l_own_tempered : K.lookup f_own_tempered = some ⟨oc_own_tempered, od_own_tempered, .func (PySem.W.fnOf "own_tempered" "own_tempered" (C8.fnArgs s_own_tempered) (C8.fnBody s_own_tempered) (C8.fnScope s_own_tempered) .none kV_own_tempered dc_own_tempered pm_own_tempered an_own_tempered cd_own_tempered ct_own_tempered), sl_own_tempered⟩)
    (c_own_tempered : PySem.W.codeIn K cd_own_tempered "own_tempered" = true)
    (k_own_tempered : PySem.W.keepIn K (.ref f_own_tempered) = true)
    (a_tempered : PySem.W.nsIn K mainGlobals "tempered" = some (some (.ref f_tempered)))
    (l_tempered : K.lookup f_tempered = some ⟨oc_tempered, od_tempered, .func (PySem.W.fnOf "tempered" "tempered" (C8.fnArgs s_tempered) (C8.fnBody s_tempered) (C8.fnScope s_tempered) .none kV_tempered dc_tempered pm_tempered an_tempered cd_tempered ct_tempered), sl_tempered⟩)
    (c_tempered : PySem.W.codeIn K cd_tempered "tempered" = true)
    (k_tempered : PySem.W.keepIn K (.ref f_tempered) = true)
    (a_undo_factor : PySem.W.nsIn K mainGlobals "undo_factor" = some (some (.ref f_undo_factor)))
    (l_undo_factor : K.lookup f_undo_factor = some ⟨oc_undo_factor, od_undo_factor, .func (PySem.W.fnOf "undo_factor" "undo_factor" (C8.fnArgs s_undo_factor) (C8.fnBody s_undo_factor) (C8.fnScope s_undo_factor) .none kV_undo_factor dc_undo_factor pm_undo_factor an_undo_factor cd_undo_factor ct_undo_factor), sl_undo_factor⟩)
    (c_undo_factor : PySem.W.codeIn K cd_undo_factor "undo_factor" = true)
    (k_undo_factor : PySem.W.keepIn K (.ref f_undo_factor) = true)
    (a_untempered : PySem.W.nsIn K mainGlobals "untempered" = some (some (.ref f_untempered)))
    (l_untempered : K.lookup f_untempered = some ⟨oc_untempered, od_untempered, .func (PySem.W.fnOf "untempered" "untempered" (C8.fnArgs s_untempered) (C8.fnBody s_untempered) (C8.fnScope s_untempered) .none kV_untempered dc_untempered pm_untempered an_untempered cd_untempered ct_untempered), sl_untempered⟩)
    (c_untempered : PySem.W.codeIn K cd_untempered "untempered" = true)
    (k_untempered : PySem.W.keepIn K (.ref f_untempered) = true)
    (a_mixed : PySem.W.nsIn K mainGlobals "mixed" = some (some (.ref f_mixed)))
    (l_mixed : K.lookup f_mixed = some ⟨oc_mixed, od_mixed, .func (PySem.W.fnOf "mixed" "mixed" (C8.fnArgs s_mixed) (C8.fnBody s_mixed) (C8.fnScope s_mixed) .none kV_mixed dc_mixed pm_mixed an_mixed cd_mixed ct_mixed), sl_mixed⟩)
    (c_mixed : PySem.W.codeIn K cd_mixed "mixed" = true)
    (k_mixed : PySem.W.keepIn K (.ref f_mixed) = true)
    (a_unmixed : PySem.W.nsIn K mainGlobals "unmixed" = some (some (.ref f_unmixed)))
    (l_unmixed : K.lookup f_unmixed = some ⟨oc_unmixed, od_unmixed, .func (PySem.W.fnOf "unmixed" "unmixed" (C8.fnArgs s_unmixed) (C8.fnBody s_unmixed) (C8.fnScope s_unmixed) .none kV_unmixed dc_unmixed pm_unmixed an_unmixed cd_unmixed ct_unmixed), sl_unmixed⟩)
    (c_unmixed : PySem.W.codeIn K cd_unmixed "unmixed" = true)
    (k_unmixed : PySem.W.keepIn K (.ref f_unmixed) = true)
    (a__law_mixed : PySem.W.nsIn K mainGlobals "_law_mixed" = some (some (.ref f__law_mixed)))
    (l__law_mixed : K.lookup f__law_mixed = some ⟨oc__law_mixed, od__law_mixed, .func (PySem.W.fnOf "_law_mixed" "_law_mixed" (C8.fnArgs s__law_mixed) (C8.fnBody s__law_mixed) (C8.fnScope s__law_mixed) .none kV__law_mixed dc__law_mixed pm__law_mixed an__law_mixed cd__law_mixed ct__law_mixed), sl__law_mixed⟩)
    (c__law_mixed : PySem.W.codeIn K cd__law_mixed "_law_mixed" = true)
    (k__law_mixed : PySem.W.keepIn K (.ref f__law_mixed) = true)
    (a__law_draw : PySem.W.nsIn K mainGlobals "_law_draw" = some (some (.ref f__law_draw)))
    (l__law_draw : K.lookup f__law_draw = some ⟨oc__law_draw, od__law_draw, .func (PySem.W.fnOf "_law_draw" "_law_draw" (C8.fnArgs s__law_draw) (C8.fnBody s__law_draw) (C8.fnScope s__law_draw) .none kV__law_draw dc__law_draw pm__law_draw an__law_draw cd__law_draw ct__law_draw), sl__law_draw⟩)
    (c__law_draw : PySem.W.codeIn K cd__law_draw "_law_draw" = true)
    (k__law_draw : PySem.W.keepIn K (.ref f__law_draw) = true)
    (a__law_digit : PySem.W.nsIn K mainGlobals "_law_digit" = some (some (.ref f__law_digit)))
    (l__law_digit : K.lookup f__law_digit = some ⟨oc__law_digit, od__law_digit, .func (PySem.W.fnOf "_law_digit" "_law_digit" (C8.fnArgs s__law_digit) (C8.fnBody s__law_digit) (C8.fnScope s__law_digit) .none kV__law_digit dc__law_digit pm__law_digit an__law_digit cd__law_digit ct__law_digit), sl__law_digit⟩)
    (c__law_digit : PySem.W.codeIn K cd__law_digit "_law_digit" = true)
    (k__law_digit : PySem.W.keepIn K (.ref f__law_digit) = true)
    (a__law_word : PySem.W.nsIn K mainGlobals "_law_word" = some (some (.ref f__law_word)))
    (l__law_word : K.lookup f__law_word = some ⟨oc__law_word, od__law_word, .func (PySem.W.fnOf "_law_word" "_law_word" (C8.fnArgs s__law_word) (C8.fnBody s__law_word) (C8.fnScope s__law_word) .none kV__law_word dc__law_word pm__law_word an__law_word cd__law_word ct__law_word), sl__law_word⟩)
    (c__law_word : PySem.W.codeIn K cd__law_word "_law_word" = true)
    (k__law_word : PySem.W.keepIn K (.ref f__law_word) = true)
    (a__law_xor : PySem.W.nsIn K mainGlobals "_law_xor" = some (some (.ref f__law_xor)))
    (l__law_xor : K.lookup f__law_xor = some ⟨oc__law_xor, od__law_xor, .func (PySem.W.fnOf "_law_xor" "_law_xor" (C8.fnArgs s__law_xor) (C8.fnBody s__law_xor) (C8.fnScope s__law_xor) .none kV__law_xor dc__law_xor pm__law_xor an__law_xor cd__law_xor ct__law_xor), sl__law_xor⟩)
    (c__law_xor : PySem.W.codeIn K cd__law_xor "_law_xor" = true)
    (k__law_xor : PySem.W.keepIn K (.ref f__law_xor) = true)
    (a__law_tempered : PySem.W.nsIn K mainGlobals "_law_tempered" = some (some (.ref f__law_tempered)))
    (l__law_tempered : K.lookup f__law_tempered = some ⟨oc__law_tempered, od__law_tempered, .func (PySem.W.fnOf "_law_tempered" "_law_tempered" (C8.fnArgs s__law_tempered) (C8.fnBody s__law_tempered) (C8.fnScope s__law_tempered) .none kV__law_tempered dc__law_tempered pm__law_tempered an__law_tempered cd__law_tempered ct__law_tempered), sl__law_tempered⟩)
    (c__law_tempered : PySem.W.codeIn K cd__law_tempered "_law_tempered" = true)
    (k__law_tempered : PySem.W.keepIn K (.ref f__law_tempered) = true)
    (a__law_mixed_number : PySem.W.nsIn K mainGlobals "_law_mixed_number" = some (some (.ref f__law_mixed_number)))
    (l__law_mixed_number : K.lookup f__law_mixed_number = some ⟨oc__law_mixed_number, od__law_mixed_number, .func (PySem.W.fnOf "_law_mixed_number" "_law_mixed_number" (C8.fnArgs s__law_mixed_number) (C8.fnBody s__law_mixed_number) (C8.fnScope s__law_mixed_number) .none kV__law_mixed_number dc__law_mixed_number pm__law_mixed_number an__law_mixed_number cd__law_mixed_number ct__law_mixed_number), sl__law_mixed_number⟩)
    (c__law_mixed_number : PySem.W.codeIn K cd__law_mixed_number "_law_mixed_number" = true)
    (k__law_mixed_number : PySem.W.keepIn K (.ref f__law_mixed_number) = true)
    (a__law_told : PySem.W.nsIn K mainGlobals "_law_told" = some (some (.ref f__law_told)))
    (l__law_told : K.lookup f__law_told = some ⟨oc__law_told, od__law_told, .func (PySem.W.fnOf "_law_told" "_law_told" (C8.fnArgs s__law_told) (C8.fnBody s__law_told) (C8.fnScope s__law_told) .none kV__law_told dc__law_told pm__law_told an__law_told cd__law_told ct__law_told), sl__law_told⟩)
    (c__law_told : PySem.W.codeIn K cd__law_told "_law_told" = true)
    (k__law_told : PySem.W.keepIn K (.ref f__law_told) = true)
    (a__law_wrong_right : PySem.W.nsIn K mainGlobals "_law_wrong_right" = some (some (.ref f__law_wrong_right)))
    (l__law_wrong_right : K.lookup f__law_wrong_right = some ⟨oc__law_wrong_right, od__law_wrong_right, .func (PySem.W.fnOf "_law_wrong_right" "_law_wrong_right" (C8.fnArgs s__law_wrong_right) (C8.fnBody s__law_wrong_right) (C8.fnScope s__law_wrong_right) .none kV__law_wrong_right dc__law_wrong_right pm__law_wrong_right an__law_wrong_right (.ref CO__law_wrong_right) ct__law_wrong_right), sl__law_wrong_right⟩)
    (c__law_wrong_right : PySem.W.codeIn K (.ref CO__law_wrong_right) "_law_wrong_right" = true)
    (k__law_wrong_right : PySem.W.keepIn K (.ref f__law_wrong_right) = true)
    (a_law : PySem.W.nsIn K mainGlobals "law" = some (some (.ref f_law)))
    (l_law : K.lookup f_law = some ⟨oc_law, od_law, .func (PySem.W.fnOf "law" "law" (C8.fnArgs s_law) (C8.fnBody s_law) (C8.fnScope s_law) .none kV_law dc_law pm_law an_law cd_law ct_law), sl_law⟩)
    (c_law : PySem.W.codeIn K cd_law "law" = true)
    (k_law : PySem.W.keepIn K (.ref f_law) = true)
    (e_WORDS : PySem.W.nsIn K mainGlobals "WORDS" = some (some (.int 4294967296 tk_WORDS)))
    (e_DOUBLES : PySem.W.nsIn K mainGlobals "DOUBLES" = some (some (.int 18446744073709551616 tk_DOUBLES)))
    (e_FACTOR : PySem.W.nsIn K mainGlobals "FACTOR" = some (some (.int 3486784401 tk_FACTOR)))
    (e_MIX_STEP : PySem.W.nsIn K mainGlobals "MIX_STEP" = some (some (.int 1000003 tk_MIX_STEP)))
    (e_ROUNDS : PySem.W.nsIn K mainGlobals "ROUNDS" = some (some (.ref R_ROUNDS)))
    (g_ROUNDS : K.lookup R_ROUNDS = some ⟨.type "tuple", oD_ROUNDS, .seq #[.int 1 oT_ROUNDS_0, .int 2 oT_ROUNDS_1, .int 3 oT_ROUNDS_2, .int 4 oT_ROUNDS_3] oN_ROUNDS, oS_ROUNDS⟩)
    (q_DrawError : PySem.W.nsIn K mainGlobals "DrawError" = some (some (.ref C_DrawError)))
    (rd_DrawError : PySem.W.readsIn K C_DrawError (.type "type") = true)
    (rg_DrawError : PySem.W.specialIn K (.ref C_DrawError) "__getattribute__" = some (some (.builtin "type.__getattribute__")))
    (fi_DrawError : PySem.W.findCls K (.ref C_DrawError) (.type "type") "__init__" = some (.val (.builtin "ValueError.__init__")))
    (eb_DrawError : PySem.W.subIn K (.ref C_DrawError) (.type "BaseException") = some true)
    (hb_DrawError : PySem.W.hasDictIn K C_DrawError = true)
    (tb_DrawError : PySem.W.typeIn K (.ref C_DrawError) = some (.type "type"))
    (q_BadWord : PySem.W.nsIn K mainGlobals "BadWord" = some (some (.ref C_BadWord)))
    (lk_BadWord : K.lookup C_BadWord = some (PySem.excClassObj xnm_BadWord xq_BadWord C_BadWord xN_BadWord xbs_BadWord xbm_BadWord true xsn_BadWord xsub_BadWord xab_BadWord xcol_BadWord xdd_BadWord xk0_BadWord xk1_BadWord xk2_BadWord xk3_BadWord xk5_BadWord "ValueError.__new__"))
    (rv_BadWord : PySem.HandSPX.refsVE xbm_BadWord = true)
    (sa_BadWord : PySem.W.findIn K (.ref C_BadWord) "__setattr__" = some (some (.builtin "object.__setattr__")))
    (ex_BadWord : PySem.W.subIn K (.ref C_BadWord) (.type "BaseException") = some true)
    (ty_BadWord : PySem.W.typeIn K (.ref C_BadWord) = some (.type "type"))
    (kc_BadWord : PySem.W.keepIn K (.ref C_BadWord) = true)
    (ga_BadWord : PySem.W.findIn K (.ref C_BadWord) "__getattribute__" = some (some (.builtin "BaseException.__getattribute__")))
    (gg_BadWord : PySem.W.findIn K (.ref C_BadWord) "__getattr__" = some none)
    (hd_BadWord : PySem.W.hasDictIn K C_BadWord = true)
    (ha_BadWord : PySem.W.findIn K (.ref C_BadWord) "__class__" = some (some (.builtin "object.__class__")))
    (hn_BadWord : PySem.W.specialIn K (.builtin "object.__class__") "__get__" = some (some (.builtin "getset_descriptor.__get__")))
    (ht_BadWord : PySem.W.takesIn K (.builtin "object.__class__") = some true)
    (hm_BadWord : PySem.W.mroIn K C_BadWord (.type "object") = some true)
    (na_BadWord : PySem.W.findIn K (.ref C_BadWord) "given" = some none)
    (sb_BadWord_DrawError : PySem.W.subIn K (.ref C_BadWord) (.ref C_DrawError) = some true)
    (ob_BadWord_BadNumber : PySem.W.kitOne K (.ref C_BadWord) (.ref C_BadNumber) = some false)
    (q_BadNumber : PySem.W.nsIn K mainGlobals "BadNumber" = some (some (.ref C_BadNumber)))
    (lk_BadNumber : K.lookup C_BadNumber = some (PySem.excClassObj xnm_BadNumber xq_BadNumber C_BadNumber xN_BadNumber xbs_BadNumber xbm_BadNumber true xsn_BadNumber xsub_BadNumber xab_BadNumber xcol_BadNumber xdd_BadNumber xk0_BadNumber xk1_BadNumber xk2_BadNumber xk3_BadNumber xk5_BadNumber "ValueError.__new__"))
    (rv_BadNumber : PySem.HandSPX.refsVE xbm_BadNumber = true)
    (sa_BadNumber : PySem.W.findIn K (.ref C_BadNumber) "__setattr__" = some (some (.builtin "object.__setattr__")))
    (ex_BadNumber : PySem.W.subIn K (.ref C_BadNumber) (.type "BaseException") = some true)
    (ty_BadNumber : PySem.W.typeIn K (.ref C_BadNumber) = some (.type "type"))
    (kc_BadNumber : PySem.W.keepIn K (.ref C_BadNumber) = true)
    (ga_BadNumber : PySem.W.findIn K (.ref C_BadNumber) "__getattribute__" = some (some (.builtin "BaseException.__getattribute__")))
    (gg_BadNumber : PySem.W.findIn K (.ref C_BadNumber) "__getattr__" = some none)
    (hd_BadNumber : PySem.W.hasDictIn K C_BadNumber = true)
    (ha_BadNumber : PySem.W.findIn K (.ref C_BadNumber) "__class__" = some (some (.builtin "object.__class__")))
    (hn_BadNumber : PySem.W.specialIn K (.builtin "object.__class__") "__get__" = some (some (.builtin "getset_descriptor.__get__")))
    (ht_BadNumber : PySem.W.takesIn K (.builtin "object.__class__") = some true)
    (hm_BadNumber : PySem.W.mroIn K C_BadNumber (.type "object") = some true)
    (na_BadNumber : PySem.W.findIn K (.ref C_BadNumber) "given" = some none)
    (sb_BadNumber_DrawError : PySem.W.subIn K (.ref C_BadNumber) (.ref C_DrawError) = some true)
    (ob_BadNumber_BadWord : PySem.W.kitOne K (.ref C_BadNumber) (.ref C_BadWord) = some false)
    (z_isinstance : PySem.W.nsIn K mainGlobals "isinstance" = some none)
    (z_int : PySem.W.nsIn K mainGlobals "int" = some none)
    (z_bool : PySem.W.nsIn K mainGlobals "bool" = some none)
    (z_range : PySem.W.nsIn K mainGlobals "range" = some none)
    (z_enumerate : PySem.W.nsIn K mainGlobals "enumerate" = some none)
    (z_sum : PySem.W.nsIn K mainGlobals "sum" = some none)
    (z_repr : PySem.W.nsIn K mainGlobals "repr" = some none)
    : Txt K mg C_DrawError C_BadWord C_BadNumber R_ROUNDS CO__law_wrong_right :=
  { d_BadWord___init__ := ⟨f_BadWord___init__, _, a_BadWord___init__, ti_BadWord___init__, ⟨⟨oc_BadWord___init__, od_BadWord___init__, .none, kV_BadWord___init__, dc_BadWord___init__, pm_BadWord___init__, an_BadWord___init__, cd_BadWord___init__, ct_BadWord___init__, sl_BadWord___init__, rfl, l_BadWord___init__, c_BadWord___init__⟩⟩, C8.Fun.binds (x := "__init__") (qual := "BadWord.__init__") (st := s_BadWord___init__) (f := f_BadWord___init__) ⟨⟨oc_BadWord___init__, od_BadWord___init__, .none, kV_BadWord___init__, dc_BadWord___init__, pm_BadWord___init__, an_BadWord___init__, cd_BadWord___init__, ct_BadWord___init__, sl_BadWord___init__, rfl, l_BadWord___init__, c_BadWord___init__⟩⟩ rfl (fun _ _ _ _ _ _ us hl => match us, hl with | [_, _], _ => rfl)⟩,
    d_BadNumber___init__ := ⟨f_BadNumber___init__, _, a_BadNumber___init__, ti_BadNumber___init__, ⟨⟨oc_BadNumber___init__, od_BadNumber___init__, .none, kV_BadNumber___init__, dc_BadNumber___init__, pm_BadNumber___init__, an_BadNumber___init__, cd_BadNumber___init__, ct_BadNumber___init__, sl_BadNumber___init__, rfl, l_BadNumber___init__, c_BadNumber___init__⟩⟩, C8.Fun.binds (x := "__init__") (qual := "BadNumber.__init__") (st := s_BadNumber___init__) (f := f_BadNumber___init__) ⟨⟨oc_BadNumber___init__, od_BadNumber___init__, .none, kV_BadNumber___init__, dc_BadNumber___init__, pm_BadNumber___init__, an_BadNumber___init__, cd_BadNumber___init__, ct_BadNumber___init__, sl_BadNumber___init__, rfl, l_BadNumber___init__, c_BadNumber___init__⟩⟩ rfl (fun _ _ _ _ _ _ us hl => match us, hl with | [_, _], _ => rfl)⟩,
    d_is_integer := ⟨f_is_integer, _, ⟨⟨⟨oc_is_integer, od_is_integer, .none, kV_is_integer, dc_is_integer, pm_is_integer, an_is_integer, cd_is_integer, ct_is_integer, sl_is_integer, rfl, l_is_integer, c_is_integer⟩⟩, PySem.W.mg_of X G a_is_integer, k_is_integer⟩, C8.Fun.binds (x := "is_integer") (qual := "is_integer") (st := s_is_integer) (f := f_is_integer) ⟨⟨oc_is_integer, od_is_integer, .none, kV_is_integer, dc_is_integer, pm_is_integer, an_is_integer, cd_is_integer, ct_is_integer, sl_is_integer, rfl, l_is_integer, c_is_integer⟩⟩ rfl (fun _ _ _ _ _ _ us hl => match us, hl with | [_], _ => rfl)⟩,
    d_is_word := ⟨f_is_word, _, ⟨⟨⟨oc_is_word, od_is_word, .none, kV_is_word, dc_is_word, pm_is_word, an_is_word, cd_is_word, ct_is_word, sl_is_word, rfl, l_is_word, c_is_word⟩⟩, PySem.W.mg_of X G a_is_word, k_is_word⟩, C8.Fun.binds (x := "is_word") (qual := "is_word") (st := s_is_word) (f := f_is_word) ⟨⟨oc_is_word, od_is_word, .none, kV_is_word, dc_is_word, pm_is_word, an_is_word, cd_is_word, ct_is_word, sl_is_word, rfl, l_is_word, c_is_word⟩⟩ rfl (fun _ _ _ _ _ _ us hl => match us, hl with | [_], _ => rfl)⟩,
    d_need_word := ⟨f_need_word, _, ⟨⟨⟨oc_need_word, od_need_word, .none, kV_need_word, dc_need_word, pm_need_word, an_need_word, cd_need_word, ct_need_word, sl_need_word, rfl, l_need_word, c_need_word⟩⟩, PySem.W.mg_of X G a_need_word, k_need_word⟩, C8.Fun.binds (x := "need_word") (qual := "need_word") (st := s_need_word) (f := f_need_word) ⟨⟨oc_need_word, od_need_word, .none, kV_need_word, dc_need_word, pm_need_word, an_need_word, cd_need_word, ct_need_word, sl_need_word, rfl, l_need_word, c_need_word⟩⟩ rfl (fun _ _ _ _ _ _ us hl => match us, hl with | [_], _ => rfl)⟩,
    d_need_double := ⟨f_need_double, _, ⟨⟨⟨oc_need_double, od_need_double, .none, kV_need_double, dc_need_double, pm_need_double, an_need_double, cd_need_double, ct_need_double, sl_need_double, rfl, l_need_double, c_need_double⟩⟩, PySem.W.mg_of X G a_need_double, k_need_double⟩, C8.Fun.binds (x := "need_double") (qual := "need_double") (st := s_need_double) (f := f_need_double) ⟨⟨oc_need_double, od_need_double, .none, kV_need_double, dc_need_double, pm_need_double, an_need_double, cd_need_double, ct_need_double, sl_need_double, rfl, l_need_double, c_need_double⟩⟩ rfl (fun _ _ _ _ _ _ us hl => match us, hl with | [_], _ => rfl)⟩,
    d_own_tempered := ⟨f_own_tempered, _, ⟨⟨⟨oc_own_tempered, od_own_tempered, .none, kV_own_tempered, dc_own_tempered, pm_own_tempered, an_own_tempered, cd_own_tempered, ct_own_tempered, sl_own_tempered, rfl, l_own_tempered, c_own_tempered⟩⟩, PySem.W.mg_of X G a_own_tempered, k_own_tempered⟩, C8.Fun.binds (x := "own_tempered") (qual := "own_tempered") (st := s_own_tempered) (f := f_own_tempered) ⟨⟨oc_own_tempered, od_own_tempered, .none, kV_own_tempered, dc_own_tempered, pm_own_tempered, an_own_tempered, cd_own_tempered, ct_own_tempered, sl_own_tempered, rfl, l_own_tempered, c_own_tempered⟩⟩ rfl (fun _ _ _ _ _ _ us hl => match us, hl with | [_], _ => rfl)⟩,
    d_tempered := ⟨f_tempered, _, ⟨⟨⟨oc_tempered, od_tempered, .none, kV_tempered, dc_tempered, pm_tempered, an_tempered, cd_tempered, ct_tempered, sl_tempered, rfl, l_tempered, c_tempered⟩⟩, PySem.W.mg_of X G a_tempered, k_tempered⟩, C8.Fun.binds (x := "tempered") (qual := "tempered") (st := s_tempered) (f := f_tempered) ⟨⟨oc_tempered, od_tempered, .none, kV_tempered, dc_tempered, pm_tempered, an_tempered, cd_tempered, ct_tempered, sl_tempered, rfl, l_tempered, c_tempered⟩⟩ rfl (fun _ _ _ _ _ _ us hl => match us, hl with | [_], _ => rfl)⟩,
    d_undo_factor := ⟨f_undo_factor, _, ⟨⟨⟨oc_undo_factor, od_undo_factor, .none, kV_undo_factor, dc_undo_factor, pm_undo_factor, an_undo_factor, cd_undo_factor, ct_undo_factor, sl_undo_factor, rfl, l_undo_factor, c_undo_factor⟩⟩, PySem.W.mg_of X G a_undo_factor, k_undo_factor⟩, C8.Fun.binds (x := "undo_factor") (qual := "undo_factor") (st := s_undo_factor) (f := f_undo_factor) ⟨⟨oc_undo_factor, od_undo_factor, .none, kV_undo_factor, dc_undo_factor, pm_undo_factor, an_undo_factor, cd_undo_factor, ct_undo_factor, sl_undo_factor, rfl, l_undo_factor, c_undo_factor⟩⟩ rfl (fun _ _ _ _ _ _ us hl => match us, hl with | [], _ => rfl)⟩,
    d_untempered := ⟨f_untempered, _, ⟨⟨⟨oc_untempered, od_untempered, .none, kV_untempered, dc_untempered, pm_untempered, an_untempered, cd_untempered, ct_untempered, sl_untempered, rfl, l_untempered, c_untempered⟩⟩, PySem.W.mg_of X G a_untempered, k_untempered⟩, C8.Fun.binds (x := "untempered") (qual := "untempered") (st := s_untempered) (f := f_untempered) ⟨⟨oc_untempered, od_untempered, .none, kV_untempered, dc_untempered, pm_untempered, an_untempered, cd_untempered, ct_untempered, sl_untempered, rfl, l_untempered, c_untempered⟩⟩ rfl (fun _ _ _ _ _ _ us hl => match us, hl with | [_], _ => rfl)⟩,
    d_mixed := ⟨f_mixed, _, ⟨⟨⟨oc_mixed, od_mixed, .none, kV_mixed, dc_mixed, pm_mixed, an_mixed, cd_mixed, ct_mixed, sl_mixed, rfl, l_mixed, c_mixed⟩⟩, PySem.W.mg_of X G a_mixed, k_mixed⟩, C8.Fun.binds (x := "mixed") (qual := "mixed") (st := s_mixed) (f := f_mixed) ⟨⟨oc_mixed, od_mixed, .none, kV_mixed, dc_mixed, pm_mixed, an_mixed, cd_mixed, ct_mixed, sl_mixed, rfl, l_mixed, c_mixed⟩⟩ rfl (fun _ _ _ _ _ _ us hl => match us, hl with | [_], _ => rfl)⟩,
    d_unmixed := ⟨f_unmixed, _, ⟨⟨⟨oc_unmixed, od_unmixed, .none, kV_unmixed, dc_unmixed, pm_unmixed, an_unmixed, cd_unmixed, ct_unmixed, sl_unmixed, rfl, l_unmixed, c_unmixed⟩⟩, PySem.W.mg_of X G a_unmixed, k_unmixed⟩, C8.Fun.binds (x := "unmixed") (qual := "unmixed") (st := s_unmixed) (f := f_unmixed) ⟨⟨oc_unmixed, od_unmixed, .none, kV_unmixed, dc_unmixed, pm_unmixed, an_unmixed, cd_unmixed, ct_unmixed, sl_unmixed, rfl, l_unmixed, c_unmixed⟩⟩ rfl (fun _ _ _ _ _ _ us hl => match us, hl with | [_], _ => rfl)⟩,
    d__law_mixed := ⟨f__law_mixed, _, ⟨⟨⟨oc__law_mixed, od__law_mixed, .none, kV__law_mixed, dc__law_mixed, pm__law_mixed, an__law_mixed, cd__law_mixed, ct__law_mixed, sl__law_mixed, rfl, l__law_mixed, c__law_mixed⟩⟩, PySem.W.mg_of X G a__law_mixed, k__law_mixed⟩, C8.Fun.binds (x := "_law_mixed") (qual := "_law_mixed") (st := s__law_mixed) (f := f__law_mixed) ⟨⟨oc__law_mixed, od__law_mixed, .none, kV__law_mixed, dc__law_mixed, pm__law_mixed, an__law_mixed, cd__law_mixed, ct__law_mixed, sl__law_mixed, rfl, l__law_mixed, c__law_mixed⟩⟩ rfl (fun _ _ _ _ _ _ us hl => match us, hl with | [_, _], _ => rfl)⟩,
    d__law_draw := ⟨f__law_draw, _, ⟨⟨⟨oc__law_draw, od__law_draw, .none, kV__law_draw, dc__law_draw, pm__law_draw, an__law_draw, cd__law_draw, ct__law_draw, sl__law_draw, rfl, l__law_draw, c__law_draw⟩⟩, PySem.W.mg_of X G a__law_draw, k__law_draw⟩, C8.Fun.binds (x := "_law_draw") (qual := "_law_draw") (st := s__law_draw) (f := f__law_draw) ⟨⟨oc__law_draw, od__law_draw, .none, kV__law_draw, dc__law_draw, pm__law_draw, an__law_draw, cd__law_draw, ct__law_draw, sl__law_draw, rfl, l__law_draw, c__law_draw⟩⟩ rfl (fun _ _ _ _ _ _ us hl => match us, hl with | [_, _], _ => rfl)⟩,
    d__law_digit := ⟨f__law_digit, _, ⟨⟨⟨oc__law_digit, od__law_digit, .none, kV__law_digit, dc__law_digit, pm__law_digit, an__law_digit, cd__law_digit, ct__law_digit, sl__law_digit, rfl, l__law_digit, c__law_digit⟩⟩, PySem.W.mg_of X G a__law_digit, k__law_digit⟩, C8.Fun.binds (x := "_law_digit") (qual := "_law_digit") (st := s__law_digit) (f := f__law_digit) ⟨⟨oc__law_digit, od__law_digit, .none, kV__law_digit, dc__law_digit, pm__law_digit, an__law_digit, cd__law_digit, ct__law_digit, sl__law_digit, rfl, l__law_digit, c__law_digit⟩⟩ rfl (fun _ _ _ _ _ _ us hl => match us, hl with | [_, _], _ => rfl)⟩,
    d__law_word := ⟨f__law_word, _, ⟨⟨⟨oc__law_word, od__law_word, .none, kV__law_word, dc__law_word, pm__law_word, an__law_word, cd__law_word, ct__law_word, sl__law_word, rfl, l__law_word, c__law_word⟩⟩, PySem.W.mg_of X G a__law_word, k__law_word⟩, C8.Fun.binds (x := "_law_word") (qual := "_law_word") (st := s__law_word) (f := f__law_word) ⟨⟨oc__law_word, od__law_word, .none, kV__law_word, dc__law_word, pm__law_word, an__law_word, cd__law_word, ct__law_word, sl__law_word, rfl, l__law_word, c__law_word⟩⟩ rfl (fun _ _ _ _ _ _ us hl => match us, hl with | [_], _ => rfl)⟩,
    d__law_xor := ⟨f__law_xor, _, ⟨⟨⟨oc__law_xor, od__law_xor, .none, kV__law_xor, dc__law_xor, pm__law_xor, an__law_xor, cd__law_xor, ct__law_xor, sl__law_xor, rfl, l__law_xor, c__law_xor⟩⟩, PySem.W.mg_of X G a__law_xor, k__law_xor⟩, C8.Fun.binds (x := "_law_xor") (qual := "_law_xor") (st := s__law_xor) (f := f__law_xor) ⟨⟨oc__law_xor, od__law_xor, .none, kV__law_xor, dc__law_xor, pm__law_xor, an__law_xor, cd__law_xor, ct__law_xor, sl__law_xor, rfl, l__law_xor, c__law_xor⟩⟩ rfl (fun _ _ _ _ _ _ us hl => match us, hl with | [_, _], _ => rfl)⟩,
    d__law_tempered := ⟨f__law_tempered, _, ⟨⟨⟨oc__law_tempered, od__law_tempered, .none, kV__law_tempered, dc__law_tempered, pm__law_tempered, an__law_tempered, cd__law_tempered, ct__law_tempered, sl__law_tempered, rfl, l__law_tempered, c__law_tempered⟩⟩, PySem.W.mg_of X G a__law_tempered, k__law_tempered⟩, C8.Fun.binds (x := "_law_tempered") (qual := "_law_tempered") (st := s__law_tempered) (f := f__law_tempered) ⟨⟨oc__law_tempered, od__law_tempered, .none, kV__law_tempered, dc__law_tempered, pm__law_tempered, an__law_tempered, cd__law_tempered, ct__law_tempered, sl__law_tempered, rfl, l__law_tempered, c__law_tempered⟩⟩ rfl (fun _ _ _ _ _ _ us hl => match us, hl with | [_], _ => rfl)⟩,
    d__law_mixed_number := ⟨f__law_mixed_number, _, ⟨⟨⟨oc__law_mixed_number, od__law_mixed_number, .none, kV__law_mixed_number, dc__law_mixed_number, pm__law_mixed_number, an__law_mixed_number, cd__law_mixed_number, ct__law_mixed_number, sl__law_mixed_number, rfl, l__law_mixed_number, c__law_mixed_number⟩⟩, PySem.W.mg_of X G a__law_mixed_number, k__law_mixed_number⟩, C8.Fun.binds (x := "_law_mixed_number") (qual := "_law_mixed_number") (st := s__law_mixed_number) (f := f__law_mixed_number) ⟨⟨oc__law_mixed_number, od__law_mixed_number, .none, kV__law_mixed_number, dc__law_mixed_number, pm__law_mixed_number, an__law_mixed_number, cd__law_mixed_number, ct__law_mixed_number, sl__law_mixed_number, rfl, l__law_mixed_number, c__law_mixed_number⟩⟩ rfl (fun _ _ _ _ _ _ us hl => match us, hl with | [_], _ => rfl)⟩,
    d__law_told := ⟨f__law_told, _, ⟨⟨⟨oc__law_told, od__law_told, .none, kV__law_told, dc__law_told, pm__law_told, an__law_told, cd__law_told, ct__law_told, sl__law_told, rfl, l__law_told, c__law_told⟩⟩, PySem.W.mg_of X G a__law_told, k__law_told⟩, C8.Fun.binds (x := "_law_told") (qual := "_law_told") (st := s__law_told) (f := f__law_told) ⟨⟨oc__law_told, od__law_told, .none, kV__law_told, dc__law_told, pm__law_told, an__law_told, cd__law_told, ct__law_told, sl__law_told, rfl, l__law_told, c__law_told⟩⟩ rfl (fun _ _ _ _ _ _ us hl => match us, hl with | [_], _ => rfl)⟩,
    d__law_wrong_right := ⟨f__law_wrong_right, _, ⟨⟨oc__law_wrong_right, od__law_wrong_right, .none, kV__law_wrong_right, dc__law_wrong_right, pm__law_wrong_right, an__law_wrong_right, ct__law_wrong_right, sl__law_wrong_right, rfl, l__law_wrong_right, c__law_wrong_right⟩, PySem.W.mg_of X G a__law_wrong_right, k__law_wrong_right⟩, C8.Fun.binds (x := "_law_wrong_right") (qual := "_law_wrong_right") (st := s__law_wrong_right) (f := f__law_wrong_right) ⟨⟨oc__law_wrong_right, od__law_wrong_right, .none, kV__law_wrong_right, dc__law_wrong_right, pm__law_wrong_right, an__law_wrong_right, (.ref CO__law_wrong_right), ct__law_wrong_right, sl__law_wrong_right, rfl, l__law_wrong_right, c__law_wrong_right⟩⟩ rfl (fun _ _ _ _ _ _ us hl => match us, hl with | [_], _ => rfl)⟩,
    d_law := ⟨f_law, _, ⟨⟨⟨oc_law, od_law, .none, kV_law, dc_law, pm_law, an_law, cd_law, ct_law, sl_law, rfl, l_law, c_law⟩⟩, PySem.W.mg_of X G a_law, k_law⟩, C8.Fun.binds (x := "law") (qual := "law") (st := s_law) (f := f_law) ⟨⟨oc_law, od_law, .none, kV_law, dc_law, pm_law, an_law, cd_law, ct_law, sl_law, rfl, l_law, c_law⟩⟩ rfl (fun _ _ _ _ _ _ us hl => match us, hl with | [_], _ => rfl), fun s v => .of_eq rfl⟩,
    c_WORDS := ⟨_, PySem.W.mg_of X G e_WORDS, _, rfl⟩,
    c_DOUBLES := ⟨_, PySem.W.mg_of X G e_DOUBLES, _, rfl⟩,
    c_FACTOR := ⟨_, PySem.W.mg_of X G e_FACTOR, _, rfl⟩,
    c_MIX_STEP := ⟨_, PySem.W.mg_of X G e_MIX_STEP, _, rfl⟩,
    c_ROUNDS := ⟨_, PySem.W.mg_of X G e_ROUNDS, rfl⟩,
    s_ROUNDS := fun _ => .inr ⟨_, _, _, g_ROUNDS, rfl, rfl, Nat.le_of_ble_eq_true rfl, (.cons ⟨_, rfl⟩ (.cons ⟨_, rfl⟩ (.cons ⟨_, rfl⟩ (.cons ⟨_, rfl⟩ .nil))))⟩,
    k_DrawError := ⟨_, PySem.W.mg_of X G q_DrawError, rfl⟩,
    g_DrawError := PySem.W.mg_of X G q_DrawError,
    r_DrawError := ⟨rd_DrawError, rg_DrawError⟩,
    i_DrawError := fi_DrawError,
    m_DrawError := fun h => PySem.W.exm_ref eb_DrawError hb_DrawError tb_DrawError h,
    k_BadWord := ⟨_, PySem.W.mg_of X G q_BadWord, rfl⟩,
    g_BadWord := PySem.W.mg_of X G q_BadWord,
    x_BadWord := ⟨⟨_, _, _, _, _, _, _, _, _, _, _, _, _, _, _, lk_BadWord, rv_BadWord⟩, sa_BadWord, ex_BadWord, ty_BadWord, kc_BadWord⟩,
    f_BadWord := ⟨ga_BadWord, gg_BadWord, ex_BadWord, hd_BadWord⟩,
    e_BadWord := ⟨ga_BadWord, gg_BadWord, ex_BadWord, hd_BadWord, ha_BadWord, hn_BadWord, ht_BadWord, hm_BadWord⟩,
    n_BadWord_given := na_BadWord,
    s_BadWord_DrawError := sb_BadWord_DrawError,
    o_BadWord_BadNumber := ob_BadWord_BadNumber,
    k_BadNumber := ⟨_, PySem.W.mg_of X G q_BadNumber, rfl⟩,
    g_BadNumber := PySem.W.mg_of X G q_BadNumber,
    x_BadNumber := ⟨⟨_, _, _, _, _, _, _, _, _, _, _, _, _, _, _, lk_BadNumber, rv_BadNumber⟩, sa_BadNumber, ex_BadNumber, ty_BadNumber, kc_BadNumber⟩,
    f_BadNumber := ⟨ga_BadNumber, gg_BadNumber, ex_BadNumber, hd_BadNumber⟩,
    e_BadNumber := ⟨ga_BadNumber, gg_BadNumber, ex_BadNumber, hd_BadNumber, ha_BadNumber, hn_BadNumber, ht_BadNumber, hm_BadNumber⟩,
    n_BadNumber_given := na_BadNumber,
    s_BadNumber_DrawError := sb_BadNumber_DrawError,
    o_BadNumber_BadWord := ob_BadNumber_BadWord,
    b_isinstance := PySem.W.mg_none_of X G z_isinstance,
    b_int := PySem.W.mg_none_of X G z_int,
    b_bool := PySem.W.mg_none_of X G z_bool,
    b_range := PySem.W.mg_none_of X G z_range,
    b_enumerate := PySem.W.mg_none_of X G z_enumerate,
    b_sum := PySem.W.mg_none_of X G z_sum,
    b_repr := PySem.W.mg_none_of X G z_repr }
end Pf
open PySem PySem.W PyProof.Rows
set_option maxRecDepth 100000 in
set_option maxHeartbeats 0 in
theorem PySem.Challenge.cw_drawstate_k01_whole_bijections_of_words_holds : PySem.Challenge.rw_drawstate_k01_whole_bijections_of_words.Holds := by
  w_on; o_law; k_head; (case hw => w_witness2)
  k_fill
  refine Gx.walkG (l := PySem.Challenge.rw_drawstate_k01_whole_bijections_of_words) (k := 10) (x := "_law_script") rfl rfl ⟨rfl, by decide, by decide⟩ (fun w h Y => PySem.W.km_in_of Y) ?F
  case F =>
    intro w mg fa h Y KX G hmg
    refine' Pf.law_mk hmg (Pf.txt_mk KX G ?a_BadWord___init__ ?ti_BadWord___init__ ?l_BadWord___init__ ?c_BadWord___init__ ?a_BadNumber___init__ ?ti_BadNumber___init__ ?l_BadNumber___init__ ?c_BadNumber___init__ ?a_is_integer ?l_is_integer ?c_is_integer ?k_is_integer ?a_is_word ?l_is_word ?c_is_word ?k_is_word ?a_need_word ?l_need_word ?c_need_word ?k_need_word ?a_need_double ?l_need_double ?c_need_double ?k_need_double ?a_own_tempered ?l_own_tempered ?c_own_tempered ?k_own_tempered ?a_tempered ?l_tempered ?c_tempered ?k_tempered ?a_undo_factor ?l_undo_factor ?c_undo_factor ?k_undo_factor ?a_untempered ?l_untempered ?c_untempered ?k_untempered ?a_mixed ?l_mixed ?c_mixed ?k_mixed ?a_unmixed ?l_unmixed ?c_unmixed ?k_unmixed ?a__law_mixed ?l__law_mixed ?c__law_mixed ?k__law_mixed ?a__law_draw ?l__law_draw ?c__law_draw ?k__law_draw ?a__law_digit ?l__law_digit ?c__law_digit ?k__law_digit ?a__law_word ?l__law_word ?c__law_word ?k__law_word ?a__law_xor ?l__law_xor ?c__law_xor ?k__law_xor ?a__law_tempered ?l__law_tempered ?c__law_tempered ?k__law_tempered ?a__law_mixed_number ?l__law_mixed_number ?c__law_mixed_number ?k__law_mixed_number ?a__law_told ?l__law_told ?c__law_told ?k__law_told ?a__law_wrong_right ?l__law_wrong_right ?c__law_wrong_right ?k__law_wrong_right ?a_law ?l_law ?c_law ?k_law ?e_WORDS ?e_DOUBLES ?e_FACTOR ?e_MIX_STEP ?e_ROUNDS ?g_ROUNDS ?q_DrawError ?rd_DrawError ?rg_DrawError ?fi_DrawError ?eb_DrawError ?hb_DrawError ?tb_DrawError ?q_BadWord ?lk_BadWord ?rv_BadWord ?sa_BadWord ?ex_BadWord ?ty_BadWord ?kc_BadWord ?ga_BadWord ?gg_BadWord ?hd_BadWord ?ha_BadWord ?hn_BadWord ?ht_BadWord ?hm_BadWord ?na_BadWord ?sb_BadWord_DrawError ?ob_BadWord_BadNumber ?q_BadNumber ?lk_BadNumber ?rv_BadNumber ?sa_BadNumber ?ex_BadNumber ?ty_BadNumber ?kc_BadNumber ?ga_BadNumber ?gg_BadNumber ?hd_BadNumber ?ha_BadNumber ?hn_BadNumber ?ht_BadNumber ?hm_BadNumber ?na_BadNumber ?sb_BadNumber_DrawError ?ob_BadNumber_BadWord ?z_isinstance ?z_int ?z_bool ?z_range ?z_enumerate ?z_sum ?z_repr) (PySem.W.km_tabs_of Y 194 (by simp)) (by kernel_rfl) (PySem.W.codeHd_of_K KX ?hc0)
    (case q_DrawError => k_is)
    (case q_BadWord => k_is)
    (case q_BadNumber => k_is)
    (case a_BadWord___init__ => k_is)
    (case ti_BadWord___init__ => k_is)
    (case l_BadWord___init__ => k_is)
    (case c_BadWord___init__ => k_is)
    (case a_BadNumber___init__ => k_is)
    (case ti_BadNumber___init__ => k_is)
    (case l_BadNumber___init__ => k_is)
    (case c_BadNumber___init__ => k_is)
    (case a_is_integer => k_is)
    (case l_is_integer => k_is)
    (case c_is_integer => k_is)
    (case k_is_integer => k_is)
    (case a_is_word => k_is)
    (case l_is_word => k_is)
    (case c_is_word => k_is)
    (case k_is_word => k_is)
    (case a_need_word => k_is)
    (case l_need_word => k_is)
    (case c_need_word => k_is)
    (case k_need_word => k_is)
    (case a_need_double => k_is)
    (case l_need_double => k_is)
    (case c_need_double => k_is)
    (case k_need_double => k_is)
    (case a_own_tempered => k_is)
    (case l_own_tempered => k_is)
    (case c_own_tempered => k_is)
    (case k_own_tempered => k_is)
    (case a_tempered => k_is)
    (case l_tempered => k_is)
    (case c_tempered => k_is)
    (case k_tempered => k_is)
    (case a_undo_factor => k_is)
    (case l_undo_factor => k_is)
    (case c_undo_factor => k_is)
    (case k_undo_factor => k_is)
    (case a_untempered => k_is)
    (case l_untempered => k_is)
    (case c_untempered => k_is)
    (case k_untempered => k_is)
    (case a_mixed => k_is)
    (case l_mixed => k_is)
    (case c_mixed => k_is)
    (case k_mixed => k_is)
    (case a_unmixed => k_is)
    (case l_unmixed => k_is)
    (case c_unmixed => k_is)
    (case k_unmixed => k_is)
    (case a__law_mixed => k_is)
    (case l__law_mixed => k_is)
    (case c__law_mixed => k_is)
    (case k__law_mixed => k_is)
    (case a__law_draw => k_is)
    (case l__law_draw => k_is)
    (case c__law_draw => k_is)
    (case k__law_draw => k_is)
    (case a__law_digit => k_is)
    (case l__law_digit => k_is)
    (case c__law_digit => k_is)
    (case k__law_digit => k_is)
    (case a__law_word => k_is)
    (case l__law_word => k_is)
    (case c__law_word => k_is)
    (case k__law_word => k_is)
    (case a__law_xor => k_is)
    (case l__law_xor => k_is)
    (case c__law_xor => k_is)
    (case k__law_xor => k_is)
    (case a__law_tempered => k_is)
    (case l__law_tempered => k_is)
    (case c__law_tempered => k_is)
    (case k__law_tempered => k_is)
    (case a__law_mixed_number => k_is)
    (case l__law_mixed_number => k_is)
    (case c__law_mixed_number => k_is)
    (case k__law_mixed_number => k_is)
    (case a__law_told => k_is)
    (case l__law_told => k_is)
    (case c__law_told => k_is)
    (case k__law_told => k_is)
    (case a__law_wrong_right => k_is)
    (case l__law_wrong_right => k_is)
    (case c__law_wrong_right => k_is)
    (case k__law_wrong_right => k_is)
    (case a_law => k_is)
    (case l_law => k_is)
    (case c_law => k_is)
    (case k_law => k_is)
    (case e_WORDS => k_is)
    (case e_DOUBLES => k_is)
    (case e_FACTOR => k_is)
    (case e_MIX_STEP => k_is)
    (case e_ROUNDS => k_is)
    (case g_ROUNDS => k_is)
    (case rd_DrawError => k_is)
    (case rg_DrawError => k_is)
    (case fi_DrawError => k_is)
    (case eb_DrawError => k_is)
    (case hb_DrawError => k_is)
    (case tb_DrawError => k_is)
    (case lk_BadWord => k_is)
    (case rv_BadWord => rfl)
    (case sa_BadWord => k_is)
    (case ex_BadWord => k_is)
    (case ty_BadWord => k_is)
    (case kc_BadWord => k_is)
    (case ga_BadWord => k_is)
    (case gg_BadWord => k_is)
    (case hd_BadWord => k_is)
    (case ha_BadWord => k_is)
    (case hn_BadWord => k_is)
    (case ht_BadWord => k_is)
    (case hm_BadWord => k_is)
    (case na_BadWord => k_is)
    (case sb_BadWord_DrawError => k_is)
    (case ob_BadWord_BadNumber => kernel_rfl)
    (case lk_BadNumber => k_is)
    (case rv_BadNumber => rfl)
    (case sa_BadNumber => k_is)
    (case ex_BadNumber => k_is)
    (case ty_BadNumber => k_is)
    (case kc_BadNumber => k_is)
    (case ga_BadNumber => k_is)
    (case gg_BadNumber => k_is)
    (case hd_BadNumber => k_is)
    (case ha_BadNumber => k_is)
    (case hn_BadNumber => k_is)
    (case ht_BadNumber => k_is)
    (case hm_BadNumber => k_is)
    (case na_BadNumber => k_is)
    (case sb_BadNumber_DrawError => k_is)
    (case ob_BadNumber_BadWord => kernel_rfl)
    (case z_isinstance => k_is)
    (case z_int => k_is)
    (case z_bool => k_is)
    (case z_range => k_is)
    (case z_enumerate => k_is)
    (case z_sum => k_is)
    (case z_repr => k_is)
    (case hc0 => kernel_rfl)
#print axioms PySem.Challenge.cw_drawstate_k01_whole_bijections_of_words_holds
