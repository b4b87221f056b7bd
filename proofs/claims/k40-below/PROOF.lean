import PyProof.Rows.All
import Wide.All
import OpenK.AllK
import Wide.FinOn
import HandS.ForMost
import HandS.Exc
import HandS.Codes
import HandS.Wide
import HandS.WideBits
import HandS.IsInst
import HandS.Property
import HandS.Style
import HandS.Flow
import HandS.Small
import HandS.Lambda
import HandS.EndTab
import HandS.GenCall
import HandS.GenList
import KE.KOpsOwn
import HandS.ClsMeth
import HandS.TupAny
import HandS.ExcInit
import HandS.ExcField
import HandS.ExcIs
import HandS.Walk
import KE.KExcInit
import HandS.CallSlots
import HandS.Defaults
import HandS.TryMany
import HandS.Zip
import HandS.HotCalls
import PySem.Challenge.RW_drawstate_k40_numbers_below
set_option Elab.async false
set_option linter.all false
set_option maxRecDepth 100000
set_option maxHeartbeats 4000000
namespace Gx
open PySem PySem.Spec PyProof.Rows L2
/-! ### repr of data: where no repr is under way -/
mutual
theorem dpNoDict {K : PySem.W.Frag} {H : Hp} : ∀ (d : PyData) (x : V), Dp K H x d → d.hasDict = false
  | .none, _, _ => by simp only [PyData.hasDict]
  | .bool _, _, _ => by simp only [PyData.hasDict]
  | .int _, _, _ => by simp only [PyData.hasDict]
  | .str _, _, _ => by simp only [PyData.hasDict]
  | .list ds, _, h => by
    cases h with
    | lst _ ha =>
      simp only [PyData.hasDict]
      exact dpNoDictAll ds _ ha
  | .tuple ds, _, h => by
    cases h with
    | tup _ ha =>
      simp only [PyData.hasDict]
      exact dpNoDictAll ds _ ha
  | .dict _, _, h => nomatch h
theorem dpNoDictAll {K : PySem.W.Frag} {H : Hp} : ∀ (ds : List PyData) (xs : List V), DpAll K H xs ds → PyData.hasDictAll ds = false
  | [], _, _ => by simp only [PyData.hasDictAll]
  | d :: ds, _, h => by
    cases h with
    | cons h1 h2 =>
      simp only [PyData.hasDictAll, Bool.or_eq_false_iff]
      exact ⟨dpNoDict d _ h1, dpNoDictAll ds _ h2⟩
end
def rRepr (K : PySem.W.Frag) : List V → Hp → VK → Prop := fun xs H Q => ∃ (x : V) (d : PyData), xs = [x] ∧ Dp K H x d ∧ d.showable = true ∧ d.depth ≤ 60 ∧ d.shown.length ≤ sizeLine ∧ Q (.str d.shown) H
theorem call_repr {X : Cx} (hg : X.A.guards = some []) (hu : X.A.units + 64 < cLine) : CallR X (.builtin "repr") (rRepr X.K) := by
  intro pins s σ H xs us Q I r h
  obtain ⟨x, d, rfl, hd, hs, hdep, hsz, q⟩ := h
  obtain ⟨u, rfl, ru⟩ := vals1 r
  obtain ⟨as, rd⟩ := Dp.reads I d x u hd ru
  have nd := dpNoDict d x hd
  cases hd with
  | non =>
    cases ru
    exact PySem.P.repr_of_none ⟨.str _, H, I.tok _, ⟨_, rfl⟩, q⟩
  | bl b =>
    cases ru
    exact PySem.P.repr_of_bool ⟨.str _, H, I.tok _, ⟨_, rfl⟩, q⟩
  | int i =>
    obtain ⟨t, rfl⟩ := ru
    exact PySem.P.repr_of_int (of_decide_eq_true (by simpa [PyData.showable] using hs)) ⟨.str _, H, I.tok _, ⟨_, rfl⟩, q⟩
  | str z =>
    obtain ⟨t, rfl⟩ := ru
    exact PySem.P.repr_of_str (hsz := hsz) ⟨.str _, H, I.tok _, ⟨_, rfl⟩, q⟩
  | lst h1 h2 =>
    cases ru
    exact repr_of_reads' rd hs (PyData.noDict_hsm nd) hg (by omega) (fun _ _ e => e) (fun h' t tk hk => ⟨.str _, H, I.kept hk, ⟨_, rfl⟩, q⟩) hsz
  | tup h1 h2 =>
    cases ru
    exact repr_of_reads' rd hs (PyData.noDict_hsm nd) hg (by omega) (fun _ _ e => e) (fun h' t tk hk => ⟨.str _, H, I.kept hk, ⟨_, rfl⟩, q⟩) hsz
/-! ### a def whose promise is kept where no repr is under way -/
structure FnG (P : Program) (w : World) (K : PySem.W.Frag) (mg : Str → Option Value) (base : Heap) (k : Nat) (f : Addr) (fd : FuncData) (ps : List Str) (sp : Sp) : Prop where
  len : ∀ vs H Q E, sp vs H Q E → vs.length = ps.length
  run : ∀ (A : Around) (outer : List Env) (s : Shared) (H : Hp) (args : Args) (us : List Value) (vs : List V) (Q : VK), A.guards = some [] → Room k A → Env0 P w K mg base A outer s H →
    BindsTo s fd args (ps.zip us) → Vals vs us → sp vs H Q C8.E0 → codeAny (model P w) A (.call (.ref f) args) (CR C8.CX0 outer P w H s Q C8.E0) s
structure CalG (P : Program) (w : World) (K : PySem.W.Frag) (mg : Str → Option Value) (base : Heap) (k : Nat) (x : Str) (sp : Sp) : Prop where
  ex : ∃ (f : Addr) (fd : FuncData) (ps : List Str), FnG P w K mg base k f fd ps sp ∧ mg x = some (.ref f) ∧ PySem.W.keepIn K (.ref f) = true ∧ Binds K fd ps []
section
variable {P : Program} {w : World} {K : PySem.W.Frag} {mg : Str → Option Value} {base : Heap}
theorem fnG_of {x qual : Str} {st : Stmt} {f : Addr} {fd : FuncData} {N ps : List Str} {k : Nat} {sp : Sp} (F : C8.Fun K x qual st f fd) (S : FnScope N ps (C8.fnScope st)) (len : ∀ vs H Q E, sp vs H Q E → vs.length = ps.length)
    (hbody : ∀ (cdv : Value) (A : Around) (outer : List Env) (s : Shared) (H : Hp) (vs : List V) (Q : VK), A.guards = some [] → Room k (A.deeper (envOfC qual (C8.fnScope st) s.heap.objs.size f cdv)) → sp vs H Q C8.E0 →
      ∃ t, PSs (cxOf C8.CX0 P w K mg base N qual (C8.fnScope st) f cdv A outer s H C8.E0).nox (C8.fnBody st) t ∧ t { nx := fun _ H' => Q .non H', rt := Q } (start N vs) H) : FnG P w K mg base (k + 1) f fd ps sp := by
  obtain ⟨oc, od, dV, kV, doc, pm, an, cdv, ct, osl, rfl, lk, hcd⟩ := F.ex
  refine ⟨len, fun A outer s H args us vs Q hg hr e0 hb r hsp => ?_⟩
  refine LamX.run_ofS (CX := C8.CX0) (E := C8.E0) lk hcd S hr e0 hb r (len _ _ _ _ hsp) fun hr' => ?_
  obtain ⟨t, h, q⟩ := hbody cdv A outer s H vs Q hg hr' hsp
  exact ⟨t, h.nox, q⟩
theorem calG {x : Str} {st : Stmt} {f : Addr} {fd : FuncData} {N ps : List Str} {k : Nat} {sp : Sp} (F : C8.Def K mg x st f fd) (b : Binds K fd ps []) (S : FnScope N ps (C8.fnScope st)) (len : ∀ vs H Q E, sp vs H Q E → vs.length = ps.length)
    (hbody : ∀ (cdv : Value) (A : Around) (outer : List Env) (s : Shared) (H : Hp) (vs : List V) (Q : VK), A.guards = some [] → Room k (A.deeper (envOfC x (C8.fnScope st) s.heap.objs.size f cdv)) → sp vs H Q C8.E0 →
      ∃ t, PSs (cxOf C8.CX0 P w K mg base N x (C8.fnScope st) f cdv A outer s H C8.E0).nox (C8.fnBody st) t ∧ t { nx := fun _ H' => Q .non H', rt := Q } (start N vs) H) : CalG P w K mg base (k + 1) x sp :=
  ⟨f, fd, ps, fnG_of F.fn S len hbody, F.mgf, F.kp, b⟩
end
section
variable {X : Cx} {k j : Nat} {x : Str} {sp : Sp} {p pos : Pos} {e : Expr} {es : List Expr} {t : TA}
theorem runG {f : Addr} {fd : FuncData} {ps : List Str} {pins : List (Addr × Obj)} {σ : L2.St} {H : Hp} {s : Shared} {Q : VK} {us : List Value} {vs : List V} (F : FnG X.prog X.w X.K X.mg X.base k f fd ps sp) (gd : X.A.guards = some []) (hr : Room k X.A) (hb : Binds X.K fd ps [])
    (I : Inv X pins σ H s) (r : Vals vs us) (h : sp vs H Q C8.E0) : wpAny (model X.prog X.w) X.A (call (.ref f) us) (EP X pins σ Q) X.xe s := by
  have hl : us.length = ps.length := r.length.symm.trans (F.len _ _ _ _ h)
  have hbt : BindsTo s fd ⟨us, []⟩ (ps.zip us) := by
    have z := hb s us I.kIn (by rw [List.append_nil]; exact hl)
    rw [List.append_nil] at z
    exact z
  have go := F.run X.A X.stack s H ⟨us, []⟩ us vs Q gd hr I.env0 hbt r h
  refine wpAny_call (codeAny_mono go fun res s2 hres => ?_)
  match res, hres with
  | .ok (.ret u), hq => exact I.after hq
  | .ok .next, hq => exact hq.elim
  | .ok .brk, hq => exact hq.elim
  | .ok .cont, hq => exact hq.elim
  | .error er, hq => exact (show False from hq).elim
theorem pe_g (c : CalG X.prog X.w X.K X.mg X.base k x sp) (gd : X.A.guards = some []) (hr : Room j X.A) (hk : k ≤ j) (hgl : Gl X x) (ha : PA X (e :: es) t)
    (hdb : (x == ("__debug__" : Str)) = false := by decide) (hst : starEach (e :: es) X.env = (false, eval e X.env) :: starEach es X.env := by rfl)
    (hpl : (backTo pos (starEach es X.env)).any (·.1) = false := by rfl) : PE X (.Call (.Name x p) (e :: es) [] pos) (tCall sp [] C8.E0 t) := by
  obtain ⟨f, fd, ps, F, hm, kp, b⟩ := c.ex
  constructor
  intro pins s σ H Q I h
  refine wpAny_Call_Name_kw (ld_glob I hgl hm ?_ hdb)
  refine PySem.W.callWith_K (h₀ := X.base) I.ok.mod.kin kp ?_ hst hpl
  refine thn (ha.run pos pins s σ H _ I h) fun us s1 got => ?_
  obtain ⟨vs, H1, I1, r, q⟩ := got
  refine ⟨I1.kIn, runG F gd (hr.mono hk) b I1 r ?_⟩
  have z : sp (vs ++ []) H1 Q C8.E0 := q
  rw [List.append_nil] at z
  exact z
end
end Gx

set_option Elab.async false
set_option linter.all false
set_option maxRecDepth 100000
set_option maxHeartbeats 4000000
namespace Gx
open PySem PySem.Spec PyProof.Rows L2
/-! ### a property by its getter's promise -/
structure PrpC (P : Program) (w : World) (K : PySem.W.Frag) (mg : Str → Option Value) (base : Heap) (k : Nat) (C : Addr) (nm : Str) (sp : Sp) : Prop where
  ex : ∃ (p f : Addr) (fd : FuncData) (ps : List Str), Cls K C ∧ PropOf K C nm p f ∧ FnOk P w K mg base C8.CX0 k f fd ps sp ∧ Binds K fd ps []
theorem prp0 {P : Program} {w : World} {K : PySem.W.Frag} {mg : Str → Option Value} {base : Heap} {nm qual : Str} {C p : Addr} {st : Stmt} {f : Addr} {fd : FuncData} {N ps : List Str} {k : Nat} {sp : Sp} (c : Cls K C) (pr : PropOf K C nm p f) (F : C8.Fun K nm qual st f fd) (b : Binds K fd ps [])
    (S : FnScope N ps (C8.fnScope st)) (len : ∀ vs H Q E, sp vs H Q E → vs.length = ps.length)
    (hbody : ∀ (cdv : Value) (A : Around) (outer : List Env) (s : Shared) (H : Hp) (vs : List V) (Q : VK) (E : XK), Room k (A.deeper (envOfC qual (C8.fnScope st) s.heap.objs.size f cdv)) → sp vs H Q E →
      ∃ t, PSs (cxOf C8.CX0 P w K mg base N qual (C8.fnScope st) f cdv A outer s H E).nox (C8.fnBody st) t ∧ t { nx := fun _ H' => Q .non H', rt := Q } (start N vs) H) : PrpC P w K mg base (k + 1) C nm sp :=
  ⟨p, f, fd, ps, c, pr, C8.fn0 F S len hbody, b⟩
theorem pe_propC {X : Cx} {k j : Nat} {C : Addr} {nm : Str} {sp : Sp} {e : Expr} {ta : TE} {pos : Pos} (he : PE X e ta) (c : PrpC X.prog X.w X.K X.mg X.base k C nm sp) (hr : Room j X.A) (hk : k + 1 ≤ j) (hab : attributeBase e nm X.env (eval e X.env) = eval e X.env) :
    PE X (.Attribute e nm pos) (tProp C sp [] C8.E0 ta) := by
  obtain ⟨p, f, fd, ps, cl, pr, F, b⟩ := c.ex
  exact pe_prop he cl pr F (hr.mono hk) b .nil C8.pass0 hab
/-! ### the end of a law: its def is called where no repr is under way; cs: the code objects that make lambdas, with their tables -/
section
variable {P : Program} {w : World} {K : PySem.W.Frag} {mg mb : Str → Option Value} {k : Nat} {fa a : Addr} {cs : List (Addr × Addr)} {fd : FuncData} {x : Str} {sp : Sp} {t : Shared} {vs : List Value} {ns : List Int}
/-- the abstract heap at the law's call: the script and the tables -/
structure Hp0 (P : Program) (w : World) (K : PySem.W.Frag) (cs : List (Addr × Addr)) (a : Addr) (ns : List Int) (h : Heap) (H : Hp) : Prop where
  tab : ∀ p ∈ cs, H p.2 = some (.tbl #[])
  only : ∀ b, H b = none ∨ b ∈ cs.map (·.2) ∨ ∃ o xs, H b = some (.frz o (.lst xs))
  seq : SqL K H a (ns.map V.int)
  ok : HOk P w H h
  dom : ∀ b, H b ≠ none → b = a ∨ b ∈ cs.map (·.2)
  scr : H a ≠ none → K.lookup a = none
theorem hp0 (KX : K.In t.heap) (hT : ∀ p ∈ cs, t.heap.get? p.2 = some { cls := .none, data := .fields #[] }) (ha : t.heap.get? a = some { cls := .type "list", data := .seq vs.toArray }) (hi : IntsAre vs ns) (hl : ns.length ≤ sizeLine) :
    ∃ H, Hp0 P w K cs a ns t.heap H := by
  have rv := vals_ints hi
  have isT : ∀ b ∈ cs.map (·.2), t.heap.get? b = some { cls := .none, data := .fields #[] } := fun b hb => by
    obtain ⟨p, hp, rfl⟩ := List.mem_map.mp hb
    exact hT p hp
  have aT : a ∉ cs.map (·.2) := fun z => by
    have q := isT a z
    rw [ha] at q
    cases congrArg Obj.data (Option.some.inj q)
  have mem : ∀ p ∈ cs, p.2 ∈ cs.map (·.2) := fun p hp => List.mem_map.mpr ⟨p, hp, rfl⟩
  cases hk : K.lookup a with
  | some o =>
    have e := KX a o hk
    rw [ha] at e
    cases e
    refine ⟨fun b => if b ∈ cs.map (·.2) then some (.tbl #[]) else none, fun p hp => if_pos (mem p hp), fun b => ?_,
      .inr ⟨_, vs.toArray, _, hk, rfl, rfl, rfl, by rw [List.size_toArray, hi.length]; exact hl, by simpa using rv⟩, fun b u z => ?_, fun b z => ?_, fun z => absurd (if_neg aT) z⟩
    · by_cases hb : b ∈ cs.map (·.2)
      · exact .inr (.inl hb)
      · exact .inl (if_neg hb)
    · by_cases hb : b ∈ cs.map (·.2)
      · cases (if_pos hb).symm.trans z
        exact isT b hb
      · cases (if_neg hb).symm.trans z
    · by_cases hb : b ∈ cs.map (·.2)
      · exact .inr hb
      · exact absurd (if_neg hb) z
  | none =>
    refine ⟨fun b => if b = a then some (.frz { cls := .type "list", data := .seq vs.toArray } (.lst (ns.map V.int))) else if b ∈ cs.map (·.2) then some (.tbl #[]) else none,
      fun p hp => ?_, fun b => ?_, .inl (.inr ⟨{ cls := .type "list", data := .seq vs.toArray }, if_pos rfl⟩), fun b u z => ?_, fun b z => ?_, fun _ => hk⟩
    · have np : ¬ p.2 = a := fun z => aT (z ▸ mem p hp)
      exact (if_neg np).trans (if_pos (mem p hp))
    · by_cases hb : b = a
      · exact .inr (.inr ⟨_, _, if_pos hb⟩)
      · by_cases hc : b ∈ cs.map (·.2)
        · exact .inr (.inl hc)
        · exact .inl ((if_neg hb).trans (if_neg hc))
    · by_cases hb : b = a
      · cases (if_pos hb).symm.trans z
        subst hb
        exact ⟨ha, by rw [List.length_map]; exact hl, vs, _, rv, ha⟩
      · have z1 := (if_neg hb).symm.trans z
        by_cases hc : b ∈ cs.map (·.2)
        · cases (if_pos hc).symm.trans z1
          exact isT b hc
        · cases (if_neg hc).symm.trans z1
    · by_cases hb : b = a
      · exact .inl hb
      · by_cases hc : b ∈ cs.map (·.2)
        · exact .inr hc
        · exact absurd ((if_neg hb).trans (if_neg hc)) z
theorem callG (KX : K.In t.heap) (hns : t.heap.Ns mainGlobals mg) (hb : t.heap.Ns builtinsNs mb) (hbb : ∀ x : Str, x ≠ "__name__" → mb x = bootBuiltins x) (hlim : t.heap.NoLimit) (hg : t.gens = #[])
    (hT : ∀ p ∈ cs, t.heap.get? p.2 = some { cls := .none, data := .fields #[] }) (nT : ∀ p ∈ cs, K.lookup p.2 = none) (C : ∀ p ∈ cs, PySem.W.CodeHd t.heap p.1 p.2)
    (hbm : ∃ (bm : Addr) (ob : Obj), mg "__builtins__" = some (.ref bm) ∧ bm ≠ builtinsNs ∧ t.heap.get? bm = some ob ∧ ob.cls = .type "module" ∧ ob.dict = some builtinsNs ∧ ob.data = .plain)
    (ha : t.heap.get? a = some { cls := .type "list", data := .seq vs.toArray }) (hi : IntsAre vs ns) (hl : ns.length ≤ sizeLine) (hr : Room k callerA)
    (F : ∀ base : Heap, K.In base → base.Ns mainGlobals mg → (∀ p ∈ cs, LamX.TabB base mg p.1 p.2) → FnG P w K mg base k fa fd [x] sp) (hbind : ∀ (s : Shared) (u : Value), BindsTo s fd ⟨[u], []⟩ [(x, u)])
    (hsp : ∀ H : Hp, (∀ p ∈ cs, H p.2 = some (.tbl #[])) → SqL K H a (ns.map V.int) → sp [.ref a] H (fun v _ => v = .bl true) C8.E0) :
    codeAny (model P w) callerA (.call (.ref fa) ⟨[.ref a], []⟩) (fun r s' => r = .ok (.ret (.bool true)) ∧ OldK t.heap s'.heap ∧ s'.os = t.os ∧ AllBare s'.gens) t := by
  obtain ⟨H, Z⟩ := hp0 (P := P) (w := w) KX hT ha hi hl
  have see : ∀ {b : Addr} {o : Obj}, t.heap.get? b = some o → H b = none → (hidT t.heap H).get? b = some o := fun e n => hidT_get e n
  -- what is neither a list nor a table is not tracked
  have off : ∀ {b : Addr} {o : Obj}, t.heap.get? b = some o → (∀ ws n, o.data ≠ .seq ws n) → o.data ≠ .fields #[] → H b = none := fun {b o} e h1 h2 => by
    cases q : H b with
    | none => rfl
    | some u =>
      rcases Z.dom b (by rw [q]; simp) with e1 | e1
      · rw [e1, ha] at e
        cases e
        exact (h1 _ _ rfl).elim
      · obtain ⟨p, hp, rfl⟩ := List.mem_map.mp e1
        rw [hT p hp] at e
        cases e
        exact (h2 rfl).elim
  have offD : ∀ {b : Addr} {o : Obj} {es : Array DictEntry} {ep : Nat}, t.heap.get? b = some o → o.data = .dict es ep → H b = none := fun {b o es ep} e d =>
    off e (fun ws n z => by rw [d] at z; cases z) (fun z => by rw [d] at z; cases z)
  have nsOk : ∀ {b : Addr} {m : Str → Option Value}, t.heap.Ns b m → (hidT t.heap H).Ns b m := fun {b m} hh => by
    obtain ⟨o, es, ep, e, d, r⟩ := hh
    exact ⟨o, es, ep, see e (offD e d), d, r⟩
  have kOk : K.In (hidT t.heap H) := fun b o e => by
    refine see (KX b o e) ?_
    cases q : H b with
    | none => rfl
    | some u =>
      rcases Z.dom b (by rw [q]; simp) with e1 | e1
      · subst e1
        rw [Z.scr (by rw [q]; simp)] at e
        cases e
      · obtain ⟨p, hp, rfl⟩ := List.mem_map.mp e1
        rw [nT p hp] at e
        cases e
  have lim : (hidT t.heap H).NoLimit := by
    obtain ⟨mc, h1, h2⟩ := hlim
    exact ⟨mc, nsOk h1, h2⟩
  have hM : L2.Mod K mg (hidT t.heap H) := ⟨kOk, nsOk hns, ⟨mb, nsOk hb, hbb⟩, lim⟩
  have TB : ∀ p ∈ cs, LamX.TabB (hidT t.heap H) mg p.1 p.2 := fun p hp => by
    have hp2 := hT p hp
    refine ⟨?_, ?_, fun z => ?_⟩
    · obtain ⟨o, us, file, tf, flags, tg, inF, text, tt, e1, r1, r2, r3, r4, r5, r6, r7, r8, hne⟩ := C p hp
      refine ⟨o, us, file, tf, flags, tg, inF, text, tt, see e1 (off e1 (fun ws n z => ?_) fun z => ?_), r1, r2, r3, r4, r5, r6, r7, r8, hne⟩
      · rw [r2] at z; cases z
      · rw [r2] at z; cases z; simp at r3
    · obtain ⟨bm, ob, b1, b2, b3, b4, b5, b6⟩ := hbm
      refine ⟨bm, ob, b1, b2, fun q => ?_, fun q => ?_, see b3 (off b3 (fun ws n z => ?_) fun z => ?_), b4, b5, b6⟩
      · obtain ⟨o, es, ep, e, hd, _⟩ := hns
        rw [q, e] at b3; cases b3; rw [hd] at b6; cases b6
      · rw [q, hp2] at b3; cases b3; cases b6
      · rw [b6] at z; cases z
      · rw [b6] at z; cases z
    · obtain ⟨o, es, ep, e, hd, _⟩ := hns
      rw [z, hp2] at e; cases e; cases hd
  have nil : ∀ b : Addr, b ∉ ([] : List Addr) := fun b z => by simp at z
  have e0 : Env0 P w K mg (hidT t.heap H) callerA [] t H := ⟨rfl, hM, fun b o e => of_hidT e, Nat.le_of_eq (hidT_size _ _), trivial, fun b z => absurd z (nil b), Z.ok, .of_eq hg⟩
  have go := (F _ kOk (nsOk hns) TB).run callerA [] t H ⟨[.ref a], []⟩ [.ref a] [.ref a] _ rfl hr e0 (hbind t (.ref a)) (.cons rfl .nil) (hsp H Z.tab Z.seq)
  refine codeAny_mono go fun res s2 hres => ?_
  match res, hres with
  | .ok .next, h => exact h.elim
  | .ok .brk, h => exact h.elim
  | .ok .cont, h => exact h.elim
  | .error e, h => exact (show False from h).elim
  | .ok (.ret u), h =>
    obtain ⟨v, H', os, bare, un, ok2, r', q⟩ := h
    obtain rfl : v = .bl true := q
    obtain rfl : u = Value.bool true := r'
    have same : ∀ b o, b ∉ cs.map (·.2) → t.heap.get? b = some o → s2.heap.get? b = some o := fun b o nb e => by
      rcases Z.only b with z | z | ⟨ob, xs, z⟩
      · exact un.keep b o e z (nil b) (nil b)
      · exact absurd z nb
      · obtain ⟨e1, _⟩ := Z.ok b _ z
        obtain ⟨e2, _⟩ := ok2 b _ (un.frzs b ob _ z)
        rw [e] at e1
        cases e1
        exact e2
    have grown : ∀ p ∈ cs, ∃ more : Array Value, s2.heap.get? p.2 = some { cls := .none, data := .fields more } := fun p hp => by
      obtain ⟨more, z⟩ := un.tbls p.2 #[] (Z.tab p hp)
      exact ⟨_, ok2 p.2 _ z⟩
    refine ⟨rfl, ⟨fun b o e => ?_, fun b o e => ?_⟩, os, bare⟩
    · by_cases hb : b ∈ cs.map (·.2)
      · obtain ⟨p, hp, rfl⟩ := List.mem_map.mp hb
        obtain ⟨more, hm⟩ := grown p hp
        rw [hT p hp] at e
        cases e
        exact .inr (.inl ⟨((C p hp).tab (hT p hp)).isCodeTable, rfl, #[], more, rfl, by rw [Array.empty_append]; exact hm⟩)
      · exact .inl (same b o hb e)
    · by_cases hb : b ∈ cs.map (·.2)
      · obtain ⟨p, hp, rfl⟩ := List.mem_map.mp hb
        obtain ⟨more, hm⟩ := grown p hp
        exact ⟨_, hm⟩
      · exact ⟨o, same b o hb e⟩
end
/-- what is known of the law's promise -/
def LawG (l : PySem.W.OpenLaw) (w : World) (K : PySem.W.Frag) (k : Nat) (x : Str) (mg : Str → Option Value) (fa : Addr) (h : Heap) : Prop :=
  ∃ (fd : FuncData) (cs : List (Addr × Addr)) (sp : Sp), (∀ p ∈ cs, h.get? p.2 = some { cls := .none, data := .fields #[] }) ∧ (∀ p ∈ cs, K.lookup p.2 = none) ∧ (∀ p ∈ cs, PySem.W.CodeHd h p.1 p.2) ∧
    (∀ (s : Shared) (u : Value), BindsTo s fd ⟨[u], []⟩ [(x, u)]) ∧
    (∀ (H : Hp) (a : Addr) (ns : List Int), ns.length ≤ 63 → (∀ z ∈ ns, Builtin.Int.intBits z ≤ 1048576) → (∀ p ∈ cs, H p.2 = some (.tbl #[])) → SqL K H a (ns.map V.int) → sp [.ref a] H (fun v _ => v = .bl true) C8.E0) ∧
    ∀ base : Heap, K.In base → base.Ns mainGlobals mg → (∀ p ∈ cs, LamX.TabB base mg p.1 p.2) → FnG l.prog w K mg base k fa fd [x] sp
theorem walkG {l : PySem.W.OpenLaw} {k : Nat} {q : Program} {loose : List Str} {XP : (Str → Option Value) → Heap → Prop} {YP : World → Heap → Prop} {d : DefRec} {K : Params → PySem.W.Frag} {x : Str}
    (hn : l.most = some 63) (hdf : d.params.defaults = []) (hr : Room k callerA) (hY : ∀ (w : World) (h : Heap), YP w h → (K w.params).In h)
    (F : ∀ (w : World) (mg : Str → Option Value) (fa : Addr) (h : Heap), YP w h → (K w.params).In h → h.Ns mainGlobals mg → mg d.name = some (.ref fa) → LawG l w (K w.params) k x mg fa h) :
    PySem.W.WalkO q loose XP YP l.row.toRowW d [] (fun f vs => PySem.call f vs) := by
  refine Att.attach_callB hn hdf ?_
  intro w s0 t mg mb fa o pm cd doc a vs ns G Y ho hd hcd hmg hobj hints hlen hbits hg
  have KX := hY w _ Y
  obtain ⟨fd, cs, sp, hT, nT, C, hb, hsp, hF⟩ := F w mg fa _ Y KX G.T.g hmg
  exact callG KX G.T.g G.T.b G.T.builtins G.T.nolimit hg hT nT C G.T.bmain hobj hints (Nat.le_trans hlen (by decide)) hr hF hb fun H hH hS => hsp H a ns hlen hbits hH hS
end Gx

set_option Elab.async false
set_option linter.all false
set_option maxRecDepth 100000
set_option maxHeartbeats 4000000
namespace Rd
open PySem PySem.Spec PyProof.Rows L2
/-! ### readings, step by step: each row takes one reading apart -/
section
variable {D : Ends} {σ : L2.St} {H H1 : Hp} {Q : VK} {QB : Bool → Hp → Prop} {QA : List V → Hp → Prop} {t1 t2 : TS} {te ta tb tc : TE} {t u : TT} {i j : Nat} {v x y : V} {m n : Int} {r r2 : R2} {K : PySem.W.Frag} {A B : Prop} {b : Bool} {p : Prop}
theorem seq (h : t1 { D with nx := t2 D } σ H) : tSeq t1 t2 D σ H := h
theorem next (h : D.nx σ H) : tNext D σ H := h
theorem asg {g : TG} (h : te σ H fun x H1 => g x σ H1 D.nx) : tAsg te g D σ H := h
theorem nm {Qs : L2.St → Hp → Prop} (h : Qs (σ.set i (some v)) H) : gName i v σ H Qs := h
theorem ret (h : te σ H D.rt) : tRet te D σ H := h
theorem drop (h : te σ H fun _ H1 => D.nx σ H1) : tDrop te D σ H := h
theorem ifs (h : t σ H fun b H1 => if b = true then t1 D σ H1 else t2 D σ H1) : tIfS t t1 t2 D σ H := h
theorem par {ta : TA} (h : ta σ H fun vs H1 => ∃ v w, vs = [v, w] ∧ D.nx ((σ.set i (some v)).set j (some w)) H1) : tPar i j ta D σ H := h
theorem par3 {l : Nat} {ta : TA} (h : ta σ H fun vs H1 => ∃ u v w, vs = [u, v, w] ∧ D.nx (((σ.set i (some u)).set j (some v)).set l (some w)) H1) : tPar3 i j l ta D σ H := h
theorem var (h : σ[i]? = some (some v)) (k : Q v H) : tVar i σ H Q := ⟨v, h, k⟩
theorem cst (k : Q v H) : tC v σ H Q := k
theorem op (h : ta σ H fun x H1 => tb σ H1 fun y H2 => r x y H2 Q) : tOp r ta tb σ H Q := h
theorem un {g : V → Hp → VK → Prop} (h : ta σ H fun x H1 => g x H1 Q) : tUn g ta σ H Q := h
theorem ung {g : Int → V} (h : Q (g m) H) : rU g (.int m) H Q := ⟨m, rfl, h⟩
theorem i0 {g : Int → Int → V} (h : Q (g m n) H) : rI0 g (.int m) (.int n) H Q := ⟨m, n, rfl, rfl, h⟩
theorem iC {C : Int → Int → Prop} {g : Int → Int → V} (hc : C m n) (h : Q (g m n) H) : rI C g (.int m) (.int n) H Q := ⟨m, n, rfl, rfl, hc, h⟩
theorem eqI (h : Q (.bl (decide (m = n))) H) : rEq (.int m) (.int n) H Q := ⟨rfl, by
  have e : decide (V.int m = V.int n) = decide (m = n) := by
    by_cases z : m = n
    · subst z; simp
    · rw [decide_eq_false z, decide_eq_false (fun q => z (V.int.inj q))]
  rw [e]; exact h⟩
theorem neI (h : Q (.bl (!decide (m = n))) H) : rNe (.int m) (.int n) H Q := ⟨rfl, by
  have e : decide (V.int m = V.int n) = decide (m = n) := by
    by_cases z : m = n
    · subst z; simp
    · rw [decide_eq_false z, decide_eq_false (fun q => z (V.int.inj q))]
  rw [e]; exact h⟩
theorem eqS {a c : Str} (h : Q (.bl (decide (a = c))) H) : rEq (.str a) (.str c) H Q := ⟨rfl, by
  have e : decide (V.str a = V.str c) = decide (a = c) := by
    by_cases z : a = c
    · subst z; simp
    · rw [decide_eq_false z, decide_eq_false (fun q => z (V.str.inj q))]
  rw [e]; exact h⟩
theorem neS {a c : Str} (h : Q (.bl (!decide (a = c))) H) : rNe (.str a) (.str c) H Q := ⟨rfl, by
  have e : decide (V.str a = V.str c) = decide (a = c) := by
    by_cases z : a = c
    · subst z; simp
    · rw [decide_eq_false z, decide_eq_false (fun q => z (V.str.inj q))]
  rw [e]; exact h⟩
theorem test (h : te σ H fun x H' => ∃ k, x = .bl k ∧ QB k H') : tTest te σ H QB := h
theorem tstB (h : te σ H fun x H' => ∃ k, x = .bl k ∧ QB k H') : tB te σ H QB := h
theorem isB {QC : Bool → Prop} (h : QC b) : ∃ k, V.bl b = .bl k ∧ QC k := ⟨b, rfl, h⟩
theorem nxp {f g c d} (h : f σ H) : (Ends.mk f g c d).nx σ H := h
theorem rtp {f g c d} (h : g v H) : (Ends.mk f g c d).rt v H := h
theorem bkp {f g c d} (h : c σ H) : (Ends.mk f g c d).bk σ H := h
theorem ctp {f g c d} (h : d σ H) : (Ends.mk f g c d).ct σ H := h
theorem not (h : t σ H fun c H1 => QB (!c) H1) : tNot t σ H QB := h
theorem andT (h : t σ H fun c H1 => if c = true then u σ H1 QB else QB false H1) : tAnd t u σ H QB := h
theorem orT (h : t σ H fun c H1 => if c = true then QB true H1 else u σ H1 QB) : tOr t u σ H QB := h
theorem andV (h : ta σ H fun x H1 => ∃ c, x = .bl c ∧ if c = true then tb σ H1 Q else Q (.bl false) H1) : tAndV ta tb σ H Q := h
theorem orV (h : ta σ H fun x H1 => ∃ c, x = .bl c ∧ if c = true then Q (.bl true) H1 else tb σ H1 Q) : tOrV ta tb σ H Q := h
theorem notV (h : ta σ H fun x H1 => ∃ c, x = .bl c ∧ Q (.bl (!c)) H1) : tNotV ta σ H Q := h
theorem ifE (h : t σ H fun c H1 => if c = true then ta σ H1 Q else tb σ H1 Q) : tIf t ta tb σ H Q := h
theorem chain (h : ta σ H fun x H1 => tb σ H1 fun y H2 => r x y H2 fun z H3 => ∃ k, z = .bl k ∧ (if k = true then tc σ H3 fun w' H4 => r2 y w' H4 Q else Q (.bl false) H3)) : tChain r r2 ta tb tc σ H Q := h
theorem nil (h : QA [] H) : tNil σ H QA := h
theorem cons {tr : TA} (h : ta σ H fun x H1 => tr σ H1 fun xs H2 => QA (x :: xs) H2) : tCons ta tr σ H QA := h
theorem call {sp : Sp} {E : XK} {tr : TA} (h : tr σ H fun vs H1 => sp (vs ++ []) H1 Q E) : tCall sp [] E tr σ H Q := h
theorem cb {g : List V → Hp → VK → Prop} {tr : TA} (h : tr σ H fun vs H1 => g vs H1 Q) : tCB g tr σ H Q := h
theorem tup {tr : TA} (h : tr σ H fun xs H1 => xs.length ≤ sizeLine ∧ ∀ p, H1 p = none → Q (.ref p) (upd H1 p (.tup xs))) : tTup tr σ H Q := h
theorem lst {tr : TA} (h : tr σ H fun xs H1 => xs.length ≤ sizeLine ∧ ∀ p, H1 p = none → Q (.ref p) (upd H1 p (.lst xs))) : tLst tr σ H Q := h
theorem yes (c : p) [Decidable p] (h : A) : if decide p = true then A else B := by
  rw [decide_eq_true c, if_pos rfl]
  exact h
theorem no (c : ¬ p) [Decidable p] (h : B) : if decide p = true then A else B := by
  rw [decide_eq_false c, if_neg Bool.false_ne_true]
  exact h
theorem yesN (c : ¬ p) [Decidable p] (h : A) : if (!decide p) = true then A else B := by
  rw [decide_eq_false c]
  exact iteT h
theorem noN (c : p) [Decidable p] (h : B) : if (!decide p) = true then A else B := by
  rw [decide_eq_true c]
  exact iteF h
theorem both [Decidable p] (h1 : p → A) (h2 : ¬ p → B) : if decide p = true then A else B := by
  by_cases c : p
  · exact yes c (h1 c)
  · exact no c (h2 c)
theorem bothN [Decidable p] (h1 : ¬ p → A) (h2 : p → B) : if (!decide p) = true then A else B := by
  by_cases c : p
  · exact noN c (h2 c)
  · exact yesN c (h1 c)
end
theorem iteNT {A B : Prop} (h : B) : if (!true) = true then A else B := iteF h
theorem iteNF {A B : Prop} (h : A) : if (!false) = true then A else B := iteT h
theorem yesNN {A B p : Prop} [Decidable p] (c : p) (h : A) : if (!(!decide p)) = true then A else B := by
  rw [decide_eq_true c]
  exact iteT h
theorem noNN {A B p : Prop} [Decidable p] (c : ¬ p) (h : B) : if (!(!decide p)) = true then A else B := by
  rw [decide_eq_false c]
  exact iteF h
/-! ### readings with a name -/
def rAndM : R2 := fun x y H Q => ∃ (i : Int) (k : Nat), x = .int i ∧ y = .int (2 ^ k - 1) ∧ Q (.int (i % 2 ^ k)) H
theorem op_andM {X : Cx} : OpR X (binaryOp .BitAnd) rAndM := L2.op_andM
theorem andM {i m : Int} {H : Hp} {Q : VK} (k : Nat) (e : m = 2 ^ k - 1) (h : Q (.int (i % 2 ^ k)) H) : rAndM (.int i) (.int m) H Q := ⟨i, k, rfl, congrArg V.int e, h⟩
theorem and48 {i : Int} {H : Hp} {Q : VK} (h : Q (.int (i % 281474976710656)) H) : rAndM (.int i) (.int (281474976710656 - 1)) H Q := andM 48 (by decide) h
theorem and32 {i : Int} {H : Hp} {Q : VK} (h : Q (.int (i % 4294967296)) H) : rAndM (.int i) (.int (4294967296 - 1)) H Q := andM 32 (by decide) h
theorem and64 {i : Int} {H : Hp} {Q : VK} (h : Q (.int (i % 18446744073709551616)) H) : rAndM (.int i) (.int (18446744073709551616 - 1)) H Q := andM 64 (by decide) h
theorem and65 {i : Int} {H : Hp} {Q : VK} (h : Q (.int (i % 36893488147419103232)) H) : rAndM (.int i) (.int (36893488147419103232 - 1)) H Q := andM 65 (by decide) h
theorem and1 {i : Int} {H : Hp} {Q : VK} (h : Q (.int (i % 2)) H) : rAndM (.int i) (.int 1) H Q := andM 1 (by decide) h
def rShl1 : R2 := fun x y H Q => ∃ k : Nat, x = .int 1 ∧ y = .int (k : Int) ∧ k ≤ 134217727 ∧ Q (.int (2 ^ k)) H
theorem op_oneShl {X : Cx} : OpR X (binaryOp .LShift) rShl1 := L2.op_oneShl
theorem shl1 {k : Nat} {H : Hp} {Q : VK} (hk : k ≤ 134217727) (h : Q (.int (2 ^ k)) H) : rShl1 (.int 1) (.int (k : Int)) H Q := ⟨k, rfl, rfl, hk, h⟩
def rLenQ (K : PySem.W.Frag) : List V → Hp → VK → Prop := fun xs H Q => ∃ p ys, xs = [.ref p] ∧ (SqL K H p ys ∨ SqT K H p ys) ∧ Q (.int ys.length) H
theorem call_lenQ {X : Cx} : CallR X (.builtin "len") (rLenQ X.K) := call_len_seq
theorem lenL {K : PySem.W.Frag} {p : Addr} {ys : List V} {H : Hp} {Q : VK} (h : SqL K H p ys) (q : Q (.int ys.length) H) : rLenQ K [.ref p] H Q := ⟨p, ys, rfl, .inl h, q⟩
theorem lenT {K : PySem.W.Frag} {p : Addr} {ys : List V} {H : Hp} {Q : VK} (h : SqT K H p ys) (q : Q (.int ys.length) H) : rLenQ K [.ref p] H Q := ⟨p, ys, rfl, .inr h, q⟩
def rMax2 : List V → Hp → VK → Prop := fun xs H Q => ∃ i j, xs = [.int i, .int j] ∧ Q (.int (if j > i then j else i)) H
theorem call_mx2 {X : Cx} (hc : X.calm = true) : CallR X (.builtin "max") rMax2 := call_max2 hc
theorem mx2 {i j : Int} {H : Hp} {Q : VK} (q : Q (.int (if j > i then j else i)) H) : rMax2 [.int i, .int j] H Q := ⟨i, j, rfl, q⟩
def rMin2 : List V → Hp → VK → Prop := fun xs H Q => ∃ i j, xs = [.int i, .int j] ∧ Q (.int (if j < i then j else i)) H
theorem call_mn2 {X : Cx} (hc : X.calm = true) : CallR X (.builtin "min") rMin2 := call_min2 hc
theorem mn2 {i j : Int} {H : Hp} {Q : VK} (q : Q (.int (if j < i then j else i)) H) : rMin2 [.int i, .int j] H Q := ⟨i, j, rfl, q⟩
/-! ### isinstance of an int -/
theorem kit_int_int (K : PySem.W.Frag) : PySem.W.kitOne K (.type "int") (.type "int") = some true := by first | rfl | decide +kernel | kernel_rfl
theorem kit_int_bool (K : PySem.W.Frag) : PySem.W.kitOne K (.type "int") (.type "bool") = some false := by first | rfl | decide +kernel | kernel_rfl
theorem kit_self (K : PySem.W.Frag) (C : Addr) : PySem.W.kitOne K (.ref C) (.ref C) = some true := by
  unfold PySem.W.kitOne
  simp
theorem isInt {K : PySem.W.Frag} {n : Int} {H : Hp} {Q : VK} (q : Q (.bl true) H) : rIsi K [.int n, .ty "int"] H Q := ⟨_, _, .type "int", _, true, rfl, .ty _, .base (.int n), kit_int_int K, q⟩
theorem isBool {K : PySem.W.Frag} {n : Int} {H : Hp} {Q : VK} (q : Q (.bl false) H) : rIsi K [.int n, .ty "bool"] H Q := ⟨_, _, .type "int", _, false, rfl, .ty _, .base (.int n), kit_int_bool K, q⟩
theorem isOwn {K : PySem.W.Frag} {C a dx : Addr} {fs : List (Str × V)} {H : Hp} {Q : VK} (c : C8.InsC K C) (h : H a = some (.ins C dx fs)) (q : Q (.bl true) H) : rIsi K [.ref a, .ref C] H Q :=
  ⟨_, _, .ref C, .ref C, true, rfl, .own C, .base (.ins h c.cl c.ha c.hn c.htk c.hm), c.me, q⟩
/-! ### tuples, lists, fields -/
theorem sqt {K : PySem.W.Frag} {H : Hp} {a : Addr} {xs : List V} (h : H a = some (.tup xs)) : SqT K H a xs := .inl (.inl h)
theorem ixT {K : PySem.W.Frag} {p : Addr} {xs : List V} {i : Int} {v : V} {H : Hp} {Q : VK} (h : SqT K H p xs) (a : atI xs i = some v) (q : Q v H) : rIxT K (.ref p) (.int i) H Q := ⟨p, xs, i, v, rfl, rfl, h, a, q⟩
theorem ixL {K : PySem.W.Frag} {p : Addr} {xs : List V} {i : Int} {v : V} {H : Hp} {Q : VK} (h : SqL K H p xs) (a : atI xs i = some v) (q : Q v H) : rIxL K (.ref p) (.int i) H Q := ⟨p, xs, i, v, rfl, rfl, h, a, q⟩
theorem fld {K : PySem.W.Frag} {ta : TE} {f : Str} {σ : L2.St} {H : Hp} {Q : VK} (h : ta σ H fun x H1 => ∃ a C dx fs v, x = .ref a ∧ H1 a = some (.ins C dx fs) ∧ Cls K C ∧ NoAttr K C f ∧ fs.lookup f = some v ∧ Q v H1) : tFld K ta f σ H Q := h
theorem sql {K : PySem.W.Frag} {H : Hp} {a : Addr} {xs : List V} (h : H a = some (.lst xs)) : SqL K H a xs := .inl (.inl h)
theorem lk1 {f : Str} {v : V} : [(f, v)].lookup f = some v := by simp [List.lookup]
theorem lk_ne {f g : Str} {v : V} (h : ¬ g = f) : [(f, v)].lookup g = none := by
  have e : (g == f) = false := by simpa using h
  simp [List.lookup, e]
theorem fld1 {K : PySem.W.Frag} {f : Str} {H : Hp} {Q : V → Prop} {a C dx : Addr} {fs : List (Str × V)} {v : V} (h : H a = some (.ins C dx fs)) (c : Cls K C) (n : NoAttr K C f) (l : fs.lookup f = some v) (q : Q v) :
    ∃ a' C' dx' fs' v', V.ref a = .ref a' ∧ H a' = some (.ins C' dx' fs') ∧ Cls K C' ∧ NoAttr K C' f ∧ fs'.lookup f = some v' ∧ Q v' := ⟨a, C, dx, fs, v, rfl, h, c, n, l, q⟩
theorem meth {C : Addr} {m : Str} {sp : Sp} {E : XK} {ta : TE} {t : TA} {σ : L2.St} {H : Hp} {Q : VK} (h : ta σ H fun x H1 => ∃ a dx fs, x = .ref a ∧ H1 a = some (.ins C dx fs) ∧ fs.lookup m = none ∧ t σ H1 fun vs H2 => sp (x :: (vs ++ [])) H2 Q E) : tMeth C m sp [] E ta t σ H Q := h
theorem make {C : Addr} {sp : Sp} {E : XK} {t : TA} {σ : L2.St} {H : Hp} {Q : VK} (h : t σ H fun vs H1 => ∀ x dx, H1 x = none → H1 dx = none → dx ≠ x →
  sp (.ref x :: (vs ++ [])) (upd (upd H1 dx (.own x)) x (.ins C dx [])) (fun v H2 => v = .non ∧ Q (.ref x) H2) E) : tMake C sp [] E t σ H Q := h
theorem prop {C : Addr} {sp : Sp} {E : XK} {ta : TE} {σ : L2.St} {H : Hp} {Q : VK} (h : ta σ H fun x H1 => ∃ a dx fs, x = .ref a ∧ H1 a = some (.ins C dx fs) ∧ sp (.ref a :: []) H1 Q E) : tProp C sp [] E ta σ H Q := h
theorem gtup {K : PySem.W.Frag} {n : Nat} {t : TGs} {a : Addr} {xs : List V} {σ : L2.St} {H : Hp} {Q : L2.St → Hp → Prop} (h : SqT K H a xs) (hl : xs.length = n) (q : t xs σ H Q) : gTup K n t (.ref a) σ H Q := ⟨a, xs, rfl, h, hl, q⟩
theorem gcons {t : TG} {u : TGs} {v : V} {r : List V} {σ : L2.St} {H : Hp} {Q : L2.St → Hp → Prop} (h : t v σ H fun σ' H' => u r σ' H' Q) : gCons t u (v :: r) σ H Q := ⟨v, r, rfl, h⟩
theorem gnil {σ : L2.St} {H : Hp} {Q : L2.St → Hp → Prop} (h : Q σ H) : gNil [] σ H Q := ⟨rfl, h⟩
theorem gsub {to ti : TE} {t : TSet} {v : V} {σ : L2.St} {H : Hp} {Q : L2.St → Hp → Prop} (h : to σ H fun o H1 => ti σ H1 fun i H2 => t o i v H2 fun H3 => Q σ H3) : gSub to ti t v σ H Q := h
theorem setD {o i v : V} {H : Hp} {Q : Hp → Prop} (h : ∃ a H', o = .ref a ∧ DPut H a i v H' ∧ Q H') : rSetD o i v H Q := h
theorem setL {p : Addr} {xs : List V} {k : Int} {j : Nat} {v : V} {H : Hp} {Q : Hp → Prop} (h : H p = some (.lst xs)) (hj : ixN xs.length k = some j) (q : Q (upd H p (.lst (xs.set j v)))) : rSetL (.ref p) (.int k) v H Q := ⟨p, xs, k, j, rfl, rfl, h, hj, q⟩
theorem tupNew {K : PySem.W.Frag} {n : Nat} {t : TGs} {p : Addr} {xs : List V} {σ : L2.St} {H : Hp} {Q : L2.St → Hp → Prop} (hl : xs.length = n) (q : t xs σ (upd H p (.tup xs)) Q) : gTup K n t (.ref p) σ (upd H p (.tup xs)) Q := gtup (sqt upd_same) hl q
theorem cut {t u : TS} {D : Ends} {σ : L2.St} {H : Hp} (Mid : L2.St → Hp → Prop) (h1 : t { D with nx := Mid } σ H) (h2 : ∀ σ' H', Mid σ' H' → u D σ' H') : C8.tCut t u D σ H := ⟨Mid, h1, h2⟩
theorem bm {K : PySem.W.Frag} {T : String} {r : V → List V → Hp → VK → Prop} {to : TE} {t : TA} {σ : L2.St} {H : Hp} {Q : VK} (h : to σ H fun x H1 => tyV K T x H1 ∧ t σ H1 fun xs H2 => r x xs H2 Q) : tBM K T r to t σ H Q := h
theorem tyL {K : PySem.W.Frag} {H : Hp} {p : Addr} {xs : List V} (h : H p = some (.lst xs)) : tyV K "list" (.ref p) H := Or.inl ⟨rfl, _, Or.inl (Or.inl h)⟩
theorem app {H : Hp} {Q : VK} {l : Addr} {xs : List V} {y : V} (h : H l = some (.lst xs)) (hl : xs.length < 100000) (q : Q .non (upd H l (.lst (xs ++ [y])))) : rAppend (.ref l) [y] H Q := ⟨l, xs, y, rfl, rfl, h, Nat.lt_of_lt_of_le hl (by decide), q⟩
theorem revL {K : PySem.W.Frag} {te : TE} {σ : L2.St} {H : Hp} {Q : VK} (h : te σ H fun x H1 => ∃ a xs, x = .ref a ∧ SqL K H1 a xs ∧ ∀ p, H1 p = none → Q (.ref p) (upd H1 p (.lst xs.reverse))) : tRevL K te σ H Q := h
theorem frl {K : PySem.W.Frag} {tl : TE} {g : TG} {tb : TS} {D : Ends} {σ : L2.St} {H : Hp} (h : tl σ H fun x H1 => ∃ a, x = .ref a ∧ (∃ xs, SqL K H1 a xs) ∧ ∃ W : Nat → Nat → L2.St → Hp → Prop, (∃ m, W 0 m σ H1) ∧ ∀ i m σ H, W i m σ H →
    ((Itl K a).stop i H ∧ D.nx σ H) ∨ ((Itl K a).go i H ∧ ∃ N : L2.St → Hp → Prop, (∀ σ' H', N σ' H' → ∃ m', m' < m ∧ W (i + 1) m' σ' H') ∧ ∀ x H', (Itl K a).yld i H x H' → g x σ H' fun σ2 H2 => tb { D with nx := N, ct := N, bk := D.nx } σ2 H2)) :
    tFor (iList K tl) g tb D σ H := h
theorem frt {K : PySem.W.Frag} {tl : TE} {g : TG} {tb : TS} {D : Ends} {σ : L2.St} {H : Hp} (h : tl σ H fun x H1 => ∃ a, x = .ref a ∧ (∃ xs, SqT K H1 a xs) ∧ ∃ W : Nat → Nat → L2.St → Hp → Prop, (∃ m, W 0 m σ H1) ∧ ∀ i m σ H, W i m σ H →
    ((Itt K a).stop i H ∧ D.nx σ H) ∨ ((Itt K a).go i H ∧ ∃ N : L2.St → Hp → Prop, (∀ σ' H', N σ' H' → ∃ m', m' < m ∧ W (i + 1) m' σ' H') ∧ ∀ x H', (Itt K a).yld i H x H' → g x σ H' fun σ2 H2 => tb { D with nx := N, ct := N, bk := D.nx } σ2 H2)) :
    tFor (iTup K tl) g tb D σ H := h
theorem fre {K : PySem.W.Frag} {ta : TA} {g : TG} {tb : TS} {D : Ends} {σ : L2.St} {H : Hp} (h : ta σ H fun vs H1 => ∃ a xs, vs = [.ref a] ∧ SqL K H1 a xs ∧ ∃ W : Nat → Nat → L2.St → Hp → Prop, (∃ m, W 0 m σ H1) ∧ ∀ i m σ H, W i m σ H →
    ((Ite K a).stop i H ∧ D.nx σ H) ∨ ((Ite K a).go i H ∧ ∃ N : L2.St → Hp → Prop, (∀ σ' H', N σ' H' → ∃ m', m' < m ∧ W (i + 1) m' σ' H') ∧ ∀ x H', (Ite K a).yld i H x H' → g x σ H' fun σ2 H2 => tb { D with nx := N, ct := N, bk := D.nx } σ2 H2)) :
    tFor (iEnum K ta) g tb D σ H := h
theorem disp {trs : List (TE × TE)} {σ : L2.St} {H : Hp} {Q : VK} (h : ∀ p, H p = none → tPairs trs σ (upd H p (.dK [])) fun ps H2 => H2 p = some (.dK []) ∧ ∃ kvs : List (Key × V), ps = kvs.map (fun kv => (kV kv.1, kv.2)) ∧ kvs.length ≤ 15 ∧ Q (.ref p) (upd H2 p (.dK (mergeK [] kvs)))) : tDisp trs σ H Q := h
theorem pnil {σ : L2.St} {H : Hp} {Q : List (V × V) → Hp → Prop} (h : Q [] H) : tPairs [] σ H Q := h
theorem pcons {tk tv : TE} {r : List (TE × TE)} {σ : L2.St} {H : Hp} {Q : List (V × V) → Hp → Prop} (h : tk σ H fun x H1 => tv σ H1 fun y H2 => tPairs r σ H2 fun ps H3 => Q ((x, y) :: ps) H3) : tPairs ((tk, tv) :: r) σ H Q := h
/-! ### loops -/
theorem whl {c : TT} {tb : TS} {D : Ends} {σ : L2.St} {H : Hp} (W : Nat → L2.St → Hp → Prop) (m : Nat) (w0 : W m σ H) (hs : ∀ m σ H, W m σ H → c σ H fun b H1 => if b = true then ∃ N : L2.St → Hp → Prop, (∀ σ' H', N σ' H' → ∃ m', m' < m ∧ W m' σ' H') ∧
    tb { D with nx := N, ct := N, bk := D.nx } σ H1 else D.nx σ H1) : tWhile c tb D σ H := ⟨W, ⟨m, w0⟩, hs⟩
theorem fr1 {ta : TA} {g : TG} {tb : TS} {D : Ends} {σ : L2.St} {H : Hp} (h : ta σ H fun vs H1 => ∃ j : Int, vs = [.int j] ∧ -(2 ^ 62) ≤ j ∧ j < 2 ^ 62 ∧ ∃ W : Nat → Nat → L2.St → Hp → Prop, (∃ m, W 0 m σ H1) ∧ ∀ i m σ H, W i m σ H →
    ((Itr 0 j.toNat).stop i H ∧ D.nx σ H) ∨ ((Itr 0 j.toNat).go i H ∧ ∃ N : L2.St → Hp → Prop, (∀ σ' H', N σ' H' → ∃ m', m' < m ∧ W (i + 1) m' σ' H') ∧ ∀ x H', (Itr 0 j.toNat).yld i H x H' → g x σ H' fun σ2 H2 => tb { D with nx := N, ct := N, bk := D.nx } σ2 H2)) :
    tFor (iRng1 ta) g tb D σ H := h
/-- range(n), the turn told as a number -/
theorem frN {n : Nat} {k : Int} {g : TG} {tb : TS} {D : Ends} {σ : L2.St} {H : Hp} (hk : k = (n : Int)) (hn : n ≤ 1000000) (Pv : Nat → L2.St → Hp → Prop) (h0 : Pv 0 σ H)
    (hs : ∀ i σ H, i < n → Pv i σ H → g (.int (i : Int)) σ H fun σ2 H2 => tb { D with nx := Pv (i + 1), ct := Pv (i + 1), bk := D.nx } σ2 H2) (hd : ∀ σ H, Pv n σ H → D.nx σ H) :
    ∃ j : Int, [V.int k] = [.int j] ∧ -(2 ^ 62) ≤ j ∧ j < 2 ^ 62 ∧ ∃ W : Nat → Nat → L2.St → Hp → Prop, (∃ m, W 0 m σ H) ∧ ∀ i m σ H, W i m σ H →
    ((Itr 0 j.toNat).stop i H ∧ D.nx σ H) ∨ ((Itr 0 j.toNat).go i H ∧ ∃ N : L2.St → Hp → Prop, (∀ σ' H', N σ' H' → ∃ m', m' < m ∧ W (i + 1) m' σ' H') ∧ ∀ x H', (Itr 0 j.toNat).yld i H x H' → g x σ H' fun σ2 H2 => tb { D with nx := N, ct := N, bk := D.nx } σ2 H2) := by
  subst hk
  refine ⟨(n : Int), rfl, by omega, by omega, ?_⟩
  rw [Int.toNat_natCast]
  refine for_range (n := n) Pv h0 (fun i σ H hi hp => ?_) hd
  have e := hs i σ H hi hp
  rw [Int.zero_add]
  exact e
/-- all that was tracked stands -/
abbrev Ex := L2.Same
theorem ex_new {H : Hp} {p : Addr} {o : HO} (h : H p = none) : Ex H (upd H p o) := fun b z e => by
  rw [upd_ne (ne_of_none e h)]
  exact e
theorem ex_mut {H H' : Hp} {p : Addr} {o : HO} (e : Ex H H') (h : H p = none) : Ex H (upd H' p o) := fun b z q => by
  rw [upd_ne (ne_of_none q h)]
  exact e b z q
theorem ex_t {K : PySem.W.Frag} {H H' : Hp} {a : Addr} {xs : List V} (e : Ex H H') (h : SqT K H a xs) : SqT K H' a xs := by
  rcases h with (h | ⟨o, h⟩) | h
  · exact .inl (.inl (e _ _ h))
  · exact .inl (.inr ⟨o, e _ _ h⟩)
  · exact .inr h
theorem ex_l {K : PySem.W.Frag} {H H' : Hp} {a : Addr} {xs : List V} (e : Ex H H') (h : SqL K H a xs) : SqL K H' a xs := e.seq h
end Rd

set_option Elab.async false
set_option linter.all false
set_option maxRecDepth 100000
set_option maxHeartbeats 1000000
/-! a for loop in a generator's body -/
namespace Gx
open PySem PySem.Spec PyProof.Rows L2 GenW
def hX (env : Env) (x : Value) : Sem PySem.Fin := (do noteFrame x env; theTreesLotGoes x : Sem Unit).wrap (fun _ => .raise x) .raise id id
theorem seg_forLoop {prog : Program} {w : World} {A : Around} {R : GenEnd} {Y : Protocol} {n : Nat} {s₀ s : Shared} {fs : List Frame} {env : Env} {tg : Expr} {it : Value} {body : List Stmt}
    (h : wpAny (model prog w) (A.over (.forLoop tg it body [] env) fs) (pyNext it) (fun r s1 => match r with
      | none => Seg (model prog w) A R Y n s₀ (.forLoop tg it body [] env) (.pure (.again (.block [] env))) fs s1
      | some v => wpAny (model prog w) (A.over (.forLoop tg it body [] env) fs) (letOwnedTupleGo tg it v) (fun _ s2 =>
          wpAny (model prog w) (A.over (.forLoop tg it body [] env) fs) (assign tg env v) (fun _ s3 =>
            Seg (model prog w) A R Y n s₀ (.forLoop tg it body [] env) ((execs body env).wrap (fun f => match f with
              | .next | .cont => .pure (.again (.forLoop tg it body [] env))
              | .brk => .pure (.done .next)
              | .ret v => .pure (.done (.ret v))) (hX env) id id) fs s3)
            (fun x s' => Seg (model prog w) A R Y n s₀ (.forLoop tg it body [] env) (hX env x) fs s') s2)
          (fun x s' => Seg (model prog w) A R Y n s₀ (.forLoop tg it body [] env) (hX env x) fs s') s1)
      (fun x s' => Seg (model prog w) A R Y n s₀ (.forLoop tg it body [] env) (hX env x) fs s') s) :
    Seg (model prog w) A R Y n s₀ (.forLoop tg it body [] env) ((model prog w).den (.forLoop tg it body [] env)) fs s := by
  have hh : ∀ e, (do noteFrame e env; theTreesLotGoes e : Sem Unit).bind (fun _ => (.raise e : Sem PySem.Fin)) = hX env e := fun e => Sem.bind_eq_wrap _ _
  show Seg _ A R Y n s₀ _ ((forTurn tg it body [] env).onRaise (fun x => do noteFrame x env; theTreesLotGoes x)) fs s
  unfold forTurn
  rw [Sem.onRaise_eq_wrap]
  refine seg_bind_wrap (wpAny_standAt ?_)
  refine seg_bind_wrap (wpAny_onRaise (wpAny_mono h (fun r s1 h1 => ?_) fun x s' hx => wpAny_standAt ?_))
  · cases r with
    | none => exact h1
    | some v =>
      refine seg_bind_wrap (wpAny_mono h1 (fun _ s2 h2 => ?_) fun x s' hx => ?_)
      · refine seg_bind_wrap (wpAny_mono h2 (fun _ s3 h3 => ?_) fun x s' hx => ?_)
        · rw [Sem.bind_eq_wrap', Sem.wrap_wrap]
          rw [Sem.wrap_congr (execs body env) _ _ (K' := fun f => match f with
              | .next | .cont => .pure (.again (.forLoop tg it body [] env))
              | .brk => .pure (.done .next)
              | .ret v => .pure (.done (.ret v))) (H' := hX env) (fun f => by cases f <;> rfl) (fun e => by exact hh e)]
          exact h3
        · rw [← hh] at hx; exact hx
      · rw [← hh] at hx; exact hx
  · rw [← hh] at hx; exact hx
def tGFor (wi : TI) (g : TG) (tb : TGn) : TGn := fun D ys σ H => wi σ H fun J H1 => ∃ W : Nat → Nat → List V → L2.St → Hp → Prop, (∃ m, W 0 m ys σ H1) ∧ ∀ i m ys σ H, W i m ys σ H →
  (J.stop i H ∧ D.nx ys σ H) ∨ (J.go i H ∧ ∃ N : List V → L2.St → Hp → Prop, (∀ ys' σ' H', N ys' σ' H' → ∃ m', m' < m ∧ W (i + 1) m' ys' σ' H') ∧
    ∀ x H', J.yld i H x H' → g x σ H' fun σ2 H2 => tb { D with nx := N, ct := N, bk := D.nx } ys σ2 H2)
section
variable {X : Cx}
theorem gs_for {tg iter : Expr} {body : List Stmt} {pos : Pos} {wi : TI} {g : TG} {tb : TGn} (hp : PassesOwn (model X.prog X.w) X.A X.env X.xe) (hc : X.calm = true) (hi : PI X tg iter wi) (hg : PG X tg g) (hb : GSs X body tb)
    (hs : ∀ x, foldedSetIterable iter X.env x = pure x := by intro _; rfl) : GS X (.For tg iter body [] pos) (tGFor wi g tb) := by
  refine ⟨fun A S ip R n ys s₀ c fs K J gd lv s σ H D gc hn k hI ht => ?_⟩
  obtain ⟨acc0, cc0, r0, I0⟩ := hI
  rw [exec_For]
  refine seg_bind_wrap (wpAny_standAt ?_)
  refine seg_bind_wrap ?_
  rw [gc.over]
  refine wpAny_mono (hi.run _ s σ H _ I0 ht) (fun v s1 h1 => ?_) fun x s' hx => k.exc n s₀ x s' hx
  refine seg_bind_wrap (wpAny_of_eq (hs v) ?_)
  refine seg_bind_wrap (wpAny_standAt ?_)
  refine seg_bind_wrap (wpAny_holding ?_)
  rw [gc.over]
  refine wpAny_mono h1 (fun itv s2 h2 => ?_) fun x s' hx => k.exc n s₀ x s' hx
  obtain ⟨it, fp, tn, JJ, H2, e, I2, T, st2, f2, W, ⟨m0, w0⟩, turn⟩ := h2
  subst e
  refine seg_call fun p => ?_
  have gl := fun (kk : Result → Sem PySem.Fin) => gc_loop (k := kk) (c' := .forLoop tg (.ref it) body [] X.env) (l := lv []) (kp := []) (p := p) gc rfl rfl
  have glb := fun (kk : Result → Sem PySem.Fin) => gc_loop (k := kk) (c' := .block [] X.env) (l := lv []) (kp := []) (p := p) gc rfl rfl
  -- the objects of the iterator
  have stat : ∀ {acc : Array Value} {cc : Nat} {H' : Hp}, (∀ b ∈ fp, H' b = none) → ∀ b ∈ fp, FpOk X ((S, lstObj acc cc) :: ip) H' b := fun {acc cc H'} hn b hb => by
    obtain ⟨_, q1, q2, q3, q4, q5⟩ := f2 b hb
    refine ⟨hn b hb, q1, q2, q3, q4, fun p hp => ?_⟩
    rcases List.mem_append.mp hp with z | z
    · exact q5 p (List.mem_append_left _ z)
    · rcases List.mem_cons.mp z with z | z
      · rw [z]; exact q5 (S, lstObj acc0 cc0) (List.mem_append_right _ List.mem_cons_self)
      · exact q5 p (List.mem_append_right _ (List.mem_cons_of_mem _ z))
  have fpS : ∀ b ∈ fp, b ≠ S := fun b hb z => (f2 b hb).2.2.2.2.2 (S, lstObj acc0 cc0) (List.mem_append_right _ List.mem_cons_self) z.symm
  have loop : ∀ (m n : Nat) (i : Nat) (ys : List V) (s₀ s : Shared) (σ : L2.St) (H : Hp), n + ys.length = sizeLine → W i m ys σ H → GI X S ip ys σ H s → tn i s.heap → (∀ b ∈ fp, H b = none) →
      Seg (model X.prog X.w) A R (GY X S) n s₀ (.forLoop tg (.ref it) body [] X.env) ((model X.prog X.w).den (.forLoop tg (.ref it) body [] X.env))
        (.ret (fun r => ((match r with | .ok f => (.pure f : Sem Flow) | .error e => .raise e).onRaise (cameBack X.env)).wrap K J gd lv) none (gd false) (lv []) c p [] :: fs) s := by
    intro m
    induction m using Nat.strongRecOn with
    | ind m ih =>
      intro n i ys s₀ s σ H hn w hI hst hfr
      have ee : ∀ (n : Nat) (s₀ : Shared) (x : Value) (s' : Shared), X.xe x s' → Seg (model X.prog X.w) A R (GY X S) n s₀ (.forLoop tg (.ref it) body [] X.env) (hX X.env x)
          (.ret (fun r => ((match r with | .ok f => (.pure f : Sem Flow) | .error e => .raise e).onRaise (cameBack X.env)).wrap K J gd lv) none (gd false) (lv []) c p [] :: fs) s' := fun n s₀ x s' hx => by
        refine seg_wrap ?_
        rw [(gl _).over]
        refine wpAny_bind (wpAny_mono (hp x s' hx) (fun _ s'' hcb => wpAny_theTreesLotGoes ?_) fun y s'' hcb => ?_)
        · exact seg_leaf (.error x) (seg_cameBack gc k hcb)
        · exact seg_leaf (.error y) (seg_cameBack gc k hcb)
      refine seg_forLoop ?_
      rw [(gl _).over]
      obtain ⟨acc, cc, r, I⟩ := hI
      rcases turn i m ys σ H w with ⟨stop, qn⟩ | ⟨go, N, hN, step⟩
      · refine wpAny_mono (T.done X rfl rfl rfl hc i _ s σ H X.xe I (stat hfr) hst stop) (fun q s4 ⟨hr, I4⟩ => ?_) fun x s' hx => ee n s₀ x s' hx
        subst hr
        refine seg_again rfl ?_
        show Seg _ _ _ _ n s₀ (.block [] X.env) (((execs [] X.env).onRaise _) >>= fun f => pure (.done f)) _ s4
        exact seg_leaf (.ok .next) (k.ok n ys s₀ s4 .next hn ⟨σ, H, ⟨acc, cc, r, I4⟩, qn⟩)
      · refine wpAny_mono (T.item X rfl rfl rfl hc i _ s σ H X.xe I (stat hfr) hst go) (fun q s4 ⟨u, hr, h4⟩ => ?_) fun x s' hx => ee n s₀ x s' hx
        subst hr
        refine wpAny_mono h4 (fun _ s5 ⟨x, H5, I5, r5, y5, st5, fr5⟩ => ?_) fun x s' hx => ee n s₀ x s' hx
        have I5' := I5.pinned (stat fr5) (T.obj _ _ st5)
        refine wpAny_mono (hg.run _ s5 σ H5 x u _ I5' r5 (step x H5 y5)) (fun _ s6 ⟨σ6, H6, I6, q6⟩ => ?_) fun x s' hx => ee n s₀ x s' hx
        have gip : ∀ p ∈ ip ++ pinsAt fp s5.heap, p.1 ≠ S := fun p hp => by
          rcases List.mem_append.mp hp with z | z
          · exact gc.ip p z
          · exact fpS _ (of_pinsAt z).1
        have un : ∀ {ys' : List V} {σ' : L2.St} {H' : Hp} {s' : Shared}, GI X S (ip ++ pinsAt fp s5.heap) ys' σ' H' s' → GI X S ip ys' σ' H' s' ∧ tn (i + 1) s'.heap ∧ ∀ b ∈ fp, H' b = none := fun {ys' σ' H' s'} hI => by
          obtain ⟨acc, cc, r, I⟩ := hI
          have pn := fun b hb o e => I.pin (b, o) (List.mem_append_right _ (List.mem_cons_of_mem _ (List.mem_append_right _ (mem_pinsAt (fp := fp) (h := s5.heap) (b := b) (o := o) hb e))))
          refine ⟨⟨acc, cc, r, I.pins_of fun p hp => I.pin p (List.mem_append_right _ ?_)⟩, T.keep _ _ _ st5 fun b hb o e => (pn b hb o e).1, fun b hb => ?_⟩
          · rcases List.mem_cons.mp hp with z | z
            · exact z ▸ List.mem_cons_self
            · exact List.mem_cons_of_mem _ (List.mem_append_left _ z)
          · obtain ⟨o, e, d⟩ := T.obj _ _ st5 b hb
            exact (pn b hb o e).2.1
        refine hb.run A S (ip ++ pinsAt fp s5.heap) R n ys s₀ _ _ _ _ id id s6 σ6 H6 { D with nx := N, ct := N, bk := D.nx } ⟨gc.pn, gip, gc.apart, (gl _).over, (gl _).split, (gl _).guard, rfl⟩ hn ⟨fun n' ys' s₀' s7 f hn' hs => ?_, fun n' s₀' x s3 hx => ee n' s₀' x s3 hx⟩ ⟨acc, cc, r, I6⟩ q6
        cases f with
        | next =>
          obtain ⟨σ7, H7, I7, n7⟩ := hs
          obtain ⟨I8, st8, fr8⟩ := un I7
          obtain ⟨m', hm, w7⟩ := hN ys' σ7 H7 n7
          exact seg_again rfl (ih m' hm n' (i + 1) ys' s₀' s7 σ7 H7 hn' w7 I8 st8 fr8)
        | cont =>
          obtain ⟨σ7, H7, I7, n7⟩ := hs
          obtain ⟨I8, st8, fr8⟩ := un I7
          obtain ⟨m', hm, w7⟩ := hN ys' σ7 H7 n7
          exact seg_again rfl (ih m' hm n' (i + 1) ys' s₀' s7 σ7 H7 hn' w7 I8 st8 fr8)
        | brk =>
          obtain ⟨σ7, H7, I7, n7⟩ := hs
          exact seg_leaf (.ok .next) (k.ok n' ys' s₀' s7 .next hn' ⟨σ7, H7, (un I7).1, n7⟩)
        | ret v =>
          obtain ⟨x7, σ7, H7, I7, r7, n7⟩ := hs
          exact seg_leaf (.ok (.ret v)) (k.ok n' ys' s₀' s7 (.ret v) hn' ⟨x7, σ7, H7, (un I7).1, r7, n7⟩)
  exact loop m0 n 0 ys s₀ s2 σ H2 hn w0 ⟨acc0, cc0, r0, I2⟩ st2 fun b hb => (f2 b hb).1
/-- over a range -/
theorem gfor_range {lo : Int} {n : Nat} {g : TG} {tb : TGn} {D : GEnds} {ys : List V} {σ : L2.St} {H : Hp} (Pv : Nat → List V → L2.St → Hp → Prop) (h0 : Pv 0 ys σ H)
    (hs : ∀ i ys σ H, i < n → Pv i ys σ H → g (.int (lo + i)) σ H fun σ2 H2 => tb { D with nx := Pv (i + 1), ct := Pv (i + 1), bk := D.nx } ys σ2 H2) (hd : ∀ ys σ H, Pv n ys σ H → D.nx ys σ H) :
    ∃ W : Nat → Nat → List V → L2.St → Hp → Prop, (∃ m, W 0 m ys σ H) ∧ ∀ i m ys σ H, W i m ys σ H →
      ((Itr lo n).stop i H ∧ D.nx ys σ H) ∨ ((Itr lo n).go i H ∧ ∃ N : List V → L2.St → Hp → Prop, (∀ ys' σ' H', N ys' σ' H' → ∃ m', m' < m ∧ W (i + 1) m' ys' σ' H') ∧ ∀ x H', (Itr lo n).yld i H x H' → g x σ H' fun σ2 H2 => tb { D with nx := N, ct := N, bk := D.nx } ys σ2 H2) := by
  refine ⟨fun i m ys σ H => m = n - i ∧ i ≤ n ∧ Pv i ys σ H, ⟨n, by simp, Nat.zero_le _, h0⟩, ?_⟩
  rintro i m ys σ H ⟨rfl, hi, p⟩
  by_cases hlt : i < n
  · refine .inr ⟨hlt, Pv (i + 1), fun ys' σ' H' p' => ⟨n - (i + 1), by omega, rfl, hlt, p'⟩, fun x H' y => ?_⟩
    obtain ⟨rfl, rfl⟩ := y
    exact hs i ys σ _ hlt p
  · have e : i = n := by omega
    subst e
    exact .inl ⟨Nat.le_refl _, hd ys σ H p⟩
end
end Gx

set_option Elab.async false
set_option linter.all false
set_option maxRecDepth 100000
set_option maxHeartbeats 1000000
/-! an operator of one's own class, a static method, list() of a generator method -/
namespace Gx
open PySem PySem.Spec PyProof.Rows L2 GenW
/-! ### an own operator, the right side an int -/
structure OwnOp (K : PySem.W.Frag) (C : Addr) (nm : String) : Prop where
  sf : PySem.W.selfFirst K C = true
  r : PySem.W.findIn K (.ref C) (dunderR nm) = some none
  l1 : ∃ fo, PySem.W.findIn K (.type "int") (PySem.dunder nm) = some fo
  l2 : ∃ ro, PySem.W.findIn K (.type "int") (dunderR nm) = some ro
  sub : PySem.W.subIn K (.type "int") (.ref C) = some false
def rOwn (C : Addr) (sp : Sp) : V → V → Hp → VK → Prop := fun x y H Q => ∃ (a dx : Addr) (fs : List (Str × V)) (n : Int), x = .ref a ∧ y = .int n ∧ H a = some (.ins C dx fs) ∧ sp ([x, y] ++ []) H (fun v H' => (∃ b, v = .ref b) ∧ Q v H') C8.E0
section
variable {X : Cx} {k j : Nat} {C : Addr} {m : Str} {sp : Sp}
theorem op_own {op : Operator} (c : C8.Met X.prog X.w X.K X.mg X.base k C m sp []) (hr : Room j X.A) (hk : k ≤ j) (o : OwnOp X.K C op.info.2) (hm : PySem.dunder op.info.2 = m) : OpR X (binaryOp op) (rOwn C sp) := by
  intro pins s σ H x y v u Q I rx ry h
  obtain ⟨a, dx, fs, n, rfl, rfl, ha, q⟩ := h
  obtain rfl : v = Value.ref a := rx
  obtain ⟨f, fd, ps, ds, hc, me, F, b, d⟩ := c.ex
  obtain ⟨mA, O, rr, _, _, _⟩ := ins_get I.hok ha
  obtain ⟨od, J, hl⟩ := O.look
  obtain ⟨m0, fr⟩ := I.fr
  obtain ⟨fo, h1⟩ := o.l1
  obtain ⟨ro, h2⟩ := o.l2
  obtain ⟨t, rfl⟩ := id ry
  subst hm
  refine PySem.W.ksp_binT fr I.mod.kin J (T := "int") rfl o.sf me.at_ me.fn o.r (.inl rfl) h1 h2 o.sub ?_
  refine thn (run_fn (us := [.ref a, .int n t]) (vs := [.ref a, .int n]) F (hr.mono hk) b d C8.pass0 I (.cons rfl (.cons ry .nil)) q) fun v s1 hv => ?_
  obtain ⟨x, H1, I1, r1, ⟨b1, rfl⟩, q1⟩ := hv
  obtain rfl : v = Value.ref b1 := r1
  exact (⟨.ref b1, H1, I1, rfl, q1⟩ : EP X pins σ Q (.ref b1) s1)
end
/-! ### a static method of a class, by the class -/
structure SMet (P : Program) (w : World) (K : PySem.W.Frag) (mg : Str → Option Value) (base : Heap) (k : Nat) (C : Addr) (m : Str) (sp : Sp) : Prop where
  ex : ∃ (mc : Value) (p f : Addr) (fd : FuncData) (ps : List Str) (rest : List Value), ClX.CRead K C mc ∧ PySem.W.findCls K (.ref C) mc m = some (.get (.builtin "staticmethod.__get__") (.ref p) .none (.ref C)) ∧
    PySem.W.recIn K p "staticmethod" = some (.ref f :: rest) ∧ PySem.W.keepIn K (.ref f) = true ∧ FnOk P w K mg base C8.CX0 k f fd ps sp ∧ Binds K fd ps []
structure SAt (K : PySem.W.Frag) (C : Addr) (m : Str) (f : Addr) : Prop where
  ex : ∃ (mc : Value) (p : Addr) (rest : List Value), ClX.CRead K C mc ∧ PySem.W.findCls K (.ref C) mc m = some (.get (.builtin "staticmethod.__get__") (.ref p) .none (.ref C)) ∧ PySem.W.recIn K p "staticmethod" = some (.ref f :: rest) ∧ PySem.W.keepIn K (.ref f) = true
theorem smet0 {P : Program} {w : World} {K : PySem.W.Frag} {mg : Str → Option Value} {base : Heap} {m qual : Str} {C : Addr} {st : Stmt} {f : Addr} {fd : FuncData} {N ps : List Str} {k : Nat} {sp : Sp} (me : SAt K C m f) (F : C8.Fun K m qual st f fd) (b : Binds K fd ps []) (S : FnScope N ps (C8.fnScope st))
    (len : ∀ vs H Q E, sp vs H Q E → vs.length = ps.length)
    (hbody : ∀ (cdv : Value) (A : Around) (outer : List Env) (s : Shared) (H : Hp) (vs : List V) (Q : VK) (E : XK), Room k (A.deeper (envOfC qual (C8.fnScope st) s.heap.objs.size f cdv)) → sp vs H Q E →
      ∃ t, PSs (cxOf C8.CX0 P w K mg base N qual (C8.fnScope st) f cdv A outer s H E).nox (C8.fnBody st) t ∧ t { nx := fun _ H' => Q .non H', rt := Q } (start N vs) H) : SMet P w K mg base (k + 1) C m sp := by
  obtain ⟨mc, p, rest, r, a, b1, kp⟩ := me.ex
  exact ⟨mc, p, f, fd, ps, rest, r, a, b1, kp, C8.fn0 F S len hbody, b⟩
def tSMeth (C : Addr) (sp : Sp) (ta : TE) (t : TA) : TE := fun σ H Q => ta σ H fun x H1 => x = .ref C ∧ t σ H1 fun vs H2 => sp (vs ++ []) H2 Q C8.E0
section
variable {X : Cx} {k j : Nat} {C : Addr} {m : Str} {sp : Sp} {pos apos : Pos} {e o : Expr} {es : List Expr} {ta : TE} {t : TA} {pl : Sem Bool}
theorem pe_sm (c : SMet X.prog X.w X.K X.mg X.base k C m sp) (hr : Room j X.A) (hk : k ≤ j) (he : PE X o ta) (ha : PA X (e :: es) t)
    (hst : starEach (e :: es) X.env = (false, eval e X.env) :: starEach es X.env := by rfl) (hpl : (backTo pos (starEach es X.env)).any (·.1) = false := by rfl)
    (ht : eval (.Call (.Attribute o m apos) (e :: es) [] pos) X.env = (do
      let ov ← eval o X.env
      standAt apos.atName
      let (f, first) ← holding [ov] (getMethod ov m pl)
      callWith pos f first (backTo pos (starEach (e :: es) X.env)) (backToKw pos (keywordEach [] X.env))) := by rfl) :
    PE X (.Call (.Attribute o m apos) (e :: es) [] pos) (tSMeth C sp ta t) := by
  obtain ⟨mc, p, f, fd, ps, rest, r, a, b1, kp, F, b⟩ := c.ex
  refine ⟨fun pins s σ H Q I h => ?_⟩
  refine PySem.W.methodCall_KW (pl := pl) (thn (he.run pins s σ H _ I h) fun u s1 ⟨x, H1, I1, rx, ex, q⟩ => ?_) ht
  subst ex
  obtain rfl : u = Value.ref C := rx
  refine PySem.W.method_cls I1.kIn r.ga (PySem.W.cls_bind I1.kIn r.rd a (wpAny_call (PySem.W.sm_get (s := { s1 with toks := s1.toks + 1 }) I1.kIn b1 (PySem.W.handed_on rfl ?_))))
  have I2 : Inv X pins σ H1 { s1 with toks := s1.toks + 1 } := I1.tok _
  refine PySem.W.callWith_K (first := []) (h₀ := X.base) I.ok.mod.kin kp (thn (ha.run pos pins _ σ H1 _ I2 q) fun us s2 ⟨vs, H2, I3, rv, q2⟩ => ⟨I3.kIn, ?_⟩) hst hpl
  exact run_fn F (hr.mono hk) b .nil C8.pass0 I3 rv q2
end
/-! ### a generator method -/
structure GMet (P : Program) (w : World) (K : PySem.W.Frag) (mg : Str → Option Value) (base : Heap) (k : Nat) (C : Addr) (m : Str) (sp : SpG) : Prop where
  ex : ∃ (f : Addr) (fd : FuncData) (ps : List Str), Cls K C ∧ Meth K C m f ∧ GFn P w K mg base k f fd ps sp ∧ Binds K fd ps []
def gscC (N P : List Str) (sc : Scope) : Bool :=
  decide (sc.kind = .function) && !sc.isCoroutine && sc.isGenerator && decide N.Nodup && decide (N.take P.length = P) && P.all (fun x => decide (sc.names.lookup x = some .local) || decide (sc.names.lookup x = some .cell)) && sc.names.all (fun y => !decide (y.2 = .free))
theorem gscope_by {N P : List Str} {sc : Scope} (h : gscC N P sc = true) : GScope N P sc := by
  simp only [gscC, Bool.and_eq_true, decide_eq_true_eq, Bool.not_eq_true', List.all_eq_true, Bool.or_eq_true, decide_eq_false_iff_not] at h
  obtain ⟨⟨⟨⟨⟨⟨h1, h2⟩, h3⟩, h4⟩, h5⟩, h6⟩, h7⟩ := h
  exact ⟨h1, h2, h3, h4, h5, h6, h7⟩
theorem gmet0 {P : Program} {w : World} {K : PySem.W.Frag} {mg : Str → Option Value} {base : Heap} {m qual : Str} {C : Addr} {st : Stmt} {f : Addr} {fd : FuncData} {N ps : List Str} {k : Nat} {sp : SpG} (c : Cls K C) (me : Meth K C m f) (F : C8.Fun K m qual st f fd) (b : Binds K fd ps [])
    (S : GScope N ps (C8.fnScope st)) (len : ∀ vs H Q E, sp vs H Q E → vs.length = ps.length)
    (hbody : ∀ (cdv : Value) (A : Around) (outer : List Env) (s : Shared) (H : Hp) (vs : List V) (Q : List V → Hp → Prop) (E : XK) (pn : List (Addr × Obj)), Room k (A.deeper (envOfC qual (C8.fnScope st) s.heap.objs.size f cdv)) → sp vs H Q E →
      ∃ t, GSs (gcxOf P w K mg base N qual (C8.fnScope st) f cdv A outer s H E pn) (C8.fnBody st) t ∧ t { nx := fun ys _ H' => Q ys H', rt := fun ys v H' => v = .non ∧ Q ys H' } [] (start N vs) H) : GMet P w K mg base (k + 1) C m sp := by
  obtain ⟨oc, od, dV, kV, doc, pm, an, cdv, ct, osl, rfl, lk, hcd⟩ := F.ex
  exact ⟨f, _, ps, c, me, gfn_of lk hcd S len (hbody cdv), b⟩
theorem pass0G {X : Cx} : Passes (CX X.prog X.w) X C8.E0 := fun _ _ _ _ _ _ _ h => by
  obtain ⟨a, B, H', cls, d, _, _, _, _, _, _, _, z⟩ := h
  exact z.elim
section
variable {X : Cx} {k j : Nat} {C : Addr} {m : Str} {sp : SpG} {p pos pos' apos : Pos} {e o : Expr} {es : List Expr} {ta : TE} {t : TA} {pl : Sem Bool}
/-- list(o.m(..)) -/
theorem pe_listM (c : GMet X.prog X.w X.K X.mg X.base k C m sp) (hr : Room j X.A) (hk : k + 3 ≤ j) (he : PE X o ta) (ha : PA X (e :: es) t) (hg : Gl X "list") (hmg : X.mg "list" = none)
    (hst : starEach (e :: es) X.env = (false, eval e X.env) :: starEach es X.env := by rfl) (hpl : (backTo pos' (starEach es X.env)).any (·.1) = false := by rfl)
    (ht : eval (.Call (.Attribute o m apos) (e :: es) [] pos') X.env = (do
      let ov ← eval o X.env
      standAt apos.atName
      let (f, first) ← holding [ov] (getMethod ov m pl)
      callWith pos' f first (backTo pos' (starEach (e :: es) X.env)) (backToKw pos' (keywordEach [] X.env))) := by rfl)
    (hst2 : starEach [.Call (.Attribute o m apos) (e :: es) [] pos'] X.env = (false, eval (.Call (.Attribute o m apos) (e :: es) [] pos') X.env) :: starEach [] X.env := by rfl) :
    PE X (.Call (.Name "list" p) [.Call (.Attribute o m apos) (e :: es) [] pos'] [] pos) (tListG (tMethG C m sp [] C8.E0 ta t)) := by
  obtain ⟨f, fd, ps, hc, hm, F, b⟩ := c.ex
  exact pe_listG (pgen_meth (pl := pl) he hc hm F (hr.mono (by omega)) b .nil ha hst hpl ht) pass0G (fun _ _ _ z => z.elim) (hr.mono hk) hg hmg (by rfl) (by decide) (by decide) hst2
end
end Gx
namespace Gx
open PySem PySem.Spec PyProof.Rows L2 GenW
theorem isTup {K : PySem.W.Frag} {a : Addr} {xs : List V} {H : Hp} {Q : VK} (h : H a = some (.tup xs)) (q : Q (.bl true) H) : rIsi K [.ref a, .ty "tuple"] H Q :=
  ⟨_, _, .type "tuple", _, true, rfl, .ty _, .base (.tup h), by first | rfl | decide +kernel | kernel_rfl, q⟩
section
variable {t u : TGn} {tp : TS} {te : TE} {D : GEnds} {ys : List V} {σ : L2.St} {H : Hp}
theorem gthen (h : t { D with nx := fun ys' σ' H' => u D ys' σ' H' } ys σ H) : tGThen t u D ys σ H := h
theorem gplain (h : tp (D.at ys) σ H) : tPlain tp D ys σ H := h
theorem gat (h : D.nx ys σ H) : (D.at ys).nx σ H := h
theorem gnx {f g c d} (h : f ys σ H) : (GEnds.mk f g c d).nx ys σ H := h
theorem sfld {K : PySem.W.Frag} {to te : TE} {f : Str} {D : Ends} (h : te σ H fun y H1 => to σ H1 fun x H2 => ∃ a C dx fs, x = .ref a ∧ H2 a = some (.ins C dx fs) ∧ Cls K C ∧ NoAttr K C f ∧ fs.length < 1000 ∧ D.nx σ (upd H2 a (.ins C dx (putF f y fs)))) : sFld K to te f D σ H := h
theorem lg {tg : TGen} {Q : VK} (h : tg σ H fun out H2 => ∀ p, H2 p = none → Q (.ref p) (upd H2 p (.lst out))) : tListG tg σ H Q := h
theorem mg {C : Addr} {m : Str} {sp : SpG} {E : XK} {ta : TE} {t : TA} {cont : List V → Hp → Prop} (h : ta σ H fun x H1 => ∃ a dx fs, x = .ref a ∧ H1 a = some (.ins C dx fs) ∧ fs.lookup m = none ∧ t σ H1 fun vs H2 => sp (x :: (vs ++ [])) H2 cont E) : tMethG C m sp [] E ta t σ H cont := h
theorem sme {C : Addr} {sp : Sp} {ta : TE} {t : TA} {Q : VK} (h : ta σ H fun x H1 => x = .ref C ∧ t σ H1 fun vs H2 => sp (vs ++ []) H2 Q C8.E0) : tSMeth C sp ta t σ H Q := h
theorem gnil (h : D.nx ys σ H) : tG0 D ys σ H := h
theorem gy (hl : ys.length < sizeLine) (h : te σ H fun x H1 => D.nx (ys ++ [x]) σ H1) : tGYield te D ys σ H := ⟨hl, h⟩
theorem gfr {ta : TA} {g : TG} {tb : TGn} (h : ta σ H fun vs H1 => ∃ j : Int, vs = [.int j] ∧ -(2 ^ 62) ≤ j ∧ j < 2 ^ 62 ∧ ∃ W : Nat → Nat → List V → L2.St → Hp → Prop, (∃ m, W 0 m ys σ H1) ∧ ∀ i m ys σ H, W i m ys σ H →
  ((Itr 0 j.toNat).stop i H ∧ D.nx ys σ H) ∨ ((Itr 0 j.toNat).go i H ∧ ∃ N : List V → L2.St → Hp → Prop, (∀ ys' σ' H', N ys' σ' H' → ∃ m', m' < m ∧ W (i + 1) m' ys' σ' H') ∧
    ∀ x H', (Itr 0 j.toNat).yld i H x H' → g x σ H' fun σ2 H2 => tb { D with nx := N, ct := N, bk := D.nx } ys σ2 H2)) : tGFor (iRng1 ta) g tb D ys σ H := h
end
end Gx
namespace Gx
open PySem PySem.Spec PyProof.Rows L2 GenW
/-- a new object's heap by a name -/
theorem newo {H : Hp} {p : Addr} {o : HO} (hp : H p = none) : ∃ H1, H1 = upd H p o ∧ Rd.Ex H H1 ∧ H1 p = some o := ⟨_, rfl, Rd.ex_new hp, upd_same⟩
/-- f() -/
theorem pe_c0 {X : Cx} {k j : Nat} {x : Str} {sp : Sp} {p pos : Pos} (c : C8.Cal X.prog X.w X.K X.mg X.base k x sp []) (hr : Room j X.A) (hk : k ≤ j) (hg : Gl X x) (hdb : (x == ("__debug__" : Str)) = false := by decide) :
    PE X (.Call (.Name x p) [] [] pos) (tCall sp [] C8.E0 tNil) := by
  obtain ⟨f, fd, ps, ds, F, hm, kp, b, d⟩ := c.ex
  exact pe_call0 F (hr.mono hk) hg hm kp b d C8.pass0 hdb
end Gx

set_option Elab.async false
set_option linter.all false
set_option maxRecDepth 100000
set_option maxHeartbeats 1000000
/-! t[::-1] of a tuple of four -/
namespace Gx
open PySem PySem.Spec PyProof.Rows L2 GenW HT
section
variable {prog : Program} {w : World} {A : Around} {E : Value → Shared → Prop} {s : Shared}
theorem cutBack {sl : Addr} {x y z : Value} {Q : Int × Int × Nat → Shared → Prop} (hs : s.heap.IsSliceOf sl x y z) (px : IsPart x none) (py : IsPart y none) (pz : IsPart z (some (-1))) (h : Q (3, -1, 4) s) :
    wpAny (model prog w) A (Builtin.Slice.sliceApplied (.ref sl) (pure ((4 : Nat) : Int))) Q E s := by
  obtain ⟨ob, e1, _, e2⟩ := id hs
  unfold Builtin.Slice.sliceApplied Builtin.Slice.sliceFields
  refine wpAny_bind (wpAny_bind (wpAny_field e1 e2 (x := x) rfl (wpAny_bind (wpAny_field e1 e2 (x := y) rfl (wpAny_bind (wpAny_field e1 e2 (x := z) rfl (wpAny_pure ?_)))))))
  refine wpAny_bind (slicePart_ pz ?_)
  show wpAny _ _ (if ((-1 : Int) == 0) = true then _ else _) _ _ s
  rw [if_neg (show ¬ (((-1 : Int) == 0) = true) by decide)]
  exact wpAny_bind (slicePart_ px (wpAny_bind (slicePart_ py (wpAny_bind (wpAny_pure (wpAny_pure h))))))
theorem itemBack {t sl : Addr} {a b c d x y z : Value} {Q : Value → Shared → Prop} (ht : IsTup s.heap t #[a, b, c, d]) (hs : s.heap.IsSliceOf sl x y z) (px : IsPart x none) (py : IsPart y none) (pz : IsPart z (some (-1)))
    (h : Q (.ref s.heap.objs.size) { s with heap := s.heap.push { cls := .type "tuple", data := .seq #[d, c, b, a] } }) : wpAny (model prog w) A (getItem (.ref t) (.ref sl)) Q E s := by
  obtain ⟨ob, e1, e0, _⟩ := id hs
  have ty : s.TypeIs (.ref sl) "slice" := ⟨ob, e1, e0⟩
  unfold getItem
  try with_reducible refine wpAny_holding ?_
  first | refine wpAny_bind (wpAny_pure ?_) | skip
  refine wpAny_bind (wpAny_sequenceKey ht.typeIs (by decide) (wpAny_bind (wpAny_callSpecial?_slot (name := Str.ofString "__getitem__") ht.typeIs PyProof.Rows.slot_tuple_getitem
    (wpAny_call_entry PyProof.Rows.slot_tuple_getitem ht.typeIs entry_tuple_getitem ?_ (args_tuple_getitem _ _)))))
  show wpAny _ _ (Builtin.Tuple.tupleItemsOf (.ref t) >>= _) _ _ s
  refine wpAny_bind (tupleItemsOf_ ht (wpAny_bind (wpAny_typeOf ty ?_)))
  rw [if_pos (show (Value.type "slice" == Value.type "slice") = true by decide)]
  refine wpAny_bind (cutBack hs px py pz ?_)
  show wpAny _ _ (if ((3 : Int) == 0 && (-1 : Int) == 1 && (4 : Nat) == 4) = true then _ else _) _ _ s
  rw [if_neg (show ¬ (((3 : Int) == 0 && (-1 : Int) == 1 && (4 : Nat) == 4) = true) by decide)]
  have sz : sizeOk (.seq #[d, c, b, a]) := Nat.le_of_ble_eq_true rfl
  show wpAny _ _ (Builtin.Tuple.tupleExact #[d, c, b, a] >>= _) _ _ s
  first
    | exact wpAny_bind (m := Builtin.Tuple.tupleExact _) (wpAny_newObj_type (wpAny_pure ⟨_, rfl, wpAny_pure h⟩) sz)
    | exact wpAny_bind (m := Builtin.Tuple.tupleExact _) (wpAny_newObj_type (wpAny_bind (wpAny_pure (wpAny_pure ⟨_, rfl, wpAny_pure h⟩))) sz)
end
def tRevT (K : PySem.W.Frag) (te : TE) : TE := fun σ H Q => te σ H fun x H1 => ∃ a v1 v2 v3 v4, x = .ref a ∧ SqT K H1 a [v1, v2, v3, v4] ∧ ∀ p, H1 p = none → Q (.ref p) (upd H1 p (.tup [v4, v3, v2, v1]))
theorem pe_revT {X : Cx} {e : Expr} {te : TE} {k : Nat} {p1 p2 p3 pos : Pos} (he : PE X e te) : PE X (.Subscript e (.Slice none none (some (.UnaryOp .USub (.Constant (.int 1) k p1) p2)) p3) pos) (tRevT X.K te) := by
  refine ⟨fun pins s σ H Q I h => Subscript_ (thn (he.run pins s σ H _ I h) fun v s1 ⟨x, H1, I1, r1, a, v1, v2, v3, v4, ex, hx, q⟩ => ?_)⟩
  subst ex
  cases r1
  have neg1 : PO X (some (.UnaryOp .USub (.Constant (.int 1) k p1) p2)) (tPart (tUn (rU fun i => .int (-i)) (tC (.int 1)))) := po_some (pe_un un_neg pe_int)
  refine wpAny_Slice (thn (po_none.run pins s1 σ H1 (fun o H2 => o = none ∧ H2 = H1) I1 ⟨rfl, rfl⟩) fun y1 s2 ⟨o1, H2, I2, t1, c1, c2⟩ => ?_)
  subst c1 c2
  refine thn (po_none.run pins s2 σ H2 (fun o H3 => o = none ∧ H3 = H2) I2 ⟨rfl, rfl⟩) fun y2 s3 ⟨o2, H3, I3, t2, c1, c2⟩ => ?_
  subst c1 c2
  refine thn (neg1.run pins s3 σ H3 (fun o H4 => o = some (-1) ∧ H4 = H3) I3 ⟨1, rfl, -1, rfl, rfl, rfl⟩) fun y3 s4 ⟨o3, H4, I4, t3, c1, c2⟩ => ?_
  subst c1 c2
  have I5 : Inv X pins σ H4 { s4 with heap := s4.heap.push { cls := .type "slice", data := .fields #[y1, y2, y3] } } := I4.kept (t' := s4.toks) fun b ob z => Heap.get?_push_of_some _ z
  obtain ⟨its, r, ht, hz⟩ := I5.tuple hx
  cases r with
  | cons ra r => cases r with
    | cons rb r => cases r with
      | cons rc r => cases r with
        | cons rd r =>
          cases r
          show wpAny (model X.prog X.w) X.A (subscriptTail e _ (.ref a) (.ref s4.heap.objs.size)) (EP X pins σ Q) X.xe _
          refine tail_any (ops := [.ref a, .ref s4.heap.objs.size]) ht.typeIs PyProof.Rows.slot_tuple_getitem.lookup ?_ (by with_unfolding_all rfl)
          refine itemBack ht (Heap.IsSliceOf.new _ y1 y2 y3) t1 t2 t3 ?_
          refine ⟨.ref _, _, I5.laid (t' := s4.toks) (o := .tup [v4, v3, v2, v1]) (fun b ob z => Heap.get?_push_of_some _ z) (Nat.le_refl _) ?_, rfl, q _ (I5.hok.fresh (Nat.le_refl _))⟩
          exact ⟨Nat.le_of_ble_eq_true rfl, _, .cons rd (.cons rc (.cons rb (.cons ra .nil))), IsTup.new _ _⟩
theorem revT {K : PySem.W.Frag} {te : TE} {σ : L2.St} {H : Hp} {Q : VK} (h : te σ H fun x H1 => ∃ a v1 v2 v3 v4, x = .ref a ∧ SqT K H1 a [v1, v2, v3, v4] ∧ ∀ p, H1 p = none → Q (.ref p) (upd H1 p (.tup [v4, v3, v2, v1]))) : tRevT K te σ H Q := h
end Gx

set_option Elab.async false
set_option linter.all false
set_option maxRecDepth 100000
set_option maxHeartbeats 1000000
/-! own exceptions that call their base's __init__ by the base's name, and defs that may raise them -/
namespace Gx
open PySem PySem.Spec PyProof.Rows L2 GenW
section
variable {X : Cx} {x : Str} {e : Expr} {es : List Expr} {ta : TA} {p p1 p2 pos : Pos}
/-- B.__init__(self, ..), B an own class over ValueError without an __init__ of its own -/
theorem pe_binit {pl : Sem Bool} {B : Addr} {mc : Value} (hg : Gl X x) (hm : X.mg x = some (.ref B)) (r : ClX.CRead X.K B mc) (hv : PySem.W.findCls X.K (.ref B) mc "__init__" = some (.val (.builtin "ValueError.__init__"))) (ha : PA X (e :: es) ta)
    (hdb : (x == ("__debug__" : Str)) = false := by decide)
    (hc : eval (.Call (.Attribute (.Name x p1) "__init__" p2) (e :: es) [] pos) X.env = (do
      let ov ← eval (.Name x p1) X.env
      standAt p2.atName
      let (f, first) ← holding [ov] (getMethod ov "__init__" pl)
      callWith pos f first (backTo pos (starEach (e :: es) X.env)) (backToKw pos (keywordEach [] X.env))) := by rfl)
    (he : starEach (e :: es) X.env = (false, eval e X.env) :: starEach es X.env := by rfl) (hpl : (backTo pos (starEach es X.env)).any (·.1) = false := by rfl) :
    PE X (.Call (.Attribute (.Name x p1) "__init__" p2) (e :: es) [] pos) (tVeI X.K ta) := by
  refine ⟨fun pins s σ H Q I h => PySem.W.methodCall_KW (ld_glob I hg hm ?_ hdb) hc⟩
  refine PySem.W.method_cls I.kIn r.ga (PySem.W.cls_value I.kIn r.rd hv (by decide +kernel) ?_)
  refine PyProof.Rows.callWith_method1 (thn (ha.run pos pins _ σ H _ (I.tok _) h) fun us s1 ⟨vs, H1, I1, r1, a, C, ws, ev, hl, T, ea, q⟩ => ?_) he hpl
  subst ev
  cases r1 with
  | @cons _ u _ ur ra rr =>
    obtain rfl : u = Value.ref a := ra
    exact oinit_ok T I1 ea (by rw [← Paired.length rr, sizeLine_eq]; omega) fun s' J => ⟨.non, H1, J, rfl, q⟩
end
/-- the promise of such a class's __init__ -/
def spExc (C : Addr) (fl : Str) : Sp := fun vs H Q _ => ∃ (p : Addr) (v : V), vs = [.ref p, v] ∧ H p = some (exo p C none) ∧ ∀ dx, H dx = none → dx ≠ p → Q .non (upd (upd H dx (exd dx [(fl, v)])) p (exo p C (some dx)))
structure ExcMk (P : Program) (w : World) (K : PySem.W.Frag) (mg : Str → Option Value) (base : Heap) (k : Nat) (x : Str) (C : Addr) (fl : Str) : Prop where
  ex : ∃ (f : Addr) (fd : FuncData) (ps : List Str), OexC K C ∧ PySem.W.findIn K (.ref C) "__init__" = some (some (.ref f)) ∧ PySem.W.typeIn K (.ref f) = some (.type "function") ∧ FnOk P w K mg base C8.CX0 k f fd ps (spExc C fl) ∧ Binds K fd ps [] ∧ mg x = some (.ref C)
section
variable {X : Cx} {x : Str} {e : Expr} {ta : TA} {p pos : Pos} {k j : Nat} {C : Addr} {fl : Str}
theorem pmk_ex (c : ExcMk X.prog X.w X.K X.mg X.base k x C fl) (hr : Room j X.A) (hk : k + 1 ≤ j) (hg : Gl X x) (ha : PA X [e] ta) (hdb : (x == ("__debug__" : Str)) = false := by decide)
    (he : starEach [e] X.env = (false, eval e X.env) :: starEach [] X.env := by rfl) (hpl : (backTo pos (starEach [] X.env)).any (·.1) = false := by rfl) : PMk X (.Call (.Name x p) [e] [] pos) (tMkO C (spExc C fl) [] ta) := by
  obtain ⟨f, fd, ps, T, i, t, F, b, hm⟩ := c.ex
  exact pmk_oex T i t F (hr.mono hk) b .nil C8.pass0 hg hm ha hdb he hpl
end
/-- the exception is made: its dict holds the value -/
theorem mkO {C : Addr} {fl : Str} {v : V} {H : Hp} {Q : XK} (q : ∀ d H', H d = none → Rd.Ex H H' → H' d = some (.xd [(fl, v)]) → Q (.ref C) (some d) H') :
    [v].length ≤ 1000 ∧ ∀ a, H a = none → spExc C fl (.ref a :: ([v] ++ [])) (upd H a (exo a C none))
      (fun r H2 => r = .non ∧ ∃ (d : Addr) (fs : List (Str × V)), H2 a = some (exo a C (some d)) ∧ H2 d = some (exd d fs) ∧ H d = none ∧ Q (.ref C) (some d) (upd (del H2 a) d (.xd fs))) (fun _ _ _ => False) := by
  refine ⟨Nat.le_of_ble_eq_true rfl, fun a ha => ⟨a, v, rfl, upd_same, fun dx hd ne => ⟨rfl, dx, [(fl, v)], upd_same, ?_, ?_, ?_⟩⟩⟩
  · rw [upd_ne ne, upd_same]
  · rw [upd_ne ne] at hd; exact hd
  · have hd' : H dx = none := by rw [upd_ne ne] at hd; exact hd
    refine q dx _ hd' (fun c o h => ?_) upd_same
    have n1 : c ≠ a := ne_of_none h ha
    have n2 : c ≠ dx := ne_of_none h hd'
    rw [upd_ne n2, del_ne n1, upd_ne n1, upd_ne n2, upd_ne n1]
    exact h
/-! ### a def that may raise -/
structure CalX (P : Program) (w : World) (K : PySem.W.Frag) (mg : Str → Option Value) (base : Heap) (k : Nat) (x : Str) (sp : Sp) : Prop where
  ex : ∃ (f : Addr) (fd : FuncData) (ps : List Str), FnOk P w K mg base (CX P w) k f fd ps sp ∧ mg x = some (.ref f) ∧ PySem.W.keepIn K (.ref f) = true ∧ Binds K fd ps []
theorem takes_cx {P : Program} {w : World} {K : PySem.W.Frag} {mg : Str → Option Value} {base : Heap} {N : List Str} {qual : Str} {scope : Scope} {f : Addr} {cd : Value} {A : Around} {outer : List Env} {s : Shared} {H : Hp} {E : XK} :
    Takes (cxOf (CX P w) P w K mg base N qual scope f cd A outer s H E) (fun cls d _ H' => E cls d H') := takes_of rfl rfl rfl rfl
theorem calX {P : Program} {w : World} {K : PySem.W.Frag} {mg : Str → Option Value} {base : Heap} {x : Str} {st : Stmt} {f : Addr} {fd : FuncData} {N ps : List Str} {k : Nat} {sp : Sp} (F : C8.Def K mg x st f fd) (b : Binds K fd ps []) (S : FnScope N ps (C8.fnScope st)) (len : ∀ vs H Q E, sp vs H Q E → vs.length = ps.length)
    (hbody : ∀ (cdv : Value) (A : Around) (outer : List Env) (s : Shared) (H : Hp) (vs : List V) (Q : VK) (E : XK), Room k (A.deeper (envOfC x (C8.fnScope st) s.heap.objs.size f cdv)) → sp vs H Q E →
      ∃ t, PSs (cxOf (CX P w) P w K mg base N x (C8.fnScope st) f cdv A outer s H E) (C8.fnBody st) t ∧ t { nx := fun _ H' => Q .non H', rt := Q } (start N vs) H) : CalX P w K mg base (k + 1) x sp := by
  obtain ⟨oc, od, dV, kV, doc, pm, an, cdv, ct, osl, rfl, lk, hcd⟩ := F.fn.ex
  exact ⟨f, _, ps, fn_of lk hcd S len (hbody cdv), F.mgf, F.kp, b⟩
section
variable {X : Cx} {k j : Nat} {x : Str} {sp : Sp} {p pos : Pos} {e : Expr} {es : List Expr} {t : TA} {W : WX} {E : XK}
theorem pe_cx (c : CalX X.prog X.w X.K X.mg X.base k x sp) (tk : Takes X W) (hW : ∀ cls d σ H, E cls d H → W cls d σ H) (hr : Room j X.A) (hk : k ≤ j) (hg : Gl X x) (ha : PA X (e :: es) t)
    (hdb : (x == ("__debug__" : Str)) = false := by decide) (he : starEach (e :: es) X.env = (false, eval e X.env) :: starEach es X.env := by rfl) (hpl : (backTo pos (starEach es X.env)).any (·.1) = false := by rfl) :
    PE X (.Call (.Name x p) (e :: es) [] pos) (tCall sp [] E t) := by
  obtain ⟨f, fd, ps, F, hm, kp, b⟩ := c.ex
  exact pe_call F (hr.mono hk) hg hm kp b .nil (passes_call tk hW) ha hdb he hpl
end
end Gx

set_option Elab.async false
set_option linter.all false
set_option maxRecDepth 100000
set_option maxHeartbeats 1000000
/-! isinstance of a caught exception that has a dict -/
namespace Gx
open PySem PySem.Spec PySem.Calls PyProof.Rows PySem.W
section
variable {prog : Program} {w : World} {A : Around} {E : Value → Shared → Prop} {s : Shared} {K : Frag} {a D : Addr} {oa odict : Obj}
/-- e.__class__ -/
theorem cls_of_exc {Q : Option Value → Shared → Prop} (G : L2.ExcC K D) (KI : K.In s.heap) (J : InstAt s.heap a oa D (some odict)) (q : Q (some (.ref D)) { s with toks := s.toks + 1 }) : wpAny (model prog w) A (getAttr? (.ref a) "__class__") Q E s := by
  have some1 : (clsIn K D).isSome = true := by
    obtain ⟨_, e, _⟩ := any_some G.hd
    rw [e]; rfl
  have found := findObj_data (od := odict) some1 G.ha G.hn G.ht
  obtain ⟨hp, gs, dr, tk, oss⟩ := s
  have M1 : Looks (model prog w) hp (typeOf (.ref a)) (.ref D) := J.type
  have M2 := looks_findIn (M := model prog w) KI G.hg
  have M3 := looks_findIn (M := model prog w) KI G.hk
  have M4 := looks_find (M := model prog w) KI J found
  have M5 : Looks (model prog w) hp (isInstance (.ref a) (.type "BaseException")) true := M1.andThen (looks_subIn KI G.hs)
  have other : (Value.builtin "BaseException.__getattribute__" == Value.builtin "object.__getattribute__") = false := by decide +kernel
  have b1 : (onTheHeap (Value.ref D) && Value.builtin "BaseException.__getattribute__" == Value.builtin "object.__getattribute__") = false := by rw [other]; rfl
  unfold getAttr? getAttrBy? getAttrBy
  refine wpAny_bind (wpAny_mkText (wpAny_bind (wpAny_attempt (wpAny_holding (wpAny_bind (M1.at (wpAny_bind (M2.at ?a1))))))))
  case a1 =>
    show wpAny _ _ (if (onTheHeap (Value.ref D) && Value.builtin "BaseException.__getattribute__" == Value.builtin "object.__getattribute__") = true then _ else _) _ _ _
    rw [b1, if_neg Bool.false_ne_true]
    unfold getAttrByItsOwn hookBefore
    refine wpAny_bind ?a2
    case a2 =>
      rw [if_pos (show onTheHeap (Value.ref D) = true from rfl)]
      refine M3.at (wpAny_bind (wpAny_attempt (wpAny_holding ?a3)))
      case a3 =>
        unfold callGetattribute
        rw [show (false && onTheHeap (Value.builtin "BaseException.__getattribute__")) = false from rfl, if_neg Bool.false_ne_true]
        unfold boundAndCalled
        rw [PySem.F.excAttr_ValueError.ga.bind (.ref a)]
        refine wpAny_bind (wpAny_pure ?a4)
        case a4 =>
          show wpAny _ _ (call (.builtin "BaseException.__getattribute__") [.ref a, .str "__class__" tk]) _ _ _
          refine wpAny_call (codeAny_call_builtin PySem.F.excAttr_ValueError.ga.plain PySem.F.entry_bexc_ga (@check_slot (model prog w) _ _ ⟨hp, gs, dr, tk + 1, oss⟩ "BaseException.__getattribute__" "BaseException" "__getattribute__" (.ref a) [.str "__class__" tk] [] _
            (by decide +kernel) (by decide +kernel) M5 (PySem.F.args_bexc_ga (.ref a) (.str "__class__" tk)) ?a5))
          case a5 =>
            unfold Builtin.«object.__getattribute__»
            refine wpAny_bind (wpAny_of_eq (a := ((Value.ref a : Value), [Value.str "__class__" tk])) (by first | rfl | (simp only [slotArgs]; rfl)) (wpAny_bind (wpAny_pure (wpAny_bind (M1.at (wpAny_bind (M4.at ?a6)))))))
            case a6 =>
              show wpAny _ _ (holding [Value.builtin "object.__class__"] (call (.builtin "getset_descriptor.__get__") [.builtin "object.__class__", .ref a, .ref D]) >>= ret) _ _ _
              refine wpAny_bind (wpAny_holding (wpAny_call (class_get (s := ⟨hp, gs, dr, tk + 1, oss⟩) KI J G.hm (wpAny_pure ?a7))))
              case a7 =>
                show wpAny _ _ (handedOut (.ref D)) _ _ _
                rw [handedOut_of (v := .ref D) rfl]
                first
                  | exact wpAny_pure (wpAny_pure q)
                  | exact wpAny_pure q
                  | exact wpAny_pure (wpAny_bind (wpAny_pure (wpAny_pure q)))
theorem kit_exc (G : L2.ExcC K D) : KitX K (.ref a) (.ref D) (fun h => InstAt h a oa D (some odict)) := by
  have atK : ∃ c d cd sl, K.lookup D = some ⟨c, d, .cls cd, sl⟩ := by
    obtain ⟨_, e, _⟩ := any_some G.hd
    unfold clsIn at e
    split at e
    · exact ⟨_, _, _, _, by assumption⟩
    · cases e
  obtain ⟨c, d, cd, sl, eD⟩ := atK
  refine ⟨fun _ _ _ J => J.type, fun _ _ KI _ => ?_, fun h tp dd its n sl' KI e => ?_, fun KI J q => cls_of_exc G KI J q⟩
  · intro A' Q' E' s' k q
    unfold isType loadHead
    exact wpAny_bind (wpAny_loadPart (k _ _ (KI _ _ eD)) (wpAny_pure q))
  · refine Bool.eq_false_iff.mpr fun z => ?_
    obtain rfl : D = tp := Value.ref.inj (beq_iff_eq.mp z)
    cases (KI _ _ eD).symm.trans e
end
open L2
/-- isinstance(e, c), e the exception that the suite holds -/
theorem call_isX {X : Cx} {a D dd : Addr} {oe : Obj} {pn : List (Addr × Obj)} (G : ExcC X.K D) (hz : Zc (.ref D) (some dd) oe) (hf : ∃ vs, oe.data = .fields vs) :
    CallR (X.suite a ((a, oe) :: pn)) (.builtin "isinstance") (fun xs H Q => (∃ fs, H dd = some (.xd fs)) ∧ rIsE X.K D a xs H Q) := by
  intro pins s σ H xs us Q I r h
  obtain ⟨⟨fs, hd⟩, c, cv, b, rfl, hcv, e, q⟩ := h
  cases r with
  | cons rx rr =>
    cases rr with
    | cons rt rr =>
      cases rr
      cases rx
      obtain rfl := hcv _ rt
      obtain ⟨at_, _⟩ := I.pin (a, oe) (List.mem_append_left _ List.mem_cons_self)
      obtain ⟨vs, hv⟩ := hf
      obtain ⟨mA, ns, _⟩ := (show ObjOk X.prog X.w H s.heap dd (.xd fs) from I.hok dd _ hd)
      obtain ⟨od, ho, _⟩ := lookIn_ns ns
      have J : PySem.W.InstAt s.heap a oe D (some od) := ⟨at_, hz.1, by unfold PySem.W.notCls; rw [hv] <;> rfl, by rw [hz.2]; exact ho⟩
      exact PySem.W.kia_one (kit_exc G) I.kIn J e (fun z => nomatch z) fun tk => ⟨.bl b, H, I.kept (t' := tk) fun _ _ z => z, rfl, q⟩
end Gx

set_option Elab.async false
set_option linter.all false
set_option maxRecDepth 100000
set_option maxHeartbeats 1000000
/-! a def that makes lambdas: its code object is known -/
namespace Gx
open PySem PySem.Spec PyProof.Rows L2
structure LamDef (K : PySem.W.Frag) (mg : Str → Option Value) (x : Str) (st : Stmt) (f c : Addr) (fd : FuncData) : Prop where
  ex : ∃ (oc : Value) (od : Option Addr) (dV kV doc pm : Value) (an : Option Addr) (ct : Value) (osl : Array (Option Value)),
    fd = PySem.W.fnOf x x (C8.fnArgs st) (C8.fnBody st) (C8.fnScope st) dV kV doc pm an (.ref c) ct ∧ K.lookup f = some ⟨oc, od, .func fd, osl⟩ ∧ PySem.W.codeIn K (.ref c) x = true
  mgf : mg x = some (.ref f)
  kp : PySem.W.keepIn K (.ref f) = true
theorem calGc {P : Program} {w : World} {K : PySem.W.Frag} {mg : Str → Option Value} {base : Heap} {x : Str} {st : Stmt} {f c : Addr} {fd : FuncData} {N ps : List Str} {k : Nat} {sp : Sp} (F : LamDef K mg x st f c fd) (b : Binds K fd ps []) (S : FnScope N ps (C8.fnScope st))
    (len : ∀ vs H Q E, sp vs H Q E → vs.length = ps.length)
    (hbody : ∀ (A : Around) (outer : List Env) (s : Shared) (H : Hp) (vs : List V) (Q : VK), A.guards = some [] → Room k (A.deeper (envOfC x (C8.fnScope st) s.heap.objs.size f (.ref c))) → sp vs H Q C8.E0 →
      ∃ t, PSs (cxOf C8.CX0 P w K mg base N x (C8.fnScope st) f (.ref c) A outer s H C8.E0).nox (C8.fnBody st) t ∧ t { nx := fun _ H' => Q .non H', rt := Q } (start N vs) H) : CalG P w K mg base (k + 1) x sp := by
  obtain ⟨oc, od, dV, kV, doc, pm, an, ct, osl, rfl, lk, hcd⟩ := F.ex
  refine ⟨f, _, ps, ⟨len, fun A outer s H args us vs Q hg hr e0 hb r hsp => LamX.run_ofS (CX := C8.CX0) (E := C8.E0) lk hcd S hr e0 hb r (len _ _ _ _ hsp) fun hr' => ?_⟩, F.mgf, F.kp, b⟩
  obtain ⟨t, h, q⟩ := hbody A outer s H vs Q hg hr' hsp
  exact ⟨t, h.nox, q⟩
theorem takes_lam {X : Cx} {A : Around} {outer : List Env} {s : Shared} {H : Hp} {E : XK} {scope : Scope} {f c : Addr} : Takes (LamX.lamCx X A outer s H E scope f c) (fun cls d _ H' => E cls d H') := takes_of rfl rfl rfl rfl
/-- x(lambda: body), x a def that calls what it gets -/
theorem pe_lam {X : Cx} {T : List (Addr × Str)} {TT : (XK → Hp → VK → Prop) → Hp → VK → Prop} {x a : Str} {st : Stmt} {g c tb : Addr} {k j : Nat} {fd : FuncData} {Ng : List Str} {params : Arguments} {body : Expr} {scope : Scope} {t : XK → TE} {p lpos pos : Pos}
    (D : C8.Def X.K X.mg x st g fd) (b : Binds X.K fd [a] []) (Sg : FnScope Ng [a] (C8.fnScope st)) (hNg : Ng[0]? = some a) (hva : Vis (C8.fnScope st) a) (hG : ∀ cdg, LamX.GivesTo X Ng x (C8.fnScope st) g cdg (C8.fnBody st) a (X.env.qual ++ "<lambda>") TT)
    (TB : LamX.TabB X.base X.mg c tb) (hcode : X.env.code = .ref c) (hmT : (tb, X.env.qual ++ "<lambda>") ∈ T) (hu : ∀ p ∈ T, p.1 = tb → p.2 = X.env.qual ++ "<lambda>") (hr : Room j X.A) (hk : k + 2 ≤ j) (hg : Gl X x) (L : LamX.LamS X.env.scope scope)
    (hbody : ∀ (A : Around) (outer : List Env) (s : Shared) (H : Hp) (E : XK) (f c' : Addr), Room k (A.deeper (LamX.lamEnv X scope s.heap.objs.size f c')) → PE (LamX.lamCx X A outer s H E scope f c') body (t E))
    (hdef : defaultsOf params X.env = ([], []) := by rfl) (hbind : ∀ (q : Str) (cl : List (Str × Addr)) (pm cv ctv : Value), bindArgs (PySem.W.kla_fn "<lambda>" q params body scope cl pm cv ctv) ⟨[], []⟩ = pure [] := by intros; rfl)
    (hdb : (x == ("__debug__" : Str)) = false := by decide) (hd : (a == ("__debug__" : Str)) = false := by decide) (hcd : (a == ("__classdict__" : Str)) = false := by decide) :
    PE X (.Call (.Name x p) [.Lambda params body scope lpos] [] pos) (LamX.tLam T TT t) := by
  obtain ⟨oc, od, dV, kV, doc, pm, an, cdv, ct, osl, rfl, lk, hc⟩ := D.fn.ex
  exact LamX.pe_lamcall hg D.mgf D.kp lk hc b Sg hNg hva (hG cdv) TB hcode hmT hu (hr.mono hk) L hdef hbind hbody hdb hd hcd
end Gx

set_option Elab.async false
set_option linter.all false
set_option maxRecDepth 100000
set_option maxHeartbeats 1000000
/-! repr of data, or of the empty dict -/
namespace Gx
open PySem PySem.Spec PyProof.Rows L2
def rReprD (K : PySem.W.Frag) : List V → Hp → VK → Prop := fun xs H Q => rRepr K xs H Q ∨ ∃ a, xs = [.ref a] ∧ H a = some (.dK []) ∧ Q (.str "{}") H
theorem call_reprD {X : Cx} (hg : X.A.guards = some []) (hu : X.A.units + 64 < cLine) : CallR X (.builtin "repr") (rReprD X.K) := by
  intro pins s σ H xs us Q I r h
  rcases h with h | ⟨a, rfl, ha, q⟩
  · exact call_repr hg hu pins s σ H xs us Q I r h
  obtain ⟨u, rfl, ru⟩ := vals1 r
  cases ru
  obtain ⟨_, nsm, vs, kv, o, es, ep, h1, h2, h3, h4⟩ := (show ObjOk X.prog X.w H s.heap a (.dK []) from I.hok a _ ha)
  cases kv
  have e : es.toList = [] := by
    have z := h4.2.1
    generalize es.toList = l at z
    cases l with
    | nil => rfl
    | cons p l => cases z
  have rd : Reads s.heap (.ref a) (.dict []) (a :: [] ++ []) := .dict (kvs := []) h1 h2.1 h3 (by rw [e]; exact .nil) (by rw [e]; exact .nil)
  have nsm' : sysModules ∉ a :: [] ++ [] := fun z => by
    rcases List.mem_cons.mp z with z | z
    · rw [← z] at nsm; simp at nsm
    · cases z
  exact repr_of_reads' rd (by decide) (fun _ => nsm') hg (by show X.A.units + 2 < cLine; omega) (fun _ _ z => z) (fun h' t tk hk => ⟨.str "{}", H, I.kept hk, ⟨_, rfl⟩, q⟩) (by decide +kernel)
end Gx

set_option Elab.async false
set_option linter.all false
set_option maxRecDepth 100000
set_option maxHeartbeats 4000000
set_option exponentiation.threshold 2000
namespace Gx
open PySem PySem.Spec PyProof.Rows L2
/-! ### texts of data: how long they are -/
mutual
def Sml : PyData → Prop
  | .none => True
  | .bool _ => True
  | .int i => i.natAbs < 2 ^ 600
  | .str _ => False
  | .list xs => SmlAll xs
  | .tuple xs => SmlAll xs
  | .dict _ => False
def SmlAll : List PyData → Prop
  | [] => True
  | x :: xs => Sml x ∧ SmlAll xs
end
mutual
def nodes : PyData → Nat
  | .list xs => nodesAll xs + 1
  | .tuple xs => nodesAll xs + 1
  | .none => 1
  | .bool _ => 1
  | .int _ => 1
  | .str _ => 1
  | .dict _ => 1
def nodesAll : List PyData → Nat
  | [] => 0
  | x :: xs => nodes x + nodesAll xs
end
theorem log_lt {n k : Nat} (hk : 0 < k) (h : n < 2 ^ k) : n.log2 < k := PySem.Flt.log2_lt_of hk h
mutual
theorem sml_show : ∀ d : PyData, Sml d → d.showable = true
  | .none, _ => by simp only [PyData.showable]
  | .bool _, _ => by simp only [PyData.showable]
  | .int i, h => by
    simp only [PyData.showable, decide_eq_true_eq]
    exact Nat.lt_trans (log_lt (by decide) (show i.natAbs < 2 ^ 600 from by simpa only [Sml] using h)) (by decide)
  | .str _, h => by simp only [Sml] at h
  | .list xs, h => by
    simp only [PyData.showable]
    exact sml_showAll xs (by simpa only [Sml] using h)
  | .tuple xs, h => by
    simp only [PyData.showable]
    exact sml_showAll xs (by simpa only [Sml] using h)
  | .dict _, h => by simp only [Sml] at h
theorem sml_showAll : ∀ xs : List PyData, SmlAll xs → PyData.showableAll xs = true
  | [], _ => by simp only [PyData.showableAll]
  | x :: xs, h => by
    simp only [SmlAll] at h
    simp only [PyData.showableAll, Bool.and_eq_true]
    exact ⟨sml_show x h.1, sml_showAll xs h.2⟩
end
mutual
theorem sml_len : ∀ d : PyData, Sml d → d.shown.length + 2 ≤ 612 * nodes d
  | .none, _ => by simp only [nodes, PyData.shown]; decide
  | .bool b, _ => by cases b <;> simp only [nodes, PyData.shown] <;> decide
  | .int i, h => by
    have z : (toString i).length ≤ 601 := int_text_length_le (by decide) (log_lt (by decide) (show i.natAbs < 2 ^ 600 from by simpa only [Sml] using h))
    have e : (PyData.shown (.int i)).length = (toString i).length := by simp only [PyData.shown]; exact PySem.ofString_length _
    rw [e]
    simp only [nodes]
    omega
  | .str _, h => by simp only [Sml] at h
  | .list xs, h => by
    simp only [PyData.shown, nodes]
    have a := listText_len_le (PyData.shownAll xs)
    have b := sml_lenAll xs (by simpa only [Sml] using h)
    omega
  | .tuple xs, h => by
    simp only [PyData.shown, nodes]
    have a := tupleText_len_le (PyData.shownAll xs)
    have b := sml_lenAll xs (by simpa only [Sml] using h)
    omega
  | .dict _, h => by simp only [Sml] at h
theorem sml_lenAll : ∀ xs : List PyData, SmlAll xs → ((PyData.shownAll xs).map (·.length)).sum + 2 * (PyData.shownAll xs).length ≤ 612 * nodesAll xs
  | [], _ => by simp [PyData.shownAll, nodesAll]
  | x :: xs, h => by
    simp only [SmlAll] at h
    have a := sml_len x h.1
    have b := sml_lenAll xs h.2
    simp only [PyData.shownAll, nodesAll, List.map_cons, List.sum_cons, List.length_cons]
    omega
end
/-- what repr asks of the data -/
structure Okd (d : PyData) : Prop where
  sh : d.showable = true
  dp : d.depth ≤ 60
  ln : d.shown.length ≤ sizeLine
theorem okd {d : PyData} (h : Sml d) (hd : d.depth ≤ 60) (hn : nodes d ≤ 20000) : Okd d := ⟨sml_show d h, hd, by
  have := sml_len d h
  have e : sizeLine = 16777216 := sizeLine_eq
  omega⟩
theorem rpr {K : PySem.W.Frag} {H : Hp} {Q : VK} {x : V} (d : PyData) (h : Dp K H x d) (o : Okd d) (q : Q (.str d.shown) H) : rRepr K [x] H Q := ⟨x, d, rfl, h, o.sh, o.dp, o.ln, q⟩
theorem okInt {i : Int} (h : i.natAbs < 2 ^ 600) : Okd (.int i) := okd (by simpa only [Sml] using h) (by simp only [PyData.depth]; omega) (by simp only [nodes]; omega)
/-! ### three pairs -/
section
variable {k1 k2 k3 : Key} {a b c v : V}
theorem val1 : valV [(k1, a), (k2, b), (k3, c)] k1 = some a := valV_pos rfl
theorem val2 (h : ¬ k1 = k2) : valV [(k1, a), (k2, b), (k3, c)] k2 = some b := (valV_neg (p := (k1, a)) h).trans (valV_pos rfl)
theorem val3 (h : ¬ k1 = k3) (h2 : ¬ k2 = k3) : valV [(k1, a), (k2, b), (k3, c)] k3 = some c := (valV_neg (p := (k1, a)) h).trans ((valV_neg (p := (k2, b)) h2).trans (valV_pos rfl))
theorem put1 (h : ¬ k2 = k1) (h3 : ¬ k3 = k1) : putK [(k1, a), (k2, b), (k3, c)] k1 v = [(k1, v), (k2, b), (k3, c)] := by simp [putK, h, h3]
theorem put2 (h : ¬ k1 = k2) (h3 : ¬ k3 = k2) : putK [(k1, a), (k2, b), (k3, c)] k2 v = [(k1, a), (k2, v), (k3, c)] := by simp [putK, h, h3]
theorem put3 (h : ¬ k1 = k3) (h3 : ¬ k2 = k3) : putK [(k1, a), (k2, b), (k3, c)] k3 v = [(k1, a), (k2, b), (k3, v)] := by simp [putK, h, h3]
theorem merge3 (h : ¬ k1 = k2) (h2 : ¬ k1 = k3) (h3 : ¬ k2 = k3) : mergeK [] [(k1, a), (k2, b), (k3, c)] = [(k1, a), (k2, b), (k3, c)] := by
  have e1 : putK [] k1 a = [(k1, a)] := by simp [putK]
  have e2 : putK [(k1, a)] k2 b = [(k1, a), (k2, b)] := by simp [putK, h]
  have e3 : putK [(k1, a), (k2, b)] k3 c = [(k1, a), (k2, b), (k3, c)] := by simp [putK, h2, h3]
  simp only [mergeK, List.foldl_cons, List.foldl_nil, e1, e2, e3]
end
/-! ### an item of a written list -/
theorem pick {l : List Int} {P : Int → Prop} (h : ∀ x ∈ l, P x) {i : Int} (h0 : 0 ≤ i) (h1 : i < (l.length : Int)) : ∃ x, P x ∧ atI (l.map V.int) i = some (.int x) := by
  obtain ⟨n, rfl⟩ := Int.eq_ofNat_of_zero_le h0
  have hl : n < l.length := by omega
  refine ⟨l[n], h _ (List.getElem_mem hl), ?_⟩
  refine atI_nat ?_
  rw [List.getElem?_map, List.getElem?_eq_getElem hl]
  rfl
theorem dpInts {K : PySem.W.Frag} {H : Hp} : ∀ ns : List Int, DpAll K H (ns.map V.int) (ns.map PyData.int)
  | [] => .nil
  | n :: ns => .cons (.int n) (dpInts ns)
theorem canInts : ∀ ns : List Int, PyData.canLayAll0 (ns.map PyData.int) = true
  | [] => rfl
  | n :: ns => by simp only [List.map_cons, PyData.canLayAll0, PyData.canLay0, canInts ns, Bool.and_self]
theorem depInts : ∀ ns : List Int, PyData.depthAll (ns.map PyData.int) = 0
  | [] => rfl
  | n :: ns => by simp only [List.map_cons, PyData.depthAll, PyData.depth, depInts ns]; omega
theorem shpInts (ns : List Int) : SeqAt.shaped (.list (ns.map PyData.int)) = true := by
  simp only [SeqAt.shaped, PyData.canLay0, canInts, PyData.depth, depInts]
  decide
theorem eqInts : ∀ ns ms : List Int, PyData.eqvAll (ns.map PyData.int) (ms.map PyData.int) = decide (ns = ms)
  | [], [] => rfl
  | [], _ :: _ => rfl
  | _ :: _, [] => rfl
  | n :: ns, m :: ms => by
    simp only [List.map_cons, PyData.eqvAll, PyData.eqv, eqInts ns ms]
    by_cases h : n = m
    · subst h; simp
    · simp [h]
/-- two lists of ints compared -/
theorem eqL {K : PySem.W.Frag} {H : Hp} {Q : VK} {p q : Addr} {ns ms : List Int} (h1 : SqL K H p (ns.map V.int)) (h2 : SqL K H q (ms.map V.int)) (k : Q (.bl (decide (ns = ms))) H) : rEqD K (.ref p) (.ref q) H Q :=
  ⟨_, _, .lst h1 (dpInts ns), .lst h2 (dpInts ms), shpInts ns, shpInts ms, by
    have e : PyData.eqv (.list (ns.map PyData.int)) (.list (ms.map PyData.int)) = decide (ns = ms) := by simp only [PyData.eqv, eqInts]
    rw [e]; exact k⟩
theorem neL {K : PySem.W.Frag} {H : Hp} {Q : VK} {p q : Addr} {ns ms : List Int} (h1 : SqL K H p (ns.map V.int)) (h2 : SqL K H q (ms.map V.int)) (k : Q (.bl (!decide (ns = ms))) H) : rNeD K (.ref p) (.ref q) H Q :=
  ⟨_, _, .lst h1 (dpInts ns), .lst h2 (dpInts ms), shpInts ns, shpInts ms, by
    have e : PyData.eqv (.list (ns.map PyData.int)) (.list (ms.map PyData.int)) = decide (ns = ms) := by simp only [PyData.eqv, eqInts]
    rw [e]; exact k⟩
end Gx

set_option Elab.async false
set_option linter.all false
set_option maxRecDepth 100000
set_option maxHeartbeats 4000000
/-! what a heap keeps: words for a search over the steps -/
namespace Au
open PySem PySem.Spec PyProof.Rows L2
def ExP (p : Addr) (H H' : Hp) : Prop := ∀ c o, H c = some o → c ≠ p → H' c = some o
theorem ExP.refl {p : Addr} (H : Hp) : ExP p H H := fun _ _ e _ => e
theorem ExP.of {p : Addr} {H H' : Hp} (e : Rd.Ex H H') : ExP p H H' := fun c o h _ => e c o h
theorem ExP.trans {p : Addr} {H H1 H2 : Hp} (a : ExP p H H1) (b : ExP p H1 H2) : ExP p H H2 := fun c o h n => b c o (a c o h n) n
section
variable {H H' : Hp} {p b c : Addr} {o o' z : HO}
theorem sm (e : Rd.Ex H H') (h : H b = some z) : H' b = some z := e _ _ h
theorem smp (e : ExP p H H') (h : H b = some z) (n : b ≠ p) : H' b = some z := e _ _ h n
theorem smn (e : LamX.ExtN H H') (h : H b = some z) (n : ∀ ps, z ≠ .tbl ps) : H' b = some z := e _ _ h n
/-- b was there when p was not -/
theorem nen (n : H p = none) (h : H b = some z) : b ≠ p := ne_of_none h n
theorem nen' (n : H p = none) (h : H b = some z) : p ≠ b := fun e => ne_of_none h n e.symm
theorem nek (h1 : H b = some o) (h2 : H p = some o') (n : o ≠ o') : b ≠ p := fun e => n (by rw [e, h2] at h1; exact (Option.some.inj h1).symm)
theorem nek2 (h2 : H p = some o') (h1 : H b = some o) (n : o ≠ o') : b ≠ p := nek h1 h2 n
theorem alloc {Q : VK} (q : ∀ p H', H p = none → Rd.Ex H H' → H' p = some o → Q (.ref p) H') : ∀ p, H p = none → Q (.ref p) (upd H p o) := fun p hp => q p _ hp (Rd.ex_new hp) upd_same
theorem mutd {Q : Hp → Prop} (q : ∀ H', ExP p H H' → H' p = some o → Q H') : Q (upd H p o) := q _ (fun c z h n => by rw [upd_ne n]; exact h) upd_same
end
/-! ### data -/
section
variable {K : PySem.W.Frag} {H : Hp} {Q : VK} {x y : V} {d e : PyData}
theorem eqD (h1 : Dp K H x d) (h2 : Dp K H y e) (s1 : SeqAt.shaped d = true) (s2 : SeqAt.shaped e = true) (q : Q (.bl (PyData.eqv d e)) H) : rEqD K x y H Q := ⟨d, e, h1, h2, s1, s2, q⟩
theorem neD (h1 : Dp K H x d) (h2 : Dp K H y e) (s1 : SeqAt.shaped d = true) (s2 : SeqAt.shaped e = true) (q : Q (.bl (!PyData.eqv d e)) H) : rNeD K x y H Q := ⟨d, e, h1, h2, s1, s2, q⟩
theorem eqDs (h1 : Dp K H x d) (h2 : Dp K H y d) (s1 : SeqAt.shaped d = true) (q : Q (.bl true) H) : rEqD K x y H Q := ⟨d, d, h1, h2, s1, s1, by
  rw [PySem.SeqAt.eqv_refl d (SeqAt.canLay_of_shaped s1)]; exact q⟩
theorem neDs (h1 : Dp K H x d) (h2 : Dp K H y d) (s1 : SeqAt.shaped d = true) (q : Q (.bl false) H) : rNeD K x y H Q := ⟨d, d, h1, h2, s1, s1, by
  rw [PySem.SeqAt.eqv_refl d (SeqAt.canLay_of_shaped s1)]; exact q⟩
end
theorem cat {H : Hp} {Q : VK} {l b : Addr} {xs zs : List V} (h1 : H l = some (.lst xs)) (h2 : H b = some (.lst zs)) (hl : xs.length + zs.length ≤ 1000) (q : ∀ p H', H p = none → Rd.Ex H H' → H' p = some (.lst (xs ++ zs)) → Q (.ref p) H') : rCat (.ref l) (.ref b) H Q :=
  ⟨l, b, xs, zs, rfl, rfl, h1, h2, Nat.le_trans hl (Nat.le_of_ble_eq_true rfl), fun p hp => q p _ hp (Rd.ex_new hp) upd_same⟩
theorem rep {H : Hp} {Q : VK} {l : Addr} {k : Int} {xs : List V} (h1 : H l = some (.lst xs)) (hk : 0 ≤ k ∧ k < 100) (hl : xs.length ≤ 10) (q : ∀ p H', H p = none → Rd.Ex H H' → H' p = some (.lst (List.replicate k.toNat xs).flatten) → Q (.ref p) H') : rRep (.ref l) (.int k) H Q :=
  ⟨l, k, xs, rfl, rfl, h1, by omega, by omega, Nat.le_trans (Nat.mul_le_mul hl (show k.toNat ≤ 100 by omega)) (Nat.le_of_ble_eq_true rfl), fun p hp => q p _ hp (Rd.ex_new hp) upd_same⟩
theorem app {H : Hp} {Q : VK} {l : Addr} {xs : List V} {y : V} (h : H l = some (.lst xs)) (hl : xs.length < 100000) (q : ∀ H', ExP l H H' → H' l = some (.lst (xs ++ [y])) → Q .non H') : rAppend (.ref l) [y] H Q := Rd.app h hl (q _ (fun c z h n => by rw [upd_ne n]; exact h) upd_same)
/-! ### readings with new objects told by a new heap -/
def NewO (H : Hp) (o : HO) (Q : VK) : Prop := ∀ p, H p = none → Q (.ref p) (upd H p o)
section
variable {σ : L2.St} {H : Hp} {Q : VK} {K : PySem.W.Frag} {tr : TA} {te ti : TE} {o : HO} {a C dx : Addr} {fs : List (Str × V)} {xs : List V} {v : V}
theorem new (q : ∀ p H', H p = none → Rd.Ex H H' → H' p = some o → Q (.ref p) H') : NewO H o Q := fun p hp => q p _ hp (Rd.ex_new hp) upd_same
theorem tup (h : tr σ H fun xs H1 => xs.length ≤ sizeLine ∧ NewO H1 (.tup xs) Q) : tTup tr σ H Q := h
theorem lst (h : tr σ H fun xs H1 => xs.length ≤ sizeLine ∧ NewO H1 (.lst xs) Q) : tLst tr σ H Q := h
theorem lenOk {n : Nat} {A : Prop} (h : Nat.ble n 1000 = true) (q : A) : n ≤ sizeLine ∧ A := ⟨Nat.le_trans (Nat.le_of_ble_eq_true h) (Nat.le_of_ble_eq_true rfl), q⟩
theorem revL (h : te σ H fun x H1 => ∃ a xs, x = .ref a ∧ SqL K H1 a xs ∧ NewO H1 (.lst xs.reverse) Q) : tRevL K te σ H Q := h
theorem nopart {Q : Option Int → Hp → Prop} (h : Q none H) : tNoPart σ H Q := h
theorem part {Q : Option Int → Hp → Prop} (h : te σ H fun x H1 => ∃ i, x = .int i ∧ Q (some i) H1) : tPart te σ H Q := h
theorem isI {n : Int} {QC : Int → Prop} (h : QC n) : ∃ i, V.int n = .int i ∧ QC i := ⟨n, rfl, h⟩
theorem sl {r : V → Option Int → Option Int → Hp → VK → Prop} {tl th : TO} (h : te σ H fun x H1 => tl σ H1 fun l H2 => th σ H2 fun u H3 => r x l u H3 Q) : L2.tSl r te tl th σ H Q := h
theorem slL {lo hi : Option Int} (h : SqL K H a xs) (q : NewO H (.lst (cutV xs lo hi)) Q) : rSlL K (.ref a) lo hi H Q := ⟨a, xs, rfl, h, q⟩
theorem sum {ns : List Int} (h : SqL K H a (ns.map V.int)) (q : Q (.int ns.sum) H) : rSum K [.ref a] H Q := ⟨a, ns, rfl, h, q⟩
theorem pr2 {x y : V} {A : V → V → Prop} (h : A x y) : ∃ v w, [x, y] = [v, w] ∧ A v w := ⟨x, y, rfl, h⟩
theorem pr3 {x y z : V} {A : V → V → V → Prop} (h : A x y z) : ∃ u v w, [x, y, z] = [u, v, w] ∧ A u v w := ⟨x, y, z, rfl, h⟩
theorem methO {C : Addr} {m : Str} {A : Prop} (h : H a = some (.ins C dx fs)) (l : fs.lookup m = none) (q : A) : ∃ a' dx' fs', V.ref a = .ref a' ∧ H a' = some (.ins C dx' fs') ∧ fs'.lookup m = none ∧ A := ⟨a, dx, fs, rfl, h, l, q⟩
theorem propO {C : Addr} {A : Addr → Prop} (h : H a = some (.ins C dx fs)) (q : A a) : ∃ a' dx' fs', V.ref a = .ref a' ∧ H a' = some (.ins C dx' fs') ∧ A a' := ⟨a, dx, fs, rfl, h, q⟩
end
theorem eqB {a c : Bool} {H : Hp} {Q : VK} (h : Q (.bl (decide (a = c))) H) : rEq (.bl a) (.bl c) H Q := ⟨rfl, by
  have e : decide (V.bl a = V.bl c) = decide (a = c) := by
    by_cases z : a = c
    · subst z; simp
    · rw [decide_eq_false z, decide_eq_false (fun q => z (V.bl.inj q))]
  rw [e]; exact h⟩
end Au

set_option maxRecDepth 100000
namespace ML
/-! ### the linear source: x to (A * x + 11) modulo M -/
def A : Int := 205891132094649
def M : Int := 281474976710656
def S : Nat → Int
  | 0 => 0
  | n + 1 => A * S n + 1
theorem pow_ge (n : Nat) : A ^ n = 1 + (A - 1) * S n := by
  induction n with
  | zero => simp [S]
  | succ n ih => rw [Int.pow_succ, ih]; simp only [S]; grind
theorem S_add (a b : Nat) : S (a + b) = A ^ b * S a + S b := by
  induction b with
  | zero => simp [S]
  | succ b ih => rw [← Nat.add_assoc]; simp only [S]; rw [ih, Int.pow_succ]; grind
/-- the state after n steps, as an integer -/
def raw (n : Nat) (x : Int) : Int := A ^ n * x + 11 * S n
theorem raw_add (a b : Nat) (x : Int) : raw (a + b) x = raw b (raw a x) := by
  unfold raw
  rw [S_add, Int.pow_add]
  grind
theorem raw_sub (n : Nat) (x : Int) : raw n x - x = S n * ((A - 1) * x + 11) := by
  unfold raw
  rw [pow_ge]
  grind
def mv (n : Nat) (x : Int) : Int := raw n x % 281474976710656
def m1 (n : Nat) : Int := A ^ n % 281474976710656
def m2 (n : Nat) : Int := 11 * S n % 281474976710656
theorem m1_rng (n : Nat) : 0 ≤ m1 n ∧ m1 n < 281474976710656 := by unfold m1; omega
theorem m2_rng (n : Nat) : 0 ≤ m2 n ∧ m2 n < 281474976710656 := by unfold m2; omega
theorem mv_rng (n : Nat) (x : Int) : 0 ≤ mv n x ∧ mv n x < 281474976710656 := by unfold mv; omega
theorem mul_add_mod (a b x m : Int) : ((a % m) * x + b % m) % m = (a * x + b) % m := by
  rw [Int.add_emod, Int.emod_emod_of_dvd _ (Int.dvd_refl m), Int.mul_emod, Int.emod_emod_of_dvd _ (Int.dvd_refl m), ← Int.mul_emod, ← Int.add_emod]
theorem mul_add_mod2 (a b x m : Int) : (a * (x % m) + b % m) % m = (a * x + b) % m := by
  rw [Int.mul_comm, mul_add_mod, Int.mul_comm]
theorem mul_mod2 (a x m : Int) : ((a % m) * (x % m)) % m = (a * x) % m := by rw [← Int.mul_emod]
theorem mapped (n : Nat) (x : Int) : (m1 n * x + m2 n) % 281474976710656 = mv n x := by
  unfold m1 m2 mv raw
  exact mul_add_mod _ _ _ _
theorem join1 (a b : Nat) : m1 a * m1 b % 281474976710656 = m1 (a + b) := by
  unfold m1
  rw [mul_mod2, Int.pow_add]
theorem join2 (a b : Nat) : (m2 a * m1 b + m2 b) % 281474976710656 = m2 (a + b) := by
  unfold m2 m1
  rw [mul_add_mod2, S_add, Int.add_emod, Int.mul_emod, Int.emod_emod_of_dvd _ (Int.dvd_refl _), ← Int.mul_emod, ← Int.add_emod]
  congr 1
  grind
theorem mv_add (a b : Nat) (x : Int) : mv b (mv a x) = mv (a + b) x := by
  unfold mv
  rw [raw_add]
  unfold raw
  rw [Int.add_emod, Int.mul_emod, Int.emod_emod_of_dvd _ (Int.dvd_refl _), ← Int.mul_emod, ← Int.add_emod]
theorem mv_zero {x : Int} (h0 : 0 ≤ x) (h1 : x < 281474976710656) : mv 0 x = x := by
  unfold mv raw S
  rw [Int.pow_zero]
  omega
theorem m_zero : m1 0 = 1 ∧ m2 0 = 0 := by
  constructor <;> rfl
theorem m_one : m1 1 = 205891132094649 ∧ m2 1 = 11 := by
  constructor <;> rfl
/-! ### digits and periods -/
theorem S_double (n : Nat) : S (2 * n) = S n * (2 * (1 + 102945566047324 * S n)) := by
  rw [Nat.two_mul, S_add, pow_ge]
  have e : A - 1 = 205891132094648 := by decide
  rw [e]
  grind
theorem S_odd (n : Nat) : S (2 * n + 1) % 2 = 1 := by
  show (A * S (2 * n) + 1) % 2 = 1
  rw [S_double]
  have : A * (S n * (2 * (1 + 102945566047324 * S n))) = 2 * (A * (S n * (1 + 102945566047324 * S n))) := by grind
  rw [this]
  omega
theorem dvd_odd {k : Nat} {a c : Int} (h : c % 2 = 1) : (2 ^ k : Int) ∣ a * c ↔ (2 ^ k : Int) ∣ a := by
  constructor
  · intro hd
    induction k with
    | zero => exact Int.one_dvd _
    | succ k ih =>
      have h1 : (2 ^ k : Int) ∣ a * c := Int.dvd_trans ⟨2, by rw [Int.pow_succ]⟩ hd
      obtain ⟨z, hz⟩ := ih h1
      obtain ⟨y, hy⟩ := hd
      have p : (0 : Int) < 2 ^ k := Int.pow_pos (by decide)
      have e : (2 : Int) ^ k * (z * c) = 2 ^ k * (2 * y) := by rw [Int.pow_succ] at hy; grind
      have e2 := Int.eq_of_mul_eq_mul_left (Int.ne_of_gt p) e
      have hz2 : z % 2 = 0 := by
        have h5 : (z * c) % 2 = 0 := by omega
        rw [Int.mul_emod, h] at h5
        omega
      exact ⟨z / 2, by rw [Int.pow_succ, hz]; have : z = 2 * (z / 2) := by omega
                       rw [Int.mul_assoc, ← this]⟩
  · intro hd
    obtain ⟨z, hz⟩ := hd
    exact ⟨z * c, by rw [hz, Int.mul_assoc]⟩
theorem S_dvd : ∀ (k n : Nat), (2 ^ k : Int) ∣ S n ↔ (2 ^ k : Nat) ∣ n
  | 0, n => ⟨fun _ => ⟨n, by simp⟩, fun _ => Int.one_dvd _⟩
  | k + 1, n => by
    rcases Nat.mod_two_eq_zero_or_one n with h | h
    · have e : n = 2 * (n / 2) := by omega
      rw [e, S_double]
      have ih := S_dvd k (n / 2)
      have od : (1 + 102945566047324 * S (n / 2)) % 2 = 1 := by omega
      constructor
      · intro hd
        have h2 : (2 ^ k : Int) ∣ S (n / 2) * (1 + 102945566047324 * S (n / 2)) := by
          obtain ⟨y, hy⟩ := hd
          exact ⟨y, by
            rw [Int.pow_succ] at hy
            have : (2 : Int) * (S (n / 2) * (1 + 102945566047324 * S (n / 2))) = 2 * (2 ^ k * y) := by grind
            exact Int.eq_of_mul_eq_mul_left (by decide) this⟩
        obtain ⟨z, hz⟩ := ih.mp ((dvd_odd od).mp h2)
        exact ⟨z, by rw [Nat.pow_succ, hz]; simp only [Nat.mul_comm, Nat.mul_left_comm]⟩
      · rintro ⟨z, hz⟩
        have h3 : (2 ^ k : Nat) ∣ n / 2 := ⟨z, by
          rw [Nat.pow_succ, Nat.mul_comm (2 ^ k) 2, Nat.mul_assoc] at hz
          omega⟩
        obtain ⟨y, hy⟩ := ih.mpr h3
        exact ⟨y * (1 + 102945566047324 * S (n / 2)), by rw [Int.pow_succ]; rw [hy]; grind⟩
    · have e : n = 2 * (n / 2) + 1 := by omega
      constructor
      · intro hd
        have h1 := S_odd (n / 2)
        rw [← e] at h1
        obtain ⟨y, hy⟩ := hd
        rw [Int.pow_succ, Int.mul_comm _ 2, Int.mul_assoc] at hy
        omega
      · rintro ⟨z, hz⟩
        rw [Nat.pow_succ, Nat.mul_comm (2 ^ k) 2, Nat.mul_assoc] at hz
        omega
/-- n steps leave the lowest k digits as they are exactly if 2 ^ k divides n -/
theorem low_iff (k n : Nat) (x : Int) : (2 ^ k : Int) ∣ raw n x - x ↔ (2 ^ k : Nat) ∣ n := by
  rw [raw_sub, dvd_odd (by have : A - 1 = 205891132094648 := by decide
                           rw [this]; omega)]
  exact S_dvd k n
theorem mv_low {k : Nat} (hk : k ≤ 48) (n : Nat) (x : Int) : (2 ^ k : Int) ∣ mv n x - x ↔ (2 ^ k : Nat) ∣ n := by
  rw [← low_iff k n x]
  have e : (2 ^ k : Int) ∣ raw n x - mv n x := by
    unfold mv
    have h1 : (281474976710656 : Int) ∣ raw n x - raw n x % 281474976710656 := ⟨raw n x / 281474976710656, by omega⟩
    have h2 : (2 ^ k : Int) ∣ 281474976710656 := ⟨2 ^ (48 - k), by rw [← Int.pow_add, show k + (48 - k) = 48 by omega]; decide⟩
    exact Int.dvd_trans h2 h1
  constructor
  · intro h
    have := Int.dvd_add e h
    rwa [show raw n x - mv n x + (mv n x - x) = raw n x - x by omega] at this
  · intro h
    have := Int.dvd_sub h e
    rwa [show raw n x - x - (raw n x - mv n x) = mv n x - x by omega] at this
/-- at most one number of steps leads from x to y -/
theorem mv_inj {a b : Nat} {x : Int} (h : mv a x = mv b x) : (a : Int) % 281474976710656 = (b : Int) % 281474976710656 := by
  have key : ∀ {a b : Nat}, a ≤ b → mv a x = mv b x → (281474976710656 : Nat) ∣ b - a := fun {a b} hab h => by
    have e : mv (b - a) (mv a x) = mv b x := by rw [mv_add]; congr 1; omega
    have d : (2 ^ 48 : Int) ∣ mv (b - a) (mv a x) - mv a x := by
      rw [e, ← h]
      exact ⟨0, by omega⟩
    exact (mv_low (Nat.le_refl 48) _ _).mp d
  rcases Nat.le_total a b with hab | hab
  · obtain ⟨z, hz⟩ := key hab h
    omega
  · obtain ⟨z, hz⟩ := key hab h.symm
    omega
theorem mv_period (n : Nat) {x : Int} (h0 : 0 ≤ x) (h1 : x < 281474976710656) : mv (281474976710656 * n) x = x := by
  have d : (2 ^ 48 : Int) ∣ mv (281474976710656 * n) x - x := (mv_low (Nat.le_refl 48) _ _).mpr ⟨n, by rfl⟩
  have r := mv_rng (281474976710656 * n) x
  obtain ⟨z, hz⟩ := d
  have : (2 ^ 48 : Int) = 281474976710656 := by decide
  rw [this] at hz
  omega
theorem mv_mod (n : Nat) (x : Int) : mv (n % 281474976710656) x = mv n x := by
  have e : n = 281474976710656 * (n / 281474976710656) + n % 281474976710656 := by omega
  have r := mv_rng (n % 281474976710656) x
  calc mv (n % 281474976710656) x = mv (281474976710656 * (n / 281474976710656)) (mv (n % 281474976710656) x) := (mv_period _ r.1 r.2).symm
    _ = mv (n % 281474976710656 + 281474976710656 * (n / 281474976710656)) x := mv_add _ _ _
    _ = mv n x := by congr 1; omega
end ML

namespace ML
/-- 2 ^ i steps lead from a number that is right up to digit i to one that is right up to the next -/
theorem flip {i : Nat} (hi : i < 48) {s y : Int} (h : (2 ^ i : Int) ∣ s - y) (hn : ¬ (2 ^ (i + 1) : Int) ∣ s - y) : (2 ^ (i + 1) : Int) ∣ mv (2 ^ i) s - y := by
  obtain ⟨u, hu⟩ := h
  obtain ⟨v, hv⟩ := (mv_low (by omega : i ≤ 48) (2 ^ i) s).mpr (Nat.dvd_refl _)
  have nv : ¬ (2 ^ (i + 1) : Int) ∣ mv (2 ^ i) s - s := fun z => by
    have d := (mv_low (by omega : i + 1 ≤ 48) (2 ^ i) s).mp z
    have := Nat.le_of_dvd (Nat.pow_pos (by decide)) d
    rw [Nat.pow_succ] at this
    have := Nat.pow_pos (n := i) (show 0 < 2 by decide)
    omega
  have od : ∀ {d z : Int}, d = 2 ^ i * z → ¬ (2 ^ (i + 1) : Int) ∣ d → z % 2 = 1 := fun {d z} e n => by
    rcases Int.emod_two_eq z with q | q
    · refine absurd ⟨z / 2, ?_⟩ n
      rw [e, Int.pow_succ, Int.mul_assoc, show 2 * (z / 2) = z by omega]
    · exact q
  have h1 := od hu hn
  have h2 := od hv nv
  refine ⟨(u + v) / 2, ?_⟩
  have e : mv (2 ^ i) s - y = 2 ^ i * (u + v) := by rw [Int.mul_add, ← hu, ← hv]; omega
  rw [e, Int.pow_succ, Int.mul_assoc, show 2 * ((u + v) / 2) = u + v by omega]
theorem mod_eq_iff {m a b : Nat} : a % m = b % m ↔ (m : Int) ∣ (a : Int) - b := by
  constructor
  · intro h
    refine ⟨(a / m : Nat) - (b / m : Nat), ?_⟩
    have e1 := Nat.div_add_mod a m
    have e2 := Nat.div_add_mod b m
    rw [h] at e1
    have e3 : ((m * (a / m) + b % m : Nat) : Int) - ((m * (b / m) + b % m : Nat) : Int) = (a : Int) - b := by rw [e1, e2]
    rw [← e3, Int.mul_sub]
    push_cast
    omega
  · intro h
    have h2 := Int.emod_eq_emod_iff_emod_sub_eq_zero.mpr (Int.emod_eq_zero_of_dvd h)
    have h3 : ((a % m : Nat) : Int) = ((b % m : Nat) : Int) := by rw [Int.natCast_emod, Int.natCast_emod]; exact h2
    exact Int.ofNat.inj h3
/-- the digit i of the exclusive or tells whether two numbers that are equal below it differ there -/
theorem bit_xor {i : Nat} {a b : Nat} (h : (2 ^ i : Int) ∣ (a : Int) - b) : (a ^^^ b) / 2 ^ i % 2 = 1 ↔ ¬ (2 ^ (i + 1) : Int) ∣ (a : Int) - b := by
  have hm : a % 2 ^ i = b % 2 ^ i := mod_eq_iff.mpr (by push_cast; exact h)
  have hx : ∀ x : Nat, x / 2 ^ i % 2 = (x.testBit i).toNat := fun x => by
    rw [Nat.testBit_eq_decide_div_mod_eq]
    rcases Nat.mod_two_eq_zero_or_one (x / 2 ^ i) with q | q <;> rw [q] <;> rfl
  have hs : (2 ^ (i + 1) : Int) ∣ (a : Int) - b ↔ a % 2 ^ (i + 1) = b % 2 ^ (i + 1) := by
    rw [mod_eq_iff]; push_cast; exact Iff.rfl
  rw [hs, Nat.mod_pow_succ, Nat.mod_pow_succ, hm, hx, hx, hx, Nat.testBit_xor]
  have p := Nat.pow_pos (n := i) (show 0 < 2 by decide)
  cases a.testBit i <;> cases b.testBit i <;> simp <;> omega
end ML
namespace ML
/-! ### digits from the lowest on -/
def lsb (n : Nat) : List Int := if n = 0 then [] else ((n % 2 : Nat) : Int) :: lsb (n / 2)
termination_by n
decreasing_by omega
theorem lsb_zero : lsb 0 = [] := by rw [lsb]; rfl
theorem lsb_pos {n : Nat} (h : 0 < n) : lsb n = ((n % 2 : Nat) : Int) :: lsb (n / 2) := by
  rw [lsb, if_neg (by omega)]
theorem lsb_len : ∀ (k n : Nat), n < 2 ^ k → (lsb n).length ≤ k
  | 0, n, h => by
    have : n = 0 := by simpa using h
    subst this
    rw [lsb_zero]
    exact Nat.le_refl _
  | k + 1, n, h => by
    by_cases hn : n = 0
    · subst hn; rw [lsb_zero]; exact Nat.zero_le _
    · rw [lsb_pos (by omega), List.length_cons]
      have := lsb_len k (n / 2) (by rw [Nat.pow_succ] at h; omega)
      omega
theorem lsb_bit : ∀ (k n : Nat), n < 2 ^ k → ∀ d ∈ lsb n, d = 0 ∨ d = 1
  | 0, n, h => by
    have : n = 0 := by simpa using h
    subst this
    rw [lsb_zero]
    intro d hd
    cases hd
  | k + 1, n, h => by
    by_cases hn : n = 0
    · subst hn; rw [lsb_zero]; intro d hd; cases hd
    · rw [lsb_pos (by omega)]
      intro d hd
      rcases List.mem_cons.mp hd with e | e
      · subst e; omega
      · exact lsb_bit k (n / 2) (by rw [Nat.pow_succ] at h; omega) d e
/-- the number that digits write, the highest first -/
def valD (l : List Int) : Nat := l.foldl (fun a d => 2 * a + d.toNat) 0
theorem valD_snoc (l : List Int) (d : Int) : valD (l ++ [d]) = 2 * valD l + d.toNat := by
  unfold valD
  rw [List.foldl_append]
  rfl
theorem val_lsb : ∀ (k n : Nat), n < 2 ^ k → valD (lsb n).reverse = n
  | 0, n, h => by
    have : n = 0 := by simpa using h
    subst this
    rw [lsb_zero]
    rfl
  | k + 1, n, h => by
    by_cases hn : n = 0
    · subst hn; rw [lsb_zero]; rfl
    · rw [lsb_pos (by omega), List.reverse_cons, valD_snoc, val_lsb k (n / 2) (by rw [Nat.pow_succ] at h; omega)]
      omega
theorem dbl1 (k : Nat) : m1 k * m1 k % 281474976710656 = m1 (2 * k) := by rw [join1, Nat.two_mul]
theorem dbl2 (k : Nat) : (m1 k + 1) * m2 k % 281474976710656 = m2 (2 * k) := by
  rw [Nat.two_mul, ← join2]
  congr 1
  grind
theorem inc1 (k : Nat) : 205891132094649 * m1 k % 281474976710656 = m1 (k + 1) := by
  rw [← join1, m_one.1, Int.mul_comm]
theorem inc2 (k : Nat) : (205891132094649 * m2 k + 11) % 281474976710656 = m2 (k + 1) := by
  rw [← join2, m_one.1, m_one.2, Int.mul_comm]
end ML

set_option linter.all false
/-! the mixing of words, in plain numbers -/
namespace MX
def xs (k n : Nat) : Nat := n ^^^ (n / 2 ^ k)
def F : Nat := 3486784401
def U : Nat := 3396732273
theorem FU : F * U % 4294967296 = 1 := by decide
def tmp (n : Nat) : Nat := xs 16 (xs 13 n * F % 4294967296)
def utm (n : Nat) : Nat := let y := xs 16 n * U % 4294967296; y ^^^ (y / 2 ^ 13) ^^^ (y / 2 ^ 26)
theorem div_xor (a b k : Nat) : (a ^^^ b) / 2 ^ k = (a / 2 ^ k) ^^^ (b / 2 ^ k) := by
  simp only [← Nat.shiftRight_eq_div_pow, Nat.shiftRight_xor_distrib]
theorem div_div (a j k : Nat) : a / 2 ^ j / 2 ^ k = a / 2 ^ (j + k) := by rw [Nat.div_div_eq_div_mul, ← Nat.pow_add]
theorem small {a k : Nat} (h : a < 2 ^ k) : a / 2 ^ k = 0 := Nat.div_eq_of_lt h
theorem xor_lt {a b : Nat} (ha : a < 2 ^ 32) (hb : b < 2 ^ 32) : a ^^^ b < 2 ^ 32 := Nat.xor_lt_two_pow ha hb
theorem div_lt {a k : Nat} (ha : a < 2 ^ 32) : a / 2 ^ k < 2 ^ 32 := Nat.lt_of_le_of_lt (Nat.div_le_self _ _) ha
theorem xs_lt {k n : Nat} (h : n < 2 ^ 32) : xs k n < 2 ^ 32 := xor_lt h (div_lt h)
theorem xx (a b : Nat) : a ^^^ b ^^^ b = a := by rw [Nat.xor_assoc, Nat.xor_self, Nat.xor_zero]
theorem xs16 {n : Nat} (h : n < 2 ^ 32) : xs 16 (xs 16 n) = n := by
  unfold xs
  rw [div_xor, div_div, small h, Nat.xor_zero, xx]
theorem lift13 {n : Nat} (h : n < 2 ^ 32) : xs 13 n ^^^ (xs 13 n / 2 ^ 13) ^^^ (xs 13 n / 2 ^ 26) = n := by
  have h39 : n / 2 ^ 39 = 0 := small (Nat.lt_of_lt_of_le h (by decide))
  unfold xs
  rw [div_xor, div_xor, div_div, div_div]
  show n ^^^ n / 2 ^ 13 ^^^ (n / 2 ^ 13 ^^^ n / 2 ^ 26) ^^^ (n / 2 ^ 26 ^^^ n / 2 ^ 39) = n
  rw [h39, Nat.xor_zero, ← Nat.xor_assoc (n ^^^ n / 2 ^ 13), xx, xx]
theorem drop13 {y : Nat} (h : y < 2 ^ 32) : xs 13 (y ^^^ (y / 2 ^ 13) ^^^ (y / 2 ^ 26)) = y := by
  have h39 : y / 2 ^ 39 = 0 := small (Nat.lt_of_lt_of_le h (by decide))
  unfold xs
  rw [div_xor, div_xor, div_div, div_div]
  show y ^^^ y / 2 ^ 13 ^^^ y / 2 ^ 26 ^^^ (y / 2 ^ 13 ^^^ y / 2 ^ 26 ^^^ y / 2 ^ 39) = y
  rw [h39, Nat.xor_zero, Nat.xor_assoc y, xx]
theorem mulFU {a : Nat} (h : a < 2 ^ 32) : a * F % 4294967296 * U % 4294967296 = a := by
  rw [Nat.mod_mul_mod, Nat.mul_assoc, ← Nat.mul_mod_mod, FU, Nat.mul_one, Nat.mod_eq_of_lt h]
theorem mulUF {a : Nat} (h : a < 2 ^ 32) : a * U % 4294967296 * F % 4294967296 = a := by
  rw [Nat.mod_mul_mod, Nat.mul_assoc, Nat.mul_comm U F, ← Nat.mul_mod_mod, FU, Nat.mul_one, Nat.mod_eq_of_lt h]
theorem mod_lt (a : Nat) : a % 4294967296 < 2 ^ 32 := Nat.mod_lt _ (by decide)
theorem tmp_lt (n : Nat) : tmp n < 2 ^ 32 := xs_lt (mod_lt _)
theorem utm_lt (n : Nat) : utm n < 2 ^ 32 := xor_lt (xor_lt (mod_lt _) (div_lt (mod_lt _))) (div_lt (mod_lt _))
theorem utm_tmp {n : Nat} (h : n < 2 ^ 32) : utm (tmp n) = n := by
  unfold utm tmp
  rw [xs16 (mod_lt _), mulFU (xs_lt h)]
  exact lift13 h
theorem tmp_utm {n : Nat} (h : n < 2 ^ 32) : tmp (utm n) = n := by
  unfold utm tmp
  rw [drop13 (mod_lt _), mulUF (xs_lt h), xs16 h]
/-- the rounds -/
def fe (s : Nat) (p : Nat × Nat) : Nat × Nat := (p.2, p.1 ^^^ tmp ((p.2 + 1000003 * s) % 4294967296))
def bk (s : Nat) (p : Nat × Nat) : Nat × Nat := (p.2 ^^^ tmp ((p.1 + 1000003 * s) % 4294967296), p.1)
theorem bk_fe (s : Nat) (p : Nat × Nat) : bk s (fe s p) = p := by simp [bk, fe, xx]
theorem fe_bk (s : Nat) (p : Nat × Nat) : fe s (bk s p) = p := by simp [bk, fe, xx]
def ok (p : Nat × Nat) : Prop := p.1 < 2 ^ 32 ∧ p.2 < 2 ^ 32
theorem ok_fe {s : Nat} {p : Nat × Nat} (h : ok p) : ok (fe s p) := ⟨h.2, xor_lt h.1 (tmp_lt _)⟩
theorem ok_bk {s : Nat} {p : Nat × Nat} (h : ok p) : ok (bk s p) := ⟨xor_lt h.2 (tmp_lt _), h.1⟩
def spl (n : Nat) : Nat × Nat := (n / 4294967296, n % 4294967296)
def cat (p : Nat × Nat) : Nat := p.1 * 4294967296 + p.2
theorem ok_spl {n : Nat} (h : n < 2 ^ 64) : ok (spl n) := ⟨by show n / 4294967296 < 2 ^ 32; omega, mod_lt n⟩
theorem cat_spl (n : Nat) : cat (spl n) = n := by unfold cat spl; show n / 4294967296 * 4294967296 + n % 4294967296 = n; omega
theorem spl_cat {p : Nat × Nat} (h : ok p) : spl (cat p) = p := by
  obtain ⟨a, b⟩ := p
  obtain ⟨h1, h2⟩ := h
  show ((a * 4294967296 + b) / 4294967296, (a * 4294967296 + b) % 4294967296) = (a, b)
  have : b < 4294967296 := h2
  rw [show (a * 4294967296 + b) / 4294967296 = a by omega, show (a * 4294967296 + b) % 4294967296 = b by omega]
theorem cat_lt {p : Nat × Nat} (h : ok p) : cat p < 2 ^ 64 := by
  obtain ⟨h1, h2⟩ := h
  unfold cat
  omega
def mix (n : Nat) : Nat := cat (fe 4 (fe 3 (fe 2 (fe 1 (spl n)))))
def unm (n : Nat) : Nat := cat (bk 1 (bk 2 (bk 3 (bk 4 (spl n)))))
theorem unm_mix {n : Nat} (h : n < 2 ^ 64) : unm (mix n) = n := by
  unfold unm mix
  rw [spl_cat (ok_fe (ok_fe (ok_fe (ok_fe (ok_spl h))))), bk_fe, bk_fe, bk_fe, bk_fe, cat_spl]
theorem mix_unm {n : Nat} (h : n < 2 ^ 64) : mix (unm n) = n := by
  unfold unm mix
  rw [spl_cat (ok_bk (ok_bk (ok_bk (ok_bk (ok_spl h))))), fe_bk, fe_bk, fe_bk, fe_bk, cat_spl]
theorem mix_lt {n : Nat} (h : n < 2 ^ 64) : mix n < 2 ^ 64 := cat_lt (ok_fe (ok_fe (ok_fe (ok_fe (ok_spl h)))))
theorem unm_lt {n : Nat} (h : n < 2 ^ 64) : unm n < 2 ^ 64 := cat_lt (ok_bk (ok_bk (ok_bk (ok_bk (ok_spl h)))))
/-- one bit more of an exclusive or -/
theorem xor_bit (a b i : Nat) : (a ^^^ b) % 2 ^ (i + 1) = (a ^^^ b) % 2 ^ i + (if a / 2 ^ i % 2 ≠ b / 2 ^ i % 2 then 2 ^ i else 0) := by
  have e : (a ^^^ b) / 2 ^ i % 2 = if a / 2 ^ i % 2 ≠ b / 2 ^ i % 2 then 1 else 0 := by
    rw [div_xor]
    generalize a / 2 ^ i = x
    generalize b / 2 ^ i = y
    have h1 : (x ^^^ y) % 2 = (x % 2) ^^^ (y % 2) := by
      have := Nat.xor_mod_two_pow (a := x) (b := y) (n := 1)
      simpa using this
    rw [h1]
    rcases Nat.mod_two_eq_zero_or_one x with hx | hx <;> rcases Nat.mod_two_eq_zero_or_one y with hy | hy <;> rw [hx, hy] <;> decide
  rw [Nat.pow_succ, Nat.mod_mul, e]
  split <;> omega
end MX

set_option Elab.async false
set_option linter.all false
set_option maxRecDepth 100000
set_option maxHeartbeats 4000000
set_option exponentiation.threshold 2000
/-! promises that no law's own text stands in -/
namespace Pr
open PySem PySem.Spec PyProof.Rows L2
/-! ### dicts, new objects, fields -/
section
variable {σ : L2.St} {H : Hp} {Q : VK} {K : PySem.W.Frag} {d a C dx : Addr} {kvs kvs' : List (Key × V)} {x : Str} {v : V} {fs : List (Str × V)} {D : Ends}
theorem u_get {Q : V → Prop} (h : H d = some (.dK kvs)) (e : valV kvs (Sum.inr x) = some v) (q : Q v) : ∃ a v', V.ref d = .ref a ∧ DGet H a (.str x) (some v') ∧ Q v' :=
  ⟨d, v, rfl, by rw [← e]; exact DGet.k (k := Sum.inr x) h, q⟩
theorem dget {td ty : TE} (h : td σ H fun x H1 => ty σ H1 fun y H2 => ∃ a v, x = .ref a ∧ DGet H2 a y (some v) ∧ Q v H2) : tDGet td ty σ H Q := h
theorem dput {td ty tv : TE} (h : tv σ H fun v H1 => td σ H1 fun x H2 => ty σ H2 fun y H3 => ∃ a H4, x = .ref a ∧ DPut H3 a y v H4 ∧ D.nx σ H4) : sDPut td ty tv D σ H := h
theorem u_put {Q : Hp → Prop} (h : H d = some (.dK kvs)) (hl : kvs.length < 1000) (e : putK kvs (Sum.inr x) v = kvs') (q : Q (upd H d (.dK kvs'))) : ∃ a H4, V.ref d = .ref a ∧ DPut H a (.str x) v H4 ∧ Q H4 :=
  ⟨d, _, rfl, DPut.k (k := Sum.inr x) h (small1000 (by omega)), by rw [e]; exact q⟩
/-- o.f = v -/
theorem stF {f : Str} {y : V} {fs' : List (Str × V)} (h : H a = some (.ins C dx fs)) (c : Cls K C) (n : NoAttr K C f) (l : Nat.ble fs.length 100 = true) (e : putF f y fs = fs') (q : ∀ H', Au.ExP a H H' → H' a = some (.ins C dx fs') → D.nx σ H') :
    ∃ a' C' dx' fs'', V.ref a = .ref a' ∧ H a' = some (.ins C' dx' fs'') ∧ Cls K C' ∧ NoAttr K C' f ∧ fs''.length < 1000 ∧ D.nx σ (upd H a' (.ins C' dx' (putF f y fs''))) :=
  ⟨a, C, dx, fs, rfl, h, c, n, Nat.lt_of_le_of_lt (Nat.le_of_ble_eq_true l) (by decide), by rw [e]; exact q _ (fun c z h n => by rw [upd_ne n]; exact h) upd_same⟩
theorem sfld {to te : TE} {f : Str} (h : te σ H fun y H1 => to σ H1 fun x H2 => ∃ a C dx fs, x = .ref a ∧ H2 a = some (.ins C dx fs) ∧ Cls K C ∧ NoAttr K C f ∧ fs.length < 1000 ∧ D.nx σ (upd H2 a (.ins C dx (putF f y fs)))) : sFld K to te f D σ H := h
end
/-- the heap in which an object is made -/
theorem ex_make {H : Hp} {x dx : Addr} {o o' : HO} (hx : H x = none) (hdx : H dx = none) : Rd.Ex H (upd (upd H dx o) x o') := fun b z e => by
  rw [upd_ne (ne_of_none e hx), upd_ne (ne_of_none e hdx)]
  exact e
theorem ex_made {H H' : Hp} {x dx : Addr} {o o' : HO} (hx : H x = none) (hdx : H dx = none) (m : Au.ExP x (upd (upd H dx o) x o') H') : Rd.Ex H H' := fun b z e => m b z (ex_make hx hdx b z e) (ne_of_none e hx)
/-! ### numbers -/
def NonInt (H : Hp) (v : V) : Prop := v = .non ∨ (∃ b, v = .bl b) ∨ (∃ s, v = .str s) ∨ (∃ a xs, v = .ref a ∧ H a = some (.tup xs)) ∨ (∃ a xs, v = .ref a ∧ H a = some (.lst xs)) ∨ ∃ a kvs, v = .ref a ∧ H a = some (.dK kvs)
theorem kit_t (K : PySem.W.Frag) : PySem.W.kitOne K (.type "NoneType") (.type "int") = some false ∧ PySem.W.kitOne K (.type "bool") (.type "int") = some true ∧ PySem.W.kitOne K (.type "bool") (.type "bool") = some true ∧ PySem.W.kitOne K (.type "str") (.type "int") = some false ∧
    PySem.W.kitOne K (.type "tuple") (.type "int") = some false ∧ PySem.W.kitOne K (.type "list") (.type "int") = some false ∧ PySem.W.kitOne K (.type "dict") (.type "int") = some false := by
  refine ⟨?_, ?_, ?_, ?_, ?_, ?_, ?_⟩ <;> first | rfl | decide +kernel | kernel_rfl
def spIsInt : Sp := fun vs H Q _ => ∃ v, vs = [v] ∧ ((∃ n : Int, v = .int n ∧ Q (.bl true) H) ∨ (NonInt H v ∧ Q (.bl false) H))
theorem u_isInt {n : Int} {H : Hp} {Q : VK} {E : XK} (h : Q (.bl true) H) : spIsInt ([.int n] ++ []) H Q E := ⟨.int n, rfl, .inl ⟨n, rfl, h⟩⟩
theorem u_isNon {v : V} {H : Hp} {Q : VK} {E : XK} (n : NonInt H v) (h : Q (.bl false) H) : spIsInt ([v] ++ []) H Q E := ⟨v, rfl, .inr ⟨n, h⟩⟩
def spNeed (lo hi : Int) : Sp := fun vs H Q _ => ∃ n : Int, vs = [.int n] ∧ lo ≤ n ∧ n ≤ hi ∧ Q .non H
theorem u_need {lo hi n : Int} {H : Hp} {Q : VK} {E : XK} (h1 : lo ≤ n) (h2 : n ≤ hi) (h : Q .non H) : spNeed lo hi ([.int n] ++ []) H Q E := ⟨n, rfl, h1, h2, h⟩
/-- is the value a number in its bounds -/
def spIs (lo hi : Int) : Sp := fun vs H Q _ => ∃ v, vs = [v] ∧ ((∃ n : Int, v = .int n ∧ Q (.bl (decide (lo ≤ n ∧ n ≤ hi))) H) ∨ (NonInt H v ∧ Q (.bl false) H))
theorem u_isIn {lo hi n : Int} {H : Hp} {Q : VK} {E : XK} (h : lo ≤ n ∧ n ≤ hi) (q : Q (.bl true) H) : spIs lo hi ([.int n] ++ []) H Q E := ⟨_, rfl, .inl ⟨n, rfl, by rw [decide_eq_true h]; exact q⟩⟩
theorem u_isOut {lo hi n : Int} {H : Hp} {Q : VK} {E : XK} (h : ¬ (lo ≤ n ∧ n ≤ hi)) (q : Q (.bl false) H) : spIs lo hi ([.int n] ++ []) H Q E := ⟨_, rfl, .inl ⟨n, rfl, by rw [decide_eq_false h]; exact q⟩⟩
/-! ### linear sources -/
def MapAt (K : PySem.W.Frag) (H : Hp) (a : Addr) (n : Nat) : Prop := SqT K H a [.int (ML.m1 n), .int (ML.m2 n)]
theorem MapAt.ex {K : PySem.W.Frag} {H H' : Hp} {a : Addr} {n : Nat} (e : Rd.Ex H H') (h : MapAt K H a n) : MapAt K H' a n := Rd.ex_t e h
def spJoined (K : PySem.W.Frag) : Sp := fun vs H Q _ => ∃ (a b : Addr) (n m : Nat), vs = [.ref a, .ref b] ∧ MapAt K H a n ∧ MapAt K H b m ∧
  ∀ t H', H t = none → Rd.Ex H H' → H' t = some (.tup [.int (ML.m1 (n + m)), .int (ML.m2 (n + m))]) → Q (.ref t) H'
def spMapped (K : PySem.W.Frag) : Sp := fun vs H Q _ => ∃ (a : Addr) (n : Nat) (x : Int), vs = [.ref a, .int x] ∧ MapAt K H a n ∧ 0 ≤ x ∧ x < 281474976710656 ∧ Q (.int (ML.mv n x)) H
def spMap (K : PySem.W.Frag) : Sp := fun vs H Q _ => ∃ n : Int, vs = [.int n] ∧ ∀ t H', Rd.Ex H H' → MapAt K H' t (n % 281474976710656).toNat → Q (.ref t) H'
def spMoved : Sp := fun vs H Q _ => ∃ x n : Int, vs = [.int x, .int n] ∧ 0 ≤ x ∧ x < 281474976710656 ∧ ∀ H', Rd.Ex H H' → Q (.int (ML.mv (n % 281474976710656).toNat x)) H'
theorem u_moved {x n : Int} {H : Hp} {Q : VK} {E : XK} (h : 0 ≤ x ∧ x < 281474976710656) (q : ∀ H', Rd.Ex H H' → Q (.int (ML.mv (n % 281474976710656).toNat x)) H') : spMoved ([.int x, .int n] ++ []) H Q E := ⟨x, n, rfl, h.1, h.2, q⟩
def spDist0 : Sp := fun vs H Q _ => ∃ x y : Int, vs = [.int x, .int y] ∧ (0 ≤ x ∧ x < 281474976710656 ∧ 0 ≤ y ∧ y < 281474976710656) ∧ ∀ (H' : Hp) (n : Nat), Rd.Ex H H' → n < 281474976710656 → ML.mv n x = y → Q (.int n) H'
theorem u_dist0 {x y : Int} {H : Hp} {Q : VK} {E : XK} (h : 0 ≤ x ∧ x < 281474976710656 ∧ 0 ≤ y ∧ y < 281474976710656) (q : ∀ (H' : Hp) (n : Nat), Rd.Ex H H' → n < 281474976710656 → ML.mv n x = y → Q (.int n) H') : spDist0 ([.int x, .int y] ++ []) H Q E := ⟨x, y, rfl, h, q⟩
abbrev LinO (C dx : Addr) (x : Int) : HO := .ins C dx [("s2_x", .int x)]
def spInit1 (C : Addr) : Sp := fun vs H Q _ => ∃ (p dx : Addr) (x : Int), vs = [.ref p, .int x] ∧ (0 ≤ x ∧ x < 281474976710656) ∧ H p = some (.ins C dx []) ∧ ∀ H', Au.ExP p H H' → H' p = some (LinO C dx x) → Q .non H'
theorem u_lin {C : Addr} {H : Hp} {Q : Addr → Hp → Prop} {E : XK} {n : Int} (h1 : 0 ≤ n ∧ n < 281474976710656) (h : ∀ p dx H', H p = none → Rd.Ex H H' → H' p = some (LinO C dx n) → Q p H') :
    ∀ x dx, H x = none → H dx = none → dx ≠ x → spInit1 C (.ref x :: ([.int n] ++ [])) (upd (upd H dx (.own x)) x (.ins C dx [])) (fun v H2 => v = .non ∧ Q x H2) E := fun x dx hx hdx hne =>
  ⟨x, dx, n, rfl, h1, upd_same, fun H' m k => ⟨rfl, h x dx H' hx (ex_made hx hdx m) k⟩⟩
def spState1 (C : Addr) : Sp := fun vs H Q _ => ∃ (p dx : Addr) (x : Int), vs = [.ref p] ∧ H p = some (LinO C dx x) ∧ ∀ t H', H t = none → Rd.Ex H H' → H' t = some (.tup [.int x]) → Q (.ref t) H'
theorem u_state1 {C p dx : Addr} {x : Int} {H : Hp} {Q : VK} {E : XK} (h : H p = some (LinO C dx x)) (q : ∀ t H', H t = none → Rd.Ex H H' → H' t = some (.tup [.int x]) → Q (.ref t) H') : spState1 C [.ref p] H Q E := ⟨p, dx, x, rfl, h, q⟩
def spAhead1 (C : Addr) (g : Int → Int) : Sp := fun vs H Q _ => ∃ (p dx : Addr) (x n : Int), vs = [.ref p, .int n] ∧ H p = some (LinO C dx x) ∧ (0 ≤ x ∧ x < 281474976710656) ∧ (0 ≤ n ∧ n ≤ 18446744073709551616) ∧
  ∀ p' dx' H', H p' = none → Rd.Ex H H' → H' p' = some (LinO C dx' (ML.mv (g n % 281474976710656).toNat x)) → Q (.ref p') H'
theorem u_ahead1 {C p dx : Addr} {x n : Int} {g : Int → Int} {H : Hp} {Q : VK} {E : XK} (h : H p = some (LinO C dx x) ∧ (0 ≤ x ∧ x < 281474976710656) ∧ (0 ≤ n ∧ n ≤ 18446744073709551616))
    (q : ∀ p' dx' H', H p' = none → Rd.Ex H H' → H' p' = some (LinO C dx' (ML.mv (g n % 281474976710656).toNat x)) → Q (.ref p') H') : spAhead1 C g (.ref p :: ([.int n] ++ [])) H Q E := ⟨p, dx, x, n, rfl, h.1, h.2.1, h.2.2, q⟩
def spDistance (C : Addr) : Sp := fun vs H Q _ => ∃ (p o dx dy : Addr) (x y : Int), vs = [.ref p, .ref o] ∧ (H p = some (LinO C dx x) ∧ H o = some (LinO C dy y) ∧ 0 ≤ x ∧ x < 281474976710656 ∧ 0 ≤ y ∧ y < 281474976710656) ∧
  ∀ (H' : Hp) (n : Nat), Rd.Ex H H' → n < 281474976710656 → ML.mv n x = y → Q (.int n) H'
theorem u_distance {C p o dx dy : Addr} {x y : Int} {H : Hp} {Q : VK} {E : XK} (h : H p = some (LinO C dx x) ∧ H o = some (LinO C dy y) ∧ 0 ≤ x ∧ x < 281474976710656 ∧ 0 ≤ y ∧ y < 281474976710656)
    (q : ∀ (H' : Hp) (n : Nat), Rd.Ex H H' → n < 281474976710656 → ML.mv n x = y → Q (.int n) H') : spDistance C ([.ref p, .ref o] ++ []) H Q E := ⟨p, o, dx, dy, x, y, rfl, h, q⟩
end Pr

set_option Elab.async false
set_option linter.all false
set_option maxRecDepth 100000
set_option maxHeartbeats 4000000
namespace Gx
open PySem PySem.Spec PyProof.Rows L2
/-! ### an attribute as a target among several -/
def gFld (K : PySem.W.Frag) (to : TE) (f : Str) : TG := fun v σ H Q => to σ H fun x H1 => ∃ a C dx fs, x = .ref a ∧ H1 a = some (.ins C dx fs) ∧ Cls K C ∧ NoAttr K C f ∧ fs.length < 1000 ∧ Q σ (upd H1 a (.ins C dx (putF f v fs)))
theorem pg_fld {X : Cx} {o : Expr} {to : TE} {f : Str} {pos : Pos} (ho : PE X o to) : PG X (.Attribute o f pos) (gFld X.K to f) := by
  refine ⟨fun pins s σ H v u Q I r h => ?_⟩
  rw [assign_Attribute]
  refine wpAny_bind (wpAny_holding (thn (ho.run pins s σ H _ I h) fun ov s1 ⟨x, H1, I1, r1, a, C, dx, fs, ex, ea, c, n, l, q⟩ => ?_))
  subst ex
  obtain rfl : ov = Value.ref a := r1
  refine wpAny_bind (wpAny_standAt (wpAny_bind (wpAny_holding (setattr_ok I1 ea c n l r fun s3 I3 => ?_))))
  exact wpAny_release ⟨σ, _, I3, q⟩
theorem gfld {K : PySem.W.Frag} {to : TE} {f : Str} {v : V} {σ : L2.St} {H : Hp} {Q : L2.St → Hp → Prop} (h : to σ H fun x H1 => ∃ a C dx fs, x = .ref a ∧ H1 a = some (.ins C dx fs) ∧ Cls K C ∧ NoAttr K C f ∧ fs.length < 1000 ∧ Q σ (upd H1 a (.ins C dx (putF f v fs)))) : gFld K to f v σ H Q := h
theorem stG {K : PySem.W.Frag} {H : Hp} {a C dx : Addr} {fs fs' : List (Str × V)} {f : Str} {y : V} {Q : Hp → Prop} (h : H a = some (.ins C dx fs)) (c : Cls K C) (n : NoAttr K C f) (l : Nat.ble fs.length 100 = true) (e : putF f y fs = fs') (q : ∀ H', Au.ExP a H H' → H' a = some (.ins C dx fs') → Q H') :
    ∃ a' C' dx' fs'', V.ref a = .ref a' ∧ H a' = some (.ins C' dx' fs'') ∧ Cls K C' ∧ NoAttr K C' f ∧ fs''.length < 1000 ∧ Q (upd H a' (.ins C' dx' (putF f y fs''))) :=
  ⟨a, C, dx, fs, rfl, h, c, n, Nat.lt_of_le_of_lt (Nat.le_of_ble_eq_true l) (by decide), by rw [e]; exact q _ (fun c z h n => by rw [upd_ne n]; exact h) upd_same⟩
theorem gfldV {K : PySem.W.Frag} {H : Hp} {a C dx : Addr} {fs fs' : List (Str × V)} {f : Str} {v : V} {σ : L2.St} {i : Nat} {Q : L2.St → Hp → Prop} (hv : σ[i]? = some (some (.ref a))) (h : H a = some (.ins C dx fs)) (c : Cls K C) (n : NoAttr K C f) (l : Nat.ble fs.length 100 = true) (e : putF f v fs = fs')
    (q : ∀ H', Au.ExP a H H' → H' a = some (.ins C dx fs') → Q σ H') : gFld K (tVar i) f v σ H Q :=
  ⟨_, hv, a, C, dx, fs, rfl, h, c, n, Nat.lt_of_le_of_lt (Nat.le_of_ble_eq_true l) (by decide), by rw [e]; exact q _ (fun c z h n => by rw [upd_ne n]; exact h) upd_same⟩
/-! ### isinstance with a tuple of own classes -/
theorem isTupYes {K : PySem.W.Frag} {C D a dx tp : Addr} {fs : List (Str × V)} {H : Hp} {Q : VK} {b : Bool} (c : C8.InsC K C) (ht : H tp = some (.tup [.ref D, .ref D'])) (h : H a = some (.ins C dx fs)) (k : PySem.W.kitAny K (.ref C) [.ref D, .ref D'] = some b) (q : Q (.bl b) H) : rIsiT K [.ref a, .ref tp] H Q :=
  ⟨_, tp, _, .ref C, _, b, rfl, ht, .cons (.own D) (.cons (.own D') .nil), .base (.ins h c.cl c.ha c.hn c.htk c.hm), k, q⟩
theorem isOwnB {K : PySem.W.Frag} {C D a dx : Addr} {fs : List (Str × V)} {H : Hp} {Q : VK} {b : Bool} (c : C8.InsC K C) (h : H a = some (.ins C dx fs)) (k : PySem.W.kitOne K (.ref C) (.ref D) = some b) (q : Q (.bl b) H) : rIsi K [.ref a, .ref D] H Q :=
  ⟨_, _, .ref C, .ref D, b, rfl, .own D, .base (.ins h c.cl c.ha c.hn c.htk c.hm), k, q⟩
end Gx

set_option Elab.async false
set_option linter.all false
set_option maxRecDepth 100000
set_option maxHeartbeats 1000000
/-! own exceptions over any built-in class (LookupError, RuntimeError, ..), made by an own __init__ of one field -/
namespace Gx
open PySem PySem.Spec PyProof.Rows L2 GenW Builtin Builtin.ObjectAttr
structure YexC (K : PySem.W.Frag) (C : Addr) (initId : String) : Prop where
  cls : ∃ (B newId : String) (bmB : List Value), ExcBaseFacts B newId initId bmB ∧ PySem.StoreFacts B bmB "object.__setattr__" "object" ∧ PySem.W.excInitIn K C bmB newId = true ∧ PySem.W.excOver K C bmB = true
  hd : PySem.W.hasDictIn K C = true
  sa : PySem.W.findIn K (.ref C) "__setattr__" = some (some (.builtin "object.__setattr__"))
  exC : PySem.W.subIn K (.ref C) (.type "BaseException") = some true
  tyC : PySem.W.typeIn K (.ref C) = some (.type "type")
  kC : PySem.W.keepIn K (.ref C) = true
section
variable {X : Cx} {pins : List (Addr × Obj)} {σ : L2.St} {H : Hp} {s : Shared} {a C dx : Addr} {f : Str} {y : V} {u : Value} {initId : String} {A : Around} {E : Value → Shared → Prop}
theorem ostY {Q : Unit → Shared → Prop} (T : YexC X.K C initId) (I : Inv X pins σ H s) (ea : H a = some (exo a C none)) (tf : PySem.W.takerIn X.K C f = some none) (ry : RelV y u)
    (next : ∀ dx s', H dx = none → dx ≠ a → Inv X pins σ (upd (upd H dx (exd dx [(f, y)])) a (exo a C (some dx))) s' → Q () s') : wpAny (model X.prog X.w) A (setAttr (.ref a) f u) Q E s := by
  obtain ⟨B, newId, bmB, FB, SF, hin, hov⟩ := T.cls
  obtain ⟨t1, ho⟩ := exo_at I.hok ea
  obtain ⟨cd, hcd, hdict⟩ := PySem.W.any_some T.hd
  have lcd : PySem.W.Looks (model X.prog X.w) s.heap (classData C) cd := PySem.W.looks_clsIn I.kIn hcd
  obtain ⟨hp, g, dr, t, os⟩ := s
  have inst : PySem.W.InstAt hp a ({ cls := .ref C, dict := none, data := .fields #[.ref t1, .none, .none, .none, .bool false, .none] } : Obj) C none := ⟨ho, rfl, rfl, trivial⟩
  refine PySem.W.set_plain I.kIn (od := none) inst T.sa (PySem.W.osa_openX SF I.kIn inst hov tf fun b => ?_)
  obtain ⟨c1, c2, c3, c4, c5, c6, c7, c8, c9, c10, c11⟩ := cd
  have c6t : c6 = true := hdict
  subst c6t
  have apart : a ≠ hp.objs.size := Nat.ne_of_lt (Heap.lt_size ho)
  show wpAny _ _ (storeInOwnDict _ _ _ _ _ _) _ _ _
  unfold storeInOwnDict ownDictForStores
  repeat (first | with_reducible refine PySem.HandSPX.store_in_new ?_ ?_ | with_reducible refine wpAny_loadPart_at ho ?_ | with_reducible refine lcd.at ?_ | wp_step)
  · exact ⟨_, #[], _, (Heap.get?_update_ne _ _ _ _ (Ne.symm apart)).trans (Heap.get?_push_at rfl rfl), rfl, fun en hen => absurd hen (by simp), fun _ => rfl⟩
  intro h' tk' ns' sb
  have free : H hp.objs.size = none := I.hok.fresh (Nat.le_refl _)
  have off : ∀ {b : Addr}, H b = none → b ≠ a := fun {b} hb z => by rw [z, ea] at hb; cases hb
  have low : ∀ {b : Addr} {o : Obj}, hp.get? b = some o → b ≠ hp.objs.size := fun {b o} hb => Nat.ne_of_lt (Heap.lt_size hb)
  have stays : ∀ b o, b ≠ a → hp.get? b = some o → h'.get? b = some o := fun b o hb ho => by
    rw [sb.2 b (low ho), Heap.get?_update_ne _ _ _ _ hb]
    exact Heap.get?_push_of_some _ ho
  have atA : h'.get? a = some ({ cls := .ref C, dict := some hp.objs.size, data := .fields #[.ref t1, .none, .none, .none, .bool false, .none] } : Obj) := by
    rw [sb.2 a apart]
    exact Heap.get?_update_self _ (Heap.get?_push_of_some _ ho) rfl
  have nTup : ∀ {b : Addr} {xs : List V}, H b = some (.tup xs) → b ≠ a := fun {b xs} hb z => by rw [z, ea] at hb; exact exo_tup (Option.some.inj hb)
  have nFrz : ∀ {b : Addr} {o : Obj} {v : HO}, H b = some (.frz o v) → b ≠ a := fun {b o v} hb z => by rw [z, ea] at hb; exact exo_frz (Option.some.inj hb)
  have nTbl : ∀ {b : Addr} {ps : Array Value}, H b = some (.tbl ps) → b ≠ a := fun {b ps} hb z => by rw [z, ea] at hb; exact exo_tbl (Option.some.inj hb)
  have nOwn : ∀ {b c : Addr}, H b = some (.own c) → b ≠ a := fun {b c} hb z => by rw [z, ea] at hb; exact exo_own (Option.some.inj hb)
  have both : ∀ {b : Addr} {o : HO}, H b = some o → b ≠ a → upd (upd H hp.objs.size (exd hp.objs.size [(f, y)])) a (exo a C (some hp.objs.size)) b = some o := fun {b o} hb n => by
    rw [upd_ne n, upd_ne (ne_of_none hb free)]
    exact hb
  have U : Un X.fs [] H (upd (upd H hp.objs.size (exd hp.objs.size [(f, y)])) a (exo a C (some hp.objs.size))) hp h' := by
    refine ⟨fun b o ho hb _ _ => stays b o (off hb) ho, fun b o ho hb _ _ => ⟨o.slots, stays b o (off hb) ho⟩, fun b o ho hb _ => ?_, fun b o ho _ => ?_, fun b xs hb => both hb (nTup hb), fun b o v hb => both hb (nFrz hb), fun b ps hb => ⟨#[], by rw [Array.append_empty]; exact both hb (nTbl hb)⟩⟩
    · rw [upd_ne (off hb), upd_ne (low ho)]; exact hb
    · by_cases z : b = a
      · exact ⟨_, z ▸ atA⟩
      · exact ⟨o, stays b o z ho⟩
  refine next hp.objs.size _ free (Ne.symm apart) (I.un (t' := tk') U fun b o hb => ?_)
  by_cases z : b = a
  · rw [z, upd_same] at hb
    cases hb
    rw [z]
    exact exo_ok atA
  rw [upd_ne z] at hb
  by_cases z2 : b = hp.objs.size
  · rw [z2, upd_same] at hb
    cases hb
    rw [z2]
    exact exd_ok ns' (relO_put (fs := []) ry fun _ => True.intro)
  rw [upd_ne z2] at hb
  refine (I.hok b o hb).stay (fun c v hc hv => stays c v ?_ hv) (fun c hc => both hc (nOwn hc)) fun c xs hc => both hc (nTup hc)
  rcases hc with hc | hc
  · exact hc ▸ z
  · exact nOwn hc
theorem initY {us : List Value} {Q : Value → Shared → Prop} (T : YexC X.K C initId) (I : Inv X pins σ H s) (ea : H a = some (exo a C none)) (hl : us.length ≤ sizeLine) (next : ∀ s', Inv X pins σ H s' → Q .none s') :
    wpAny (model X.prog X.w) A (call (.builtin initId) (.ref a :: us)) Q E s := by
  obtain ⟨B, newId, bmB, FB, SF, hin, hov⟩ := T.cls
  obtain ⟨nm, N, qn, bs, bm, hdct, sn, sub, ab, col, dd, k0, k1, k2, k3, k5, hC, hT⟩ := PySem.W.excInit_of I.kIn hin
  obtain ⟨t1, ho⟩ := exo_at I.hok ea
  obtain ⟨hp, g, dr, t, os⟩ := s
  refine wpAny_call (PySem.HandSPX.init_base FB hT hC ho hl fun h' t2 kept hx => ?_)
  have same : upd H a (exo a C none) = H := funext fun b => by
    by_cases z : b = a
    · rw [z, upd_same, ea]
    · rw [upd_ne z]
  have J := I.write (t' := t) (x := a) (e := a) (o := exo a C none) (by rw [ea]; trivial) (.inl rfl) kept ⟨_, hx⟩ (exo_ok hx)
  rw [same] at J
  exact next _ J
end
/-! ### readings -/
def tBI (K : PySem.W.Frag) (initId : String) (ta : TA) : TE := fun σ H Q => ta σ H fun vs H1 => ∃ (a C : Addr) (ws : List V), vs = .ref a :: ws ∧ ws.length ≤ 1000 ∧ YexC K C initId ∧ H1 a = some (exo a C none) ∧ Q .non H1
def tOstY (K : PySem.W.Frag) (initId : String) (f : Str) (to te : TE) : TS := fun D σ H => te σ H fun y H1 => to σ H1 fun x H2 => ∃ a C : Addr, x = .ref a ∧ YexC K C initId ∧ PySem.W.takerIn K C f = some none ∧
  H2 a = some (exo a C none) ∧ ∀ dx, H2 dx = none → dx ≠ a → D.nx σ (upd (upd H2 dx (exd dx [(f, y)])) a (exo a C (some dx)))
section
variable {X : Cx} {x f : Str} {e o : Expr} {es : List Expr} {ta : TA} {to te : TE} {p p' p1 p2 pos : Pos} {initId : String}
/-- B.__init__(self, ..), B an own class over a built-in one, without an __init__ of its own -/
theorem pe_bi {pl : Sem Bool} {B : Addr} {mc : Value} (hg : Gl X x) (hm : X.mg x = some (.ref B)) (r : ClX.CRead X.K B mc) (hv : PySem.W.findCls X.K (.ref B) mc "__init__" = some (.val (.builtin initId))) (hh : PySem.W.handedIn (.builtin initId) = true) (ha : PA X (e :: es) ta)
    (hdb : (x == ("__debug__" : Str)) = false := by decide)
    (hc : eval (.Call (.Attribute (.Name x p1) "__init__" p2) (e :: es) [] pos) X.env = (do
      let ov ← eval (.Name x p1) X.env
      standAt p2.atName
      let (f, first) ← holding [ov] (getMethod ov "__init__" pl)
      callWith pos f first (backTo pos (starEach (e :: es) X.env)) (backToKw pos (keywordEach [] X.env))) := by rfl)
    (he : starEach (e :: es) X.env = (false, eval e X.env) :: starEach es X.env := by rfl) (hpl : (backTo pos (starEach es X.env)).any (·.1) = false := by rfl) :
    PE X (.Call (.Attribute (.Name x p1) "__init__" p2) (e :: es) [] pos) (tBI X.K initId ta) := by
  refine ⟨fun pins s σ H Q I h => PySem.W.methodCall_KW (ld_glob I hg hm ?_ hdb) hc⟩
  refine PySem.W.method_cls I.kIn r.ga (PySem.W.cls_value I.kIn r.rd hv hh ?_)
  refine PyProof.Rows.callWith_method1 (thn (ha.run pos pins _ σ H _ (I.tok _) h) fun us s1 got => ?_) he hpl
  obtain ⟨vs, H1, I1, r1, a, C, ws, ev, hl, T, ea, q⟩ := got
  subst ev
  cases r1 with
  | @cons _ u _ ur ra rr =>
    obtain rfl : u = Value.ref a := ra
    exact initY T I1 ea (by rw [← Paired.length rr, sizeLine_eq]; omega) fun s' J => ⟨.non, H1, J, rfl, q⟩
theorem ps_ostY (ho : PE X o to) (he : PE X e te) (hs : swapsWith e (some (.Attribute o f p')) pos.line X.env = pure false := by rfl) : PS X (.Assign [.Attribute o f p'] e pos) (tOstY X.K initId f to te) := by
  refine ⟨fun pins s σ H D I h => plainObj_wpAny_Assign_Attribute (thn (he.run pins s σ H _ I h) fun v s1 got => ?_) hs⟩
  obtain ⟨y, H1, I1, r1, q1⟩ := got
  refine thn (ho.run pins s1 σ H1 _ I1 q1) fun u s2 got => ?_
  obtain ⟨z, H2, I2, r2, a, C, ez, T, tf, ea, q⟩ := got
  subst ez
  obtain rfl : u = Value.ref a := r2
  exact ostY T I2 ea tf r1 fun dx s' n ne J => ⟨σ, _, J, q dx n ne⟩
/-- C(e, ..), C's own __init__ keeping sp -/
theorem pmkY {CX : CXT} {C fI : Addr} {k : Nat} {fd : FuncData} {ps : List Str} {sp : Sp} (T : YexC X.K C initId) (iC : PySem.W.findIn X.K (.ref C) "__init__" = some (some (.ref fI))) (tI : PySem.W.typeIn X.K (.ref fI) = some (.type "function"))
    (F1 : FnOk X.prog X.w X.K X.mg X.base CX k fI fd ps sp) (hr : Room (k + 1) X.A) (hb : Binds X.K fd ps []) (hx : Passes CX X (fun _ _ _ => False)) (hg : Gl X x) (hm : X.mg x = some (.ref C)) (ha : PA X (e :: es) ta)
    (hdb : (x == ("__debug__" : Str)) = false := by decide) (he : starEach (e :: es) X.env = (false, eval e X.env) :: starEach es X.env := by rfl) (hpl : (backTo pos (starEach es X.env)).any (·.1) = false := by rfl) :
    PMk X (.Call (.Name x p) (e :: es) [] pos) (tMkO C sp [] ta) := by
  intro pins s σ H Q I h
  obtain ⟨B, newId, bmB, FB, SF, hin, hov⟩ := T.cls
  refine wpAny_Call_Name_kw (ld_glob I hg hm (PySem.W.callWith_K (h₀ := X.base) I.ok.mod.kin T.kC (thn (ha.run pos pins s σ H _ I h) fun us s1 got => ?_) he hpl) hdb)
  obtain ⟨vs, H1, I1, r1, hz, q1⟩ := got
  refine ⟨I1.kIn, ?_⟩
  obtain ⟨nm, N, qn, bs, bm, hdct, sn, sub, ab, col, dd, k0, k1, k2, k3, k5, hC, hT⟩ := PySem.W.excInit_of I1.kIn hin
  show wpAny _ _ (call (.ref C) us) _ _ _
  obtain ⟨hp, g, dr, tk, os⟩ := s1
  generalize hE : hp.objs.size + 1 = ex at *
  have above : hp.objs.size ≤ ex := by omega
  have fresh : H1 ex = none := I1.hok.fresh above
  have wish := q1 ex fresh
  have old : ∀ b o, hp.get? b = some o → ((hp.push (PySem.W.kdv_tup us)).push (PySem.HandSPX.excO C hp.objs.size)).get? b = some o := fun b o hb => Heap.get?_push_of_some _ (Heap.get?_push_of_some _ hb)
  have made : ((hp.push (PySem.W.kdv_tup us)).push (PySem.HandSPX.excO C hp.objs.size)).get? ex = some (PySem.HandSPX.excO C hp.objs.size) := by subst hE; heap_get
  have J : Inv X pins σ (upd H1 ex (exo ex C none)) ⟨(hp.push (PySem.W.kdv_tup us)).push (PySem.HandSPX.excO C hp.objs.size), g, dr, tk, os⟩ := I1.laid (t' := tk) old above (exo_ok made)
  have vals : Vals (V.ref ex :: (vs ++ [])) (Value.ref ex :: (us ++ [])) := .cons rfl (r1.append .nil)
  have len : (Value.ref ex :: us ++ []).length = ps.length := (F1.len _ _ _ _ wish ▸ vals.length).symm
  have lus : us.length ≤ sizeLine := by rw [← Paired.length r1, sizeLine_eq]; omega
  have go := F1.run _ X.stack _ _ ⟨Value.ref ex :: us, []⟩ (Value.ref ex :: (us ++ [])) _ _ (fun _ _ _ => False) (hr.make C us []) (J.env0.make C us []) (by rw [← List.cons_append]; exact hb _ (Value.ref ex :: us) J.kIn len) vals wish
  subst hE
  refine wpAny_call (PySem.HandSPX.call_own FB hT hC (PySem.W.looks_findIn I1.kIn iC) (fun self => PySem.W.bind_fn I1.kIn self tI) lus (codeAny_mono go fun r s' res => ?_))
  match r, res with
  | .error er, res => exact hx pins σ _ _ er s' J res
  | .ok (.ret u), res =>
    obtain ⟨v, H2, os2, bare2, un2, hok2, rv, ev, d, fs, e1, e2, e3, q2⟩ := res
    subst ev
    obtain ⟨h2, g2, d2, t2, os'⟩ := s'
    exact ⟨rv, mk_end (raises_own T.exC T.tyC) I1 above old un2 hok2 os2 bare2 e1 e2 e3 q2⟩
  | .ok .next, res => exact False.elim res
  | .ok .brk, res => exact False.elim res
  | .ok .cont, res => exact False.elim res
end
/-- an own exception class and what its __init__ promises -/
structure ExcMkY (P : Program) (w : World) (K : PySem.W.Frag) (mg : Str → Option Value) (base : Heap) (k : Nat) (x : Str) (C : Addr) (fl : Str) : Prop where
  ex : ∃ (f : Addr) (fd : FuncData) (ps : List Str) (initId : String), YexC K C initId ∧ PySem.W.findIn K (.ref C) "__init__" = some (some (.ref f)) ∧ PySem.W.typeIn K (.ref f) = some (.type "function") ∧ FnOk P w K mg base C8.CX0 k f fd ps (spExc C fl) ∧ Binds K fd ps [] ∧ mg x = some (.ref C)
theorem pmk_exY {X : Cx} {x : Str} {e : Expr} {ta : TA} {p pos : Pos} {k j : Nat} {C : Addr} {fl : Str} (c : ExcMkY X.prog X.w X.K X.mg X.base k x C fl) (hr : Room j X.A) (hk : k + 1 ≤ j) (hg : Gl X x) (ha : PA X [e] ta) (hdb : (x == ("__debug__" : Str)) = false := by decide)
    (he : starEach [e] X.env = (false, eval e X.env) :: starEach [] X.env := by rfl) (hpl : (backTo pos (starEach [] X.env)).any (·.1) = false := by rfl) : PMk X (.Call (.Name x p) [e] [] pos) (tMkO C (spExc C fl) [] ta) := by
  obtain ⟨f, fd, ps, initId, T, i, t, F, b, hm⟩ := c.ex
  exact pmkY T i t F (hr.mono hk) b C8.pass0 hg hm ha hdb he hpl
end Gx

set_option Elab.async false
set_option linter.all false
set_option maxRecDepth 100000
set_option maxHeartbeats 1000000
/-! defs and methods that may raise: called where it passes on, and within a try -/
namespace Gx
open PySem PySem.Spec PyProof.Rows L2 GenW
structure MetX (P : Program) (w : World) (K : PySem.W.Frag) (mg : Str → Option Value) (base : Heap) (k : Nat) (C : Addr) (m : Str) (sp : Sp) : Prop where
  ex : ∃ (f : Addr) (fd : FuncData) (ps : List Str), Cls K C ∧ Meth K C m f ∧ FnOk P w K mg base (CX P w) k f fd ps sp ∧ Binds K fd ps []
theorem metX {P : Program} {w : World} {K : PySem.W.Frag} {mg : Str → Option Value} {base : Heap} {m qual : Str} {C : Addr} {st : Stmt} {f : Addr} {fd : FuncData} {N ps : List Str} {k : Nat} {sp : Sp} (c : Cls K C) (me : Meth K C m f) (F : C8.Fun K m qual st f fd) (b : Binds K fd ps [])
    (S : FnScope N ps (C8.fnScope st)) (len : ∀ vs H Q E, sp vs H Q E → vs.length = ps.length)
    (hbody : ∀ (cdv : Value) (A : Around) (outer : List Env) (s : Shared) (H : Hp) (vs : List V) (Q : VK) (E : XK), Room k (A.deeper (envOfC qual (C8.fnScope st) s.heap.objs.size f cdv)) → sp vs H Q E →
      ∃ t, PSs (cxOf (CX P w) P w K mg base N qual (C8.fnScope st) f cdv A outer s H E) (C8.fnBody st) t ∧ t { nx := fun _ H' => Q .non H', rt := Q } (start N vs) H) : MetX P w K mg base (k + 1) C m sp := by
  obtain ⟨oc, od, dV, kV, doc, pm, an, cdv, ct, osl, rfl, lk, hcd⟩ := F.ex
  exact ⟨f, _, ps, c, me, fn_of lk hcd S len (hbody cdv), b⟩
section
variable {X : Cx} {k j : Nat} {C : Addr} {x m : Str} {sp : Sp} {p pos apos : Pos} {e o : Expr} {es : List Expr} {ta : TE} {t : TA} {W : WX} {E : XK} {pl : Sem Bool}
theorem pe_cx0 (c : CalX X.prog X.w X.K X.mg X.base k x sp) (tk : Takes X W) (hW : ∀ cls d σ H, E cls d H → W cls d σ H) (hr : Room j X.A) (hk : k ≤ j) (hg : Gl X x) (hdb : (x == ("__debug__" : Str)) = false := by decide) :
    PE X (.Call (.Name x p) [] [] pos) (tCall sp [] E tNil) := by
  obtain ⟨f, fd, ps, F, hm, kp, b⟩ := c.ex
  exact pe_call0 F (hr.mono hk) hg hm kp b .nil (passes_call tk hW) hdb
theorem pe_mx (c : MetX X.prog X.w X.K X.mg X.base k C m sp) (tk : Takes X W) (hW : ∀ cls d σ H, E cls d H → W cls d σ H) (hr : Room j X.A) (hk : k ≤ j) (he : PE X o ta) (ha : PA X (e :: es) t)
    (hst : starEach (e :: es) X.env = (false, eval e X.env) :: starEach es X.env := by rfl) (hpl : (backTo pos (starEach es X.env)).any (·.1) = false := by rfl)
    (ht : eval (.Call (.Attribute o m apos) (e :: es) [] pos) X.env = (do
      let ov ← eval o X.env
      standAt apos.atName
      let (f, first) ← holding [ov] (getMethod ov m pl)
      callWith pos f first (backTo pos (starEach (e :: es) X.env)) (backToKw pos (keywordEach [] X.env))) := by rfl) :
    PE X (.Call (.Attribute o m apos) (e :: es) [] pos) (tMeth C m sp [] E ta t) := by
  obtain ⟨f, fd, ps, hc, hm, F, b⟩ := c.ex
  exact pe_meth (pl := pl) he hc hm F (hr.mono hk) b .nil (passes_call tk hW) ha hst hpl ht
theorem pe_mx0 (c : MetX X.prog X.w X.K X.mg X.base k C m sp) (tk : Takes X W) (hW : ∀ cls d σ H, E cls d H → W cls d σ H) (hr : Room j X.A) (hk : k ≤ j) (he : PE X o ta)
    (ht : eval (.Call (.Attribute o m apos) [] [] pos) X.env = (do
      let ov ← eval o X.env
      standAt apos.atName
      let (f, first) ← holding [ov] (getMethod ov m pl)
      callWith pos f first (backTo pos (starEach [] X.env)) (backToKw pos (keywordEach [] X.env))) := by rfl) :
    PE X (.Call (.Attribute o m apos) [] [] pos) (tMeth C m sp [] E ta tNil) := by
  obtain ⟨f, fd, ps, hc, hm, F, b⟩ := c.ex
  exact pe_meth0 (pl := pl) he hc hm F (hr.mono hk) b .nil (passes_call tk hW) ht
/-- within a try: what is raised is wished for at the slots as they are -/
theorem pe_cs (c : CalX X.prog X.w X.K X.mg X.base k x sp) (tk : Takes X W) (hr : Room j X.A) (hk : k ≤ j) (hg : Gl X x) (ha : PA X (e :: es) t)
    (hdb : (x == ("__debug__" : Str)) = false := by decide) (he : starEach (e :: es) X.env = (false, eval e X.env) :: starEach es X.env := by rfl) (hpl : (backTo pos (starEach es X.env)).any (·.1) = false := by rfl) :
    PE X (.Call (.Name x p) (e :: es) [] pos) (tCallSD sp [] (WE W) t) := by
  obtain ⟨f, fd, ps, F, hm, kp, b⟩ := c.ex
  exact pe_callSD F (hr.mono hk) hg hm kp b .nil (fun σ => passAt tk σ) ha hdb he hpl
def tMethS (C : Addr) (m : Str) (sp : Sp) (E : L2.St → XK) (ta : TE) (t : TA) : TE := fun σ H Q => ta σ H fun x H1 => ∃ a dx fs, x = .ref a ∧ H1 a = some (.ins C dx fs) ∧ fs.lookup m = none ∧ t σ H1 fun vs H2 => sp (x :: (vs ++ [])) H2 Q (E σ)
theorem pe_ms (c : MetX X.prog X.w X.K X.mg X.base k C m sp) (tk : Takes X W) (hr : Room j X.A) (hk : k ≤ j) (he : PE X o ta) (ha : PA X (e :: es) t)
    (hst : starEach (e :: es) X.env = (false, eval e X.env) :: starEach es X.env := by rfl) (hpl : (backTo pos (starEach es X.env)).any (·.1) = false := by rfl)
    (ht : eval (.Call (.Attribute o m apos) (e :: es) [] pos) X.env = (do
      let ov ← eval o X.env
      standAt apos.atName
      let (f, first) ← holding [ov] (getMethod ov m pl)
      callWith pos f first (backTo pos (starEach (e :: es) X.env)) (backToKw pos (keywordEach [] X.env))) := by rfl) :
    PE X (.Call (.Attribute o m apos) (e :: es) [] pos) (tMethS C m sp (WE W) ta t) := by
  obtain ⟨f, fd, ps, hc, hm, F, b⟩ := c.ex
  refine ⟨fun pins s σ H Q I h => PySem.W.methodCall_KW (pl := pl) (thn (he.run pins s σ H _ I h) fun u s1 got => ?_) ht⟩
  obtain ⟨x, H1, I1, rx, a, dx, fs, ex, ea, l, q⟩ := got
  subst ex
  obtain rfl : u = Value.ref a := rx
  refine getmeth_ok I1 ea hc hm l (PySem.W.callWith_K (first := [.ref a]) (h₀ := X.base) I.ok.mod.kin hm.kp (thn (ha.run pos pins s1 σ H1 _ I1 q) fun us s2 got => ?_) hst hpl)
  obtain ⟨vs, H2, I2, r, q2⟩ := got
  exact ⟨I2.kIn, run_fnSD (us := .ref a :: us) (vs := .ref a :: vs) (E := WE W) F (hr.mono hk) b .nil (passAt tk σ) I2 (.cons rfl r) q2⟩
theorem pe_ms0 (c : MetX X.prog X.w X.K X.mg X.base k C m sp) (tk : Takes X W) (hr : Room j X.A) (hk : k ≤ j) (he : PE X o ta)
    (ht : eval (.Call (.Attribute o m apos) [] [] pos) X.env = (do
      let ov ← eval o X.env
      standAt apos.atName
      let (f, first) ← holding [ov] (getMethod ov m pl)
      callWith pos f first (backTo pos (starEach [] X.env)) (backToKw pos (keywordEach [] X.env))) := by rfl) :
    PE X (.Call (.Attribute o m apos) [] [] pos) (tMethS C m sp (WE W) ta tNil) := by
  obtain ⟨f, fd, ps, hc, hm, F, b⟩ := c.ex
  refine ⟨fun pins s σ H Q I h => PySem.W.methodCall_KW (pl := pl) (thn (he.run pins s σ H _ I h) fun u s1 got => ?_) ht⟩
  obtain ⟨x, H1, I1, rx, a, dx, fs, ex, ea, l, q⟩ := got
  subst ex
  obtain rfl : u = Value.ref a := rx
  exact getmeth_ok I1 ea hc hm l (PySem.W.callWith_K0 (first := [.ref a]) I1.kIn hm.kp (run_fnSD (us := [.ref a]) (vs := [.ref a]) (E := WE W) F (hr.mono hk) b .nil (passAt tk σ) I1 (.cons rfl .nil) q))
end
section
variable {σ : L2.St} {H : Hp} {Q : VK} {sp : Sp} {C : Addr} {m : Str} {ta : TE} {tr : TA} {E : L2.St → XK}
theorem callSD (h : tr σ H fun vs H1 => sp (vs ++ []) H1 Q (E σ)) : tCallSD sp [] E tr σ H Q := h
theorem methSD (h : ta σ H fun x H1 => ∃ a dx fs, x = .ref a ∧ H1 a = some (.ins C dx fs) ∧ fs.lookup m = none ∧ tr σ H1 fun vs H2 => sp (x :: (vs ++ [])) H2 Q (E σ)) : tMethS C m sp E ta tr σ H Q := h
/-- e.f in an except suite -/
theorem xf {a C dd : Addr} {cls : Value} {d : Option Addr} {f : Str} {te : TE} (h : te σ H fun x H1 => x = .ref a ∧ cls = .ref C ∧ ∃ (dd : Addr) (fs : List (Str × V)) (v : V), d = some dd ∧ H1 dd = some (.xd fs) ∧ fs.lookup f = some v ∧ Q v H1) : tXf a cls d C f te σ H Q := h
end
/-- what `except X as n` wishes, X the very class that is raised -/
theorem asYes {K : PySem.W.Frag} {C : Addr} {i : Nat} {ts : Addr → Value → Option Addr → TS} {Wout : WX} {D : Ends} {d : Option Addr} {σ : L2.St} {H : Hp} (m : PySem.W.exmOne K (.ref C) c = some true)
    (h : ∀ a, H a = none → ts a (.ref C) d { nx := fun σ' H' => D.nx (σ'.set i none) H', rt := D.rt, bk := fun σ' H' => D.bk (σ'.set i none) H', ct := fun σ' H' => D.ct (σ'.set i none) H' } (σ.set i (some (.ref a))) H) : wAs K c i ts Wout D (.ref C) d σ H :=
  ⟨true, m, fun _ => h, fun z => by cases z⟩
/-- a new exception of one field -/
theorem mkY {C : Addr} {fl : Str} {v : V} {H : Hp} {Q : XK} (q : ∀ d H', H d = none → Rd.Ex H H' → H' d = some (.xd [(fl, v)]) → Q (.ref C) (some d) H') :
    [v].length ≤ 1000 ∧ ∀ a, H a = none → spExc C fl (.ref a :: ([v] ++ [])) (upd H a (exo a C none))
      (fun r H2 => r = .non ∧ ∃ (d : Addr) (fs : List (Str × V)), H2 a = some (exo a C (some d)) ∧ H2 d = some (exd d fs) ∧ H d = none ∧ Q (.ref C) (some d) (upd (del H2 a) d (.xd fs))) (fun _ _ _ => False) := mkO q
end Gx

set_option Elab.async false
set_option linter.all false
set_option maxRecDepth 100000
set_option maxHeartbeats 1000000
/-! a class's constant read through an instance; readings -/
namespace Gx
open PySem PySem.Spec PyProof.Rows L2 GenW
structure IVal (K : PySem.W.Frag) (C : Addr) (f : Str) (v : V) : Prop where
  ex : ∃ u, PySem.W.findIn K (.ref C) f = some (some u) ∧ PySem.W.specialIn K u "__get__" = some none ∧ PySem.W.handedIn u = true ∧ RelV v u
  cp : PySem.W.copiedNames.contains f = false
def tIVal (K : PySem.W.Frag) (ta : TE) (f : Str) : TE := fun σ H Q => ta σ H fun x H1 => ∃ a C dx fs v, x = .ref a ∧ H1 a = some (.ins C dx fs) ∧ Cls K C ∧ IVal K C f v ∧ fs.lookup f = none ∧ Q v H1
theorem pe_ival {X : Cx} {e : Expr} {ta : TE} {f : Str} {pos : Pos} (he : PE X e ta) (hb : attributeBase e f X.env (eval e X.env) = eval e X.env := by rfl) : PE X (.Attribute e f pos) (tIVal X.K ta f) := by
  refine ⟨fun pins s σ H Q I h => attr_of hb (thn (he.run pins s σ H _ I h) fun u s1 got => ?_)⟩
  obtain ⟨x, H1, I1, rx, a, C, dx, fs, v, ex, ea, c, k, l, q⟩ := got
  subst ex
  obtain rfl : u = Value.ref a := rx
  obtain ⟨mA, O, rel, _, _, _⟩ := ins_get I1.hok ea
  obtain ⟨od, J, hl⟩ := O.look
  obtain ⟨w, h1, h2, h3, h4⟩ := k.ex
  have no : mA f = none := by
    have z := rel f
    rw [l] at z
    cases hm : mA f with
    | none => rfl
    | some y => rw [hm] at z; exact z.elim
  refine PySem.W.get_value I1.kIn J (PySem.W.plainGet_of (c.get f)).1 (PySem.W.findObj_cls c.hd h1 h2 h3 k.cp (by rw [hl f, no])) h3 ⟨v, H1, I1.tok _, h4, q⟩
theorem ival {K : PySem.W.Frag} {σ : L2.St} {H : Hp} {Q : VK} {ta : TE} {f : Str} (h : ta σ H fun x H1 => ∃ a C dx fs v, x = .ref a ∧ H1 a = some (.ins C dx fs) ∧ Cls K C ∧ IVal K C f v ∧ fs.lookup f = none ∧ Q v H1) : tIVal K ta f σ H Q := h
theorem ivalO {K : PySem.W.Frag} {H : Hp} {a C dx : Addr} {fs : List (Str × V)} {f : Str} {v : V} {Q : V → Prop} (h : H a = some (.ins C dx fs)) (c : Cls K C) (k : IVal K C f v) (l : fs.lookup f = none) (q : Q v) :
    ∃ a' C' dx' fs' v', V.ref a = .ref a' ∧ H a' = some (.ins C' dx' fs') ∧ Cls K C' ∧ IVal K C' f v' ∧ fs'.lookup f = none ∧ Q v' := ⟨a, C, dx, fs, v, rfl, h, c, k, l, q⟩
section
variable {σ : L2.St} {H : Hp} {Q : VK} {K : PySem.W.Frag} {D : Ends} {a C dx : Addr} {fs fs' : List (Str × V)} {f : Str} {ta tv : TE}
theorem sfaug {rd : V → V → Hp → VK → Prop} (h : ta σ H fun x H1 => ∃ a C dx fs v, x = .ref a ∧ H1 a = some (.ins C dx fs) ∧ Cls K C ∧ NoAttr K C f ∧ fs.lookup f = some v ∧
    tv σ H1 fun y H2 => rd v y H2 fun z H3 => ∃ dx' fs', H3 a = some (.ins C dx' fs') ∧ fs'.length < 1000 ∧ D.nx σ (upd H3 a (.ins C dx' (putF f z fs')))) : sFldAug K ta tv rd f D σ H := h
/-- o.f += n -/
theorem augI {i : Nat} {m n : Int} (hv : σ[i]? = some (some (.ref a))) (h : H a = some (.ins C dx fs)) (c : Cls K C) (n0 : NoAttr K C f) (l : fs.lookup f = some (.int m)) (z : Nat.ble fs.length 100 = true) (e : putF f (.int (m + n)) fs = fs')
    (q : ∀ H', Au.ExP a H H' → H' a = some (.ins C dx fs') → D.nx σ H') : sFldAug K (tVar i) (tC (.int n)) rAdd f D σ H :=
  ⟨_, hv, a, C, dx, fs, _, rfl, h, c, n0, l, m, n, rfl, rfl, dx, fs, h, Nat.lt_of_le_of_lt (Nat.le_of_ble_eq_true z) (by decide), by rw [e]; exact q _ (fun c z h n => by rw [upd_ne n]; exact h) upd_same⟩
theorem allL {bs : List Bool} (h : SqL K H a (bs.map V.bl)) (q : Q (.bl (bs.all id)) H) : rAll K [.ref a] H Q := ⟨a, bs, rfl, h, q⟩
end
def rTupOf (K : PySem.W.Frag) : List V → Hp → VK → Prop := fun xs H Q => ∃ p ys, xs = [.ref p] ∧ ((SqL K H p ys ∧ ∀ l, H l = none → Q (.ref l) (upd H l (.tup ys))) ∨ (SqT K H p ys ∧ Q (.ref p) H))
theorem call_tupOf {X : Cx} : CallR X (.type "tuple") (rTupOf X.K) := call_tuple_of
def rLstOf (K : PySem.W.Frag) : List V → Hp → VK → Prop := fun xs H Q => ∃ p ys, xs = [.ref p] ∧ (SqL K H p ys ∨ SqT K H p ys) ∧ ∀ l, H l = none → Q (.ref l) (upd H l (.lst ys))
theorem call_lstOf {X : Cx} : CallR X (.type "list") (rLstOf X.K) := call_list_of
section
variable {H : Hp} {Q : VK} {K : PySem.W.Frag} {a b : Addr} {xs zs : List V}
theorem tupOfL (h : SqL K H a xs) (q : Au.NewO H (.tup xs) Q) : rTupOf K [.ref a] H Q := ⟨a, xs, rfl, .inl ⟨h, q⟩⟩
theorem tupOfT (h : SqT K H a xs) (q : Q (.ref a) H) : rTupOf K [.ref a] H Q := ⟨a, xs, rfl, .inr ⟨h, q⟩⟩
theorem lstOfL (h : SqL K H a xs) (q : Au.NewO H (.lst xs) Q) : rLstOf K [.ref a] H Q := ⟨a, xs, rfl, .inl h, q⟩
theorem lstOfT (h : SqT K H a xs) (q : Au.NewO H (.lst xs) Q) : rLstOf K [.ref a] H Q := ⟨a, xs, rfl, .inr h, q⟩
theorem ext (h : H a = some (.lst xs)) (h2 : H b = some (.lst zs)) (hl : xs.length + zs.length ≤ 1000000) (q : ∀ H', Au.ExP a H H' → H' a = some (.lst (xs ++ zs)) → Q .non H') : rExtend (.ref a) [.ref b] H Q :=
  ⟨a, b, xs, zs, rfl, rfl, h, h2, Nat.le_trans hl (Nat.le_of_ble_eq_true rfl), q _ (fun c z h n => by rw [upd_ne n]; exact h) upd_same⟩
/-- a slice of a tuple: a new tuple, or the very one -/
theorem slT {lo hi : Option Int} (h : H a = some (.tup xs)) (q : ∀ p H', Rd.Ex H H' → H' p = some (.tup (cutV xs lo hi)) → Q (.ref p) H') : rSlA K (.ref a) lo hi H Q := by
  refine ⟨a, xs, rfl, Rd.sqt h, fun hw => q a H (Same.refl H) ?_, fun _ p hp => q p _ (Rd.ex_new hp) upd_same⟩
  have e : cutV xs lo hi = xs := by
    unfold cutV
    rw [hw.1, hw.2, List.drop_zero, Nat.sub_zero, List.take_length]
  rw [e]; exact h
theorem frz {ta : TA} {g : TG} {tb : TS} {D : Ends} {σ : L2.St} (h : ta σ H fun vs H1 => ∃ a b xs ys, vs = [.ref a, .ref b] ∧ SqL K H1 a xs ∧ SqL K H1 b ys ∧ ∃ W : Nat → Nat → L2.St → Hp → Prop, (∃ m, W 0 m σ H1) ∧ ∀ i m σ H, W i m σ H →
    ((Itz K a b).stop i H ∧ D.nx σ H) ∨ ((Itz K a b).go i H ∧ ∃ N : L2.St → Hp → Prop, (∀ σ' H', N σ' H' → ∃ m', m' < m ∧ W (i + 1) m' σ' H') ∧ ∀ x H', (Itz K a b).yld i H x H' → g x σ H' fun σ2 H2 => tb { D with nx := N, ct := N, bk := D.nx } σ2 H2)) :
    tFor (iZip K ta) g tb D σ H := h
end
end Gx

set_option Elab.async false
set_option linter.all false
set_option maxRecDepth 100000
set_option maxHeartbeats 1000000
/-! scripts and draws: promises -/
namespace Pr
open PySem PySem.Spec PyProof.Rows L2
/-- all but two objects stand -/
def ExQ (p r : Addr) (H H' : Hp) : Prop := ∀ c o, H c = some o → c ≠ p → c ≠ r → H' c = some o
theorem ExQ.refl {p r : Addr} (H : Hp) : ExQ p r H H := fun _ _ e _ _ => e
theorem smq {p r b : Addr} {H H' : Hp} {z : HO} (e : ExQ p r H H') (h : H b = some z) (n1 : b ≠ p) (n2 : b ≠ r) : H' b = some z := e _ _ h n1 n2
abbrev ScrO (C dx sa : Addr) (pl : Nat) : HO := .ins C dx [("s1_script", .ref sa), ("s1_place", .int (pl : Int))]
abbrev DrwO (C dx so : Addr) (n : Nat) : HO := .ins C dx [("s5_source", .ref so), ("s5_used", .int (n : Int))]
abbrev words (ws : List Nat) : List V := ws.map fun (w : Nat) => V.int (w : Int)
/-- is_script of a tuple of words; of no tuple -/
def spScript (K : PySem.W.Frag) : Sp := fun vs H Q _ => ∃ (a : Addr) (ws : List Nat), vs = [.ref a] ∧ (H a = some (.tup (words ws)) ∧ ws.length ≤ 10000 ∧ ∀ w ∈ ws, w < 4294967296) ∧ ∀ H', Rd.Ex H H' → Q (.bl true) H'
theorem u_script {K : PySem.W.Frag} {a : Addr} {ws : List Nat} {H : Hp} {Q : VK} {E : XK} (h : H a = some (.tup (words ws)) ∧ ws.length ≤ 10000 ∧ ∀ w ∈ ws, w < 4294967296) (q : ∀ H', Rd.Ex H H' → Q (.bl true) H') : spScript K ([.ref a] ++ []) H Q E := ⟨a, ws, rfl, h, q⟩
def spNeedSt (K : PySem.W.Frag) : Sp := fun vs H Q _ => ∃ (t a : Addr) (ws : List Nat) (pl : Nat), vs = [.ref t] ∧ (H t = some (.tup [.ref a, .int (pl : Int)]) ∧ H a = some (.tup (words ws)) ∧ ws.length ≤ 10000 ∧ (∀ w ∈ ws, w < 4294967296) ∧ pl ≤ ws.length) ∧ ∀ H', Rd.Ex H H' → Q .non H'
def spInitS (C : Addr) : Sp := fun vs H Q _ => ∃ (p dx a : Addr) (ws : List Nat) (pl : Nat), vs = [.ref p, .ref a, .int (pl : Int)] ∧ (H a = some (.tup (words ws)) ∧ ws.length ≤ 10000 ∧ (∀ w ∈ ws, w < 4294967296) ∧ pl ≤ ws.length) ∧ H p = some (.ins C dx []) ∧
  ∀ H', Au.ExP p H H' → H' p = some (ScrO C dx a pl) → Q .non H'
theorem u_scr0 {C a : Addr} {ws : List Nat} {H : Hp} {Q : Addr → Hp → Prop} {E : XK} (h1 : H a = some (.tup (words ws)) ∧ ws.length ≤ 10000 ∧ ∀ w ∈ ws, w < 4294967296) (h : ∀ p dx H', H p = none → Rd.Ex H H' → H' p = some (ScrO C dx a 0) → Q p H') :
    ∀ x dx, H x = none → H dx = none → dx ≠ x → spInitS C (.ref x :: ([.ref a] ++ [.int 0])) (upd (upd H dx (.own x)) x (.ins C dx [])) (fun v H2 => v = .non ∧ Q x H2) E := fun x dx hx hdx hne =>
  ⟨x, dx, a, ws, 0, rfl, ⟨ex_make hx hdx _ _ h1.1, h1.2.1, h1.2.2, Nat.zero_le _⟩, upd_same, fun H' m k => ⟨rfl, h x dx H' hx (ex_made hx hdx m) k⟩⟩
def spAfterS (K : PySem.W.Frag) (CE : Addr) : Sp := fun vs H Q E => ∃ (a : Addr) (ws : List Nat) (pl st : Nat), vs = [.ref a, .int (pl : Int), .int (st : Int)] ∧ H a = some (.tup (words ws)) ∧ (pl + st ≤ ws.length → Q (.int ((pl + st : Nat) : Int)) H) ∧
  (ws.length < pl + st → ∀ d H', H d = none → Rd.Ex H H' → H' d = some (.xd [("missing", .int ((pl + st : Nat) - ws.length : Int))]) → E (.ref CE) (some d) H')
/-- a script at its object -/
structure SAt (C : Addr) (H : Hp) (o dx a : Addr) (ws : List Nat) (pl : Nat) : Prop where
  obj : H o = some (ScrO C dx a pl)
  tup : H a = some (.tup (words ws))
  le : pl ≤ ws.length
def spWordS (C CE : Addr) : Sp := fun vs H Q E => ∃ (o dx a : Addr) (ws : List Nat) (pl : Nat), vs = [.ref o] ∧ SAt C H o dx a ws pl ∧ (∀ (w : Nat) (H' : Hp), ws[pl]? = some w → Au.ExP o H H' → H' o = some (ScrO C dx a (pl + 1)) → Q (.int (w : Int)) H') ∧
  (pl = ws.length → ∀ d H', H d = none → Rd.Ex H H' → H' d = some (.xd [("missing", .int 1)]) → E (.ref CE) (some d) H')
def spInitD (C S : Addr) : Sp := fun vs H Q _ => ∃ (p dx o dy a : Addr) (pl : Nat), vs = [.ref p, .ref o] ∧ H o = some (ScrO S dy a pl) ∧ H p = some (.ins C dx []) ∧ ∀ H', Au.ExP p H H' → H' p = some (DrwO C dx o 0) → Q .non H'
theorem u_drw {C S o dy a : Addr} {pl : Nat} {H : Hp} {Q : Addr → Hp → Prop} {E : XK} (h1 : H o = some (ScrO S dy a pl)) (h : ∀ p dx H', H p = none → Rd.Ex H H' → H' p = some (DrwO C dx o 0) → Q p H') :
    ∀ x dx, H x = none → H dx = none → dx ≠ x → spInitD C S (.ref x :: ([.ref o] ++ [])) (upd (upd H dx (.own x)) x (.ins C dx [])) (fun v H2 => v = .non ∧ Q x H2) E := fun x dx hx hdx hne =>
  ⟨x, dx, o, dy, a, pl, rfl, ex_make hx hdx _ _ h1, upd_same, fun H' m k => ⟨rfl, h x dx H' hx (ex_made hx hdx m) k⟩⟩
/-- draws over a script -/
structure DAt (C S : Addr) (H : Hp) (p dx o dy a : Addr) (ws : List Nat) (pl n : Nat) : Prop where
  drw : H p = some (DrwO C dx o n)
  scr : SAt S H o dy a ws pl
theorem DAt.ne {C S p dx o dy a : Addr} {H : Hp} {ws : List Nat} {pl n : Nat} (h : DAt C S H p dx o dy a ws pl n) : p ≠ o ∧ a ≠ p ∧ a ≠ o := by
  refine ⟨ne_of h.drw h.scr.obj (fun z => ?_), ne_of h.scr.tup h.drw (fun z => by cases z), ne_of h.scr.tup h.scr.obj (fun z => by cases z)⟩
  have e : ("s5_source" : Str) = "s1_script" := congrArg (fun o => match o with | HO.ins _ _ ((f, _) :: _) => f | _ => "") z
  exact absurd e (by decide +kernel)
def spWordD (C S CE : Addr) : Sp := fun vs H Q E => ∃ (p dx o dy a : Addr) (ws : List Nat) (pl n : Nat), vs = [.ref p] ∧ DAt C S H p dx o dy a ws pl n ∧ (∀ (w : Nat) (H' : Hp), ws[pl]? = some w → ExQ p o H H' → DAt C S H' p dx o dy a ws (pl + 1) (n + 1) → Q (.int (w : Int)) H') ∧
  (pl = ws.length → ∀ d H', H d = none → Rd.Ex H H' → H' d = some (.xd [("missing", .int 1)]) → E (.ref CE) (some d) H')
/-- the k bits of a row of words -/
def bitsN : List Nat → Nat → Nat
  | [], _ => 0
  | w :: r, k => if k < 32 then w / 2 ^ (32 - k) else w + 2 ^ 32 * bitsN r (k - 32)
/-- words for k bits -/
def need (k : Nat) : Nat := (k + 31) / 32
def spBits (C S CE : Addr) : Sp := fun vs H Q E => ∃ (p dx o dy a : Addr) (ws : List Nat) (pl n k : Nat), vs = [.ref p, .int (k : Int)] ∧ (DAt C S H p dx o dy a ws pl n ∧ k ≤ 512 ∧ ∀ w ∈ ws, w < 4294967296) ∧
  (pl + need k ≤ ws.length → ∀ H', ExQ p o H H' → DAt C S H' p dx o dy a ws (pl + need k) (n + need k) → Q (.int (if k = 0 then 0 else bitsN (ws.drop pl) k : Nat)) H') ∧
  (ws.length < pl + need k → ∀ d H', H d = none → ExQ p o H H' → DAt C S H' p dx o dy a ws ws.length (n + (ws.length - pl)) → H' d = some (.xd [("missing", .int 1)]) → E (.ref CE) (some d) H')
def spUsed (C : Addr) : Sp := fun vs H Q _ => ∃ (p dx o : Addr) (n : Nat), vs = [.ref p] ∧ H p = some (DrwO C dx o n) ∧ Q (.int (n : Int)) H
def spLeft (C : Addr) : Sp := fun vs H Q _ => ∃ (o dx a : Addr) (ws : List Nat) (pl : Nat), vs = [.ref o] ∧ H o = some (ScrO C dx a pl) ∧ H a = some (.tup (words ws)) ∧ Q (.int ((ws.length : Int) - pl)) H
end Pr

set_option Elab.async false
set_option linter.all false
set_option maxRecDepth 100000
set_option maxHeartbeats 1000000
/-! comprehensions, told turn by turn -/
namespace Gx
open PySem PySem.Spec PyProof.Rows L2 GenW
def LcB (J : It) (g : TG) (tt : TT) (te : TE) (vs : List Nat) (σ : L2.St) (H1 : Hp) (Q : VK) : Prop := ∀ D, H1 D = none → ∃ W : Nat → Nat → Hp → Prop, (∃ m, W 0 m (upd H1 D (.lst []))) ∧ ∀ i m H, W i m H →
  (J.stop i H ∧ Q (.ref D) H) ∨ (J.go i H ∧ ∃ Nx : Hp → Prop, (∀ H', Nx H' → ∃ m', m' < m ∧ W (i + 1) m' H') ∧ ∀ x H', J.yld i H x H' → g x (wipe σ vs) H' fun σ2 H2 => wipe σ2 vs = wipe σ vs ∧ tt σ2 H2 fun b H3 =>
    if b = true then te σ2 H3 fun y H4 => ∃ acc, H4 D = some (.lst acc) ∧ acc.length < sizeLine ∧ Nx (upd H4 D (.lst (acc ++ [y]))) else Nx H3)
section
variable {σ : L2.St} {H : Hp} {Q : VK} {K : PySem.W.Frag} {g : TG} {tt : TT} {te tl : TE} {ta : TA} {vs : List Nat} {j : Nat} {a : Addr} {xs : List V} {wi : TI} {R : It → Hp → Prop}
theorem lcO (h : wi σ H fun J H1 => LcB J g tt te vs σ H1 Q) : tLc wi g tt te vs σ H Q := h
theorem itupO (h : tl σ H fun x H1 => ∃ a, x = .ref a ∧ (∃ xs, SqT K H1 a xs) ∧ R (Itt K a) H1) : iTup K tl σ H R := h
theorem ilistO (h : tl σ H fun x H1 => ∃ a, x = .ref a ∧ (∃ xs, SqL K H1 a xs) ∧ R (Itl K a) H1) : iList K tl σ H R := h
theorem irng1O (h : ta σ H fun vs H1 => ∃ j : Int, vs = [.int j] ∧ -(2 ^ 62) ≤ j ∧ j < 2 ^ 62 ∧ R (Itr 0 j.toNat) H1) : iRng1 ta σ H R := h
theorem mkR {C : Addr} {sp : Sp} {Q : XK} (h : ta σ H fun vs H1 => vs.length ≤ 1000 ∧ ∀ a, H1 a = none → sp (.ref a :: (vs ++ [])) (upd H1 a (exo a C none))
  (fun v H2 => v = .non ∧ ∃ (d : Addr) (fs : List (Str × V)), H2 a = some (exo a C (some d)) ∧ H2 d = some (exd d fs) ∧ H1 d = none ∧ Q (.ref C) (some d) (upd (del H2 a) d (.xd fs))) (fun _ _ _ => False)) : tMkO C sp [] ta σ H Q := h
theorem makeD {C : Addr} {sp : Sp} {dvs : List V} {E : XK} (h : ta σ H fun vs H1 => ∀ x dx, H1 x = none → H1 dx = none → dx ≠ x →
  sp (.ref x :: (vs ++ dvs)) (upd (upd H1 dx (.own x)) x (.ins C dx [])) (fun v H2 => v = .non ∧ Q (.ref x) H2) E) : tMake C sp dvs E ta σ H Q := h
theorem fr3 {g : TG} {tb : TS} {D : Ends} (h : ta σ H fun vs H1 => ∃ (i j c : Int) (n : Nat), vs = [.int i, .int j, .int c] ∧ RgC i j c n ∧ ∃ W : Nat → Nat → L2.St → Hp → Prop, (∃ m, W 0 m σ H1) ∧ ∀ k m σ H, W k m σ H →
    ((Itc i c n).stop k H ∧ D.nx σ H) ∨ ((Itc i c n).go k H ∧ ∃ N : L2.St → Hp → Prop, (∀ σ' H', N σ' H' → ∃ m', m' < m ∧ W (k + 1) m' σ' H') ∧ ∀ x H', (Itc i c n).yld k H x H' → g x σ H' fun σ2 H2 => tb { D with nx := N, ct := N, bk := D.nx } σ2 H2)) : tFor (iRng3 ta) g tb D σ H := h
theorem small5 {n : Nat} (h : n ≤ 100000) : n < sizeLine := Nat.lt_of_le_of_lt h (show 100000 < 16777216 by decide)
/-- a turn's end: the item is put behind the others -/
def LcN (Pv : Addr → Nat → List V → Hp → Prop) (D : Addr) (k : Nat) : VK := fun y H4 => ∃ acc, H4 D = some (.lst acc) ∧ acc.length < sizeLine ∧ ∃ acc', acc'.length ≤ k + 1 ∧ upd H4 D (.lst (acc ++ [y])) D = some (.lst acc') ∧ Pv D (k + 1) acc' (upd H4 D (.lst (acc ++ [y])))
theorem lcN {Pv : Addr → Nat → List V → Hp → Prop} {D : Addr} {k : Nat} {acc : List V} {y : V} {H4 : Hp} (h : H4 D = some (.lst acc)) (hl : acc.length ≤ k) (hk : k ≤ 100000) (q : ∀ H5, Au.ExP D H4 H5 → H5 D = some (.lst (acc ++ [y])) → Pv D (k + 1) (acc ++ [y]) H5) : LcN Pv D k y H4 :=
  ⟨acc, h, small5 (by omega), acc ++ [y], by rw [List.length_append, List.length_singleton]; omega, upd_same, q _ (fun c z h n => by rw [upd_ne n]; exact h) upd_same⟩
theorem wip {σ : L2.St} {j : Nat} {x : V} : wipe ((wipe σ [j]).set j (some x)) [j] = wipe σ [j] := by
  show (List.set (List.set (List.set σ j none) j (some x)) j none) = List.set σ j none
  rw [List.set_set, List.set_set]
theorem lcTup (Pv : Addr → Nat → List V → Hp → Prop) (hlen : xs.length ≤ 100000) (h0 : ∀ D H1, H D = none → Rd.Ex H H1 → H1 D = some (.lst []) → Pv D 0 [] H1) (hl : ∀ D k acc H', H D = none → Pv D k acc H' → SqT K H' a xs)
    (hs : ∀ D k x acc H', H D = none → xs[k]? = some x → acc.length ≤ k → H' D = some (.lst acc) → Pv D k acc H' → te ((wipe σ [j]).set j (some x)) H' (LcN Pv D k))
    (hd : ∀ D acc H', H D = none → H' D = some (.lst acc) → Pv D xs.length acc H' → Q (.ref D) H') : LcB (Itt K a) (gName j) tYes te [j] σ H Q := fun D hD => by
  refine lc_tup (K := K) (a := a) (xs := xs) (fun i H' => ∃ acc, acc.length ≤ i ∧ H' D = some (.lst acc) ∧ Pv D i acc H') ⟨[], Nat.le_refl _, upd_same, h0 D _ hD (Rd.ex_new hD) upd_same⟩ (fun i H' _ z => ?_) (fun i x H' hx z => ?_) (fun H' z => ?_)
  · obtain ⟨acc, _, _, p⟩ := z
    exact hl D i acc H' hD p
  · obtain ⟨acc, l, k, p⟩ := z
    exact ⟨wip, hs D i x acc H' hD hx l k p⟩
  · obtain ⟨acc, _, k, p⟩ := z
    exact hd D acc H' hD k p
theorem lcLst (Pv : Addr → Nat → List V → Hp → Prop) (hlen : xs.length ≤ 100000) (h0 : ∀ D H1, H D = none → Rd.Ex H H1 → H1 D = some (.lst []) → Pv D 0 [] H1) (hl : ∀ D k acc H', H D = none → Pv D k acc H' → SqL K H' a xs)
    (hs : ∀ D k x acc H', H D = none → xs[k]? = some x → acc.length ≤ k → H' D = some (.lst acc) → Pv D k acc H' → te ((wipe σ [j]).set j (some x)) H' (LcN Pv D k))
    (hd : ∀ D acc H', H D = none → H' D = some (.lst acc) → Pv D xs.length acc H' → Q (.ref D) H') : LcB (Itl K a) (gName j) tYes te [j] σ H Q := fun D hD => by
  refine lc_list (K := K) (a := a) (xs := xs) (fun i H' => ∃ acc, acc.length ≤ i ∧ H' D = some (.lst acc) ∧ Pv D i acc H') ⟨[], Nat.le_refl _, upd_same, h0 D _ hD (Rd.ex_new hD) upd_same⟩ (fun i H' _ z => ?_) (fun i x H' hx z => ?_) (fun H' z => ?_)
  · obtain ⟨acc, _, _, p⟩ := z
    exact hl D i acc H' hD p
  · obtain ⟨acc, l, k, p⟩ := z
    exact ⟨wip, hs D i x acc H' hD hx l k p⟩
  · obtain ⟨acc, _, k, p⟩ := z
    exact hd D acc H' hD k p
theorem lcRng {n : Nat} (Pv : Addr → Nat → List V → Hp → Prop) (h0 : ∀ D H1, H D = none → Rd.Ex H H1 → H1 D = some (.lst []) → Pv D 0 [] H1)
    (hs : ∀ D k acc H', H D = none → k < n → acc.length ≤ k → H' D = some (.lst acc) → Pv D k acc H' → te ((wipe σ [j]).set j (some (.int (k : Int)))) H' (LcN Pv D k))
    (hd : ∀ D acc H', H D = none → H' D = some (.lst acc) → Pv D n acc H' → Q (.ref D) H') : LcB (Itr 0 n) (gName j) tYes te [j] σ H Q := fun D hD => by
  refine lc_range (lo := 0) (n := n) (fun i H' => ∃ acc, acc.length ≤ i ∧ H' D = some (.lst acc) ∧ Pv D i acc H') ⟨[], Nat.le_refl _, upd_same, h0 D _ hD (Rd.ex_new hD) upd_same⟩ (fun i H' hx z => ?_) (fun H' z => ?_)
  · obtain ⟨acc, l, k, p⟩ := z
    rw [Int.zero_add]
    exact ⟨wip, hs D i acc H' hD hx l k p⟩
  · obtain ⟨acc, _, k, p⟩ := z
    exact hd D acc H' hD k p
end
end Gx

set_option Elab.async false
set_option linter.all false
set_option maxRecDepth 100000
set_option maxHeartbeats 1000000
/-! a property read inside an except suite, whatever the handled exception's context is -/
namespace Gx
open PySem PySem.Spec PyProof.Rows L2 L2H
/-- a def's promise while any exception is handled -/
structure FnB (P : Program) (w : World) (K : PySem.W.Frag) (mg : Str → Option Value) (base : Heap) (k : Nat) (f : Addr) (fd : FuncData) (ps : List Str) (sp : Sp) : Prop where
  len : ∀ vs H Q E, sp vs H Q E → vs.length = ps.length
  run : ∀ (A : Around) (outer : List Env) (s : Shared) (H : Hp) (args : Args) (us : List Value) (vs : List V) (Q : VK) (E : XK) (p : Addr × Obj), RoomH k A → PinOk outer H s p → Env0 P w K mg base A outer s H → BindsTo s fd args (ps.zip us) → Vals vs us → sp vs H Q E →
    codeAny (model P w) A (.call (.ref f) args) (CR C8.CX0 outer P w H s Q E) s
theorem fnB {P : Program} {w : World} {K : PySem.W.Frag} {mg : Str → Option Value} {base : Heap} {x qual : Str} {st : Stmt} {f : Addr} {fd : FuncData} {N ps : List Str} {k : Nat} {sp : Sp} (F : C8.Fun K x qual st f fd) (S : FnScope N ps (C8.fnScope st)) (len : ∀ vs H Q E, sp vs H Q E → vs.length = ps.length)
    (hbody : ∀ (cdv : Value) (A : Around) (outer : List Env) (s : Shared) (H : Hp) (vs : List V) (Q : VK) (E : XK) (p : Addr × Obj), sp vs H Q E →
      ∃ t, PSs (cxH C8.CX0 P w K mg base N qual (C8.fnScope st) f cdv A outer s H E p) (C8.fnBody st) t ∧ t { nx := fun _ H' => Q .non H', rt := Q } (L2.start N vs) H) :
    FnB P w K mg base (k + 1) f fd ps sp := by
  obtain ⟨oc, od, dV, kV, doc, pm, an, cdv, ct, osl, rfl, lk, hcd⟩ := F.ex
  refine ⟨len, fun A outer s H args us vs Q E p hr hpin e0 hb r hsp => ?_⟩
  have KX : K.In s.heap := e0.mod.kin.keeps fun b o e => (e0.bs b o e).1
  have lim : s.heap.NoLimit := e0.mod.nolimit.keeps fun b o e => (e0.bs b o e).1
  have hkind : ∀ y ∈ ps.zip us, (C8.fnScope st).names.lookup y.1 = some .local ∨ ((C8.fnScope st).names.lookup y.1 = some .cell ∧ ((cellsFrom (s.heap.objs.size + 1) (C8.fnScope st).names []).lookup y.1).isSome = true) := fun ⟨n, v⟩ hy =>
    (S.par n (List.of_mem_zip hy).1).elim .inl fun q => .inr ⟨q, PySem.W.cellsFrom_some _ _ _ (.inl q)⟩
  refine codeAny_call_function hr.depth (KX _ _ lk) rfl S.co S.gen rfl (PySem.W.codeRec_of KX hcd) (hb _ _ _ _ (wpAny_newFunctionEnv_cells S.kind hkind fun env he s1 x => ?_))
  subst he
  refine ⟨lim.keeps x.toInCall.keep, codeAny_func ?_⟩
  obtain ⟨t, ht, hq⟩ := hbody cdv A outer s H vs Q E p hsp
  have I := inv_startH (E := E) (CX := C8.CX0) S hpin e0 (len _ _ _ _ hsp) r x
  refine wpAny_mono (ht.run [] s1 (L2.start N vs) H _ I hq) (fun fl s' hs => ?_) fun e s' hs => hs
  match fl, hs with
  | .ret u, ⟨v, _, H', J, rv, q⟩ => exact ⟨v, H', J.os, J.bare, J.base, J.hok, rv, q⟩
  | .next, ⟨_, H', J, q⟩ => exact ⟨.non, H', J.os, J.bare, J.base, J.hok, rfl, q⟩
  | .brk, ⟨_, _, _, q⟩ => exact False.elim q
  | .cont, ⟨_, _, _, q⟩ => exact False.elim q
theorem roomH_in1 {k : Nat} {A : Around} (r : RoomH (k + 1) A) : RoomH k A.in1 :=
  ⟨by have := r.dp; show A.depth + 3 * k + 5 < _; omega, by have := r.un; show A.units + 1 + 16 * k + 200 < _; omega⟩
theorem roomB {k : Nat} {A : Around} (r : Room k A) (h : Option Value) : RoomH k (A.mark h) := ⟨r.dp, r.un⟩
structure PrpB (P : Program) (w : World) (K : PySem.W.Frag) (mg : Str → Option Value) (base : Heap) (k : Nat) (C : Addr) (nm : Str) (sp : Sp) : Prop where
  ex : ∃ (p f : Addr) (fd : FuncData) (ps : List Str), Cls K C ∧ PropOf K C nm p f ∧ FnB P w K mg base k f fd ps sp ∧ Binds K fd ps []
theorem prpB {X : Cx} {k j : Nat} {C : Addr} {nm : Str} {sp : Sp} {e : Expr} {ta : TE} {pos : Pos} {p : Addr × Obj} (he : PE X e ta) (c : PrpB X.prog X.w X.K X.mg X.base k C nm sp) (hr : RoomH j X.A) (hp : p ∈ X.pn) (hk : k + 1 ≤ j) (hab : attributeBase e nm X.env (eval e X.env) = eval e X.env) :
    PE X (.Attribute e nm pos) (tProp C sp [] C8.E0 ta) := by
  obtain ⟨pp, g, fd, ps, c, hpr, F, hb⟩ := c.ex
  refine ⟨fun pins s σ H Q I h => attr_of hab (thn (he.run pins s σ H _ I h) fun u s1 ⟨x, H1, I1, rx, a, dx, fs, ex, ea, q⟩ => ?_)⟩
  subst ex
  obtain rfl : u = Value.ref a := rx
  obtain ⟨mA, O, _, _, _, _⟩ := ins_get I1.hok ea
  obtain ⟨od, J, _⟩ := O.look
  obtain ⟨rest, hrec⟩ := hpr.rec_
  have I2 := I1.tok (s1.toks + 1)
  have hl : ([Value.ref a] ++ []).length = ps.length := by rw [← F.len _ _ _ _ q]; rfl
  have hc : (PySem.W.clsIn X.K C).isSome = true := by
    obtain ⟨cd, hc, _⟩ := PySem.W.any_some c.hd
    rw [hc]
    rfl
  have P1 := I2.pin p (List.mem_append_left _ hp)
  have hpin : PinOk X.stack H1 { s1 with toks := s1.toks + 1 } p := ⟨P1.1, P1.2.1, fun hm => (List.mem_cons.mp (I2.stkSub p.1 hm)).elim P1.2.2.1 P1.2.2.2.1, P1.2.2.2.2⟩
  refine PySem.W.get_bind I1.kIn J (PySem.W.plainGet_of (c.get nm)).1 (PySem.W.findObj_data hc hpr.at_ hpr.get hpr.tak) (PySem.W.plainGet_of (c.get nm)).2 (wpAny_call (PySem.W.prop_get (s := { s1 with toks := s1.toks + 1 }) I1.kIn hrec ?_))
  refine codeAny_mono (F.run X.A.in1 X.stack { s1 with toks := s1.toks + 1 } H1 ⟨[.ref a], []⟩ [.ref a] [.ref a] Q C8.E0 p (roomH_in1 (k := k) ⟨by have := hr.dp; omega, by have := hr.un; omega⟩) hpin I2.env0.in1 (hb _ [.ref a] I2.kIn hl) (.cons rfl .nil) q) fun r s' hq => ?_
  match r, hq with
  | .error er, hq => 
    have hx : Passes C8.CX0 X.nox C8.E0 := C8.pass0
    exact False.elim (hx pins σ H1 { s1 with toks := s1.toks + 1 } er s' (I2.wish _) hq)
  | .ok (.ret u), hq =>
    obtain ⟨v, H', I3, rv, q3⟩ := I2.after hq
    show wpAny _ _ (handedOut u) _ _ _
    rw [PySem.W.handedOut_of (handed_of rv)]
    exact wpAny_pure ⟨v, H', I3, rv, q3⟩
  | .ok .next, hq => exact False.elim hq
  | .ok .brk, hq => exact False.elim hq
  | .ok .cont, hq => exact False.elim hq
end Gx

set_option linter.all false
/-! the bits of rows of words -/
namespace Pr
open PySem
theorem bitsN_zero {ws : List Nat} (h : ∀ w ∈ ws, w < 4294967296) : bitsN ws 0 = 0 := by
  cases ws with
  | nil => rfl
  | cons w r =>
    have := h w (List.mem_cons_self ..)
    simp only [bitsN]
    rw [if_pos (by decide)]
    exact Nat.div_eq_of_lt (by simpa using this)
theorem drop_cons {ws : List Nat} {i w : Nat} (h : ws[i]? = some w) : ws.drop i = w :: ws.drop (i + 1) := by
  obtain ⟨hi, e⟩ := List.getElem?_eq_some_iff.mp h
  rw [List.drop_eq_getElem_cons hi, e]
theorem need_le {k i : Nat} (h : 32 * i < k) : i < need k := by unfold need; omega
theorem need_eq {k i : Nat} (h1 : k ≤ 32 * i) (h2 : 32 * i < k + 32) : i = need k := by unfold need; omega
theorem bitsN_take : ∀ (k : Nat) (r : List Nat), 0 < k → (∀ w ∈ r, w < 4294967296) → bitsN (r.take (need k)) k = bitsN r k
  | k, [], _, _ => by simp
  | k, w :: r, h, hw => by
    have hn : need k = need (k - 32) + 1 ∨ (need k = 1 ∧ k < 32) := by unfold need; omega
    by_cases c : k < 32
    · have : need k = 1 := by unfold need; omega
      rw [this, List.take_succ_cons]
      simp only [bitsN]
      rw [if_pos c, if_pos c]
    · have e : need k = need (k - 32) + 1 := by unfold need; omega
      rw [e, List.take_succ_cons]
      simp only [bitsN]
      rw [if_neg c, if_neg c]
      by_cases z : k - 32 = 0
      · have : k = 32 := by omega
        subst this
        rw [bitsN_zero (fun x hx => hw x (List.mem_cons_of_mem _ hx)), bitsN_zero (fun x hx => hw x (List.mem_cons_of_mem _ (List.mem_of_mem_take hx)))]
      · rw [bitsN_take (k - 32) r (by omega) (fun x hx => hw x (List.mem_cons_of_mem _ hx))]
/-- how many binary digits -/
def bl (n : Nat) : Nat := if h : n = 0 then 0 else bl (n / 2) + 1
decreasing_by omega
theorem bl_zero : bl 0 = 0 := by rw [bl]; rfl
theorem bl_pos {n : Nat} (h : 0 < n) : bl n = bl (n / 2) + 1 := by rw [bl, dif_neg (by omega)]
theorem bl_le : ∀ {k n : Nat}, n < 2 ^ k → bl n ≤ k := by
  intro k
  induction k with
  | zero => intro n h; have : n = 0 := by simpa using h
            subst this; rw [bl_zero]; omega
  | succ k ih =>
    intro n h
    by_cases z : n = 0
    · subst z; rw [bl_zero]; omega
    · rw [bl_pos (by omega)]
      have := ih (n := n / 2) (by rw [Nat.pow_succ] at h; omega)
      omega
theorem lt_bl : ∀ n : Nat, n < 2 ^ bl n := by
  intro n
  induction n using Nat.strongRecOn with
  | ind n ih =>
    by_cases z : n = 0
    · subst z; exact Nat.two_pow_pos _
    · rw [bl_pos (by omega), Nat.pow_succ]
      have := ih (n / 2) (by omega)
      omega
end Pr

set_option linter.all false
/-! digits of numbers, from the lowest on -/
namespace Pr
open PySem L2
def digs : Nat → Nat → List Nat
  | _, 0 => []
  | x, s + 1 => (x % 2) :: digs (x / 2) s
theorem digs_len : ∀ (s x : Nat), (digs x s).length = s
  | 0, _ => rfl
  | s + 1, x => by rw [digs, List.length_cons, digs_len s]
theorem digs_snoc : ∀ (s x : Nat), digs x (s + 1) = digs x s ++ [x / 2 ^ s % 2]
  | 0, x => by simp [digs]
  | s + 1, x => by
    rw [digs, digs_snoc s (x / 2), digs, List.cons_append, Nat.div_div_eq_div_mul, Nat.pow_succ, Nat.mul_comm 2]
def num : List Nat → Nat
  | [] => 0
  | b :: r => b + 2 * num r
theorem num_append : ∀ a b : List Nat, num (a ++ b) = num a + 2 ^ a.length * num b
  | [], b => by simp [num]
  | x :: a, b => by
    rw [List.cons_append, num, num, num_append a b, List.length_cons, Nat.pow_succ]
    grind
theorem num_digs : ∀ (s x : Nat), num (digs x s) = x % 2 ^ s
  | 0, x => by simp [digs, num, Nat.mod_one]
  | s + 1, x => by
    rw [digs, num, num_digs s, Nat.pow_succ, Nat.mul_comm (2 ^ s) 2, Nat.mod_mul]
theorem digs_drop : ∀ (j s x : Nat), j ≤ s → (digs x s).drop j = digs (x / 2 ^ j) (s - j)
  | 0, s, x, _ => by simp
  | j + 1, 0, x, h => absurd h (by omega)
  | j + 1, s + 1, x, h => by
    rw [digs, List.drop_succ_cons, digs_drop j s (x / 2) (by omega), Nat.div_div_eq_div_mul, Nat.pow_succ, Nat.mul_comm 2, Nat.add_sub_add_right]
theorem num_top {x j : Nat} (hj : j ≤ 32) (h : x < 4294967296) : num ((digs x 32).drop j) = x / 2 ^ j := by
  rw [digs_drop j 32 x hj, num_digs]
  refine Nat.mod_eq_of_lt ?_
  rw [Nat.div_lt_iff_lt_mul (Nat.two_pow_pos j), ← Nat.pow_add, show 32 - j + j = 32 by omega]
  exact h
/-- the digits of whole words -/
def alld (ws : List Nat) : List Nat := (ws.map fun w => digs w 32).flatten
theorem alld_snoc (ws : List Nat) (w : Nat) : alld (ws ++ [w]) = alld ws ++ digs w 32 := by simp [alld]
theorem alld_len : ∀ ws : List Nat, (alld ws).length = 32 * ws.length
  | [] => rfl
  | w :: r => by
    have := alld_len r
    simp only [alld, List.map_cons, List.flatten_cons, List.length_append, digs_len, List.length_cons] at this ⊢
    omega
/-- what the law computes is what the bits are -/
theorem due_eq : ∀ (r : List Nat) (k : Nat), (∀ w ∈ r, w < 4294967296) → need k ≤ r.length →
    num (alld (r.take (k / 32)) ++ (if k % 32 = 0 then [] else (digs (r.getD (k / 32) 0) 32).drop (32 - k % 32))) = if k = 0 then 0 else bitsN r k
  | [], k, _, hn => by
    have : k = 0 := by unfold need at hn; simp at hn; omega
    subst this; rfl
  | w :: r, k, hw, hn => by
    have hwb := hw w (List.mem_cons_self ..)
    by_cases h0 : k = 0
    · subst h0
      simp [alld, num]
    rw [if_neg h0]
    simp only [bitsN]
    by_cases h : k < 32
    · rw [if_pos h, show k / 32 = 0 by omega, if_neg (by omega), show k % 32 = k by omega]
      simp only [List.take_zero, List.getD_cons_zero]
      show num ([] ++ (digs w 32).drop (32 - k)) = _
      rw [List.nil_append, num_top (by omega) hwb]
    · rw [if_neg h]
      have ih := due_eq r (k - 32) (fun x hx => hw x (List.mem_cons_of_mem _ hx)) (by unfold need at hn ⊢; simp at hn; omega)
      have e1 : k / 32 = (k - 32) / 32 + 1 := by omega
      have e2 : k % 32 = (k - 32) % 32 := by omega
      rw [e1, e2, List.take_succ_cons, List.getD_cons_succ]
      have e3 : ∀ l, alld (w :: l) = digs w 32 ++ alld l := fun l => by simp [alld]
      rw [e3, List.append_assoc, num_append, num_digs, digs_len, ih, Nat.mod_eq_of_lt hwb]
      by_cases z : k - 32 = 0
      · rw [if_pos z, z, bitsN_zero (fun x hx => hw x (List.mem_cons_of_mem _ hx))]
      · rw [if_neg z]
/-- by Horner's rule -/
def hor (l : List Nat) : Nat := l.foldl (fun a b => 2 * a + b) 0
theorem hor_snoc (l : List Nat) (b : Nat) : hor (l ++ [b]) = 2 * hor l + b := by simp [hor]
theorem hor_rev : ∀ l : List Nat, hor l.reverse = num l
  | [] => rfl
  | b :: l => by rw [List.reverse_cons, hor_snoc, hor_rev l, num]; omega
theorem cut_take (xs : List V) (m : Nat) : cutV xs none (some (m : Int)) = xs.take m := by
  unfold cutV
  rw [HT.sIx_none, HT.sIx_nat, List.drop_zero, Nat.sub_zero]
  by_cases h : m ≤ xs.length
  · rw [Nat.min_eq_left h]
  · rw [Nat.min_eq_right (by omega), List.take_of_length_le (by omega), List.take_of_length_le (by omega)]
theorem cut_drop (xs : List V) (m : Nat) : cutV xs (some (m : Int)) none = xs.drop m := by
  unfold cutV
  rw [HT.sIx_none, HT.sIx_nat]
  by_cases h : m ≤ xs.length
  · rw [Nat.min_eq_left h, List.take_of_length_le (by rw [List.length_drop]; omega)]
  · rw [Nat.min_eq_right (by omega), List.drop_of_length_le (by omega), List.drop_of_length_le (by omega)]; simp
theorem cut_mid (xs : List V) (a b : Nat) : cutV xs (some (a : Int)) (some (b : Int)) = (xs.drop a).take (b - a) := by
  unfold cutV
  rw [HT.sIx_nat, HT.sIx_nat]
  by_cases h : a ≤ xs.length
  · rw [Nat.min_eq_left h]
    by_cases h2 : b ≤ xs.length
    · rw [Nat.min_eq_left h2]
    · rw [Nat.min_eq_right (by omega), List.take_of_length_le (by rw [List.length_drop]; omega), List.take_of_length_le (by rw [List.length_drop]; omega)]
  · rw [Nat.min_eq_right (a := a) (b := xs.length) (by omega), List.drop_of_length_le (i := xs.length) (by omega), List.drop_of_length_le (i := a) (by omega)]; simp
/-- words that hold a number's digits -/
theorem enc_ok : ∀ (r : List Nat) (s N : Nat), r.length = need s → 0 < s → N < 2 ^ s → (∀ j w, r[j]? = some w → w < 4294967296 ∧ w / 2 ^ (32 - min 32 (s - 32 * j)) = N / 2 ^ (32 * j) % 2 ^ min 32 (s - 32 * j)) → bitsN r s = N
  | [], s, N, hl, hs, _, _ => by unfold need at hl; simp at hl; omega
  | w :: r, s, N, hl, hs, hN, h => by
    obtain ⟨hw, h0⟩ := h 0 w rfl
    rw [Nat.mul_zero, Nat.pow_zero, Nat.div_one, Nat.sub_zero] at h0
    simp only [bitsN]
    by_cases c : s < 32
    · rw [if_pos c]
      rw [Nat.min_eq_right (by omega), Nat.mod_eq_of_lt hN] at h0
      exact h0
    · rw [if_neg c]
      rw [Nat.min_eq_left (by omega), Nat.sub_self, Nat.pow_zero, Nat.div_one] at h0
      by_cases z : s = 32
      · subst z
        have : r = [] := by
          have h1 : (w :: r).length = 1 := hl
          rw [List.length_cons] at h1
          exact List.length_eq_zero_iff.mp (by omega)
        subst this
        rw [Nat.mod_eq_of_lt hN] at h0
        simp only [bitsN]
        omega
      · have ih := enc_ok r (s - 32) (N / 2 ^ 32) (by unfold need at hl ⊢; simp at hl; omega) (by omega) (by
          rw [Nat.div_lt_iff_lt_mul (Nat.two_pow_pos 32), ← Nat.pow_add, show s - 32 + 32 = s by omega]; exact hN) (fun j w hj => by
          have := h (j + 1) w (by rw [List.getElem?_cons_succ]; exact hj)
          rw [show s - 32 * (j + 1) = s - 32 - 32 * j by omega, show 32 * (j + 1) = 32 + 32 * j by omega, Nat.pow_add, ← Nat.div_div_eq_div_mul] at this
          exact this)
        rw [ih, h0]
        exact Nat.mod_add_div N (2 ^ 32)
theorem digs_take : ∀ (j s x : Nat), j ≤ s → (digs x s).take j = digs x j
  | 0, s, x, _ => by simp [digs]
  | j + 1, 0, x, h => absurd h (by omega)
  | j + 1, s + 1, x, h => by rw [digs, List.take_succ_cons, digs_take j s (x / 2) (by omega), digs]
/-- a part of the digits -/
theorem digs_mid (x s i : Nat) (h : 32 * i ≤ s) : ((digs x s).drop (32 * i)).take 32 = digs (x / 2 ^ (32 * i)) (min 32 (s - 32 * i)) := by
  rw [digs_drop _ _ _ h]
  by_cases c : s - 32 * i ≤ 32
  · rw [List.take_of_length_le (by rw [digs_len]; omega), Nat.min_eq_right c]
  · rw [digs_take _ _ _ (by omega), Nat.min_eq_left (by omega)]
theorem enc_word {u y l : Nat} (hl : l ≤ 32) : num (digs u (32 - l) ++ digs y l) < 4294967296 ∧ num (digs u (32 - l) ++ digs y l) / 2 ^ (32 - l) = y % 2 ^ l := by
  rw [num_append, num_digs, num_digs, digs_len]
  have h1 : u % 2 ^ (32 - l) < 2 ^ (32 - l) := Nat.mod_lt _ (Nat.two_pow_pos _)
  have h2 : y % 2 ^ l < 2 ^ l := Nat.mod_lt _ (Nat.two_pow_pos _)
  constructor
  · have e : (4294967296 : Nat) = 2 ^ (32 - l) * 2 ^ l := by rw [← Nat.pow_add, show 32 - l + l = 32 by omega]
    rw [e]
    generalize 2 ^ (32 - l) = A at *
    generalize 2 ^ l = B at *
    have : A * (y % B) + A ≤ A * B := by rw [← Nat.mul_succ]; exact Nat.mul_le_mul_left _ h2
    omega
  · rw [Nat.add_mul_div_left _ _ (Nat.two_pow_pos _), Nat.div_eq_of_lt h1, Nat.zero_add]
end Pr

set_option Elab.async false
set_option linter.all false
set_option maxRecDepth 100000
set_option maxHeartbeats 4000000
set_option exponentiation.threshold 3000
namespace Pf
open PySem PySem.Spec PyProof.Rows L2
def top (i : Nat) : Stmt := PySem.Challenge.pw_drawstate_k40_numbers_below.main.body.getD i (.Pass ⟨0, 0, 0, 0⟩)
abbrev s_Exhausted___init__ : Stmt := inClass (top 8) 0
theorem sc_Exhausted___init__ : FnScope ["self", "missing"] ["self", "missing"] (C8.fnScope s_Exhausted___init__) := C8.fnScope_by (by decide +kernel)
abbrev s_is_integer : Stmt := top 13
theorem sc_is_integer : FnScope ["value"] ["value"] (C8.fnScope s_is_integer) := C8.fnScope_by (by decide +kernel)
abbrev s_is_word : Stmt := top 14
theorem sc_is_word : FnScope ["value"] ["value"] (C8.fnScope s_is_word) := C8.fnScope_by (by decide +kernel)
abbrev s_need_source : Stmt := top 22
theorem sc_need_source : FnScope ["source"] ["source"] (C8.fnScope s_need_source) := C8.fnScope_by (by decide +kernel)
abbrev s_is_script : Stmt := top 23
theorem sc_is_script : FnScope ["value", "word"] ["value"] (C8.fnScope s_is_script) := C8.fnScope_by (by decide +kernel)
abbrev s_need_script_state : Stmt := top 24
theorem sc_need_script_state : FnScope ["state"] ["state"] (C8.fnScope s_need_script_state) := C8.fnScope_by (by decide +kernel)
abbrev s_script_after : Stmt := top 25
theorem sc_script_after : FnScope ["script", "place", "steps"] ["script", "place", "steps"] (C8.fnScope s_script_after) := C8.fnScope_by (by decide +kernel)
abbrev s_Scripted___init__ : Stmt := inClass (top 27) 1
theorem sc_Scripted___init__ : FnScope ["self", "script", "place"] ["self", "script", "place"] (C8.fnScope s_Scripted___init__) := C8.fnScope_by (by decide +kernel)
abbrev s_Scripted_next_word : Stmt := inClass (top 27) 2
theorem sc_Scripted_next_word : FnScope ["self", "place"] ["self"] (C8.fnScope s_Scripted_next_word) := C8.fnScope_by (by decide +kernel)
abbrev s_s5_need : Stmt := top 32
theorem sc_s5_need : FnScope ["number", "low", "high"] ["number", "low", "high"] (C8.fnScope s_s5_need) := C8.fnScope_by (by decide +kernel)
abbrev s_s5_digits : Stmt := top 33
theorem sc_s5_digits : FnScope ["number", "many"] ["number"] (C8.fnScope s_s5_digits) := C8.fnScope_by (by decide +kernel)
abbrev s_Draws___init__ : Stmt := inClass (top 34) 1
theorem sc_Draws___init__ : FnScope ["self", "source"] ["self", "source"] (C8.fnScope s_Draws___init__) := C8.fnScope_by (by decide +kernel)
abbrev s_Draws_words_used : Stmt := inClass (top 34) 2
theorem sc_Draws_words_used : FnScope ["self"] ["self"] (C8.fnScope s_Draws_words_used) := C8.fnScope_by (by decide +kernel)
abbrev s_Draws_s5_word : Stmt := inClass (top 34) 4
theorem sc_Draws_s5_word : FnScope ["self", "found"] ["self"] (C8.fnScope s_Draws_s5_word) := C8.fnScope_by (by decide +kernel)
abbrev s_Draws_s5_bits : Stmt := inClass (top 34) 5
theorem sc_Draws_s5_bits : FnScope ["self", "k", "found", "place", "word", "rest"] ["self", "k"] (C8.fnScope s_Draws_s5_bits) := C8.fnScope_by (by decide +kernel)
abbrev s_Draws_s5_below : Stmt := inClass (top 34) 6
theorem sc_Draws_s5_below : FnScope ["self", "n", "k", "found"] ["self", "n"] (C8.fnScope s_Draws_s5_below) := C8.fnScope_by (by decide +kernel)
abbrev s_Draws_below : Stmt := inClass (top 34) 8
theorem sc_Draws_below : FnScope ["self", "n"] ["self", "n"] (C8.fnScope s_Draws_below) := C8.fnScope_by (by decide +kernel)
abbrev s__law_begun : Stmt := top 36
theorem sc__law_begun : FnScope ["_law_script", "_law_whirl", "_law_k", "_law_cell"] ["_law_script"] (C8.fnScope s__law_begun) := C8.fnScope_by (by decide +kernel)
abbrev s__law_next : Stmt := top 37
theorem sc__law_next : FnScope ["_law_draw", "_law_below", "_law_great", "_law_at", "_law_found", "_law_whirl"] ["_law_draw", "_law_below"] (C8.fnScope s__law_next) := C8.fnScope_by (by decide +kernel)
abbrev s__law_pick : Stmt := top 38
theorem sc__law_pick : FnScope ["_law_draw", "_law_items"] ["_law_draw", "_law_items"] (C8.fnScope s__law_pick) := C8.fnScope_by (by decide +kernel)
abbrev s__law_word : Stmt := top 39
theorem sc__law_word : FnScope ["_law_draw", "_law_near"] ["_law_draw"] (C8.fnScope s__law_word) := C8.fnScope_by (by decide +kernel)
abbrev s__law_digits : Stmt := top 40
theorem sc__law_digits : FnScope ["_law_number_here", "_law_size_here", "_law_found", "_law_turn"] ["_law_number_here", "_law_size_here"] (C8.fnScope s__law_digits) := C8.fnScope_by (by decide +kernel)
abbrev s__law_number : Stmt := top 41
theorem sc__law_number : FnScope ["_law_digits_here", "_law_found", "_law_one"] ["_law_digits_here"] (C8.fnScope s__law_number) := C8.fnScope_by (by decide +kernel)
abbrev s__law_size : Stmt := top 42
theorem sc__law_size : FnScope ["_law_number_here", "_law_found"] ["_law_number_here"] (C8.fnScope s__law_size) := C8.fnScope_by (by decide +kernel)
abbrev s__law_row_of : Stmt := top 43
theorem sc__law_row_of : FnScope ["_law_draw", "_law_number_here", "_law_size_here", "_law_digits_here", "_law_found", "_law_at", "_law_part", "_law_rest"] ["_law_draw", "_law_number_here", "_law_size_here"] (C8.fnScope s__law_row_of) := C8.fnScope_by (by decide +kernel)
abbrev s__law_bound : Stmt := top 44
theorem sc__law_bound : FnScope ["_law_draw", "_law_near", "_law_far", "_law_found"] ["_law_draw"] (C8.fnScope s__law_bound) := C8.fnScope_by (by decide +kernel)
abbrev s__law_right : Stmt := top 45
theorem sc__law_right : FnScope ["_law_draw", "_law_bound_here", "_law_size_here", "_law_row", "_law_tries", "_law_due", "_law_many", "_law_turn", "_law_refused", "_law_draws"] ["_law_draw"] (C8.fnScope s__law_right) := C8.fnScope_by (by decide +kernel)
abbrev s__law_ends : Stmt := top 46
theorem sc__law_ends : FnScope ["_law_refused", "_law_bound_here", "_law_draws", "caught"] ["_law_refused", "_law_bound_here"] (C8.fnScope s__law_ends) := C8.fnScope_by (by decide +kernel)
abbrev s_law : Stmt := top 47
theorem sc_law : FnScope ["_law_script", "_law_draw", "_law_turn", "_law_draws"] ["_law_script"] (C8.fnScope s_law) := C8.fnScope_by (by decide +kernel)
structure Txt (K : PySem.W.Frag) (mg : Str → Option Value) (C_Source C_Scripted C_Draws C_Shortage C_Exhausted : Addr) : Prop where
  d_Exhausted___init__ : ∃ f fd, PySem.W.findIn K (.ref C_Exhausted) "__init__" = some (some (.ref f)) ∧ PySem.W.typeIn K (.ref f) = some (.type "function") ∧ C8.Fun K "__init__" "Exhausted.__init__" s_Exhausted___init__ f fd ∧ Binds K fd ["self", "missing"] []
  d_is_integer : ∃ f fd, C8.Def K mg "is_integer" s_is_integer f fd ∧ Binds K fd ["value"] []
  d_is_word : ∃ f fd, C8.Def K mg "is_word" s_is_word f fd ∧ Binds K fd ["value"] []
  d_need_source : ∃ f fd, C8.Def K mg "need_source" s_need_source f fd ∧ Binds K fd ["source"] []
  d_is_script : ∃ f fd, C8.Def K mg "is_script" s_is_script f fd ∧ Binds K fd ["value"] []
  d_need_script_state : ∃ f fd, C8.Def K mg "need_script_state" s_need_script_state f fd ∧ Binds K fd ["state"] []
  d_script_after : ∃ f fd, C8.Def K mg "script_after" s_script_after f fd ∧ Binds K fd ["script", "place", "steps"] []
  d_Scripted___init__ : ∃ f fd, Mk K C_Scripted f ∧ C8.Fun K "__init__" "Scripted.__init__" s_Scripted___init__ f fd ∧ Binds K fd ["self", "script", "place"] [] ∧ ∃ ds, Vals [.int 0] ds ∧ Binds K fd ["self", "script", "place"] ds
  d_Scripted_next_word : ∃ f fd, Meth K C_Scripted "next_word" f ∧ C8.Fun K "next_word" "Scripted.next_word" s_Scripted_next_word f fd ∧ Binds K fd ["self"] []
  d_s5_need : ∃ f fd, C8.Def K mg "s5_need" s_s5_need f fd ∧ Binds K fd ["number", "low", "high"] []
  d_s5_digits : ∃ f fd, C8.Def K mg "s5_digits" s_s5_digits f fd ∧ Binds K fd ["number"] []
  d_Draws___init__ : ∃ f fd, Mk K C_Draws f ∧ C8.Fun K "__init__" "Draws.__init__" s_Draws___init__ f fd ∧ Binds K fd ["self", "source"] []
  d_Draws_words_used : ∃ p f fd, PropOf K C_Draws "words_used" p f ∧ C8.Fun K "words_used" "Draws.words_used" s_Draws_words_used f fd ∧ Binds K fd ["self"] []
  d_Draws_s5_word : ∃ f fd, Meth K C_Draws "s5_word" f ∧ C8.Fun K "s5_word" "Draws.s5_word" s_Draws_s5_word f fd ∧ Binds K fd ["self"] []
  d_Draws_s5_bits : ∃ f fd, Meth K C_Draws "s5_bits" f ∧ C8.Fun K "s5_bits" "Draws.s5_bits" s_Draws_s5_bits f fd ∧ Binds K fd ["self", "k"] []
  d_Draws_s5_below : ∃ f fd, Meth K C_Draws "s5_below" f ∧ C8.Fun K "s5_below" "Draws.s5_below" s_Draws_s5_below f fd ∧ Binds K fd ["self", "n"] []
  d_Draws_below : ∃ f fd, Meth K C_Draws "below" f ∧ C8.Fun K "below" "Draws.below" s_Draws_below f fd ∧ Binds K fd ["self", "n"] []
  d__law_begun : ∃ f fd, C8.Def K mg "_law_begun" s__law_begun f fd ∧ Binds K fd ["_law_script"] []
  d__law_next : ∃ f fd, C8.Def K mg "_law_next" s__law_next f fd ∧ Binds K fd ["_law_draw", "_law_below"] []
  d__law_pick : ∃ f fd, C8.Def K mg "_law_pick" s__law_pick f fd ∧ Binds K fd ["_law_draw", "_law_items"] []
  d__law_word : ∃ f fd, C8.Def K mg "_law_word" s__law_word f fd ∧ Binds K fd ["_law_draw"] []
  d__law_digits : ∃ f fd, C8.Def K mg "_law_digits" s__law_digits f fd ∧ Binds K fd ["_law_number_here", "_law_size_here"] []
  d__law_number : ∃ f fd, C8.Def K mg "_law_number" s__law_number f fd ∧ Binds K fd ["_law_digits_here"] []
  d__law_size : ∃ f fd, C8.Def K mg "_law_size" s__law_size f fd ∧ Binds K fd ["_law_number_here"] []
  d__law_row_of : ∃ f fd, C8.Def K mg "_law_row_of" s__law_row_of f fd ∧ Binds K fd ["_law_draw", "_law_number_here", "_law_size_here"] []
  d__law_bound : ∃ f fd, C8.Def K mg "_law_bound" s__law_bound f fd ∧ Binds K fd ["_law_draw"] []
  d__law_right : ∃ f fd, C8.Def K mg "_law_right" s__law_right f fd ∧ Binds K fd ["_law_draw"] []
  d__law_ends : ∃ f fd, C8.Def K mg "_law_ends" s__law_ends f fd ∧ Binds K fd ["_law_refused", "_law_bound_here"] []
  d_law : ∃ f fd, C8.Def K mg "law" s_law f fd ∧ Binds K fd ["_law_script"] [] ∧ ∀ (s : Shared) (v : Value), BindsTo s fd ⟨[v], []⟩ [("_law_script", v)]
  c_WORDS : ∃ u, mg "WORDS" = some u ∧ RelV (.int 4294967296) u
  c_MOST_SCRIPT : ∃ u, mg "MOST_SCRIPT" = some u ∧ RelV (.int 10000) u
  c_WORD_BITS : ∃ u, mg "WORD_BITS" = some u ∧ RelV (.int 32) u
  c_MOST_BOUND : ∃ u, mg "MOST_BOUND" = some u ∧ RelV (.int 115792089237316195423570985008687907853269984665640564039457584007913129639936) u
  k_Source : ∃ u, mg "Source" = some u ∧ RelV (.ref C_Source) u
  cl_Source : Cls K C_Source
  is_Source : C8.InsC K C_Source
  k_Scripted : ∃ u, mg "Scripted" = some u ∧ RelV (.ref C_Scripted) u
  cl_Scripted : Cls K C_Scripted
  is_Scripted : C8.InsC K C_Scripted
  n_Scripted_s1_script : NoAttr K C_Scripted "s1_script"
  n_Scripted_s1_place : NoAttr K C_Scripted "s1_place"
  k_Draws : ∃ u, mg "Draws" = some u ∧ RelV (.ref C_Draws) u
  cl_Draws : Cls K C_Draws
  is_Draws : C8.InsC K C_Draws
  n_Draws_s5_source : NoAttr K C_Draws "s5_source"
  n_Draws_s5_used : NoAttr K C_Draws "s5_used"
  o_Source_Scripted : PySem.W.kitOne K (.ref C_Source) (.ref C_Scripted) = some false
  o_Source_Draws : PySem.W.kitOne K (.ref C_Source) (.ref C_Draws) = some false
  o_Scripted_Source : PySem.W.kitOne K (.ref C_Scripted) (.ref C_Source) = some true
  o_Scripted_Draws : PySem.W.kitOne K (.ref C_Scripted) (.ref C_Draws) = some false
  o_Draws_Source : PySem.W.kitOne K (.ref C_Draws) (.ref C_Source) = some false
  o_Draws_Scripted : PySem.W.kitOne K (.ref C_Draws) (.ref C_Scripted) = some false
  v_Scripted_KIND : Gx.IVal K C_Scripted "KIND" (.str "script")
  v_Draws_KIND : Gx.IVal K C_Draws "KIND" (.str "plain")
  k_Shortage : ∃ u, mg "Shortage" = some u ∧ RelV (.ref C_Shortage) u
  g_Shortage : mg "Shortage" = some (.ref C_Shortage)
  r_Shortage : ClX.CRead K C_Shortage (.type "type")
  i_Shortage : PySem.W.findCls K (.ref C_Shortage) (.type "type") "__init__" = some (.val (.builtin "LookupError.__init__"))
  k_Exhausted : ∃ u, mg "Exhausted" = some u ∧ RelV (.ref C_Exhausted) u
  g_Exhausted : mg "Exhausted" = some (.ref C_Exhausted)
  y_Exhausted : Gx.YexC K C_Exhausted "LookupError.__init__"
  f_Exhausted : XfC K C_Exhausted
  n_Exhausted_missing : PySem.W.findIn K (.ref C_Exhausted) "missing" = some none
  t_Exhausted_missing : PySem.W.takerIn K C_Exhausted "missing" = some none
  m_Exhausted : PySem.W.exmOne K (.ref C_Exhausted) (.ref C_Exhausted) = some true
  b_all : mg "all" = none
  b_bool : mg "bool" = none
  b_enumerate : mg "enumerate" = none
  b_int : mg "int" = none
  b_isinstance : mg "isinstance" = none
  b_len : mg "len" = none
  b_max : mg "max" = none
  b_min : mg "min" = none
  b_range : mg "range" = none
  b_tuple : mg "tuple" = none
section
variable {P : Program} {w : World} {K : PySem.W.Frag} {mg : Str → Option Value} {base : Heap} {C_Source C_Scripted C_Draws C_Shortage C_Exhausted : Addr}
local macro_rules | `(tactic| walk_at "side") => `(tactic| first | ((with_reducible show L2.CMul _ _); first | exact Or.inl ⟨by omega, by omega⟩ | exact Or.inr ⟨by omega, by omega⟩) | ((with_reducible show L2.CPow _ _); exact ⟨by decide, by decide, by decide⟩) | ((with_reducible show L2.CMulW _ _); exact wide_mul (a := 96) (b := 96) (by omega) (by omega) (by decide) (by decide) (by decide)) | ((with_reducible show L2.CDivW _ _); first | exact wide_div (b := 96) (by omega) (by omega) (by decide) (by decide) | exact wide_div (b := 300) (by omega) (by omega) (by decide) (by decide)) | (show (0 : Int) < _; omega) | (show (0 : Int) ≤ _; omega))
local macro_rules | `(tactic| walk_at "rd1") => `(tactic| first | with_reducible refine Rd.seq ?_ | with_reducible refine Rd.asg ?_ | with_reducible refine Rd.nm ?_ | with_reducible refine Rd.ret ?_ | with_reducible refine Rd.drop ?_ | with_reducible refine Rd.ifs ?_ | with_reducible refine Rd.par ?_ | with_reducible refine Rd.par3 ?_ | with_reducible refine Rd.next ?_ | with_reducible refine Rd.fr1 ?_ | with_reducible refine Rd.nxp ?_ | with_reducible refine Rd.rtp ?_ | ((with_reducible show tVar _ _ _ _); refine Rd.var rfl ?_) | with_reducible refine Rd.cst ?_ | with_reducible refine Rd.op ?_ | with_reducible refine Rd.un ?_ | with_reducible refine Rd.i0 ?_ | with_reducible refine Rd.ung ?_ | with_reducible refine Rd.eqI ?_ | with_reducible refine Rd.neI ?_ | with_reducible refine Rd.eqS ?_ | with_reducible refine Rd.neS ?_ | with_reducible refine Rd.test ?_ | with_reducible refine Rd.tstB ?_ | with_reducible refine Rd.isB ?_ | with_reducible refine Rd.not ?_ | with_reducible refine Rd.andT ?_ | with_reducible refine Rd.orT ?_ | with_reducible refine Rd.andV ?_ | with_reducible refine Rd.orV ?_ | with_reducible refine Rd.notV ?_ | with_reducible refine Rd.ifE ?_ | with_reducible refine Rd.chain ?_ | with_reducible refine Rd.nil ?_ | with_reducible refine Rd.cons ?_ | with_reducible refine Rd.call ?_ | with_reducible refine Rd.cb ?_ | with_reducible refine Rd.bm ?_ | with_reducible refine Au.revL ?_ | with_reducible refine Rd.frl ?_ | with_reducible refine Rd.frt ?_ | with_reducible refine Rd.fre ?_ | with_reducible refine Rd.disp ?_ | with_reducible refine Rd.pnil ?_ | with_reducible refine Rd.pcons ?_ | with_reducible refine Rd.gcons ?_ | with_reducible refine Rd.gnil ?_ | with_reducible refine Rd.gsub ?_ | with_reducible refine Rd.setD ?_ | ((with_reducible show gTup _ _ _ _ _ (upd _ _ (HO.tup _)) _); refine Rd.tupNew rfl ?_) | with_reducible refine Rd.fld ?_ | with_reducible refine Rd.meth ?_ | with_reducible refine Rd.make ?_ | with_reducible refine Rd.prop ?_ | with_reducible refine Au.tup ?_ | with_reducible refine Au.lst ?_ | ((with_reducible refine Au.lenOk ?hl ?_); (case hl => exact rfl)) | with_reducible refine Au.nopart ?_ | with_reducible refine Au.part ?_ | with_reducible refine Au.isI ?_ | with_reducible refine Au.sl ?_ | with_reducible refine Au.pr2 ?_ | with_reducible refine Au.pr3 ?_ | with_reducible refine Au.eqB ?_ | with_reducible refine Rd.isInt ?_ | with_reducible refine Rd.isBool ?_ | with_reducible refine Rd.mx2 ?_ | with_reducible refine Rd.mn2 ?_ | ((with_reducible show Rd.rAndM _ _ _ _); first | refine Rd.and1 ?_ | refine Rd.and48 ?_ | refine Rd.and32 ?_ | refine Rd.and64 ?_ | refine Rd.and65 ?_) | ((with_reducible refine Rd.iC ?hc ?_); (case hc => walk_at "side")) | ((with_reducible refine Rd.yes ?hc ?_); (case hc => first | omega | exact rfl)) | ((with_reducible refine Rd.no ?hc ?_); (case hc => omega)) | ((with_reducible refine Rd.noN ?hc ?_); (case hc => first | omega | exact rfl)) | ((with_reducible refine Rd.yesN ?hc ?_); (case hc => omega)) | ((with_reducible refine Rd.yesNN ?hc ?_); (case hc => omega)) | ((with_reducible refine Rd.noNN ?hc ?_); (case hc => omega)) | with_reducible refine iteT ?_ | with_reducible refine iteF ?_ | with_reducible refine Rd.iteNT ?_ | with_reducible refine Rd.iteNF ?_)
local macro_rules | `(tactic| walk_at "rd") => `(tactic| repeat (walk_at "rd1"))
local macro_rules | `(tactic| walk_at "hp") => `(tactic| first | assumption | (apply Au.sm; (focus assumption); (walk_at "hp")) | (apply Au.smp; (focus assumption); (focus (walk_at "hp")); (walk_at "ne")) | (apply Au.smn; (focus assumption); (focus (walk_at "hp")); (focus (intro _ z; cases z; done))) | fail "hp")
local macro_rules | `(tactic| walk_at "ne") => `(tactic| first | assumption | (apply Ne.symm; assumption) | (apply Au.nen; (focus assumption); (walk_at "hp")) | (apply Au.nen'; (focus assumption); (walk_at "hp")) | (apply Au.nek; (focus assumption); (focus assumption); (intro z; cases z; done)) | (apply Au.nek2; (focus assumption); (focus (walk_at "hp")); (intro z; cases z; done)) | fail "ne")
local macro_rules | `(tactic| walk_at "dp") => `(tactic| first | exact Dp.int _ | exact Dp.str _ | exact Dp.bl _ | exact Dp.non | (apply Dp.lst; (focus (apply Rd.sql; walk_at "hp")); (walk_at "dps")) | (apply Dp.tup; (focus (apply Rd.sqt; walk_at "hp")); (walk_at "dps")) | fail "dp")
local macro_rules | `(tactic| walk_at "dps") => `(tactic| first | exact DpAll.nil | (apply DpAll.cons; (focus (walk_at "dp")); (walk_at "dps")) | fail "dps")
local macro_rules | `(tactic| walk_at "shp") => `(tactic| ((simp only [SeqAt.shaped, PyData.canLay0, PyData.canLayAll0, PyData.depth, PyData.depthAll]) <;> first | decide | rfl))
local macro_rules | `(tactic| walk_at "sd") => `(tactic| first | assumption | rfl | omega | (walk_at "hp") | (refine ⟨?_, ?_⟩; (focus (walk_at "sd")); (walk_at "sd")) | fail "sd")
local macro_rules | `(tactic| walk_at "lk") => `(tactic| first | exact Rd.lk1 | rfl | decide +kernel)
local macro_rules | `(tactic| walk_at "rd1") => `(tactic| first | with_reducible refine Pr.dget ?_ | with_reducible refine Pr.dput ?_ | with_reducible refine Pr.sfld ?_ | with_reducible refine Pr.u_isInt ?_ | ((with_reducible show Pr.spNeed _ _ _ _ _ _); refine Pr.u_need (by omega) (by omega) ?_) | ((with_reducible show Pr.spIs _ _ _ _ _ _); refine Pr.u_isIn (by omega) ?_) | ((with_reducible apply Rd.fld1); (focus (walk_at "hp")); (focus assumption); (focus assumption); (focus (walk_at "lk"))) | ((with_reducible apply Au.methO); (focus (walk_at "hp")); (focus (walk_at "lk"))) | ((with_reducible apply Au.propO); (focus (walk_at "hp"))) | ((with_reducible show rIxT _ (V.ref _) (V.int _) _ _); refine Rd.ixT (Rd.sqt (by walk_at "hp")) rfl ?_) | ((with_reducible show rIxL _ (V.ref _) (V.int _) _ _); refine Rd.ixL (Rd.sql (by walk_at "hp")) rfl ?_) | ((with_reducible show Rd.rLenQ _ [V.ref _] _ _); first | refine Rd.lenL (Rd.sql (by walk_at "hp")) ?_ | refine Rd.lenT (Rd.sqt (by walk_at "hp")) ?_) | ((with_reducible show gTup _ _ _ (V.ref _) _ _ _); refine Rd.gtup (Rd.sqt (by walk_at "hp")) rfl ?_) | with_reducible refine Gx.gat ?_ | with_reducible refine Gx.gnx ?_ | with_reducible refine Gx.gthen ?_ | with_reducible refine Gx.gplain ?_ | with_reducible refine Gx.gfr ?_ | with_reducible refine Gx.lg ?_ | with_reducible refine Gx.mg ?_ | with_reducible refine Gx.sme ?_ | with_reducible refine Gx.callSD ?_ | with_reducible refine Gx.methSD ?_)
local macro_rules | `(tactic| walk_at "rd1") => `(tactic| first | with_reducible refine Gx.mkR ?_ | with_reducible refine Gx.fr3 ?_ | with_reducible refine Gx.makeD ?_ | with_reducible refine Gx.frz ?_ | with_reducible refine Gx.lcO ?_ | with_reducible refine Gx.itupO ?_ | with_reducible refine Gx.ilistO ?_ | with_reducible refine Gx.irng1O ?_ | with_reducible refine Gx.ival ?_ | ((with_reducible apply Gx.ivalO); (focus (walk_at "hp")); (focus assumption); (focus assumption); (focus (walk_at "lk"))) | ((with_reducible show Gx.rTupOf _ [V.ref _] _ _); refine Gx.tupOfL (Rd.sql (by walk_at "hp")) ?_) | ((with_reducible show Gx.rLstOf _ [V.ref _] _ _); first | refine Gx.lstOfL (Rd.sql (by walk_at "hp")) ?_ | refine Gx.lstOfT (Rd.sqt (by walk_at "hp")) ?_))
local macro_rules | `(tactic| walk_at "hp") => `(tactic| first | assumption | (apply Pr.smq; (focus assumption); (focus (walk_at "hp")); (focus (walk_at "ne")); (walk_at "ne")))
theorem isiB {K : PySem.W.Frag} {H : Hp} {Q : VK} {v : V} {t : String} {T : Value} {r : Bool} (h : TyX K H v T) (k : PySem.W.kitOne K T (.type t) = some r) (q : Q (.bl r) H) : rIsi K [v, .ty t] H Q := ⟨_, _, T, _, r, rfl, .ty _, h, k, q⟩
theorem cal_is_integer (T : Txt K mg C_Source C_Scripted C_Draws C_Shortage C_Exhausted) : C8.Cal P w K mg base 1 "is_integer" (Pr.spIsInt) [] := by
  obtain ⟨f, fd, F, b⟩ := T.d_is_integer
  refine C8.cal0 F b .nil sc_is_integer (fun vs H Q E h => ?_) (fun cdv A outer s H vs Q E hr h => ?_)
  · obtain ⟨v, rfl, _⟩ := h; rfl
  · obtain ⟨v, rfl, h⟩ := h
    have hu := hu_of hr
    have hu64 := hr.units
    have cl_Source := T.cl_Source
    have cl_Scripted := T.cl_Scripted
    have n_Scripted_s1_script := T.n_Scripted_s1_script
    have n_Scripted_s1_place := T.n_Scripted_s1_place
    have v_Scripted_KIND := T.v_Scripted_KIND
    have cl_Draws := T.cl_Draws
    have n_Draws_s5_source := T.n_Draws_s5_source
    have n_Draws_s5_used := T.n_Draws_s5_used
    have v_Draws_KIND := T.v_Draws_KIND
    refine ⟨_, (pss_one (ps_ret (pe_and (pe_callB call_isi (by rfl) T.b_isinstance (by decide +kernel) (pa_cons (pv 0) (pa_cons (pe_bltn (v := .ty "int") (by rfl) T.b_int (by decide +kernel) rfl) pa_nil))) (pe_one (pe_not (pe_callB call_isi (by rfl) T.b_isinstance (by decide +kernel) (pa_cons (pv 0) (pa_cons (pe_bltn (v := .ty "bool") (by rfl) T.b_bool (by decide +kernel) rfl) pa_nil)))))))), ?_⟩
    walk_at "rd"
    obtain ⟨k1, k2, k3, k4, k5, k6, k7⟩ := Pr.kit_t K
    rcases h with ⟨n, rfl, q⟩ | ⟨h, q⟩
    · walk_at "rd"
      exact q
    · rcases h with rfl | ⟨b, rfl⟩ | ⟨s, rfl⟩ | ⟨a, xs, rfl, ha⟩ | ⟨a, xs, rfl, ha⟩ | ⟨a, xs, rfl, ha⟩
      · refine isiB (.base .non) k1 ?_
        walk_at "rd"
        exact q
      · refine isiB (.base (.bl b)) k2 ?_
        walk_at "rd"
        refine isiB (.base (.bl b)) k3 ?_
        walk_at "rd"
        exact q
      · refine isiB (.base (.str s)) k4 ?_
        walk_at "rd"
        exact q
      · refine isiB (.base (.tup ha)) k5 ?_
        walk_at "rd"
        exact q
      · refine isiB (.base (.lst ha)) k6 ?_
        walk_at "rd"
        exact q
      · refine isiB (.base (.dK ha)) k7 ?_
        walk_at "rd"
        exact q
theorem cal_is_word (T : Txt K mg C_Source C_Scripted C_Draws C_Shortage C_Exhausted) : C8.Cal P w K mg base 2 "is_word" (Pr.spIs 0 4294967295) [] := by
  obtain ⟨f, fd, F, b⟩ := T.d_is_word
  refine C8.cal0 F b .nil sc_is_word (fun vs H Q E h => ?_) (fun cdv A outer s H vs Q E hr h => ?_)
  · obtain ⟨v, rfl, _⟩ := h; rfl
  · obtain ⟨v, rfl, h⟩ := h
    have hu := hu_of hr
    have hu64 := hr.units
    have cl_Source := T.cl_Source
    have cl_Scripted := T.cl_Scripted
    have n_Scripted_s1_script := T.n_Scripted_s1_script
    have n_Scripted_s1_place := T.n_Scripted_s1_place
    have v_Scripted_KIND := T.v_Scripted_KIND
    have cl_Draws := T.cl_Draws
    have n_Draws_s5_source := T.n_Draws_s5_source
    have n_Draws_s5_used := T.n_Draws_s5_used
    have v_Draws_KIND := T.v_Draws_KIND
    refine ⟨_, (pss_one (ps_ret (pe_and (C8.pe_c (cal_is_integer T) hr (by omega) (by rfl) (pa_cons (pv 0) pa_nil)) (pe_one (pe_chain op_le op_lt pe_int (pv 0) (C8.pe_gc (by rfl) T.c_WORDS)))))), ?_⟩
    walk_at "rd"
    rcases h with ⟨n, rfl, q⟩ | ⟨h, q⟩
    · walk_at "rd"
      refine Rd.both (fun c => ?_) (fun c => ?_)
      · walk_at "rd"
        rw [show decide (n < 4294967296) = decide (0 ≤ n ∧ n ≤ 4294967295) from by rw [decide_eq_decide]; omega]
        exact q
      · walk_at "rd"
        rw [decide_eq_false (fun h => c h.1)] at q
        exact q
    · refine Pr.u_isNon h ?_
      walk_at "rd"
      exact q
theorem exc_Exhausted (T : Txt K mg C_Source C_Scripted C_Draws C_Shortage C_Exhausted) : Gx.ExcMkY P w K mg base 7 "Exhausted" C_Exhausted "missing" := by
  obtain ⟨f, fd, hi, ht, F, b⟩ := T.d_Exhausted___init__
  refine ⟨f, fd, _, _, T.y_Exhausted, hi, ht, C8.fn0 F sc_Exhausted___init__ (fun vs H Q E h => ?_) (fun cdv A outer s H vs Q E hr h => ?_), b, T.g_Exhausted⟩
  · obtain ⟨p, v, rfl, _⟩ := h; rfl
  · obtain ⟨p, v, rfl, hp, q⟩ := h
    refine ⟨_, (pss_cons (ps_expr (Gx.pe_bi (by rfl) T.g_Shortage T.r_Shortage T.i_Shortage (by decide +kernel) (pa_cons (pv 0) (pa_cons pe_str pa_nil))))
      (pss_one (Gx.ps_ostY (initId := "LookupError.__init__") (pv 0) (pv 1)))), ?_⟩
    walk_at "rd"
    exact ⟨_, rfl, p, C_Exhausted, [.str "words are missing"], rfl, Nat.le_of_ble_eq_true rfl, T.y_Exhausted, hp, _, rfl, _, rfl, p, C_Exhausted, rfl, T.y_Exhausted, T.t_Exhausted_missing, hp, q⟩
theorem all_true {n : Nat} {bs : List Bool} (h : bs = List.replicate n true) : bs.all id = true := by
  subst h
  simp
theorem cal_is_script (T : Txt K mg C_Source C_Scripted C_Draws C_Shortage C_Exhausted) : C8.Cal P w K mg base 3 "is_script" (Pr.spScript K) [] := by
  obtain ⟨f, fd, F, b⟩ := T.d_is_script
  refine C8.cal0 F b .nil sc_is_script (fun vs H Q E h => ?_) (fun cdv A outer s H vs Q E hr h => ?_)
  · obtain ⟨a, ws, rfl, _⟩ := h; rfl
  · obtain ⟨a, ws, rfl, ⟨ha, hl, hw⟩, q⟩ := h
    have hu := hu_of hr
    have hu64 := hr.units
    have cl_Source := T.cl_Source
    have cl_Scripted := T.cl_Scripted
    have n_Scripted_s1_script := T.n_Scripted_s1_script
    have n_Scripted_s1_place := T.n_Scripted_s1_place
    have v_Scripted_KIND := T.v_Scripted_KIND
    have cl_Draws := T.cl_Draws
    have n_Draws_s5_source := T.n_Draws_s5_source
    have n_Draws_s5_used := T.n_Draws_s5_used
    have v_Draws_KIND := T.v_Draws_KIND
    refine ⟨_, (pss_one (ps_ret (pe_and (pe_callB call_isi (by rfl) T.b_isinstance (by decide +kernel) (pa_cons (pv 0) (pa_cons (pe_bltn (v := .ty "tuple") (by rfl) T.b_tuple (by decide +kernel) rfl) pa_nil))) (pe_and (pe_cmpR op_le (pe_callB Rd.call_lenQ (by rfl) T.b_len PySem.boot_len (pa_cons (pv 0) pa_nil)) (C8.pe_gc (by rfl) T.c_MOST_SCRIPT) (nomark _)) (pe_one (pe_callB (cr_all rfl) (by rfl) T.b_all (by decide +kernel) (pa_cons (pe_lc (own := [("word", 1)]) rfl sc_is_script.nd (pi_tup (pv 0)) (blkOk_by (N := ["value", "word"]) (sc := C8.fnScope s_is_script) (by decide +kernel)) (fun _ _ _ _ _ => (pg_name (i := 1) sc_is_script.nd rfl (.inl rfl))) (fun _ _ _ _ _ => pts_nil) (fun _ _ _ _ _ => (C8.pe_c (cal_is_word T) hr (by omega) (by rfl) (pa_cons (pv 1) pa_nil)))) pa_nil))))))), ?_⟩
    walk_at "rd"
    refine Gx.isTup ha ?_
    have hl2 : ((Pr.words ws).length : Int) ≤ 10000 := by rw [List.length_map]; omega
    walk_at "rd"
    refine ⟨a, rfl, ⟨_, Rd.sqt ha⟩, Gx.lcTup (xs := Pr.words ws) (fun D k acc H' => acc = List.replicate k (.bl true) ∧ Rd.Ex H H') (by rw [List.length_map]; omega) (fun D H1 hD e1 k1 => ⟨rfl, e1⟩) (fun D k acc H' hD p => Rd.ex_t p.2 (Rd.sqt ha)) (fun D k x acc H' hD hx hl3 hk p => ?_) (fun D acc H' hD hk p => ?_)⟩
    · obtain ⟨rfl, e1⟩ := p
      rw [List.getElem?_map] at hx
      obtain ⟨w, hw1, rfl⟩ := Option.map_eq_some_iff.mp hx
      have hb := hw w (List.mem_of_getElem? hw1)
      have hk1 := (List.getElem?_eq_some_iff.mp hw1).1
      walk_at "rd"
      refine Gx.lcN hk hl3 (by omega) fun H5 m5 k5 => ⟨by rw [List.replicate_succ'], fun c o h => by walk_at "hp"⟩
    · obtain ⟨rfl, e1⟩ := p
      walk_at "rd"
      refine Gx.allL (bs := List.replicate (Pr.words ws).length true) (Rd.sql (by rw [List.map_replicate]; exact hk)) ?_
      rw [all_true rfl]
      exact q H' e1
theorem cal_need_script_state (T : Txt K mg C_Source C_Scripted C_Draws C_Shortage C_Exhausted) : C8.Cal P w K mg base 4 "need_script_state" (Pr.spNeedSt K) [] := by
  obtain ⟨f, fd, F, b⟩ := T.d_need_script_state
  refine C8.cal0 F b .nil sc_need_script_state (fun vs H Q E h => ?_) (fun cdv A outer s H vs Q E hr h => ?_)
  · obtain ⟨t, a, ws, pl, rfl, _⟩ := h; rfl
  · obtain ⟨t, a, ws, pl, rfl, ⟨ht, ha, hl, hw, hp⟩, q⟩ := h
    have hu := hu_of hr
    have hu64 := hr.units
    have cl_Source := T.cl_Source
    have cl_Scripted := T.cl_Scripted
    have n_Scripted_s1_script := T.n_Scripted_s1_script
    have n_Scripted_s1_place := T.n_Scripted_s1_place
    have v_Scripted_KIND := T.v_Scripted_KIND
    have cl_Draws := T.cl_Draws
    have n_Draws_s5_source := T.n_Draws_s5_source
    have n_Draws_s5_used := T.n_Draws_s5_used
    have v_Draws_KIND := T.v_Draws_KIND
    refine ⟨_, (pss_cons (ps_if (PW.pt (pw_or (pt_not (pt_val (pe_callB call_isi (by rfl) T.b_isinstance (by decide +kernel) (pa_cons (pv 0) (pa_cons (pe_bltn (v := .ty "tuple") (by rfl) T.b_tuple (by decide +kernel) rfl) pa_nil))))) (pw_or (pt_cmpR op_ne (pe_callB Rd.call_lenQ (by rfl) T.b_len PySem.boot_len (pa_cons (pv 0) pa_nil)) pe_int (nomark _)) (pw_or (pt_not (pt_val (C8.pe_c (cal_is_script T) hr (by omega) (by rfl) (pa_cons (pe_ix ix_tup (pv 0) pe_int (fun _ _ => rfl)) pa_nil)))) (pw_or1 (pt_not (pt_val (C8.pe_c (cal_is_integer T) hr (by omega) (by rfl) (pa_cons (pe_ix ix_tup (pv 0) pe_int (fun _ _ => rfl)) pa_nil))))))))) pss_never pss_nil)
      (pss_one (ps_if (pt_not (pt_chain op_le op_le pe_int (pe_ix ix_tup (pv 0) pe_int (fun _ _ => rfl)) (pe_callB Rd.call_lenQ (by rfl) T.b_len PySem.boot_len (pa_cons (pe_ix ix_tup (pv 0) pe_int (fun _ _ => rfl)) pa_nil)))) pss_never pss_nil))), ?_⟩
    walk_at "rd"
    refine Gx.isTup ht ?_
    have hl2 : ((Pr.words ws).length : Int) = ws.length := by rw [List.length_map]
    walk_at "rd"
    refine Pr.u_script ⟨ha, hl, hw⟩ fun H1 e1 => ?_
    walk_at "rd"
    exact q H1 e1
theorem mkk_Scripted (T : Txt K mg C_Source C_Scripted C_Draws C_Shortage C_Exhausted) : C8.Mak P w K mg base 5 "Scripted" C_Scripted (Pr.spInitS C_Scripted) [] ∧ C8.Mak P w K mg base 5 "Scripted" C_Scripted (Pr.spInitS C_Scripted) [.int 0] := by
  obtain ⟨f, fd, M, F, b, ds, hv, hb⟩ := T.d_Scripted___init__
  obtain ⟨u, hu1, hu2⟩ := T.k_Scripted
  cases hu2
  suffices fn : FnOk P w K mg base C8.CX0 5 f fd ["self", "script", "place"] (Pr.spInitS C_Scripted) from ⟨⟨f, fd, _, [], M, fn, hu1, b, .nil⟩, ⟨f, fd, _, ds, M, fn, hu1, hb, hv⟩⟩
  refine C8.fn0 F sc_Scripted___init__ (fun vs H Q E h => ?_) (fun cdv A outer s H vs Q E hr h => ?_)
  · obtain ⟨p, dx, a, ws, pl, rfl, _⟩ := h; rfl
  · obtain ⟨p, dx, a, ws, pl, rfl, ⟨ha, hl, hw, hpl⟩, hp, q⟩ := h
    have hu := hu_of hr
    have hu64 := hr.units
    have cl_Source := T.cl_Source
    have cl_Scripted := T.cl_Scripted
    have n_Scripted_s1_script := T.n_Scripted_s1_script
    have n_Scripted_s1_place := T.n_Scripted_s1_place
    have v_Scripted_KIND := T.v_Scripted_KIND
    have cl_Draws := T.cl_Draws
    have n_Draws_s5_source := T.n_Draws_s5_source
    have n_Draws_s5_used := T.n_Draws_s5_used
    have v_Draws_KIND := T.v_Draws_KIND
    refine ⟨_, (pss_cons (ps_if (pt_not (pt_val (C8.pe_c (cal_is_script T) hr (by omega) (by rfl) (pa_cons (pv 1) pa_nil)))) pss_never pss_nil)
      (pss_cons (ps_expr (C8.pe_c (cal_need_script_state T) hr (by omega) (by rfl) (pa_cons (pe_tup (pa_cons (pv 1) (pa_cons (pv 2) pa_nil))) pa_nil)))
      (pss_cons (ps_fld (pv 0) (pv 1) rfl)
      (pss_one (ps_fld (pv 0) (pv 2) rfl))))), ?_⟩
    walk_at "rd"
    refine Pr.u_script ⟨ha, hl, hw⟩ fun H1 e1 => ?_
    walk_at "rd"
    refine Au.new fun t H2 ht e2 k2 => ?_
    walk_at "rd"
    refine ⟨t, a, ws, pl, rfl, ⟨k2, by walk_at "hp", hl, hw, hpl⟩, fun H3 e3 => ?_⟩
    walk_at "rd"
    refine Pr.stF (by walk_at "hp") cl_Scripted n_Scripted_s1_script rfl rfl fun H4 m4 k4 => ?_
    walk_at "rd"
    refine Pr.stF k4 cl_Scripted n_Scripted_s1_place rfl rfl fun H5 m5 k5 => ?_
    exact q H5 (fun c o h n => by walk_at "hp") k5
theorem calx_script_after (T : Txt K mg C_Source C_Scripted C_Draws C_Shortage C_Exhausted) : Gx.CalX P w K mg base 9 "script_after" (Pr.spAfterS K C_Exhausted) := by
  obtain ⟨f, fd, F, b⟩ := T.d_script_after
  refine Gx.calX F b sc_script_after (fun vs H Q E h => ?_) (fun cdv A outer s H vs Q E hr h => ?_)
  · obtain ⟨a, ws, pl, st, rfl, _⟩ := h; rfl
  · obtain ⟨a, ws, pl, st, rfl, ha, q1, q2⟩ := h
    have hu := hu_of hr
    have hu64 := hr.units
    have cl_Source := T.cl_Source
    have cl_Scripted := T.cl_Scripted
    have n_Scripted_s1_script := T.n_Scripted_s1_script
    have n_Scripted_s1_place := T.n_Scripted_s1_place
    have v_Scripted_KIND := T.v_Scripted_KIND
    have cl_Draws := T.cl_Draws
    have n_Draws_s5_source := T.n_Draws_s5_source
    have n_Draws_s5_used := T.n_Draws_s5_used
    have v_Draws_KIND := T.v_Draws_KIND
    refine ⟨_, (pss_cons (ps_if (pt_cmpR op_gt (pe_op op_add (pv 1) (pv 2)) (pe_callB Rd.call_lenQ (by rfl) T.b_len PySem.boot_len (pa_cons (pv 0) pa_nil)) (nomark _)) (pss_one (ps_raise rfl Gx.takes_cx (Gx.pmk_exY (exc_Exhausted T) hr (by omega) (by rfl) (pa_cons (pe_op op_sub (pe_op op_add (pv 1) (pv 2)) (pe_callB Rd.call_lenQ (by rfl) T.b_len PySem.boot_len (pa_cons (pv 0) pa_nil))) pa_nil)))) pss_nil)
      (pss_one (ps_ret (pe_op op_add (pv 1) (pv 2))))), ?_⟩
    walk_at "rd"
    have hl2 : ((Pr.words ws).length : Int) = ws.length := by rw [List.length_map]
    rw [hl2]
    refine Rd.both (fun c => ?_) (fun c => ?_)
    · walk_at "rd"
      rw [hl2]
      refine Gx.mkY fun d H3 hd e3 k3 => ?_
      refine q2 (by omega) d H3 hd e3 ?_
      rw [k3]
      rw [show (((pl + st : Nat)) : Int) = (pl : Int) + st by omega]
    · walk_at "rd"
      rw [show (pl : Int) + (st : Int) = ((pl + st : Nat) : Int) by omega]
      exact q1 (by omega)
theorem metx_Scripted_next_word (T : Txt K mg C_Source C_Scripted C_Draws C_Shortage C_Exhausted) : Gx.MetX P w K mg base 10 C_Scripted "next_word" (Pr.spWordS C_Scripted C_Exhausted) := by
  obtain ⟨f, fd, M, F, b⟩ := T.d_Scripted_next_word
  refine Gx.metX T.cl_Scripted M F b sc_Scripted_next_word (fun vs H Q E h => ?_) (fun cdv A outer s H vs Q E hr h => ?_)
  · obtain ⟨o, dx, a, ws, pl, rfl, _⟩ := h; rfl
  · obtain ⟨o, dx, a, ws, pl, rfl, D, q1, q2⟩ := h
    have hu := hu_of hr
    have hu64 := hr.units
    have cl_Source := T.cl_Source
    have cl_Scripted := T.cl_Scripted
    have n_Scripted_s1_script := T.n_Scripted_s1_script
    have n_Scripted_s1_place := T.n_Scripted_s1_place
    have v_Scripted_KIND := T.v_Scripted_KIND
    have cl_Draws := T.cl_Draws
    have n_Draws_s5_source := T.n_Draws_s5_source
    have n_Draws_s5_used := T.n_Draws_s5_used
    have v_Draws_KIND := T.v_Draws_KIND
    refine ⟨_, (pss_cons (ps_set (i := 1) sc_Scripted_next_word.nd rfl (.inl rfl) (Gx.pe_cx (calx_script_after T) Gx.takes_cx (fun _ _ _ _ h => h) hr (by omega) (by rfl) (pa_cons (pe_fld (pv 0) rfl) (pa_cons (pe_fld (pv 0) rfl) (pa_cons pe_int pa_nil)))))
      (pss_cons (ps_fld (pv 0) (pv 1) rfl)
      (pss_one (ps_ret (pe_ix ix_tup (pe_fld (pv 0) rfl) (pe_op op_sub (pv 1) pe_int) (fun _ _ => rfl)))))), ?_⟩
    walk_at "rd"
    have ho := D.obj
    have ha := D.tup
    have hle := D.le
    walk_at "rd"
    refine ⟨a, ws, pl, 1, rfl, ha, fun h1 => ?_, fun h1 d H' hd e1 k1 => ?_⟩
    · walk_at "rd"
      refine Pr.stF ho cl_Scripted n_Scripted_s1_place rfl rfl fun H1 m1 k1 => ?_
      walk_at "rd"
      have hw : ws[pl]? = some ws[pl] := List.getElem?_eq_getElem (by omega)
      refine Rd.ixT (Rd.sqt (by walk_at "hp")) (i := ((pl + 1 : Nat) : Int) - 1) (v := .int (ws[pl] : Nat)) ?_ ?_
      · rw [show ((pl + 1 : Nat) : Int) - 1 = (pl : Int) by omega]
        exact atI_nat (by rw [List.getElem?_map, hw]; rfl)
      · walk_at "rd"
        exact q1 _ H1 hw (fun c o h n => by walk_at "hp") k1
    · refine q2 (by omega) d H' hd e1 ?_
      rw [k1, show ((pl + 1 : Nat) : Int) - (ws.length : Int) = 1 by omega]
end
end Pf

set_option Elab.async false
set_option linter.all false
set_option maxRecDepth 100000
set_option maxHeartbeats 4000000
set_option exponentiation.threshold 3000
namespace Pf
open PySem PySem.Spec PyProof.Rows L2
section
variable {P : Program} {w : World} {K : PySem.W.Frag} {mg : Str → Option Value} {base : Heap} {C_Source C_Scripted C_Draws C_Shortage C_Exhausted : Addr}
local macro_rules | `(tactic| walk_at "side") => `(tactic| first | ((with_reducible show L2.CMul _ _); first | exact Or.inl ⟨by omega, by omega⟩ | exact Or.inr ⟨by omega, by omega⟩) | ((with_reducible show L2.CPow _ _); exact ⟨by decide, by decide, by decide⟩) | ((with_reducible show L2.CMulW _ _); exact wide_mul (a := 96) (b := 96) (by omega) (by omega) (by decide) (by decide) (by decide)) | ((with_reducible show L2.CDivW _ _); first | exact wide_div (b := 96) (by omega) (by omega) (by decide) (by decide) | exact wide_div (b := 300) (by omega) (by omega) (by decide) (by decide)) | (show (0 : Int) < _; omega) | (show (0 : Int) ≤ _; omega))
local macro_rules | `(tactic| walk_at "rd1") => `(tactic| first | with_reducible refine Rd.seq ?_ | with_reducible refine Rd.asg ?_ | with_reducible refine Rd.nm ?_ | with_reducible refine Rd.ret ?_ | with_reducible refine Rd.drop ?_ | with_reducible refine Rd.ifs ?_ | with_reducible refine Rd.par ?_ | with_reducible refine Rd.par3 ?_ | with_reducible refine Rd.next ?_ | with_reducible refine Rd.fr1 ?_ | with_reducible refine Rd.nxp ?_ | with_reducible refine Rd.rtp ?_ | ((with_reducible show tVar _ _ _ _); refine Rd.var rfl ?_) | with_reducible refine Rd.cst ?_ | with_reducible refine Rd.op ?_ | with_reducible refine Rd.un ?_ | with_reducible refine Rd.i0 ?_ | with_reducible refine Rd.ung ?_ | with_reducible refine Rd.eqI ?_ | with_reducible refine Rd.neI ?_ | with_reducible refine Rd.eqS ?_ | with_reducible refine Rd.neS ?_ | with_reducible refine Rd.test ?_ | with_reducible refine Rd.tstB ?_ | with_reducible refine Rd.isB ?_ | with_reducible refine Rd.not ?_ | with_reducible refine Rd.andT ?_ | with_reducible refine Rd.orT ?_ | with_reducible refine Rd.andV ?_ | with_reducible refine Rd.orV ?_ | with_reducible refine Rd.notV ?_ | with_reducible refine Rd.ifE ?_ | with_reducible refine Rd.chain ?_ | with_reducible refine Rd.nil ?_ | with_reducible refine Rd.cons ?_ | with_reducible refine Rd.call ?_ | with_reducible refine Rd.cb ?_ | with_reducible refine Rd.bm ?_ | with_reducible refine Au.revL ?_ | with_reducible refine Rd.frl ?_ | with_reducible refine Rd.frt ?_ | with_reducible refine Rd.fre ?_ | with_reducible refine Rd.disp ?_ | with_reducible refine Rd.pnil ?_ | with_reducible refine Rd.pcons ?_ | with_reducible refine Rd.gcons ?_ | with_reducible refine Rd.gnil ?_ | with_reducible refine Rd.gsub ?_ | with_reducible refine Rd.setD ?_ | ((with_reducible show gTup _ _ _ _ _ (upd _ _ (HO.tup _)) _); refine Rd.tupNew rfl ?_) | with_reducible refine Rd.fld ?_ | with_reducible refine Rd.meth ?_ | with_reducible refine Rd.make ?_ | with_reducible refine Rd.prop ?_ | with_reducible refine Au.tup ?_ | with_reducible refine Au.lst ?_ | ((with_reducible refine Au.lenOk ?hl ?_); (case hl => exact rfl)) | with_reducible refine Au.nopart ?_ | with_reducible refine Au.part ?_ | with_reducible refine Au.isI ?_ | with_reducible refine Au.sl ?_ | with_reducible refine Au.pr2 ?_ | with_reducible refine Au.pr3 ?_ | with_reducible refine Au.eqB ?_ | with_reducible refine Rd.isInt ?_ | with_reducible refine Rd.isBool ?_ | with_reducible refine Rd.mx2 ?_ | with_reducible refine Rd.mn2 ?_ | ((with_reducible show Rd.rAndM _ _ _ _); first | refine Rd.and1 ?_ | refine Rd.and48 ?_ | refine Rd.and32 ?_ | refine Rd.and64 ?_ | refine Rd.and65 ?_) | ((with_reducible refine Rd.iC ?hc ?_); (case hc => walk_at "side")) | ((with_reducible refine Rd.yes ?hc ?_); (case hc => first | omega | exact rfl)) | ((with_reducible refine Rd.no ?hc ?_); (case hc => omega)) | ((with_reducible refine Rd.noN ?hc ?_); (case hc => first | omega | exact rfl)) | ((with_reducible refine Rd.yesN ?hc ?_); (case hc => omega)) | ((with_reducible refine Rd.yesNN ?hc ?_); (case hc => omega)) | ((with_reducible refine Rd.noNN ?hc ?_); (case hc => omega)) | with_reducible refine iteT ?_ | with_reducible refine iteF ?_ | with_reducible refine Rd.iteNT ?_ | with_reducible refine Rd.iteNF ?_)
local macro_rules | `(tactic| walk_at "rd") => `(tactic| repeat (walk_at "rd1"))
local macro_rules | `(tactic| walk_at "hp") => `(tactic| first | assumption | (apply Au.sm; (focus assumption); (walk_at "hp")) | (apply Au.smp; (focus assumption); (focus (walk_at "hp")); (walk_at "ne")) | (apply Au.smn; (focus assumption); (focus (walk_at "hp")); (focus (intro _ z; cases z; done))) | fail "hp")
local macro_rules | `(tactic| walk_at "ne") => `(tactic| first | assumption | (apply Ne.symm; assumption) | (apply Au.nen; (focus assumption); (walk_at "hp")) | (apply Au.nen'; (focus assumption); (walk_at "hp")) | (apply Au.nek; (focus assumption); (focus assumption); (intro z; cases z; done)) | (apply Au.nek2; (focus assumption); (focus (walk_at "hp")); (intro z; cases z; done)) | fail "ne")
local macro_rules | `(tactic| walk_at "dp") => `(tactic| first | exact Dp.int _ | exact Dp.str _ | exact Dp.bl _ | exact Dp.non | (apply Dp.lst; (focus (apply Rd.sql; walk_at "hp")); (walk_at "dps")) | (apply Dp.tup; (focus (apply Rd.sqt; walk_at "hp")); (walk_at "dps")) | fail "dp")
local macro_rules | `(tactic| walk_at "dps") => `(tactic| first | exact DpAll.nil | (apply DpAll.cons; (focus (walk_at "dp")); (walk_at "dps")) | fail "dps")
local macro_rules | `(tactic| walk_at "shp") => `(tactic| ((simp only [SeqAt.shaped, PyData.canLay0, PyData.canLayAll0, PyData.depth, PyData.depthAll]) <;> first | decide | rfl))
local macro_rules | `(tactic| walk_at "sd") => `(tactic| first | assumption | rfl | omega | (walk_at "hp") | (refine ⟨?_, ?_⟩; (focus (walk_at "sd")); (walk_at "sd")) | fail "sd")
local macro_rules | `(tactic| walk_at "lk") => `(tactic| first | exact Rd.lk1 | rfl | decide +kernel)
local macro_rules | `(tactic| walk_at "rd1") => `(tactic| first | with_reducible refine Pr.dget ?_ | with_reducible refine Pr.dput ?_ | with_reducible refine Pr.sfld ?_ | with_reducible refine Pr.u_isInt ?_ | ((with_reducible show Pr.spNeed _ _ _ _ _ _); refine Pr.u_need (by omega) (by omega) ?_) | ((with_reducible show Pr.spIs _ _ _ _ _ _); refine Pr.u_isIn (by omega) ?_) | ((with_reducible apply Rd.fld1); (focus (walk_at "hp")); (focus assumption); (focus assumption); (focus (walk_at "lk"))) | ((with_reducible apply Au.methO); (focus (walk_at "hp")); (focus (walk_at "lk"))) | ((with_reducible apply Au.propO); (focus (walk_at "hp"))) | ((with_reducible show rIxT _ (V.ref _) (V.int _) _ _); refine Rd.ixT (Rd.sqt (by walk_at "hp")) rfl ?_) | ((with_reducible show rIxL _ (V.ref _) (V.int _) _ _); refine Rd.ixL (Rd.sql (by walk_at "hp")) rfl ?_) | ((with_reducible show Rd.rLenQ _ [V.ref _] _ _); first | refine Rd.lenL (Rd.sql (by walk_at "hp")) ?_ | refine Rd.lenT (Rd.sqt (by walk_at "hp")) ?_) | ((with_reducible show gTup _ _ _ (V.ref _) _ _ _); refine Rd.gtup (Rd.sqt (by walk_at "hp")) rfl ?_) | with_reducible refine Gx.gat ?_ | with_reducible refine Gx.gnx ?_ | with_reducible refine Gx.gthen ?_ | with_reducible refine Gx.gplain ?_ | with_reducible refine Gx.gfr ?_ | with_reducible refine Gx.lg ?_ | with_reducible refine Gx.mg ?_ | with_reducible refine Gx.sme ?_ | with_reducible refine Gx.callSD ?_ | with_reducible refine Gx.methSD ?_)
local macro_rules | `(tactic| walk_at "rd1") => `(tactic| first | with_reducible refine Gx.mkR ?_ | with_reducible refine Gx.fr3 ?_ | with_reducible refine Gx.makeD ?_ | with_reducible refine Gx.frz ?_ | with_reducible refine Gx.lcO ?_ | with_reducible refine Gx.itupO ?_ | with_reducible refine Gx.ilistO ?_ | with_reducible refine Gx.irng1O ?_ | with_reducible refine Gx.ival ?_ | ((with_reducible apply Gx.ivalO); (focus (walk_at "hp")); (focus assumption); (focus assumption); (focus (walk_at "lk"))) | ((with_reducible show Gx.rTupOf _ [V.ref _] _ _); refine Gx.tupOfL (Rd.sql (by walk_at "hp")) ?_) | ((with_reducible show Gx.rLstOf _ [V.ref _] _ _); first | refine Gx.lstOfL (Rd.sql (by walk_at "hp")) ?_ | refine Gx.lstOfT (Rd.sqt (by walk_at "hp")) ?_))
local macro_rules | `(tactic| walk_at "hp") => `(tactic| first | assumption | (apply Pr.smq; (focus assumption); (focus (walk_at "hp")); (focus (walk_at "ne")); (walk_at "ne")))
def spNeedSrc (S : Addr) : Sp := fun vs H Q _ => ∃ (o dy a : Addr) (pl : Nat), vs = [.ref o] ∧ H o = some (Pr.ScrO S dy a pl) ∧ Q .non H
theorem cal_need_source (T : Txt K mg C_Source C_Scripted C_Draws C_Shortage C_Exhausted) : C8.Cal P w K mg base 1 "need_source" (spNeedSrc C_Scripted) [] := by
  obtain ⟨f, fd, F, b⟩ := T.d_need_source
  refine C8.cal0 F b .nil sc_need_source (fun vs H Q E h => ?_) (fun cdv A outer s H vs Q E hr h => ?_)
  · obtain ⟨o, dy, a, pl, rfl, _⟩ := h; rfl
  · obtain ⟨o, dy, a, pl, rfl, ho, q⟩ := h
    have hu := hu_of hr
    have hu64 := hr.units
    have cl_Source := T.cl_Source
    have cl_Scripted := T.cl_Scripted
    have n_Scripted_s1_script := T.n_Scripted_s1_script
    have n_Scripted_s1_place := T.n_Scripted_s1_place
    have v_Scripted_KIND := T.v_Scripted_KIND
    have cl_Draws := T.cl_Draws
    have n_Draws_s5_source := T.n_Draws_s5_source
    have n_Draws_s5_used := T.n_Draws_s5_used
    have v_Draws_KIND := T.v_Draws_KIND
    refine ⟨_, (pss_one (ps_if (PW.pt (pw_or (pt_not (pt_val (pe_callB call_isi (by rfl) T.b_isinstance (by decide +kernel) (pa_cons (pv 0) (pa_cons (C8.pe_gc (by rfl) T.k_Source) pa_nil))))) (pw_or1 (pt_cmpR op_eq (Gx.pe_ival (pv 0)) pe_str (nomark _))))) pss_never pss_nil)), ?_⟩
    walk_at "rd"
    refine Gx.isOwnB T.is_Scripted ho T.o_Scripted_Source ?_
    walk_at "rd"
    refine Rd.no (by decide +kernel) ?_
    walk_at "rd"
    exact q
def spNeed3 : Sp := fun vs H Q _ => ∃ n lo hi : Int, vs = [.int n, .int lo, .int hi] ∧ lo ≤ n ∧ n ≤ hi ∧ Q .non H
theorem cal_s5_need (T : Txt K mg C_Source C_Scripted C_Draws C_Shortage C_Exhausted) : C8.Cal P w K mg base 2 "s5_need" (spNeed3) [] := by
  obtain ⟨f, fd, F, b⟩ := T.d_s5_need
  refine C8.cal0 F b .nil sc_s5_need (fun vs H Q E h => ?_) (fun cdv A outer s H vs Q E hr h => ?_)
  · obtain ⟨n, lo, hi, rfl, _⟩ := h; rfl
  · obtain ⟨n, lo, hi, rfl, h1, h2, q⟩ := h
    have hu := hu_of hr
    have hu64 := hr.units
    have cl_Source := T.cl_Source
    have cl_Scripted := T.cl_Scripted
    have n_Scripted_s1_script := T.n_Scripted_s1_script
    have n_Scripted_s1_place := T.n_Scripted_s1_place
    have v_Scripted_KIND := T.v_Scripted_KIND
    have cl_Draws := T.cl_Draws
    have n_Draws_s5_source := T.n_Draws_s5_source
    have n_Draws_s5_used := T.n_Draws_s5_used
    have v_Draws_KIND := T.v_Draws_KIND
    refine ⟨_, (pss_one (ps_if (PW.pt (pw_or (pt_not (pt_val (C8.pe_c (cal_is_integer T) hr (by omega) (by rfl) (pa_cons (pv 0) pa_nil)))) (pw_or1 (pt_not (pt_chain op_le op_le (pv 1) (pv 0) (pv 2)))))) pss_never pss_nil)), ?_⟩
    walk_at "rd"
    exact q
theorem mak_Draws (T : Txt K mg C_Source C_Scripted C_Draws C_Shortage C_Exhausted) : C8.Mak P w K mg base 2 "Draws" C_Draws (Pr.spInitD C_Draws C_Scripted) [] := by
  obtain ⟨f, fd, M, F, b⟩ := T.d_Draws___init__
  obtain ⟨u, hu1, hu2⟩ := T.k_Draws
  cases hu2
  refine C8.mak0 M hu1 F b .nil sc_Draws___init__ (fun vs H Q E h => ?_) (fun cdv A outer s H vs Q E hr h => ?_)
  · obtain ⟨p, dx, o, dy, a, pl, rfl, _⟩ := h; rfl
  · obtain ⟨p, dx, o, dy, a, pl, rfl, ho, hp, q⟩ := h
    have hu := hu_of hr
    have hu64 := hr.units
    have cl_Source := T.cl_Source
    have cl_Scripted := T.cl_Scripted
    have n_Scripted_s1_script := T.n_Scripted_s1_script
    have n_Scripted_s1_place := T.n_Scripted_s1_place
    have v_Scripted_KIND := T.v_Scripted_KIND
    have cl_Draws := T.cl_Draws
    have n_Draws_s5_source := T.n_Draws_s5_source
    have n_Draws_s5_used := T.n_Draws_s5_used
    have v_Draws_KIND := T.v_Draws_KIND
    refine ⟨_, (pss_cons (ps_expr (C8.pe_c (cal_need_source T) hr (by omega) (by rfl) (pa_cons (pv 1) pa_nil)))
      (pss_cons (ps_fld (pv 0) (pv 1) rfl)
      (pss_one (ps_fld (pv 0) pe_int rfl)))), ?_⟩
    walk_at "rd"
    refine ⟨o, dy, a, pl, rfl, ho, ?_⟩
    walk_at "rd"
    refine Pr.stF hp cl_Draws n_Draws_s5_source rfl rfl fun H1 m1 k1 => ?_
    walk_at "rd"
    refine Pr.stF k1 cl_Draws n_Draws_s5_used rfl rfl fun H2 m2 k2 => ?_
    exact q H2 (fun c o h n => by walk_at "hp") k2
theorem prop_Draws_words_used (T : Txt K mg C_Source C_Scripted C_Draws C_Shortage C_Exhausted) : Gx.PrpC P w K mg base 1 C_Draws "words_used" (Pr.spUsed C_Draws) := by
  obtain ⟨pp, f, fd, pr, F, b⟩ := T.d_Draws_words_used
  refine Gx.prp0 T.cl_Draws pr F b sc_Draws_words_used (fun vs H Q E h => ?_) (fun cdv A outer s H vs Q E hr h => ?_)
  · obtain ⟨p, dx, o, n, rfl, _⟩ := h; rfl
  · obtain ⟨p, dx, o, n, rfl, hp, q⟩ := h
    have hu := hu_of hr
    have hu64 := hr.units
    have cl_Source := T.cl_Source
    have cl_Scripted := T.cl_Scripted
    have n_Scripted_s1_script := T.n_Scripted_s1_script
    have n_Scripted_s1_place := T.n_Scripted_s1_place
    have v_Scripted_KIND := T.v_Scripted_KIND
    have cl_Draws := T.cl_Draws
    have n_Draws_s5_source := T.n_Draws_s5_source
    have n_Draws_s5_used := T.n_Draws_s5_used
    have v_Draws_KIND := T.v_Draws_KIND
    refine ⟨_, (pss_one (ps_ret (pe_fld (pv 0) rfl))), ?_⟩
    walk_at "rd"
    exact q
theorem metx_Draws_s5_word (T : Txt K mg C_Source C_Scripted C_Draws C_Shortage C_Exhausted) : Gx.MetX P w K mg base 11 C_Draws "s5_word" (Pr.spWordD C_Draws C_Scripted C_Exhausted) := by
  obtain ⟨f, fd, M, F, b⟩ := T.d_Draws_s5_word
  refine Gx.metX T.cl_Draws M F b sc_Draws_s5_word (fun vs H Q E h => ?_) (fun cdv A outer s H vs Q E hr h => ?_)
  · obtain ⟨p, dx, o, dy, a, ws, pl, n, rfl, _⟩ := h; rfl
  · obtain ⟨p, dx, o, dy, a, ws, pl, n, rfl, D, q1, q2⟩ := h
    have hu := hu_of hr
    have hu64 := hr.units
    have cl_Source := T.cl_Source
    have cl_Scripted := T.cl_Scripted
    have n_Scripted_s1_script := T.n_Scripted_s1_script
    have n_Scripted_s1_place := T.n_Scripted_s1_place
    have v_Scripted_KIND := T.v_Scripted_KIND
    have cl_Draws := T.cl_Draws
    have n_Draws_s5_source := T.n_Draws_s5_source
    have n_Draws_s5_used := T.n_Draws_s5_used
    have v_Draws_KIND := T.v_Draws_KIND
    refine ⟨_, (pss_cons (ps_set (i := 1) sc_Draws_s5_word.nd rfl (.inl rfl) (Gx.pe_mx0 (metx_Scripted_next_word T) Gx.takes_cx (fun _ _ _ _ h => h) hr (by omega) (pe_fld (pv 0) rfl)))
      (pss_cons (ps_fldaug (pv 0) pe_int in_add)
      (pss_one (ps_ret (pv 1))))), ?_⟩
    walk_at "rd"
    have hp := D.drw
    have ho := D.scr.obj
    have ha := D.scr.tup
    obtain ⟨n1, n2, n3⟩ := D.ne
    walk_at "rd"
    refine ⟨o, dy, a, ws, pl, rfl, D.scr, fun w H1 hw m1 k1 => ?_, fun h1 d H' hd e1 k1 => q2 h1 d H' hd e1 k1⟩
    walk_at "rd"
    refine Gx.augI rfl (by walk_at "hp") cl_Draws n_Draws_s5_used rfl rfl rfl fun H2 m2 k2 => ?_
    walk_at "rd"
    have hl := (List.getElem?_eq_some_iff.mp hw).1
    refine q1 w H2 hw (fun c o h n1 n2 => by walk_at "hp") ⟨k2, ?_, ?_, by omega⟩
    · walk_at "hp"
    · walk_at "hp"
theorem DAt_ex {C S p dx o dy a : Addr} {H H' : Hp} {ws : List Nat} {pl n : Nat} (e : Rd.Ex H H') (h : Pr.DAt C S H p dx o dy a ws pl n) : Pr.DAt C S H' p dx o dy a ws pl n := ⟨e _ _ h.drw, e _ _ h.scr.obj, e _ _ h.scr.tup, h.scr.le⟩
theorem metx_Draws_s5_bits (T : Txt K mg C_Source C_Scripted C_Draws C_Shortage C_Exhausted) : Gx.MetX P w K mg base 12 C_Draws "s5_bits" (Pr.spBits C_Draws C_Scripted C_Exhausted) := by
  obtain ⟨f, fd, M, F, b⟩ := T.d_Draws_s5_bits
  refine Gx.metX T.cl_Draws M F b sc_Draws_s5_bits (fun vs H Q E h => ?_) (fun cdv A outer s H vs Q E hr h => ?_)
  · obtain ⟨p, dx, o, dy, a, ws, pl, n, k, rfl, _⟩ := h; rfl
  · obtain ⟨p, dx, o, dy, a, ws, pl, n, k, rfl, ⟨D, hk, hw⟩, q1, q2⟩ := h
    have hu := hu_of hr
    have hu64 := hr.units
    have cl_Source := T.cl_Source
    have cl_Scripted := T.cl_Scripted
    have n_Scripted_s1_script := T.n_Scripted_s1_script
    have n_Scripted_s1_place := T.n_Scripted_s1_place
    have v_Scripted_KIND := T.v_Scripted_KIND
    have cl_Draws := T.cl_Draws
    have n_Draws_s5_source := T.n_Draws_s5_source
    have n_Draws_s5_used := T.n_Draws_s5_used
    have v_Draws_KIND := T.v_Draws_KIND
    refine ⟨_, (pss_cons (ps_asg (pe_tup (pa_cons pe_int (pa_cons pe_int pa_nil))) (pg_tup rfl (pgs_cons (pg_name (i := 2) sc_Draws_s5_bits.nd rfl (.inl rfl)) (pgs_cons (pg_name (i := 3) sc_Draws_s5_bits.nd rfl (.inl rfl)) pgs_nil))))
      (pss_cons (ps_while (passes_of rfl) (pt_cmpR op_lt (pv 3) (pv 1) (nomark _)) (pss_cons (ps_par (i := 4) (j := 5) rfl sc_Draws_s5_bits.nd rfl rfl (by decide) rfl rfl (pa_cons (Gx.pe_mx0 (metx_Draws_s5_word T) Gx.takes_cx (fun _ _ _ _ h => h) hr (by omega) (pv 0)) (pa_cons (pe_op op_sub (pv 1) (pv 3)) pa_nil)) (by rfl))
      (pss_cons (ps_if (pt_cmpR op_lt (pv 5) (C8.pe_gc (by rfl) T.c_WORD_BITS) (nomark _)) (pss_one (ps_set (i := 4) sc_Draws_s5_bits.nd rfl (.inl rfl) (pe_op op_shr (pv 4) (pe_op op_sub (C8.pe_gc (by rfl) T.c_WORD_BITS) (pv 5))))) pss_nil)
      (pss_one (ps_par (i := 2) (j := 3) rfl sc_Draws_s5_bits.nd rfl rfl (by decide) rfl rfl (pa_cons (pe_op op_add (pv 2) (pe_op op_shlW (pv 4) (pv 3))) (pa_cons (pe_op op_add (pv 3) (C8.pe_gc (by rfl) T.c_WORD_BITS)) pa_nil)) (by rfl))))))
      (pss_one (ps_ret (pv 2))))), ?_⟩
    walk_at "rd"
    refine Au.new fun t0 H0 ht0 e0 k0 => ?_
    walk_at "rd"
    generalize htot : (if k = 0 then 0 else Pr.bitsN (ws.drop pl) k) = tot at q1
    refine Rd.whl (fun m σ' H' => ∃ (i found : Nat) (y4 y5 : Option V), m = Pr.need k - i ∧ i ≤ Pr.need k ∧ σ' = [some (.ref p), some (.int (k : Int)), some (.int (found : Int)), some (.int ((32 * i : Nat) : Int)), y4, y5] ∧ Pr.DAt C_Draws C_Scripted H' p dx o dy a ws (pl + i) (n + i) ∧ Pr.ExQ p o H H' ∧
        (32 * i < k → found + 2 ^ (32 * i) * Pr.bitsN (ws.drop (pl + i)) (k - 32 * i) = tot) ∧ (k ≤ 32 * i → found = tot))
      (Pr.need k) ⟨0, 0, none, none, rfl, Nat.zero_le _, rfl, DAt_ex e0 D, fun c o h n1 n2 => by walk_at "hp", fun h => by rw [← htot, if_neg (by omega)]; simp, fun h => by rw [← htot, if_pos (by omega)]⟩ ?_
    rintro m σ' H1 ⟨i, found, y4, y5, rfl, hi, rfl, D1, x1, f1, f2⟩
    have hp1 := D1.drw
    have ho1 := D1.scr.obj
    have ha1 := D1.scr.tup
    have hle1 := D1.scr.le
    walk_at "rd"
    refine Rd.both (fun c => ?_) (fun c => ?_)
    · have c' : 32 * i < k := by omega
      have hin := Pr.need_le c'
      refine ⟨_, fun _ _ z => z, ?_⟩
      walk_at "rd"
      refine ⟨p, dx, o, dy, a, ws, pl + i, n + i, rfl, D1, fun w H2 hw2 x2 D2 => ?_, fun h1 d H' hd e1 k1 => ?_⟩
      · walk_at "rd"
        have wb := hw w (List.mem_of_getElem? hw2)
        have dc := Pr.drop_cons hw2
        have fx := f1 c'
        rw [dc] at fx
        have x12 : Pr.ExQ p o H H2 := fun c o h n1 n2 => by walk_at "hp"
        have hplace : 32 * (i + 1) = 32 * i + 32 := by omega
        refine Rd.both (fun c2 => ?_) (fun c2 => ?_)
        · have hm : k - 32 * i < 32 := by omega
          simp only [Pr.bitsN] at fx
          rw [if_pos hm] at fx
          walk_at "rd"
          have e1 : ((w : Int) / 2 ^ (32 - ((k : Int) - ((32 * i : Nat) : Int))).toNat) = ((w / 2 ^ (32 - (k - 32 * i)) : Nat) : Int) := by
            rw [show (32 - ((k : Int) - ((32 * i : Nat) : Int))).toNat = 32 - (k - 32 * i) by omega]
            push_cast; rfl
          rw [e1]
          have wb2 : w / 2 ^ (32 - (k - 32 * i)) < 4294967296 := Nat.lt_of_le_of_lt (Nat.div_le_self _ _) wb
          generalize w / 2 ^ (32 - (k - 32 * i)) = u at *
          refine Rd.iC (shl_ok (n := 40) (by omega) (by omega)) ?_
          walk_at "rd"
          have e2 : (found : Int) + (u : Int) * 2 ^ ((32 * i : Nat) : Int).toNat = ((found + 2 ^ (32 * i) * u : Nat) : Int) := by
            rw [Int.toNat_natCast]; push_cast; rw [Int.mul_comm]
          rw [e2, show ((32 * i : Nat) : Int) + 32 = ((32 * (i + 1) : Nat) : Int) by omega]
          exact ⟨Pr.need k - (i + 1), by omega, i + 1, found + 2 ^ (32 * i) * u, _, _, rfl, by omega, rfl, D2, x12, fun h => by omega, fun _ => fx⟩
        · have hm : ¬ k - 32 * i < 32 := by omega
          simp only [Pr.bitsN] at fx
          rw [if_neg hm] at fx
          walk_at "rd"
          refine Rd.iC (shl_ok (n := 40) (by omega) (by omega)) ?_
          walk_at "rd"
          have e2 : (found : Int) + (w : Int) * 2 ^ ((32 * i : Nat) : Int).toNat = ((found + 2 ^ (32 * i) * w : Nat) : Int) := by
            rw [Int.toNat_natCast]; push_cast; rw [Int.mul_comm]
          rw [e2, show ((32 * i : Nat) : Int) + 32 = ((32 * (i + 1) : Nat) : Int) by omega]
          have fy : found + 2 ^ (32 * i) * w + 2 ^ (32 * (i + 1)) * Pr.bitsN (ws.drop (pl + i + 1)) (k - 32 * i - 32) = tot := by
            rw [← fx, show 32 * (i + 1) = 32 * i + 32 by omega, Nat.pow_add, Nat.mul_add, Nat.add_assoc, Nat.mul_assoc]
          refine ⟨Pr.need k - (i + 1), by omega, i + 1, found + 2 ^ (32 * i) * w, _, _, rfl, by omega, rfl, D2, x12, fun h => ?_, fun h => ?_⟩
          · rw [show k - 32 * (i + 1) = k - 32 * i - 32 by omega, show pl + (i + 1) = pl + i + 1 by omega]
            exact fy
          · rw [show k - 32 * i - 32 = 0 by omega, Pr.bitsN_zero (fun w hm => hw w (List.mem_of_mem_drop hm)), Nat.mul_zero, Nat.add_zero] at fy
            exact fy
      · refine q2 (by omega) d H' ?_ (fun c o h n1 n2 => by walk_at "hp") ?_ k1
        · cases q : H d with
          | none => rfl
          | some z =>
            by_cases z1 : d = p
            · rw [z1, hp1] at hd; cases hd
            by_cases z2 : d = o
            · rw [z2, ho1] at hd; cases hd
            rw [x1 _ _ q z1 z2] at hd; cases hd
        · have := DAt_ex e1 D1
          rw [h1, show n + i = n + (ws.length - pl) by omega] at this
          exact this
    · have c' : k ≤ 32 * i := by omega
      have ei : i = Pr.need k := by
        have : Pr.need k ≤ i := by unfold Pr.need; omega
        omega
      walk_at "rd"
      rw [f2 c']
      rw [ei] at D1 hle1
      exact q1 hle1 H1 x1 D1
def spSize : Sp := fun vs H Q _ => ∃ n : Nat, vs = [.int (n : Int)] ∧ n < 2 ^ 300 ∧ Q (.int (Pr.bl n : Nat)) H
theorem u_size {n : Nat} {H : Hp} {Q : VK} {E : XK} (h : n < 2 ^ 300) (q : Q (.int (Pr.bl n : Nat)) H) : spSize ([.int (n : Int)] ++ []) H Q E := ⟨n, rfl, h, q⟩
theorem cal_s5_digits (T : Txt K mg C_Source C_Scripted C_Draws C_Shortage C_Exhausted) : C8.Cal P w K mg base 1 "s5_digits" (spSize) [] := by
  obtain ⟨f, fd, F, b⟩ := T.d_s5_digits
  refine C8.cal0 F b .nil sc_s5_digits (fun vs H Q E h => ?_) (fun cdv A outer s H vs Q E hr h => ?_)
  · obtain ⟨n, rfl, _⟩ := h; rfl
  · obtain ⟨n, rfl, hn, q⟩ := h
    have hu := hu_of hr
    have hu64 := hr.units
    have cl_Source := T.cl_Source
    have cl_Scripted := T.cl_Scripted
    have n_Scripted_s1_script := T.n_Scripted_s1_script
    have n_Scripted_s1_place := T.n_Scripted_s1_place
    have v_Scripted_KIND := T.v_Scripted_KIND
    have cl_Draws := T.cl_Draws
    have n_Draws_s5_source := T.n_Draws_s5_source
    have n_Draws_s5_used := T.n_Draws_s5_used
    have v_Draws_KIND := T.v_Draws_KIND
    refine ⟨_, (pss_cons (ps_set (i := 1) sc_s5_digits.nd rfl (.inl rfl) pe_int)
      (pss_cons (ps_while PassesOwn.never (pt_cmpR op_gt (pv 0) pe_int (nomark _)) (pss_one (ps_par (i := 0) (j := 1) rfl sc_s5_digits.nd rfl rfl (by decide) rfl rfl (pa_cons (pe_op op_fdivW (pv 0) pe_int) (pa_cons (pe_op op_add (pv 1) pe_int) pa_nil)) (by rfl))))
      (pss_one (ps_ret (pv 1))))), ?_⟩
    walk_at "rd"
    refine Rd.whl (fun m σ' H' => ∃ i r : Nat, m = r ∧ σ' = [some (.int (r : Int)), some (.int (i : Int))] ∧ H' = H ∧ i + Pr.bl r = Pr.bl n) n ⟨0, n, rfl, rfl, rfl, Nat.zero_add _⟩ ?_
    rintro m σ' H' ⟨i, r, rfl, rfl, rfl, e⟩
    walk_at "rd"
    refine Rd.both (fun c => ?_) (fun c => ?_)
    · refine ⟨_, fun _ _ z => z, ?_⟩
      walk_at "rd"
      rw [show (m : Int) / 2 = ((m / 2 : Nat) : Int) by omega, show (i : Int) + 1 = ((i + 1 : Nat) : Int) by omega]
      refine ⟨m / 2, by omega, i + 1, m / 2, rfl, rfl, rfl, ?_⟩
      rw [← e, Pr.bl_pos (show 0 < m by omega)]
      omega
    · walk_at "rd"
      have : m = 0 := by omega
      subst this
      rw [Pr.bl_zero, Nat.add_zero] at e
      rw [e]
      exact q
/-- the numbers of the tries -/
def tryB (ws : List Nat) (pl k i : Nat) : Nat := if k = 0 then 0 else Pr.bitsN (ws.drop (pl + i * Pr.need k)) k
def spBelow (C S CE : Addr) : Sp := fun vs H Q E => ∃ (p dx o dy a : Addr) (ws : List Nat) (pl n b : Nat), vs = [.ref p, .int (b : Int)] ∧ (Pr.DAt C S H p dx o dy a ws pl n ∧ (1 ≤ b ∧ b ≤ 2 ^ 256) ∧ ∀ w ∈ ws, w < 4294967296) ∧
  (∀ j, (∀ i, i < j → b ≤ tryB ws pl (Pr.bl (b - 1)) i) → tryB ws pl (Pr.bl (b - 1)) j < b → pl + (j + 1) * Pr.need (Pr.bl (b - 1)) ≤ ws.length → ∀ H', Pr.ExQ p o H H' → Pr.DAt C S H' p dx o dy a ws (pl + (j + 1) * Pr.need (Pr.bl (b - 1))) (n + (j + 1) * Pr.need (Pr.bl (b - 1))) → Q (.int (tryB ws pl (Pr.bl (b - 1)) j : Nat)) H') ∧
  (∀ j, (∀ i, i < j → b ≤ tryB ws pl (Pr.bl (b - 1)) i) → ws.length < pl + (j + 1) * Pr.need (Pr.bl (b - 1)) → ∀ d H', H d = none → Pr.ExQ p o H H' → Pr.DAt C S H' p dx o dy a ws ws.length (n + (ws.length - pl)) → H' d = some (.xd [("missing", .int 1)]) → E (.ref CE) (some d) H')
theorem metx_Draws_s5_below (T : Txt K mg C_Source C_Scripted C_Draws C_Shortage C_Exhausted) : Gx.MetX P w K mg base 13 C_Draws "s5_below" (spBelow C_Draws C_Scripted C_Exhausted) := by
  obtain ⟨f, fd, M, F, b⟩ := T.d_Draws_s5_below
  refine Gx.metX T.cl_Draws M F b sc_Draws_s5_below (fun vs H Q E h => ?_) (fun cdv A outer s H vs Q E hr h => ?_)
  · obtain ⟨p, dx, o, dy, a, ws, pl, n, b, rfl, _⟩ := h; rfl
  · obtain ⟨p, dx, o, dy, a, ws, pl, n, b, rfl, ⟨D, hb, hw⟩, q1, q2⟩ := h
    have hu := hu_of hr
    have hu64 := hr.units
    have cl_Source := T.cl_Source
    have cl_Scripted := T.cl_Scripted
    have n_Scripted_s1_script := T.n_Scripted_s1_script
    have n_Scripted_s1_place := T.n_Scripted_s1_place
    have v_Scripted_KIND := T.v_Scripted_KIND
    have cl_Draws := T.cl_Draws
    have n_Draws_s5_source := T.n_Draws_s5_source
    have n_Draws_s5_used := T.n_Draws_s5_used
    have v_Draws_KIND := T.v_Draws_KIND
    refine ⟨_, (pss_cons (ps_set (i := 2) sc_Draws_s5_below.nd rfl (.inl rfl) (C8.pe_c (cal_s5_digits T) hr (by omega) (by rfl) (pa_cons (pe_op op_sub (pv 1) pe_int) pa_nil)))
      (pss_cons (ps_set (i := 3) sc_Draws_s5_below.nd rfl (.inl rfl) (Gx.pe_mx (metx_Draws_s5_bits T) Gx.takes_cx (fun _ _ _ _ h => h) hr (by omega) (pv 0) (pa_cons (pv 2) pa_nil)))
      (pss_cons (ps_while (passes_of rfl) (pt_cmpR op_ge (pv 3) (pv 1) (nomark _)) (pss_one (ps_set (i := 3) sc_Draws_s5_below.nd rfl (.inl rfl) (Gx.pe_mx (metx_Draws_s5_bits T) Gx.takes_cx (fun _ _ _ _ h => h) hr (by omega) (pv 0) (pa_cons (pv 2) pa_nil)))))
      (pss_one (ps_ret (pv 3)))))), ?_⟩
    walk_at "rd"
    have hp0 := D.drw
    rw [show (b : Int) - 1 = ((b - 1 : Nat) : Int) by omega]
    refine u_size (Nat.lt_of_lt_of_le (show b - 1 < 2 ^ 257 by omega) (by decide)) ?_
    have hk : Pr.bl (b - 1) ≤ 256 := Pr.bl_le (by omega)
    generalize hkk : Pr.bl (b - 1) = k at *
    walk_at "rd"
    have fresh : ∀ {H1 : Hp} {d : Addr}, Pr.ExQ p o H H1 → H1 d = none → H1 p ≠ none → H1 o ≠ none → H d = none := fun {H1 d} x hd h1 h2 => by
      cases q : H d with
      | none => rfl
      | some z =>
        rw [x _ _ q (fun e => h1 (by rw [← e]; exact hd)) (fun e => h2 (by rw [← e]; exact hd))] at hd
        cases hd
    have nn : ∀ {H1 : Hp} {pl' n' : Nat}, Pr.DAt C_Draws C_Scripted H1 p dx o dy a ws pl' n' → H1 p ≠ none ∧ H1 o ≠ none := fun {H1 pl' n'} D => ⟨by rw [D.drw]; simp, by rw [D.scr.obj]; simp⟩
    refine ⟨p, dx, o, dy, a, ws, pl, n, k, rfl, ⟨D, by omega, hw⟩, fun hle H1 x1 D1 => ?_, fun hlt d H' hd x1 D1 k1 => q2 0 (fun i hi => absurd hi (by omega)) (by omega) d H' hd x1 D1 k1⟩
    walk_at "rd"
    have e0 : (if k = 0 then 0 else Pr.bitsN (ws.drop pl) k) = tryB ws pl k 0 := by unfold tryB; rw [Nat.zero_mul, Nat.add_zero]
    rw [e0]
    refine Rd.whl (fun m σ' H' => ∃ j : Nat, m = ws.length - (pl + j * Pr.need k) ∧ σ' = [some (.ref p), some (.int (b : Int)), some (.int (k : Int)), some (.int (tryB ws pl k j : Nat))] ∧ Pr.DAt C_Draws C_Scripted H' p dx o dy a ws (pl + (j + 1) * Pr.need k) (n + (j + 1) * Pr.need k) ∧ Pr.ExQ p o H H' ∧ ∀ i, i < j → b ≤ tryB ws pl k i)
      (ws.length - (pl + 0 * Pr.need k)) ⟨0, rfl, rfl, by rw [Nat.zero_add, Nat.one_mul]; exact D1, x1, fun i hi => absurd hi (by omega)⟩ ?_
    rintro m σ' H2 ⟨j, rfl, rfl, D2, x2, hj⟩
    have hp2 := D2.drw
    have hle2 := D2.scr.le
    have ej : (j + 1) * Pr.need k = j * Pr.need k + Pr.need k := Nat.succ_mul _ _
    walk_at "rd"
    refine Rd.both (fun c => ?_) (fun c => ?_)
    · have hbj : b ≤ tryB ws pl k j := by omega
      have hk0 : 0 < k := Nat.pos_of_ne_zero fun z => by
        unfold tryB at hbj
        rw [if_pos z] at hbj; omega
      have hnd : 0 < Pr.need k := by unfold Pr.need; omega
      have hj1 : ∀ i, i < j + 1 → b ≤ tryB ws pl k i := fun i hi => by
        by_cases z : i < j
        · exact hj i z
        · rw [show i = j by omega]; exact hbj
      have ej2 : (j + 1 + 1) * Pr.need k = (j + 1) * Pr.need k + Pr.need k := Nat.succ_mul _ _
      refine ⟨_, fun _ _ z => z, ?_⟩
      walk_at "rd"
      refine ⟨p, dx, o, dy, a, ws, pl + (j + 1) * Pr.need k, n + (j + 1) * Pr.need k, k, rfl, ⟨D2, by omega, hw⟩, fun hle H3 x3 D3 => ?_, fun hlt d H' hd x3 D3 k3 => ?_⟩
      · walk_at "rd"
        have e1 : (if k = 0 then 0 else Pr.bitsN (ws.drop (pl + (j + 1) * Pr.need k)) k) = tryB ws pl k (j + 1) := rfl
        rw [e1]
        refine ⟨ws.length - (pl + (j + 1) * Pr.need k), by omega, j + 1, rfl, rfl, ?_, fun c o h n1 n2 => x3 _ _ (x2 _ _ h n1 n2) n1 n2, hj1⟩
        rw [ej2, ← Nat.add_assoc, ← Nat.add_assoc]
        exact D3
      · refine q2 (j + 1) hj1 (by omega) d H' (fresh x2 hd (nn D2).1 (nn D2).2) (fun c o h n1 n2 => x3 _ _ (x2 _ _ h n1 n2) n1 n2) ?_ k3
        rw [show n + (ws.length - pl) = n + (j + 1) * Pr.need k + (ws.length - (pl + (j + 1) * Pr.need k)) by omega]
        exact D3
    · walk_at "rd"
      exact q1 j hj (by omega) hle2 H2 x2 D2
theorem metx_Draws_below (T : Txt K mg C_Source C_Scripted C_Draws C_Shortage C_Exhausted) : Gx.MetX P w K mg base 14 C_Draws "below" (spBelow C_Draws C_Scripted C_Exhausted) := by
  obtain ⟨f, fd, M, F, b⟩ := T.d_Draws_below
  refine Gx.metX T.cl_Draws M F b sc_Draws_below (fun vs H Q E h => ?_) (fun cdv A outer s H vs Q E hr h => ?_)
  · obtain ⟨p, dx, o, dy, a, ws, pl, n, b, rfl, _⟩ := h; rfl
  · obtain ⟨p, dx, o, dy, a, ws, pl, n, b, rfl, ⟨D, hb, hw⟩, q1, q2⟩ := h
    have hu := hu_of hr
    have hu64 := hr.units
    have cl_Source := T.cl_Source
    have cl_Scripted := T.cl_Scripted
    have n_Scripted_s1_script := T.n_Scripted_s1_script
    have n_Scripted_s1_place := T.n_Scripted_s1_place
    have v_Scripted_KIND := T.v_Scripted_KIND
    have cl_Draws := T.cl_Draws
    have n_Draws_s5_source := T.n_Draws_s5_source
    have n_Draws_s5_used := T.n_Draws_s5_used
    have v_Draws_KIND := T.v_Draws_KIND
    refine ⟨_, (pss_cons (ps_expr (C8.pe_c (cal_s5_need T) hr (by omega) (by rfl) (pa_cons (pv 1) (pa_cons pe_int (pa_cons (C8.pe_gc (by rfl) T.c_MOST_BOUND) pa_nil)))))
      (pss_one (ps_ret (Gx.pe_mx (metx_Draws_s5_below T) Gx.takes_cx (fun _ _ _ _ h => h) hr (by omega) (pv 0) (pa_cons (pv 1) pa_nil))))), ?_⟩
    walk_at "rd"
    have hp1 := D.drw
    refine ⟨_, _, _, rfl, by omega, by omega, ?_⟩
    walk_at "rd"
    exact ⟨p, dx, o, dy, a, ws, pl, n, b, rfl, ⟨D, hb, hw⟩, q1, q2⟩
end
end Pf

set_option Elab.async false
set_option linter.all false
set_option maxRecDepth 100000
set_option maxHeartbeats 4000000
set_option exponentiation.threshold 3000
namespace Pf
open PySem PySem.Spec PyProof.Rows L2
section
variable {P : Program} {w : World} {K : PySem.W.Frag} {mg : Str → Option Value} {base : Heap} {C_Source C_Scripted C_Draws C_Shortage C_Exhausted : Addr}
local macro_rules | `(tactic| walk_at "side") => `(tactic| first | ((with_reducible show L2.CMul _ _); first | exact Or.inl ⟨by omega, by omega⟩ | exact Or.inr ⟨by omega, by omega⟩) | ((with_reducible show L2.CPow _ _); exact ⟨by decide, by decide, by decide⟩) | ((with_reducible show L2.CMulW _ _); exact wide_mul (a := 96) (b := 96) (by omega) (by omega) (by decide) (by decide) (by decide)) | ((with_reducible show L2.CDivW _ _); first | exact wide_div (b := 96) (by omega) (by omega) (by decide) (by decide) | exact wide_div (b := 300) (by omega) (by omega) (by decide) (by decide)) | (show (0 : Int) < _; omega) | (show (0 : Int) ≤ _; omega))
local macro_rules | `(tactic| walk_at "rd1") => `(tactic| first | with_reducible refine Rd.seq ?_ | with_reducible refine Rd.asg ?_ | with_reducible refine Rd.nm ?_ | with_reducible refine Rd.ret ?_ | with_reducible refine Rd.drop ?_ | with_reducible refine Rd.ifs ?_ | with_reducible refine Rd.par ?_ | with_reducible refine Rd.par3 ?_ | with_reducible refine Rd.next ?_ | with_reducible refine Rd.fr1 ?_ | with_reducible refine Rd.nxp ?_ | with_reducible refine Rd.rtp ?_ | ((with_reducible show tVar _ _ _ _); refine Rd.var rfl ?_) | with_reducible refine Rd.cst ?_ | with_reducible refine Rd.op ?_ | with_reducible refine Rd.un ?_ | with_reducible refine Rd.i0 ?_ | with_reducible refine Rd.ung ?_ | with_reducible refine Rd.eqI ?_ | with_reducible refine Rd.neI ?_ | with_reducible refine Rd.eqS ?_ | with_reducible refine Rd.neS ?_ | with_reducible refine Rd.test ?_ | with_reducible refine Rd.tstB ?_ | with_reducible refine Rd.isB ?_ | with_reducible refine Rd.not ?_ | with_reducible refine Rd.andT ?_ | with_reducible refine Rd.orT ?_ | with_reducible refine Rd.andV ?_ | with_reducible refine Rd.orV ?_ | with_reducible refine Rd.notV ?_ | with_reducible refine Rd.ifE ?_ | with_reducible refine Rd.chain ?_ | with_reducible refine Rd.nil ?_ | with_reducible refine Rd.cons ?_ | with_reducible refine Rd.call ?_ | with_reducible refine Rd.cb ?_ | with_reducible refine Rd.bm ?_ | with_reducible refine Au.revL ?_ | with_reducible refine Rd.frl ?_ | with_reducible refine Rd.frt ?_ | with_reducible refine Rd.fre ?_ | with_reducible refine Rd.disp ?_ | with_reducible refine Rd.pnil ?_ | with_reducible refine Rd.pcons ?_ | with_reducible refine Rd.gcons ?_ | with_reducible refine Rd.gnil ?_ | with_reducible refine Rd.gsub ?_ | with_reducible refine Rd.setD ?_ | ((with_reducible show gTup _ _ _ _ _ (upd _ _ (HO.tup _)) _); refine Rd.tupNew rfl ?_) | with_reducible refine Rd.fld ?_ | with_reducible refine Rd.meth ?_ | with_reducible refine Rd.make ?_ | with_reducible refine Rd.prop ?_ | with_reducible refine Au.tup ?_ | with_reducible refine Au.lst ?_ | ((with_reducible refine Au.lenOk ?hl ?_); (case hl => exact rfl)) | with_reducible refine Au.nopart ?_ | with_reducible refine Au.part ?_ | with_reducible refine Au.isI ?_ | with_reducible refine Au.sl ?_ | with_reducible refine Au.pr2 ?_ | with_reducible refine Au.pr3 ?_ | with_reducible refine Au.eqB ?_ | with_reducible refine Rd.isInt ?_ | with_reducible refine Rd.isBool ?_ | with_reducible refine Rd.mx2 ?_ | with_reducible refine Rd.mn2 ?_ | ((with_reducible show Rd.rAndM _ _ _ _); first | refine Rd.and1 ?_ | refine Rd.and48 ?_ | refine Rd.and32 ?_ | refine Rd.and64 ?_ | refine Rd.and65 ?_) | ((with_reducible refine Rd.iC ?hc ?_); (case hc => walk_at "side")) | ((with_reducible refine Rd.yes ?hc ?_); (case hc => first | omega | exact rfl)) | ((with_reducible refine Rd.no ?hc ?_); (case hc => omega)) | ((with_reducible refine Rd.noN ?hc ?_); (case hc => first | omega | exact rfl)) | ((with_reducible refine Rd.yesN ?hc ?_); (case hc => omega)) | ((with_reducible refine Rd.yesNN ?hc ?_); (case hc => omega)) | ((with_reducible refine Rd.noNN ?hc ?_); (case hc => omega)) | with_reducible refine iteT ?_ | with_reducible refine iteF ?_ | with_reducible refine Rd.iteNT ?_ | with_reducible refine Rd.iteNF ?_)
local macro_rules | `(tactic| walk_at "rd") => `(tactic| repeat (walk_at "rd1"))
local macro_rules | `(tactic| walk_at "hp") => `(tactic| first | assumption | (apply Au.sm; (focus assumption); (walk_at "hp")) | (apply Au.smp; (focus assumption); (focus (walk_at "hp")); (walk_at "ne")) | (apply Au.smn; (focus assumption); (focus (walk_at "hp")); (focus (intro _ z; cases z; done))) | fail "hp")
local macro_rules | `(tactic| walk_at "ne") => `(tactic| first | assumption | (apply Ne.symm; assumption) | (apply Au.nen; (focus assumption); (walk_at "hp")) | (apply Au.nen'; (focus assumption); (walk_at "hp")) | (apply Au.nek; (focus assumption); (focus assumption); (intro z; cases z; done)) | (apply Au.nek2; (focus assumption); (focus (walk_at "hp")); (intro z; cases z; done)) | fail "ne")
local macro_rules | `(tactic| walk_at "dp") => `(tactic| first | exact Dp.int _ | exact Dp.str _ | exact Dp.bl _ | exact Dp.non | (apply Dp.lst; (focus (apply Rd.sql; walk_at "hp")); (walk_at "dps")) | (apply Dp.tup; (focus (apply Rd.sqt; walk_at "hp")); (walk_at "dps")) | fail "dp")
local macro_rules | `(tactic| walk_at "dps") => `(tactic| first | exact DpAll.nil | (apply DpAll.cons; (focus (walk_at "dp")); (walk_at "dps")) | fail "dps")
local macro_rules | `(tactic| walk_at "shp") => `(tactic| ((simp only [SeqAt.shaped, PyData.canLay0, PyData.canLayAll0, PyData.depth, PyData.depthAll]) <;> first | decide | rfl))
local macro_rules | `(tactic| walk_at "sd") => `(tactic| first | assumption | rfl | omega | (walk_at "hp") | (refine ⟨?_, ?_⟩; (focus (walk_at "sd")); (walk_at "sd")) | fail "sd")
local macro_rules | `(tactic| walk_at "lk") => `(tactic| first | exact Rd.lk1 | rfl | decide +kernel)
local macro_rules | `(tactic| walk_at "rd1") => `(tactic| first | with_reducible refine Pr.dget ?_ | with_reducible refine Pr.dput ?_ | with_reducible refine Pr.sfld ?_ | with_reducible refine Pr.u_isInt ?_ | ((with_reducible show Pr.spNeed _ _ _ _ _ _); refine Pr.u_need (by omega) (by omega) ?_) | ((with_reducible show Pr.spIs _ _ _ _ _ _); refine Pr.u_isIn (by omega) ?_) | ((with_reducible apply Rd.fld1); (focus (walk_at "hp")); (focus assumption); (focus assumption); (focus (walk_at "lk"))) | ((with_reducible apply Au.methO); (focus (walk_at "hp")); (focus (walk_at "lk"))) | ((with_reducible apply Au.propO); (focus (walk_at "hp"))) | ((with_reducible show rIxT _ (V.ref _) (V.int _) _ _); refine Rd.ixT (Rd.sqt (by walk_at "hp")) rfl ?_) | ((with_reducible show rIxL _ (V.ref _) (V.int _) _ _); refine Rd.ixL (Rd.sql (by walk_at "hp")) rfl ?_) | ((with_reducible show Rd.rLenQ _ [V.ref _] _ _); first | refine Rd.lenL (Rd.sql (by walk_at "hp")) ?_ | refine Rd.lenT (Rd.sqt (by walk_at "hp")) ?_) | ((with_reducible show gTup _ _ _ (V.ref _) _ _ _); refine Rd.gtup (Rd.sqt (by walk_at "hp")) rfl ?_) | with_reducible refine Gx.gat ?_ | with_reducible refine Gx.gnx ?_ | with_reducible refine Gx.gthen ?_ | with_reducible refine Gx.gplain ?_ | with_reducible refine Gx.gfr ?_ | with_reducible refine Gx.lg ?_ | with_reducible refine Gx.mg ?_ | with_reducible refine Gx.sme ?_ | with_reducible refine Gx.callSD ?_ | with_reducible refine Gx.methSD ?_)
local macro_rules | `(tactic| walk_at "rd1") => `(tactic| first | with_reducible refine Gx.mkR ?_ | with_reducible refine Gx.fr3 ?_ | with_reducible refine Gx.makeD ?_ | with_reducible refine Gx.frz ?_ | with_reducible refine Gx.lcO ?_ | with_reducible refine Gx.itupO ?_ | with_reducible refine Gx.ilistO ?_ | with_reducible refine Gx.irng1O ?_ | with_reducible refine Gx.ival ?_ | ((with_reducible apply Gx.ivalO); (focus (walk_at "hp")); (focus assumption); (focus assumption); (focus (walk_at "lk"))) | ((with_reducible show Gx.rTupOf _ [V.ref _] _ _); refine Gx.tupOfL (Rd.sql (by walk_at "hp")) ?_) | ((with_reducible show Gx.rLstOf _ [V.ref _] _ _); first | refine Gx.lstOfL (Rd.sql (by walk_at "hp")) ?_ | refine Gx.lstOfT (Rd.sqt (by walk_at "hp")) ?_))
local macro_rules | `(tactic| walk_at "hp") => `(tactic| first | assumption | (apply Pr.smq; (focus assumption); (focus (walk_at "hp")); (focus (walk_at "ne")); (walk_at "ne")))
/-! ### the law's draws -/
abbrev kRun : Key := Sum.inr "mixed"
abbrev kGreat : Key := Sum.inr "great"
abbrev kTurn : Key := Sum.inr "turn"
theorem n_rg : ¬ kRun = kGreat := by decide +kernel
theorem n_rt : ¬ kRun = kTurn := by decide +kernel
theorem n_gt : ¬ kGreat = kTurn := by decide +kernel
theorem n_gr : ¬ kGreat = kRun := by decide +kernel
theorem n_tr : ¬ kTurn = kRun := by decide +kernel
theorem n_tg : ¬ kTurn = kGreat := by decide +kernel
structure DrawAt (H : Hp) (d g : Addr) (run turn : Int) (ns : List Int) : Prop where
  dic : H d = some (.dK [(kRun, .int run), (kGreat, .ref g), (kTurn, .int turn)])
  lst : H g = some (.lst (ns.map V.int))
  r0 : 0 ≤ run
  r1 : run < 2305843009213693951
def Draw (H : Hp) (d g : Addr) : Prop := ∃ run turn ns, DrawAt H d g run turn ns
/-- all but the draw's own objects stand -/
def ExB (d g : Addr) (H H' : Hp) : Prop := ∀ c o, H c = some o → c ≠ d → c ≠ g → H' c = some o
theorem ExB.refl {d g : Addr} (H : Hp) : ExB d g H H := fun _ _ e _ _ => e
theorem ExB.trans {d g : Addr} {H H1 H2 : Hp} (a : ExB d g H H1) (b : ExB d g H1 H2) : ExB d g H H2 := fun c o e h1 h2 => b c o (a c o e h1 h2) h1 h2
theorem ExB.of {d g : Addr} {H H' : Hp} (e : Rd.Ex H H') : ExB d g H H' := fun c o h _ _ => e c o h
theorem ExB.d {d g : Addr} {H H' : Hp} {o : HO} (e : ExB d g H H') : ExB d g H (upd H' d o) := fun c z h h1 h2 => by
  rw [upd_ne h1]
  exact e c z h h1 h2
theorem ExB.g {d g : Addr} {H H' : Hp} {o : HO} (e : ExB d g H H') : ExB d g H (upd H' g o) := fun c z h h1 h2 => by
  rw [upd_ne h2]
  exact e c z h h1 h2
theorem DrawAt.ex {H H' : Hp} {d g : Addr} {run turn : Int} {ns : List Int} (e : Rd.Ex H H') (h : DrawAt H d g run turn ns) : DrawAt H' d g run turn ns := ⟨e _ _ h.dic, e _ _ h.lst, h.r0, h.r1⟩
theorem Draw.ex {H H' : Hp} {d g : Addr} (e : Rd.Ex H H') (h : Draw H d g) : Draw H' d g := by
  obtain ⟨r, t, ns, h⟩ := h
  exact ⟨r, t, ns, h.ex e⟩
theorem DrawAt.ne {H : Hp} {d g : Addr} {run turn : Int} {ns : List Int} (h : DrawAt H d g run turn ns) : d ≠ g := ne_of h.dic h.lst (fun z => by cases z)
def spNext : Sp := fun vs H Q _ => ∃ (d g : Addr) (b : Int), vs = [.ref d, .int b] ∧ 0 < b ∧ b < 2 ^ 300 ∧ Draw H d g ∧ ∀ (H' : Hp) (v : Int), 0 ≤ v → v < b → Draw H' d g → ExB d g H H' → Q (.int v) H'
theorem cal__law_next (T : Txt K mg C_Source C_Scripted C_Draws C_Shortage C_Exhausted) : C8.Cal P w K mg base 1 "_law_next" (spNext) [] := by
  obtain ⟨f, fd, F, b⟩ := T.d__law_next
  refine C8.cal0 F b .nil sc__law_next (fun vs H Q E h => ?_) (fun cdv A outer s H vs Q E hr h => ?_)
  · obtain ⟨d, g, m, rfl, _⟩ := h; rfl
  · obtain ⟨d, g, m, rfl, m0, m1, ⟨run, turn, ns, D⟩, q⟩ := h
    have hu := hu_of hr
    have hu64 := hr.units
    have cl_Source := T.cl_Source
    have cl_Scripted := T.cl_Scripted
    have n_Scripted_s1_script := T.n_Scripted_s1_script
    have n_Scripted_s1_place := T.n_Scripted_s1_place
    have v_Scripted_KIND := T.v_Scripted_KIND
    have cl_Draws := T.cl_Draws
    have n_Draws_s5_source := T.n_Draws_s5_source
    have n_Draws_s5_used := T.n_Draws_s5_used
    have v_Draws_KIND := T.v_Draws_KIND
    refine ⟨_, (pss_cons (ps_asg (pe_tup (pa_cons (pe_op op_add (pe_dget hu (pv 0) pe_str (fun _ _ => rfl)) pe_int) (pa_cons (pe_dget hu (pv 0) pe_str (fun _ _ => rfl)) pa_nil))) (pg_tup rfl (pgs_cons (pg_sub (pv 0) pe_str (set_dict hu)) (pgs_cons (pg_name (i := 2) sc__law_next.nd rfl (.inl rfl)) pgs_nil))))
      (pss_cons (ps_set (i := 3) sc__law_next.nd rfl (.inl rfl) (pe_op op_mod (pe_dget hu (pv 0) pe_str (fun _ _ => rfl)) (pe_callB (Rd.call_mx2 rfl) (by rfl) T.b_max (by decide +kernel) (pa_cons pe_int (pa_cons (pe_callB Rd.call_lenQ (by rfl) T.b_len PySem.boot_len (pa_cons (pv 2) pa_nil)) pa_nil)))))
      (C8.pss_cut (ps_if (PW.pt (pw_and (pt_cmpR (op_neD hu64) (pv 2) (pe_lst pa_nil) (nomark _)) (pw_and1 (pt_cmpR op_gt (pe_ix ix_list (pv 2) (pv 3) (fun _ _ => rfl)) pe_int (nomark _))))) (pss_cons (ps_set (i := 4) sc__law_next.nd rfl (.inl rfl) (pe_op op_mod (pe_ix ix_list (pv 2) (pv 3) (fun _ _ => rfl)) (pv 1)))
      (pss_cons (ps_asg (pe_op op_fdivW (pe_ix ix_list (pv 2) (pv 3) (fun _ _ => rfl)) (pv 1)) (pg_sub (pv 2) (pv 3) set_list))
      (pss_one (ps_ret (pv 4))))) pss_nil)
      (pss_cons (ps_set (i := 5) sc__law_next.nd rfl (.inl rfl) (pe_op op_add (pe_op op_add (pe_op op_mul (pe_dget hu (pv 0) pe_str (fun _ _ => rfl)) pe_int) (pe_op op_mul pe_int (pe_dget hu (pv 0) pe_str (fun _ _ => rfl)))) pe_int))
      (pss_cons (ps_dput hu (pv 0) pe_str (pe_op op_mod (pv 5) pe_int) rfl)
      (pss_one (ps_ret (pe_op op_mod (pe_op op_fdivW (pe_dget hu (pv 0) pe_str (fun _ _ => rfl)) pe_int) (pv 1))))))))), ?_⟩
    walk_at "rd"
    have ndg := D.ne
    refine Pr.u_get D.dic (Gx.val3 n_rt n_gt) ?_
    walk_at "rd"
    refine Pr.u_get D.dic (Gx.val2 n_rg) ?_
    walk_at "rd"
    refine Au.new fun t Ht ht et kt => ?_
    have D1 := D.ex et
    have x1 : ExB d g H Ht := .of et
    walk_at "rd"
    refine Pr.u_put D1.dic (by show 3 < 1000; decide) (Gx.put3 n_rt n_gt) ?_
    walk_at "rd"
    generalize hH2 : upd Ht d (.dK [(kRun, .int run), (kGreat, .ref g), (kTurn, .int (turn + 1))]) = H2
    have D2 : DrawAt H2 d g run (turn + 1) ns := by
      subst hH2
      exact ⟨upd_same, by rw [upd_ne (Ne.symm ndg)]; exact D1.lst, D.r0, D.r1⟩
    have x2 : ExB d g H H2 := by subst hH2; exact x1.d
    refine Pr.u_get D2.dic (Gx.val3 n_rt n_gt) ?_
    walk_at "rd"
    refine Rd.lenL (Rd.sql D2.lst) ?_
    walk_at "rd"
    generalize hat : (turn + 1) % (if ((ns.map V.int).length : Int) > 1 then ((ns.map V.int).length : Int) else 1) = at'
    have at0 : ns ≠ [] → 0 ≤ at' ∧ at' < (ns.length : Int) := fun hne => by
      have hl : 0 < ns.length := List.length_pos_iff.mpr hne
      rw [List.length_map] at hat
      rw [← hat]
      by_cases h1 : (ns.length : Int) > 1
      · rw [if_pos h1]
        exact ⟨Int.emod_nonneg _ (by omega), Int.emod_lt_of_pos _ (by omega)⟩
      · rw [if_neg h1]
        omega
    refine Rd.cut (fun σ' H' => ∃ y4 y5, σ' = [some (.ref d), some (.int m), some (.ref g), some (.int at'), y4, y5] ∧ DrawAt H' d g run (turn + 1) ns ∧ ExB d g H H') ?_ ?_
    · walk_at "rd"
      refine Au.new fun p H3 hp e3 k3 => ?_
      have D3 := D2.ex e3
      have x3 : ExB d g H H3 := x2.trans (.of e3)
      refine Gx.neL (ms := []) (Rd.sql D3.lst) (Rd.sql k3) ?_
      walk_at "rd"
      refine Rd.bothN (fun c => ?_) (fun c => ?_)
      · obtain ⟨h0, h1⟩ := at0 c
        obtain ⟨k, rfl⟩ := Int.eq_ofNat_of_zero_le h0
        have hk : k < ns.length := by omega
        have gk : atI (ns.map V.int) (k : Int) = some (.int ns[k]) := atI_nat (by rw [List.getElem?_map, List.getElem?_eq_getElem hk]; rfl)
        walk_at "rd"
        refine Rd.ixL (Rd.sql D3.lst) gk ?_
        walk_at "rd"
        refine Rd.both (fun c2 => ?_) (fun c2 => ?_)
        · walk_at "rd"
          refine Rd.ixL (Rd.sql D3.lst) gk ?_
          walk_at "rd"
          refine Rd.ixL (Rd.sql D3.lst) gk ?_
          walk_at "rd"
          have ij : ixN (ns.map V.int).length (k : Int) = some k := by
            unfold ixN
            rw [if_pos h0, if_pos (by rw [List.length_map]; omega), Int.toNat_natCast]
          refine Rd.setL D3.lst ij ?_
          walk_at "rd"
          refine q _ _ (Int.emod_nonneg _ (by omega)) (Int.emod_lt_of_pos _ m0) ⟨run, turn + 1, ns.set k (ns[k] / m), ?_, ?_, D.r0, D.r1⟩ x3.g
          · rw [upd_ne ndg]; exact D3.dic
          · rw [upd_same, List.map_set]
        · walk_at "rd"
          exact ⟨_, _, rfl, D3, x3⟩
      · walk_at "rd"
        exact ⟨_, _, rfl, D3, x3⟩
    · rintro σ' H' ⟨y4, y5, rfl, D4, x4⟩
      have r0 := D.r0
      have r1 := D.r1
      walk_at "rd"
      refine Pr.u_get D4.dic Gx.val1 ?_
      walk_at "rd"
      refine Pr.u_get D4.dic (Gx.val3 n_rt n_gt) ?_
      walk_at "rd"
      generalize hn : (run * 6364136223846793 + 1442695040888963 * (turn + 1) + 11) % 2305843009213693951 = r'
      refine Pr.u_put D4.dic (by show 3 < 1000; decide) (Gx.put1 n_gr n_tr) ?_
      walk_at "rd"
      refine Pr.u_get upd_same Gx.val1 ?_
      walk_at "rd"
      refine q _ _ (Int.emod_nonneg _ (by omega)) (Int.emod_lt_of_pos _ m0) ⟨r', turn + 1, ns, upd_same, ?_, by omega, by omega⟩ x4.d
      rw [upd_ne (Ne.symm ndg)]; exact D4.lst
theorem u_next {H : Hp} {Q : VK} {E : XK} {d g : Addr} {b : Int} (h0 : 0 < b) (h1 : b < 2 ^ 300) (D : Draw H d g) (q : ∀ (H' : Hp) (v : Int), 0 ≤ v → v < b → Draw H' d g → ExB d g H H' → Q (.int v) H') : spNext ([.ref d, .int b] ++ []) H Q E := ⟨d, g, b, rfl, h0, h1, D, q⟩
/-- numbers below a bound that a helper draws -/
def spPick (hi : Int) : Sp := fun vs H Q _ => ∃ (d g : Addr), vs = [.ref d] ∧ Draw H d g ∧ ∀ (H' : Hp) (v : Int), 0 ≤ v → v ≤ hi → Draw H' d g → ExB d g H H' → Q (.int v) H'
theorem Draw.nd {H : Hp} {d g p : Addr} (D : Draw H d g) (h : H p = none) : p ≠ d ∧ p ≠ g := by
  obtain ⟨r, t, ns, D⟩ := D
  exact ⟨Ne.symm (ne_of_none D.dic h), Ne.symm (ne_of_none D.lst h)⟩
theorem pick_of (l : List Int) (hi : Int) (hl : l.length = 8) (hb : ∀ x ∈ l, 0 ≤ x ∧ x ≤ hi) {v : Int} (v0 : 0 ≤ v) (v1 : v < 12) :
    ∃ j x : Int, atI ([0, 1, 2, 3, 4, 5, 6, 7, 7, 7, 7, 7].map V.int) v = some (.int j) ∧ atI (l.map V.int) j = some (.int x) ∧ 0 ≤ x ∧ x ≤ hi := by
  obtain ⟨j, hj, ej⟩ := Gx.pick (l := [0, 1, 2, 3, 4, 5, 6, 7, 7, 7, 7, 7]) (P := fun j => 0 ≤ j ∧ j < 8) (by decide) v0 v1
  obtain ⟨x, hx, ex⟩ := Gx.pick (l := l) (P := fun x => 0 ≤ x ∧ x ≤ hi) hb hj.1 (by omega)
  exact ⟨j, x, ej, ex, hx.1, hx.2⟩
theorem smb {d g b : Addr} {H H' : Hp} {z : HO} (e : ExB d g H H') (h : H b = some z) (n1 : b ≠ d) (n2 : b ≠ g) : H' b = some z := e _ _ h n1 n2
theorem smbK {d g b : Addr} {H H' : Hp} {z : HO} (e : ExB d g H H') (h : H b = some z) (D : Draw H d g) (n : (∀ kvs, z ≠ .dK kvs) ∧ ∀ xs, z ≠ .lst xs) : H' b = some z := e _ _ h (fun q => by
    obtain ⟨r, t, ns, D⟩ := D
    rw [q, D.dic] at h
    exact n.1 _ (Option.some.inj h).symm) (fun q => by
    obtain ⟨r, t, ns, D⟩ := D
    rw [q, D.lst] at h
    exact n.2 _ (Option.some.inj h).symm)
theorem smbN {d g b : Addr} {H H' H0 : Hp} {z : HO} (e : ExB d g H H') (h : H b = some z) (n : H0 b = none) (D : Draw H0 d g) : H' b = some z := e _ _ h (D.nd n).1 (D.nd n).2
theorem ndN {d g p : Addr} {H : Hp} (h : H p = none) (D : Draw H d g) : p ≠ d ∧ p ≠ g := D.nd h
theorem Draw.exp {d g p : Addr} {H H' : Hp} (e : Au.ExP p H H') (D : Draw H d g) (n : p ≠ d ∧ p ≠ g) : Draw H' d g := by
  obtain ⟨r, t, ns, D⟩ := D
  exact ⟨r, t, ns, e _ _ D.dic (Ne.symm n.1), e _ _ D.lst (Ne.symm n.2), D.r0, D.r1⟩
theorem Draw.exq {d g p o : Addr} {H H' : Hp} {C1 C2 d1 d2 : Addr} {f1 f2 : List (Str × V)} (e : Pr.ExQ p o H H') (D : Draw H d g) (hp : H p = some (.ins C1 d1 f1)) (ho : H o = some (.ins C2 d2 f2)) : Draw H' d g := by
  obtain ⟨r, t, ns, D⟩ := D
  exact ⟨r, t, ns, e _ _ D.dic (fun z => by rw [← z, D.dic] at hp; cases hp) (fun z => by rw [← z, D.dic] at ho; cases ho), e _ _ D.lst (fun z => by rw [← z, D.lst] at hp; cases hp) (fun z => by rw [← z, D.lst] at ho; cases ho), D.r0, D.r1⟩
theorem int_at {ns : List Int} {i : Nat} {y : V} (h : (ns.map V.int)[i]? = some y) : ∃ z, ns[i]? = some z ∧ y = .int z := by
  rw [List.getElem?_map] at h
  cases e : ns[i]? with
  | none => rw [e] at h; cases h
  | some z => rw [e] at h; exact ⟨z, rfl, (Option.some.inj h).symm⟩
def spBegun (K : PySem.W.Frag) : Sp := fun vs H Q _ => ∃ (a : Addr) (ns : List Int), vs = [.ref a] ∧ SqL K H a (ns.map V.int) ∧ ns.length ≤ 63 ∧ ∀ H' d g, Rd.Ex H H' → Draw H' d g → Q (.ref d) H'
theorem cal__law_begun (T : Txt K mg C_Source C_Scripted C_Draws C_Shortage C_Exhausted) : C8.Cal P w K mg base 1 "_law_begun" (spBegun K) [] := by
  obtain ⟨f, fd, F, b⟩ := T.d__law_begun
  refine C8.cal0 F b .nil sc__law_begun (fun vs H Q E h => ?_) (fun cdv A outer s H vs Q E hr h => ?_)
  · obtain ⟨a, ns, rfl, _⟩ := h; rfl
  · obtain ⟨a, ns, rfl, hS, hl, q⟩ := h
    have hu := hu_of hr
    have hu64 := hr.units
    have cl_Source := T.cl_Source
    have cl_Scripted := T.cl_Scripted
    have n_Scripted_s1_script := T.n_Scripted_s1_script
    have n_Scripted_s1_place := T.n_Scripted_s1_place
    have v_Scripted_KIND := T.v_Scripted_KIND
    have cl_Draws := T.cl_Draws
    have n_Draws_s5_source := T.n_Draws_s5_source
    have n_Draws_s5_used := T.n_Draws_s5_used
    have v_Draws_KIND := T.v_Draws_KIND
    refine ⟨_, (pss_cons (ps_set (i := 1) sc__law_begun.nd rfl (.inl rfl) (pe_op op_add pe_int (pe_op op_mul pe_int (pe_callB Rd.call_lenQ (by rfl) T.b_len PySem.boot_len (pa_cons (pv 0) pa_nil)))))
      (pss_cons (ps_for PassesOwn.never rfl (pi_enum (by rfl) T.b_enumerate (pa_cons (pv 0) pa_nil)) (pg_tup rfl (pgs_cons (pg_name (i := 2) sc__law_begun.nd rfl (.inl rfl)) (pgs_cons (pg_name (i := 3) sc__law_begun.nd rfl (.inl rfl)) pgs_nil))) (pss_one (ps_set (i := 1) sc__law_begun.nd rfl (.inl rfl) (pe_op op_mod (pe_op op_add (pe_op op_add (pe_op op_mul (pv 1) pe_int) (pv 3)) (pe_op op_mul pe_int (pv 2))) pe_int))))
      (pss_one (ps_ret (pe_disp (pps_cons pe_str (pv 1) (pps_cons pe_str (pe_lc (own := [("_law_cell", 3)]) rfl sc__law_begun.nd (pi_list (pv 0)) (blkOk_by (N := ["_law_script", "_law_whirl", "_law_k", "_law_cell"]) (sc := C8.fnScope s__law_begun) (by decide +kernel)) (fun _ _ _ _ _ => (pg_name (i := 3) sc__law_begun.nd rfl (.inl rfl))) (fun _ _ _ _ _ => (pts_one (pt_cmpR op_ge (pv 3) (pe_op op_pow pe_int pe_int) (nomark _)))) (fun _ _ _ _ _ => (pv 3))) (pps_cons pe_str pe_int pps_nil))) rfl rfl (by simp) (by decide)))))), ?_⟩
    walk_at "rd"
    refine Rd.lenL hS ?_
    have hl' : ((ns.map V.int).length : Int) ≤ 63 := by rw [List.length_map]; omega
    have hl0 : (0 : Int) ≤ ((ns.map V.int).length : Int) := by omega
    walk_at "rd"
    refine ⟨a, _, rfl, hS, for_it (walk_enum (K := K) (a := a) (xs := ns.map V.int)) (fun i σ' H' => ∃ (r : Int) (y2 y3 : Option V), σ' = [some (.ref a), some (.int r), y2, y3] ∧ Rd.Ex H H' ∧ 0 ≤ r ∧ r < 2305843009213693951)
      ⟨_, none, none, rfl, Same.refl H, by omega, by omega⟩ (fun i σ' H' _ hh => ?_) ?_ ?_⟩
    · obtain ⟨_, _, _, _, e, _⟩ := hh
      exact Rd.ex_l e hS
    · rintro i x σ' H' H2 hi ⟨r, y2, y3, rfl, e, r0, r1⟩ ⟨t, x1, x2, rfl, nt, rfl, e1, e2⟩
      obtain ⟨z, hz, rfl⟩ := int_at e2
      cases e1
      walk_at "rd"
      exact ⟨_, _, _, rfl, e.trans (Rd.ex_new nt), by omega, by omega⟩
    · rintro σ' H' ⟨r, y2, y3, rfl, e, r0, r1⟩
      walk_at "rd"
      intro p hp
      walk_at "rd"
      have e1 : Rd.Ex H (upd H' p (.dK [])) := e.trans (Rd.ex_new hp)
      refine ⟨a, rfl, ⟨_, Rd.ex_l e1 hS⟩, fun D hD => lc_list (K := K) (a := a) (xs := ns.map V.int) (fun i H3 => ∃ ms : List Int, H3 D = some (.lst (ms.map V.int)) ∧ ms.length ≤ i ∧ Rd.Ex (upd H' p (.dK [])) H3)
        ⟨[], upd_same, Nat.le_refl _, Rd.ex_new hD⟩ (fun i H3 _ hh => ?_) ?_ ?_⟩
      · obtain ⟨_, _, _, x3⟩ := hh
        exact Rd.ex_l (e1.trans x3) hS
      · rintro i y H3 hi ⟨ms, hm, lm, x3⟩
        obtain ⟨z, hz, rfl⟩ := int_at hi
        have hi2 : i < 63 := by
          have := (List.getElem?_eq_some_iff.mp hz).1
          omega
        walk_at "rd"
        refine ⟨rfl, ?_⟩
        walk_at "rd"
        refine Rd.both (fun c => ?_) (fun c => ?_)
        · walk_at "rd"
          refine ⟨_, hm, by rw [List.length_map]; exact small1000 (by omega), ms ++ [z], ?_, by rw [List.length_append, List.length_singleton]; omega, Rd.ex_mut x3 hD⟩
          rw [upd_same, List.map_append]
          rfl
        · exact ⟨ms, hm, by omega, x3⟩
      · rintro H3 ⟨ms, hm, lm, x3⟩
        walk_at "rd"
        refine ⟨x3 _ _ upd_same, [(kRun, .int r), (kGreat, .ref D), (kTurn, .int 0)], rfl, by show 3 ≤ 15; decide, ?_⟩
        rw [Gx.merge3 n_rg n_rt n_gt]
        have npD : D ≠ p := fun z => by subst z; rw [upd_same] at hD; cases hD
        refine q _ p D ?_ ⟨r, 0, ms, upd_same, by rw [upd_ne npD]; exact hm, r0, r1⟩
        intro b o hb
        have nb : b ≠ p := ne_of_none (e _ _ hb) hp
        rw [upd_ne nb]
        exact x3 _ _ (e1 _ _ hb)
/-! ### digits -/
def spDigits : Sp := fun vs H Q _ => ∃ x s : Nat, vs = [.int (x : Int), .int (s : Int)] ∧ s ≤ 1000 ∧ ∀ p H', H p = none → Rd.Ex H H' → H' p = some (.lst (Pr.words (Pr.digs x s))) → Q (.ref p) H'
theorem u_digits {x s : Nat} {H : Hp} {Q : VK} {E : XK} (h : s ≤ 1000) (q : ∀ p H', H p = none → Rd.Ex H H' → H' p = some (.lst (Pr.words (Pr.digs x s))) → Q (.ref p) H') : spDigits ([.int (x : Int), .int (s : Int)] ++ []) H Q E := ⟨x, s, rfl, h, q⟩
theorem cal__law_digits (T : Txt K mg C_Source C_Scripted C_Draws C_Shortage C_Exhausted) : C8.Cal P w K mg base 1 "_law_digits" (spDigits) [] := by
  obtain ⟨f, fd, F, b⟩ := T.d__law_digits
  refine C8.cal0 F b .nil sc__law_digits (fun vs H Q E h => ?_) (fun cdv A outer s H vs Q E hr h => ?_)
  · obtain ⟨x, s, rfl, _⟩ := h; rfl
  · obtain ⟨x, s, rfl, hs, q⟩ := h
    have hu := hu_of hr
    have hu64 := hr.units
    have cl_Source := T.cl_Source
    have cl_Scripted := T.cl_Scripted
    have n_Scripted_s1_script := T.n_Scripted_s1_script
    have n_Scripted_s1_place := T.n_Scripted_s1_place
    have v_Scripted_KIND := T.v_Scripted_KIND
    have cl_Draws := T.cl_Draws
    have n_Draws_s5_source := T.n_Draws_s5_source
    have n_Draws_s5_used := T.n_Draws_s5_used
    have v_Draws_KIND := T.v_Draws_KIND
    refine ⟨_, (pss_cons (ps_set (i := 2) sc__law_digits.nd rfl (.inl rfl) (pe_lst pa_nil))
      (pss_cons (ps_for PassesOwn.never rfl (pi_range1 rfl T.b_range (pa_cons (pv 1) pa_nil)) (pg_name (i := 3) sc__law_digits.nd rfl (.inl rfl)) (pss_cons (ps_expr (pe_bm PySem.F.plainAttrs_list PySem.F.slot_list_append PySem.F.type_list_append mt_append (pv 2) (pa_cons (pe_op op_mod (pv 0) pe_int) pa_nil)))
      (pss_one (ps_set (i := 0) sc__law_digits.nd rfl (.inl rfl) (pe_op op_fdivW (pv 0) pe_int)))))
      (pss_one (ps_ret (pv 2))))), ?_⟩
    walk_at "rd"
    refine Au.new fun p H1 hp e1 k1 => ?_
    walk_at "rd"
    refine Rd.frN (n := s) rfl (by omega) (fun i σ' H' => ∃ y3, σ' = [some (.int ((x / 2 ^ i : Nat) : Int)), some (.int (s : Int)), some (.ref p), y3] ∧ H' p = some (.lst (Pr.words (Pr.digs x i))) ∧ Rd.Ex H H') ⟨none, by rw [Nat.pow_zero, Nat.div_one]; rfl, k1, e1⟩ ?_ ?_
    · rintro i σ' H2 hi ⟨y3, rfl, k2, e2⟩
      walk_at "rd"
      refine ⟨Rd.tyL k2, ?_⟩
      generalize hy : x / 2 ^ i = y
      walk_at "rd"
      refine Au.app k2 (by rw [List.length_map, Pr.digs_len]; omega) fun H3 m3 k3 => ?_
      walk_at "rd"
      rw [show (y : Int) / 2 = ((x / 2 ^ (i + 1) : Nat) : Int) by rw [Nat.pow_succ, ← Nat.div_div_eq_div_mul, hy]; omega]
      refine ⟨_, rfl, ?_, fun c o h => by walk_at "hp"⟩
      rw [k3, Pr.digs_snoc, hy]
      simp only [Pr.words, List.map_append, List.map_cons, List.map_nil]
      rw [show ((y % 2 : Nat) : Int) = (y : Int) % 2 by omega]
    · rintro σ' H2 ⟨y3, rfl, k2, e2⟩
      walk_at "rd"
      exact q p H2 hp e2 k2
def spNumber (K : PySem.W.Frag) : Sp := fun vs H Q _ => ∃ (a : Addr) (l : List Nat), vs = [.ref a] ∧ (H a = some (.lst (Pr.words l)) ∧ l.length ≤ 2000 ∧ ∀ b ∈ l, b < 2) ∧ ∀ H', Rd.Ex H H' → Q (.int (Pr.num l : Nat)) H'
theorem cal__law_number (T : Txt K mg C_Source C_Scripted C_Draws C_Shortage C_Exhausted) : C8.Cal P w K mg base 1 "_law_number" (spNumber K) [] := by
  obtain ⟨f, fd, F, b⟩ := T.d__law_number
  refine C8.cal0 F b .nil sc__law_number (fun vs H Q E h => ?_) (fun cdv A outer s H vs Q E hr h => ?_)
  · obtain ⟨a, l, rfl, _⟩ := h; rfl
  · obtain ⟨a, l, rfl, ⟨ha, hl, hb⟩, q⟩ := h
    have hu := hu_of hr
    have hu64 := hr.units
    have cl_Source := T.cl_Source
    have cl_Scripted := T.cl_Scripted
    have n_Scripted_s1_script := T.n_Scripted_s1_script
    have n_Scripted_s1_place := T.n_Scripted_s1_place
    have v_Scripted_KIND := T.v_Scripted_KIND
    have cl_Draws := T.cl_Draws
    have n_Draws_s5_source := T.n_Draws_s5_source
    have n_Draws_s5_used := T.n_Draws_s5_used
    have v_Draws_KIND := T.v_Draws_KIND
    refine ⟨_, (pss_cons (ps_set (i := 1) sc__law_number.nd rfl (.inl rfl) pe_int)
      (pss_cons (ps_for PassesOwn.never rfl (pi_list (pe_revL (pv 0))) (pg_name (i := 2) sc__law_number.nd rfl (.inl rfl)) (pss_one (ps_set (i := 1) sc__law_number.nd rfl (.inl rfl) (pe_op op_add (pe_op op_mul pe_int (pv 1)) (pv 2)))))
      (pss_one (ps_ret (pv 1))))), ?_⟩
    walk_at "rd"
    refine ⟨a, _, rfl, Rd.sql ha, ?_⟩
    refine Au.new fun r H1 hr1 e1 k1 => ?_
    walk_at "rd"
    have hk1 : H1 r = some (.lst (Pr.words l.reverse)) := by rw [k1, ← List.map_reverse]
    refine ⟨r, rfl, ⟨_, Rd.sql hk1⟩, for_list (K := K) (a := r) (xs := Pr.words l.reverse) (fun i σ' H' => ∃ y2, σ' = [some (.ref a), some (.int (Pr.hor (l.reverse.take i) : Nat)), y2] ∧ Rd.Ex H1 H') ⟨none, rfl, Same.refl _⟩ (fun i σ' H' _ hh => ?_) ?_ ?_⟩
    · obtain ⟨_, _, e⟩ := hh
      exact Rd.ex_l e (Rd.sql hk1)
    · rintro i v σ' H2 hi ⟨y2, rfl, e2⟩
      rw [List.getElem?_map] at hi
      obtain ⟨w, hw, rfl⟩ := Option.map_eq_some_iff.mp hi
      generalize hh : Pr.hor (l.reverse.take i) = h0
      walk_at "rd"
      have : l.reverse.take (i + 1) = l.reverse.take i ++ [w] := by
        obtain ⟨hl1, he⟩ := List.getElem?_eq_some_iff.mp hw
        rw [List.take_succ_eq_append_getElem hl1, he]
      rw [this, Pr.hor_snoc, hh, show 2 * (h0 : Int) + (w : Int) = ((2 * h0 + w : Nat) : Int) by omega]
      exact ⟨_, rfl, e2⟩
    · rintro σ' H2 ⟨y2, rfl, e2⟩
      walk_at "rd"
      rw [List.length_map, List.take_length, Pr.hor_rev]
      exact q H2 (e1.trans e2)
end
end Pf

set_option Elab.async false
set_option linter.all false
set_option maxRecDepth 100000
set_option maxHeartbeats 4000000
set_option exponentiation.threshold 3000
namespace Pf
open PySem PySem.Spec PyProof.Rows L2
section
variable {P : Program} {w : World} {K : PySem.W.Frag} {mg : Str → Option Value} {base : Heap} {C_Source C_Scripted C_Draws C_Shortage C_Exhausted : Addr}
local macro_rules | `(tactic| walk_at "side") => `(tactic| first | ((with_reducible show L2.CMul _ _); first | exact Or.inl ⟨by omega, by omega⟩ | exact Or.inr ⟨by omega, by omega⟩) | ((with_reducible show L2.CPow _ _); exact ⟨by decide, by decide, by decide⟩) | ((with_reducible show L2.CMulW _ _); exact wide_mul (a := 96) (b := 96) (by omega) (by omega) (by decide) (by decide) (by decide)) | ((with_reducible show L2.CDivW _ _); first | exact wide_div (b := 96) (by omega) (by omega) (by decide) (by decide) | exact wide_div (b := 300) (by omega) (by omega) (by decide) (by decide)) | (show (0 : Int) < _; omega) | (show (0 : Int) ≤ _; omega))
local macro_rules | `(tactic| walk_at "rd1") => `(tactic| first | with_reducible refine Rd.seq ?_ | with_reducible refine Rd.asg ?_ | with_reducible refine Rd.nm ?_ | with_reducible refine Rd.ret ?_ | with_reducible refine Rd.drop ?_ | with_reducible refine Rd.ifs ?_ | with_reducible refine Rd.par ?_ | with_reducible refine Rd.par3 ?_ | with_reducible refine Rd.next ?_ | with_reducible refine Rd.fr1 ?_ | with_reducible refine Rd.nxp ?_ | with_reducible refine Rd.rtp ?_ | ((with_reducible show tVar _ _ _ _); refine Rd.var rfl ?_) | with_reducible refine Rd.cst ?_ | with_reducible refine Rd.op ?_ | with_reducible refine Rd.un ?_ | with_reducible refine Rd.i0 ?_ | with_reducible refine Rd.ung ?_ | with_reducible refine Rd.eqI ?_ | with_reducible refine Rd.neI ?_ | with_reducible refine Rd.eqS ?_ | with_reducible refine Rd.neS ?_ | with_reducible refine Rd.test ?_ | with_reducible refine Rd.tstB ?_ | with_reducible refine Rd.isB ?_ | with_reducible refine Rd.not ?_ | with_reducible refine Rd.andT ?_ | with_reducible refine Rd.orT ?_ | with_reducible refine Rd.andV ?_ | with_reducible refine Rd.orV ?_ | with_reducible refine Rd.notV ?_ | with_reducible refine Rd.ifE ?_ | with_reducible refine Rd.chain ?_ | with_reducible refine Rd.nil ?_ | with_reducible refine Rd.cons ?_ | with_reducible refine Rd.call ?_ | with_reducible refine Rd.cb ?_ | with_reducible refine Rd.bm ?_ | with_reducible refine Au.revL ?_ | with_reducible refine Rd.frl ?_ | with_reducible refine Rd.frt ?_ | with_reducible refine Rd.fre ?_ | with_reducible refine Rd.disp ?_ | with_reducible refine Rd.pnil ?_ | with_reducible refine Rd.pcons ?_ | with_reducible refine Rd.gcons ?_ | with_reducible refine Rd.gnil ?_ | with_reducible refine Rd.gsub ?_ | with_reducible refine Rd.setD ?_ | ((with_reducible show gTup _ _ _ _ _ (upd _ _ (HO.tup _)) _); refine Rd.tupNew rfl ?_) | with_reducible refine Rd.fld ?_ | with_reducible refine Rd.meth ?_ | with_reducible refine Rd.make ?_ | with_reducible refine Rd.prop ?_ | with_reducible refine Au.tup ?_ | with_reducible refine Au.lst ?_ | ((with_reducible refine Au.lenOk ?hl ?_); (case hl => exact rfl)) | with_reducible refine Au.nopart ?_ | with_reducible refine Au.part ?_ | with_reducible refine Au.isI ?_ | with_reducible refine Au.sl ?_ | with_reducible refine Au.pr2 ?_ | with_reducible refine Au.pr3 ?_ | with_reducible refine Au.eqB ?_ | with_reducible refine Rd.isInt ?_ | with_reducible refine Rd.isBool ?_ | with_reducible refine Rd.mx2 ?_ | with_reducible refine Rd.mn2 ?_ | ((with_reducible show Rd.rAndM _ _ _ _); first | refine Rd.and1 ?_ | refine Rd.and48 ?_ | refine Rd.and32 ?_ | refine Rd.and64 ?_ | refine Rd.and65 ?_) | ((with_reducible refine Rd.iC ?hc ?_); (case hc => walk_at "side")) | ((with_reducible refine Rd.yes ?hc ?_); (case hc => first | omega | exact rfl)) | ((with_reducible refine Rd.no ?hc ?_); (case hc => omega)) | ((with_reducible refine Rd.noN ?hc ?_); (case hc => first | omega | exact rfl)) | ((with_reducible refine Rd.yesN ?hc ?_); (case hc => omega)) | ((with_reducible refine Rd.yesNN ?hc ?_); (case hc => omega)) | ((with_reducible refine Rd.noNN ?hc ?_); (case hc => omega)) | with_reducible refine iteT ?_ | with_reducible refine iteF ?_ | with_reducible refine Rd.iteNT ?_ | with_reducible refine Rd.iteNF ?_)
local macro_rules | `(tactic| walk_at "rd") => `(tactic| repeat (walk_at "rd1"))
local macro_rules | `(tactic| walk_at "hp") => `(tactic| first | assumption | (apply Au.sm; (focus assumption); (walk_at "hp")) | (apply Au.smp; (focus assumption); (focus (walk_at "hp")); (walk_at "ne")) | (apply Au.smn; (focus assumption); (focus (walk_at "hp")); (focus (intro _ z; cases z; done))) | fail "hp")
local macro_rules | `(tactic| walk_at "ne") => `(tactic| first | assumption | (apply Ne.symm; assumption) | (apply Au.nen; (focus assumption); (walk_at "hp")) | (apply Au.nen'; (focus assumption); (walk_at "hp")) | (apply Au.nek; (focus assumption); (focus assumption); (intro z; cases z; done)) | (apply Au.nek2; (focus assumption); (focus (walk_at "hp")); (intro z; cases z; done)) | fail "ne")
local macro_rules | `(tactic| walk_at "dp") => `(tactic| first | exact Dp.int _ | exact Dp.str _ | exact Dp.bl _ | exact Dp.non | (apply Dp.lst; (focus (apply Rd.sql; walk_at "hp")); (walk_at "dps")) | (apply Dp.tup; (focus (apply Rd.sqt; walk_at "hp")); (walk_at "dps")) | fail "dp")
local macro_rules | `(tactic| walk_at "dps") => `(tactic| first | exact DpAll.nil | (apply DpAll.cons; (focus (walk_at "dp")); (walk_at "dps")) | fail "dps")
local macro_rules | `(tactic| walk_at "shp") => `(tactic| ((simp only [SeqAt.shaped, PyData.canLay0, PyData.canLayAll0, PyData.depth, PyData.depthAll]) <;> first | decide | rfl))
local macro_rules | `(tactic| walk_at "sd") => `(tactic| first | assumption | rfl | omega | (walk_at "hp") | (refine ⟨?_, ?_⟩; (focus (walk_at "sd")); (walk_at "sd")) | fail "sd")
local macro_rules | `(tactic| walk_at "lk") => `(tactic| first | exact Rd.lk1 | rfl | decide +kernel)
local macro_rules | `(tactic| walk_at "rd1") => `(tactic| first | with_reducible refine Pr.dget ?_ | with_reducible refine Pr.dput ?_ | with_reducible refine Pr.sfld ?_ | with_reducible refine Pr.u_isInt ?_ | ((with_reducible show Pr.spNeed _ _ _ _ _ _); refine Pr.u_need (by omega) (by omega) ?_) | ((with_reducible show Pr.spIs _ _ _ _ _ _); refine Pr.u_isIn (by omega) ?_) | ((with_reducible apply Rd.fld1); (focus (walk_at "hp")); (focus assumption); (focus assumption); (focus (walk_at "lk"))) | ((with_reducible apply Au.methO); (focus (walk_at "hp")); (focus (walk_at "lk"))) | ((with_reducible apply Au.propO); (focus (walk_at "hp"))) | ((with_reducible show rIxT _ (V.ref _) (V.int _) _ _); refine Rd.ixT (Rd.sqt (by walk_at "hp")) rfl ?_) | ((with_reducible show rIxL _ (V.ref _) (V.int _) _ _); refine Rd.ixL (Rd.sql (by walk_at "hp")) rfl ?_) | ((with_reducible show Rd.rLenQ _ [V.ref _] _ _); first | refine Rd.lenL (Rd.sql (by walk_at "hp")) ?_ | refine Rd.lenT (Rd.sqt (by walk_at "hp")) ?_) | ((with_reducible show gTup _ _ _ (V.ref _) _ _ _); refine Rd.gtup (Rd.sqt (by walk_at "hp")) rfl ?_) | with_reducible refine Gx.gat ?_ | with_reducible refine Gx.gnx ?_ | with_reducible refine Gx.gthen ?_ | with_reducible refine Gx.gplain ?_ | with_reducible refine Gx.gfr ?_ | with_reducible refine Gx.lg ?_ | with_reducible refine Gx.mg ?_ | with_reducible refine Gx.sme ?_ | with_reducible refine Gx.callSD ?_ | with_reducible refine Gx.methSD ?_)
local macro_rules | `(tactic| walk_at "rd1") => `(tactic| first | with_reducible refine Gx.mkR ?_ | with_reducible refine Gx.fr3 ?_ | with_reducible refine Gx.makeD ?_ | with_reducible refine Gx.frz ?_ | with_reducible refine Gx.lcO ?_ | with_reducible refine Gx.itupO ?_ | with_reducible refine Gx.ilistO ?_ | with_reducible refine Gx.irng1O ?_ | with_reducible refine Gx.ival ?_ | ((with_reducible apply Gx.ivalO); (focus (walk_at "hp")); (focus assumption); (focus assumption); (focus (walk_at "lk"))) | ((with_reducible show Gx.rTupOf _ [V.ref _] _ _); refine Gx.tupOfL (Rd.sql (by walk_at "hp")) ?_) | ((with_reducible show Gx.rLstOf _ [V.ref _] _ _); first | refine Gx.lstOfL (Rd.sql (by walk_at "hp")) ?_ | refine Gx.lstOfT (Rd.sqt (by walk_at "hp")) ?_))
local macro_rules | `(tactic| walk_at "hp") => `(tactic| first | assumption | (apply Pr.smq; (focus assumption); (focus (walk_at "hp")); (focus (walk_at "ne")); (walk_at "ne")))
local macro_rules | `(tactic| walk_at "hp") => `(tactic| first | assumption | (apply smb; (focus assumption); (focus (walk_at "hp")); (focus assumption); assumption) | (apply smbK; (focus assumption); (focus (walk_at "hp")); (focus (walk_at "dr")); (constructor <;> (intro _ z; cases z; done))) | (apply smbN; (focus assumption); (focus (walk_at "hp")); (focus assumption); (walk_at "dr")))
local macro_rules | `(tactic| walk_at "dr") => `(tactic| first | assumption | (apply Draw.ex; (focus assumption); (walk_at "dr")) | (apply Draw.exp; (focus assumption); (focus (walk_at "dr")); (focus (walk_at "nd"))) | fail "dr")
local macro_rules | `(tactic| walk_at "nd") => `(tactic| first | assumption | (apply ndN; (focus assumption); (walk_at "dr")) | fail "nd")
def spPickL : Sp := fun vs H Q _ => ∃ (d g a : Addr) (xs : List V), vs = [.ref d, .ref a] ∧ (Draw H d g ∧ H a = some (.lst xs) ∧ a ≠ g ∧ 0 < xs.length ∧ xs.length ≤ 1000) ∧ ∀ (H' : Hp) (i : Nat) (v : V), xs[i]? = some v → Draw H' d g → ExB d g H H' → Q v H'
theorem u_pickL {d g a : Addr} {xs : List V} {H : Hp} {Q : VK} {E : XK} (h : Draw H d g ∧ H a = some (.lst xs) ∧ a ≠ g ∧ 0 < xs.length ∧ xs.length ≤ 1000) (q : ∀ (H' : Hp) (i : Nat) (v : V), xs[i]? = some v → Draw H' d g → ExB d g H H' → Q v H') : spPickL ([.ref d, .ref a] ++ []) H Q E := ⟨d, g, a, xs, rfl, h, q⟩
theorem cal__law_pick (T : Txt K mg C_Source C_Scripted C_Draws C_Shortage C_Exhausted) : C8.Cal P w K mg base 2 "_law_pick" (spPickL) [] := by
  obtain ⟨f, fd, F, b⟩ := T.d__law_pick
  refine C8.cal0 F b .nil sc__law_pick (fun vs H Q E h => ?_) (fun cdv A outer s H vs Q E hr h => ?_)
  · obtain ⟨d, g, a, xs, rfl, _⟩ := h; rfl
  · obtain ⟨d, g, a, xs, rfl, ⟨D, ha, ng, l0, l1⟩, q⟩ := h
    have hu := hu_of hr
    have hu64 := hr.units
    have cl_Source := T.cl_Source
    have cl_Scripted := T.cl_Scripted
    have n_Scripted_s1_script := T.n_Scripted_s1_script
    have n_Scripted_s1_place := T.n_Scripted_s1_place
    have v_Scripted_KIND := T.v_Scripted_KIND
    have cl_Draws := T.cl_Draws
    have n_Draws_s5_source := T.n_Draws_s5_source
    have n_Draws_s5_used := T.n_Draws_s5_used
    have v_Draws_KIND := T.v_Draws_KIND
    refine ⟨_, (pss_one (ps_ret (pe_ix ix_list (pv 1) (C8.pe_c (cal__law_next T) hr (by omega) (by rfl) (pa_cons (pv 0) (pa_cons (pe_callB Rd.call_lenQ (by rfl) T.b_len PySem.boot_len (pa_cons (pv 1) pa_nil)) pa_nil))) (fun _ _ => rfl)))), ?_⟩
    walk_at "rd"
    refine u_next (by omega) (by omega) D fun H1 v v0 v1 D1 x1 => ?_
    obtain ⟨i, rfl⟩ := Int.eq_ofNat_of_zero_le v0
    have hi : xs[i]? = some xs[i] := List.getElem?_eq_getElem (by omega)
    have nd : a ≠ d := fun z => by
      obtain ⟨r, t, ns, D⟩ := D
      rw [z, D.dic] at ha; cases ha
    refine Rd.ixL (Rd.sql (x1 _ _ ha nd ng)) (atI_nat hi) ?_
    walk_at "rd"
    exact q H1 i _ hi D1 x1
def spWordL : Sp := fun vs H Q _ => ∃ (d g : Addr), vs = [.ref d] ∧ Draw H d g ∧ ∀ (H' : Hp) (w : Nat), w < 4294967296 → Draw H' d g → ExB d g H H' → Q (.int (w : Int)) H'
theorem u_wordL {d g : Addr} {H : Hp} {Q : VK} {E : XK} (h : Draw H d g) (q : ∀ (H' : Hp) (w : Nat), w < 4294967296 → Draw H' d g → ExB d g H H' → Q (.int (w : Int)) H') : spWordL ([.ref d] ++ []) H Q E := ⟨d, g, rfl, h, q⟩
theorem cal__law_word (T : Txt K mg C_Source C_Scripted C_Draws C_Shortage C_Exhausted) : C8.Cal P w K mg base 3 "_law_word" (spWordL) [] := by
  obtain ⟨f, fd, F, b⟩ := T.d__law_word
  refine C8.cal0 F b .nil sc__law_word (fun vs H Q E h => ?_) (fun cdv A outer s H vs Q E hr h => ?_)
  · obtain ⟨d, g, rfl, _⟩ := h; rfl
  · obtain ⟨d, g, rfl, D, q⟩ := h
    have hu := hu_of hr
    have hu64 := hr.units
    have cl_Source := T.cl_Source
    have cl_Scripted := T.cl_Scripted
    have n_Scripted_s1_script := T.n_Scripted_s1_script
    have n_Scripted_s1_place := T.n_Scripted_s1_place
    have v_Scripted_KIND := T.v_Scripted_KIND
    have cl_Draws := T.cl_Draws
    have n_Draws_s5_source := T.n_Draws_s5_source
    have n_Draws_s5_used := T.n_Draws_s5_used
    have v_Draws_KIND := T.v_Draws_KIND
    refine ⟨_, (pss_cons (ps_set (i := 1) sc__law_word.nd rfl (.inl rfl) (C8.pe_c (cal__law_next T) hr (by omega) (by rfl) (pa_cons (pv 0) (pa_cons pe_int pa_nil))))
      (pss_one (ps_ret (C8.pe_c (cal__law_pick T) hr (by omega) (by rfl) (pa_cons (pv 0) (pa_cons (pe_lst (pa_cons pe_int (pa_cons pe_int (pa_cons pe_int (pa_cons (pv 1) (pa_cons (pv 1) pa_nil)))))) pa_nil)))))), ?_⟩
    walk_at "rd"
    refine u_next (by decide) (by decide) D fun H1 v v0 v1 D1 x1 => ?_
    obtain ⟨v, rfl⟩ := Int.eq_ofNat_of_zero_le v0
    walk_at "rd"
    refine Au.new fun p H2 hp e2 k2 => ?_
    walk_at "rd"
    refine u_pickL (g := g) ⟨by walk_at "dr", k2, (ndN hp D1).2, Nat.le_of_ble_eq_true rfl, Nat.le_of_ble_eq_true rfl⟩ fun H3 i u hu D3 x3 => ?_
    walk_at "rd"
    have fr : ExB d g H H3 := fun c o h n1 n2 => by walk_at "hp"
    match i, hu with
    | 0, hu => cases hu; exact q H3 0 (by decide) D3 fr
    | 1, hu => cases hu; exact q H3 4294967295 (by decide) D3 fr
    | 2, hu => cases hu; exact q H3 2147483648 (by decide) D3 fr
    | 3, hu => cases hu; exact q H3 v (by omega) D3 fr
    | 4, hu => cases hu; exact q H3 v (by omega) D3 fr
    | i + 5, hu => cases hu
theorem cal__law_size (T : Txt K mg C_Source C_Scripted C_Draws C_Shortage C_Exhausted) : C8.Cal P w K mg base 1 "_law_size" (spSize) [] := by
  obtain ⟨f, fd, F, b⟩ := T.d__law_size
  refine C8.cal0 F b .nil sc__law_size (fun vs H Q E h => ?_) (fun cdv A outer s H vs Q E hr h => ?_)
  · obtain ⟨n, rfl, _⟩ := h; rfl
  · obtain ⟨n, rfl, hn, q⟩ := h
    have hu := hu_of hr
    have hu64 := hr.units
    have cl_Source := T.cl_Source
    have cl_Scripted := T.cl_Scripted
    have n_Scripted_s1_script := T.n_Scripted_s1_script
    have n_Scripted_s1_place := T.n_Scripted_s1_place
    have v_Scripted_KIND := T.v_Scripted_KIND
    have cl_Draws := T.cl_Draws
    have n_Draws_s5_source := T.n_Draws_s5_source
    have n_Draws_s5_used := T.n_Draws_s5_used
    have v_Draws_KIND := T.v_Draws_KIND
    refine ⟨_, (pss_cons (ps_set (i := 1) sc__law_size.nd rfl (.inl rfl) pe_int)
      (pss_cons (ps_while PassesOwn.never (pt_cmpR op_gt (pv 0) pe_int (nomark _)) (pss_one (ps_par (i := 1) (j := 0) rfl sc__law_size.nd rfl rfl (by decide) rfl rfl (pa_cons (pe_op op_add (pv 1) pe_int) (pa_cons (pe_op op_fdivW (pv 0) pe_int) pa_nil)) (by rfl))))
      (pss_one (ps_ret (pv 1))))), ?_⟩
    walk_at "rd"
    refine Rd.whl (fun m σ' H' => ∃ i r : Nat, m = r ∧ σ' = [some (.int (r : Int)), some (.int (i : Int))] ∧ H' = H ∧ i + Pr.bl r = Pr.bl n) n ⟨0, n, rfl, rfl, rfl, Nat.zero_add _⟩ ?_
    rintro m σ' H' ⟨i, r, rfl, rfl, rfl, e⟩
    walk_at "rd"
    refine Rd.both (fun c => ?_) (fun c => ?_)
    · refine ⟨_, fun _ _ z => z, ?_⟩
      walk_at "rd"
      rw [show (m : Int) / 2 = ((m / 2 : Nat) : Int) by omega, show (i : Int) + 1 = ((i + 1 : Nat) : Int) by omega]
      refine ⟨m / 2, by omega, i + 1, m / 2, rfl, rfl, rfl, ?_⟩
      rw [← e, Pr.bl_pos (show 0 < m by omega)]
      omega
    · walk_at "rd"
      have : m = 0 := by omega
      subst this
      rw [Pr.bl_zero, Nat.add_zero] at e
      rw [e]
      exact q
theorem digs_bit (s x : Nat) : ∀ b ∈ Pr.digs x s, b < 2 := by
  induction s generalizing x with
  | zero => intro b hb; cases hb
  | succ s ih =>
    intro b hb
    simp only [Pr.digs, List.mem_cons] at hb
    rcases hb with rfl | hb
    · omega
    · exact ih _ b hb
def spRowOf : Sp := fun vs H Q _ => ∃ (d g : Addr) (N s : Nat), vs = [.ref d, .int (N : Int), .int (s : Int)] ∧ (Draw H d g ∧ s ≤ 512 ∧ N < 2 ^ s) ∧
  ∀ (p : Addr) (H' : Hp) (r : List Nat), H p = none → Draw H' d g → ExB d g H H' → H' p = some (.lst (Pr.words r)) → r.length = Pr.need s → (∀ w ∈ r, w < 4294967296) → (0 < s → Pr.bitsN r s = N) → Q (.ref p) H'
theorem ex_none {H H1 : Hp} {p : Addr} (e : Rd.Ex H H1) (h : H1 p = none) : H p = none := by
  cases hh : H p with
  | none => rfl
  | some o => rw [e p o hh] at h; cases h
theorem rg32 {s : Nat} (h : s ≤ 512) : RgC 0 (s : Int) 32 (Pr.need s) := by
  have e : Builtin.Range.rangeSize 0 (s : Int) 32 = Pr.need s := by
    unfold Builtin.Range.rangeSize Pr.need
    split
    · split <;> omega
    · omega
  refine ⟨by decide, by decide, ?_, e⟩
  unfold Builtin.Range.small
  rw [e]
  unfold Builtin.Range.rangeFitsLong
  rw [if_pos (show (32 : Int) > 0 by decide)]
  rw [Bool.and_eq_true, Bool.and_eq_true, Bool.and_eq_true, Bool.and_eq_true, Bool.or_eq_true, Bool.and_eq_true, Bool.and_eq_true, Bool.and_eq_true, Bool.and_eq_true, Bool.and_eq_true, decide_eq_true_eq, decide_eq_true_eq, decide_eq_true_eq, decide_eq_true_eq, decide_eq_true_eq, decide_eq_true_eq, decide_eq_true_eq, decide_eq_true_eq, decide_eq_true_eq, decide_eq_true_eq]
  have : Pr.need s ≤ 17 := by unfold Pr.need; omega
  refine ⟨⟨⟨⟨?_, ?_⟩, ?_⟩, ?_⟩, .inr ?_⟩
  · omega
  · omega
  · omega
  · omega
  · omega
theorem cal__law_row_of (T : Txt K mg C_Source C_Scripted C_Draws C_Shortage C_Exhausted) : C8.Cal P w K mg base 4 "_law_row_of" (spRowOf) [] := by
  obtain ⟨f, fd, F, b⟩ := T.d__law_row_of
  refine C8.cal0 F b .nil sc__law_row_of (fun vs H Q E h => ?_) (fun cdv A outer s H vs Q E hr h => ?_)
  · obtain ⟨d, g, N, s, rfl, _⟩ := h; rfl
  · obtain ⟨d, g, N, s, rfl, ⟨D, hs, hN⟩, q⟩ := h
    have hu := hu_of hr
    have hu64 := hr.units
    have cl_Source := T.cl_Source
    have cl_Scripted := T.cl_Scripted
    have n_Scripted_s1_script := T.n_Scripted_s1_script
    have n_Scripted_s1_place := T.n_Scripted_s1_place
    have v_Scripted_KIND := T.v_Scripted_KIND
    have cl_Draws := T.cl_Draws
    have n_Draws_s5_source := T.n_Draws_s5_source
    have n_Draws_s5_used := T.n_Draws_s5_used
    have v_Draws_KIND := T.v_Draws_KIND
    refine ⟨_, (pss_cons (ps_par (i := 3) (j := 4) rfl sc__law_row_of.nd rfl rfl (by decide) rfl rfl (pa_cons (C8.pe_c (cal__law_digits T) hr (by omega) (by rfl) (pa_cons (pv 1) (pa_cons (pv 2) pa_nil))) (pa_cons (pe_lst pa_nil) pa_nil)) (by rfl))
      (pss_cons (ps_for PassesOwn.never rfl (pi_range3 rfl T.b_range (pa_cons pe_int (pa_cons (pv 2) (pa_cons pe_int pa_nil)))) (pg_name (i := 5) sc__law_row_of.nd rfl (.inl rfl)) (pss_cons (ps_set (i := 6) sc__law_row_of.nd rfl (.inl rfl) (pe_slice sl_list (pv 3) (po_some (pv 5)) (po_some (pe_op op_add (pv 5) pe_int))))
      (pss_cons (ps_set (i := 7) sc__law_row_of.nd rfl (.inl rfl) (pe_slice sl_list (C8.pe_c (cal__law_digits T) hr (by omega) (by rfl) (pa_cons (C8.pe_c (cal__law_word T) hr (by omega) (by rfl) (pa_cons (pv 0) pa_nil)) (pa_cons pe_int pa_nil))) po_none (po_some (pe_op op_sub pe_int (pe_callB Rd.call_lenQ (by rfl) T.b_len PySem.boot_len (pa_cons (pv 6) pa_nil))))))
      (pss_one (ps_expr (pe_bm PySem.F.plainAttrs_list PySem.F.slot_list_append PySem.F.type_list_append mt_append (pv 4) (pa_cons (C8.pe_c (cal__law_number T) hr (by omega) (by rfl) (pa_cons (pe_op op_cat (pv 7) (pv 6)) pa_nil)) pa_nil)))))))
      (pss_one (ps_ret (pv 4))))), ?_⟩
    walk_at "rd"
    refine u_digits (by omega) fun p1 H1 hp1 e1 k1 => ?_
    walk_at "rd"
    refine Au.new fun p2 H2 hp2 e2 k2 => ?_
    walk_at "rd"
    refine ⟨0, s, 32, Pr.need s, rfl, rg32 hs, for_rangeC (fun i σ' H' => ∃ (r : List Nat) (y5 y6 y7 : Option V), σ' = [some (.ref d), some (.int (N : Int)), some (.int (s : Int)), some (.ref p1), some (.ref p2), y5, y6, y7] ∧ H' p1 = some (.lst (Pr.words (Pr.digs N s))) ∧ H' p2 = some (.lst (Pr.words r)) ∧ Draw H' d g ∧ ExB d g H H' ∧ r.length = i ∧ ∀ j w, r[j]? = some w → w < 4294967296 ∧ w / 2 ^ (32 - min 32 (s - 32 * j)) = N / 2 ^ (32 * j) % 2 ^ min 32 (s - 32 * j)) ⟨[], none, none, none, rfl, by walk_at "hp", k2, by walk_at "dr", fun c o h n1 n2 => by walk_at "hp", rfl, fun j w h => by simp at h⟩ ?_ ?_⟩
    · rintro i σ' H3 hi ⟨r, y5, y6, y7, rfl, k3, k3', D3, x3, hr3, hw⟩
      rw [show (0 : Int) + (i : Nat) * 32 = ((32 * i : Nat) : Int) by omega]
      walk_at "rd"
      refine Au.slL (Rd.sql k3) ?_
      refine Au.new fun p4 H4 hp4 e4 k4 => ?_
      have h32 : 32 * i < s := by
        have : i < Pr.need s := hi
        unfold Pr.need at this
        omega
      rw [show ((32 * i : Nat) : Int) + 32 = ((32 * i + 32 : Nat) : Int) by omega, Pr.cut_mid, show 32 * i + 32 - 32 * i = 32 by omega] at k4
      have k4 : H4 p4 = some (.lst (Pr.words (Pr.digs (N / 2 ^ (32 * i)) (min 32 (s - 32 * i))))) := by
        rw [k4, Pr.words, ← List.map_drop, ← List.map_take, Pr.digs_mid N s i (by omega)]
      generalize hl : min 32 (s - 32 * i) = l at k4
      walk_at "rd"
      refine u_wordL (d := d) (g := g) (by walk_at "dr") fun H5 u hu5 D5 x5 => ?_
      walk_at "rd"
      refine u_digits (x := u) (s := 32) (by decide) fun p6 H6 hp6 e6 k6 => ?_
      walk_at "rd"
      refine Au.slL (Rd.sql k6) ?_
      refine Au.new fun p7 H7 hp7 e7 k7 => ?_
      have hl32 : l ≤ 32 := by omega
      rw [List.length_map, Pr.digs_len, show (32 : Int) - (l : Int) = ((32 - l : Nat) : Int) by omega, Pr.cut_take] at k7
      have k7 : H7 p7 = some (.lst (Pr.words (Pr.digs u (32 - l)))) := by
        rw [k7, Pr.words, ← List.map_take, Pr.digs_take _ _ _ (by omega)]
      walk_at "rd"
      have k3b : H7 p2 = some (.lst (Pr.words r)) := by walk_at "hp"
      have k4b : H7 p4 = some (.lst (Pr.words (Pr.digs (N / 2 ^ (32 * i)) l))) := by walk_at "hp"
      refine ⟨Rd.tyL k3b, ?_⟩
      walk_at "rd"
      refine Au.cat k7 k4b (by rw [List.length_map, List.length_map, Pr.digs_len, Pr.digs_len]; omega) fun p8 H8 hp8 e8 k8 => ?_
      rw [← List.map_append] at k8
      walk_at "rd"
      refine ⟨p8, _, rfl, ⟨k8, ?_, ?_⟩, fun H9 e9 => ?_⟩
      · rw [List.length_append, Pr.digs_len, Pr.digs_len]; omega
      · intro b hb
        rcases List.mem_append.mp hb with hb | hb <;> exact digs_bit _ _ b hb
      have he := Pr.enc_word (u := u) (y := N / 2 ^ (32 * i)) hl32
      generalize Pr.num (Pr.digs u (32 - l) ++ Pr.digs (N / 2 ^ (32 * i)) l) = z at he
      walk_at "rd"
      have k3c : H9 p2 = some (.lst (Pr.words r)) := by walk_at "hp"
      refine Au.app k3c (by rw [List.length_map]; unfold Pr.need at hi; omega) fun H10 m10 k10 => ?_
      have np : p1 ≠ p2 := Au.nen hp2 k1
      have ng : g ≠ p2 := fun z => by
        obtain ⟨_, _, _, D⟩ := D
        exact ne_of_none (e1 _ _ D.lst) hp2 z
      have nd : d ≠ p2 := fun z => by
        obtain ⟨_, _, _, D⟩ := D
        exact ne_of_none (e1 _ _ D.dic) hp2 z
      refine ⟨r ++ [z], _, _, _, rfl, by walk_at "hp", by rw [k10]; simp only [Pr.words, List.map_append, List.map_cons, List.map_nil], ?_, fun c o h n1 n2 => ?_, by rw [List.length_append, hr3]; rfl, fun j w h => ?_⟩
      · walk_at "dr"
      · walk_at "hp"
      · rw [List.getElem?_append] at h
        split at h
        · exact hw j w h
        · rename_i hj
          have : j = i := by
            rcases Nat.eq_or_lt_of_le (show i ≤ j by omega) with e | e
            · exact e.symm
            · rw [List.getElem?_eq_none (by rw [List.length_singleton]; omega)] at h; cases h
          subst this
          rw [hr3, Nat.sub_self] at h
          cases h
          rw [hl]
          exact he
    · rintro σ' H3 ⟨r, y5, y6, y7, rfl, k3, k3', D3, x3, hr3, hw⟩
      walk_at "rd"
      exact q p2 H3 r (ex_none e1 hp2) D3 x3 k3' hr3 (fun w h => by
        obtain ⟨j, h⟩ := List.getElem?_of_mem h
        exact (hw j w h).1) (fun h0 => Pr.enc_ok r s N hr3 h0 hN hw)
end
end Pf

set_option Elab.async false
set_option linter.all false
set_option maxRecDepth 100000
set_option maxHeartbeats 4000000
set_option exponentiation.threshold 3000
namespace Pf
open PySem PySem.Spec PyProof.Rows L2
section
variable {P : Program} {w : World} {K : PySem.W.Frag} {mg : Str → Option Value} {base : Heap} {C_Source C_Scripted C_Draws C_Shortage C_Exhausted : Addr}
local macro_rules | `(tactic| walk_at "side") => `(tactic| first | ((with_reducible show L2.CMul _ _); first | exact Or.inl ⟨by omega, by omega⟩ | exact Or.inr ⟨by omega, by omega⟩) | ((with_reducible show L2.CPow _ _); exact ⟨by decide, by decide, by decide⟩) | ((with_reducible show L2.CMulW _ _); exact wide_mul (a := 96) (b := 96) (by omega) (by omega) (by decide) (by decide) (by decide)) | ((with_reducible show L2.CDivW _ _); first | exact wide_div (b := 96) (by omega) (by omega) (by decide) (by decide) | exact wide_div (b := 300) (by omega) (by omega) (by decide) (by decide)) | (show (0 : Int) < _; omega) | (show (0 : Int) ≤ _; omega))
local macro_rules | `(tactic| walk_at "rd1") => `(tactic| first | with_reducible refine Rd.seq ?_ | with_reducible refine Rd.asg ?_ | with_reducible refine Rd.nm ?_ | with_reducible refine Rd.ret ?_ | with_reducible refine Rd.drop ?_ | with_reducible refine Rd.ifs ?_ | with_reducible refine Rd.par ?_ | with_reducible refine Rd.par3 ?_ | with_reducible refine Rd.next ?_ | with_reducible refine Rd.fr1 ?_ | with_reducible refine Rd.nxp ?_ | with_reducible refine Rd.rtp ?_ | ((with_reducible show tVar _ _ _ _); refine Rd.var rfl ?_) | with_reducible refine Rd.cst ?_ | with_reducible refine Rd.op ?_ | with_reducible refine Rd.un ?_ | with_reducible refine Rd.i0 ?_ | with_reducible refine Rd.ung ?_ | with_reducible refine Rd.eqI ?_ | with_reducible refine Rd.neI ?_ | with_reducible refine Rd.eqS ?_ | with_reducible refine Rd.neS ?_ | with_reducible refine Rd.test ?_ | with_reducible refine Rd.tstB ?_ | with_reducible refine Rd.isB ?_ | with_reducible refine Rd.not ?_ | with_reducible refine Rd.andT ?_ | with_reducible refine Rd.orT ?_ | with_reducible refine Rd.andV ?_ | with_reducible refine Rd.orV ?_ | with_reducible refine Rd.notV ?_ | with_reducible refine Rd.ifE ?_ | with_reducible refine Rd.chain ?_ | with_reducible refine Rd.nil ?_ | with_reducible refine Rd.cons ?_ | with_reducible refine Rd.call ?_ | with_reducible refine Rd.cb ?_ | with_reducible refine Rd.bm ?_ | with_reducible refine Au.revL ?_ | with_reducible refine Rd.frl ?_ | with_reducible refine Rd.frt ?_ | with_reducible refine Rd.fre ?_ | with_reducible refine Rd.disp ?_ | with_reducible refine Rd.pnil ?_ | with_reducible refine Rd.pcons ?_ | with_reducible refine Rd.gcons ?_ | with_reducible refine Rd.gnil ?_ | with_reducible refine Rd.gsub ?_ | with_reducible refine Rd.setD ?_ | ((with_reducible show gTup _ _ _ _ _ (upd _ _ (HO.tup _)) _); refine Rd.tupNew rfl ?_) | with_reducible refine Rd.fld ?_ | with_reducible refine Rd.meth ?_ | with_reducible refine Rd.make ?_ | with_reducible refine Rd.prop ?_ | with_reducible refine Au.tup ?_ | with_reducible refine Au.lst ?_ | ((with_reducible refine Au.lenOk ?hl ?_); (case hl => exact rfl)) | with_reducible refine Au.nopart ?_ | with_reducible refine Au.part ?_ | with_reducible refine Au.isI ?_ | with_reducible refine Au.sl ?_ | with_reducible refine Au.pr2 ?_ | with_reducible refine Au.pr3 ?_ | with_reducible refine Au.eqB ?_ | with_reducible refine Rd.isInt ?_ | with_reducible refine Rd.isBool ?_ | with_reducible refine Rd.mx2 ?_ | with_reducible refine Rd.mn2 ?_ | ((with_reducible show Rd.rAndM _ _ _ _); first | refine Rd.and1 ?_ | refine Rd.and48 ?_ | refine Rd.and32 ?_ | refine Rd.and64 ?_ | refine Rd.and65 ?_) | ((with_reducible refine Rd.iC ?hc ?_); (case hc => walk_at "side")) | ((with_reducible refine Rd.yes ?hc ?_); (case hc => first | omega | exact rfl)) | ((with_reducible refine Rd.no ?hc ?_); (case hc => omega)) | ((with_reducible refine Rd.noN ?hc ?_); (case hc => first | omega | exact rfl)) | ((with_reducible refine Rd.yesN ?hc ?_); (case hc => omega)) | ((with_reducible refine Rd.yesNN ?hc ?_); (case hc => omega)) | ((with_reducible refine Rd.noNN ?hc ?_); (case hc => omega)) | with_reducible refine iteT ?_ | with_reducible refine iteF ?_ | with_reducible refine Rd.iteNT ?_ | with_reducible refine Rd.iteNF ?_)
local macro_rules | `(tactic| walk_at "rd") => `(tactic| repeat (walk_at "rd1"))
local macro_rules | `(tactic| walk_at "hp") => `(tactic| first | assumption | (apply Au.sm; (focus assumption); (walk_at "hp")) | (apply Au.smp; (focus assumption); (focus (walk_at "hp")); (walk_at "ne")) | (apply Au.smn; (focus assumption); (focus (walk_at "hp")); (focus (intro _ z; cases z; done))) | fail "hp")
local macro_rules | `(tactic| walk_at "ne") => `(tactic| first | assumption | (apply Ne.symm; assumption) | (apply Au.nen; (focus assumption); (walk_at "hp")) | (apply Au.nen'; (focus assumption); (walk_at "hp")) | (apply Au.nek; (focus assumption); (focus assumption); (intro z; cases z; done)) | (apply Au.nek2; (focus assumption); (focus (walk_at "hp")); (intro z; cases z; done)) | fail "ne")
local macro_rules | `(tactic| walk_at "dp") => `(tactic| first | exact Dp.int _ | exact Dp.str _ | exact Dp.bl _ | exact Dp.non | (apply Dp.lst; (focus (apply Rd.sql; walk_at "hp")); (walk_at "dps")) | (apply Dp.tup; (focus (apply Rd.sqt; walk_at "hp")); (walk_at "dps")) | fail "dp")
local macro_rules | `(tactic| walk_at "dps") => `(tactic| first | exact DpAll.nil | (apply DpAll.cons; (focus (walk_at "dp")); (walk_at "dps")) | fail "dps")
local macro_rules | `(tactic| walk_at "shp") => `(tactic| ((simp only [SeqAt.shaped, PyData.canLay0, PyData.canLayAll0, PyData.depth, PyData.depthAll]) <;> first | decide | rfl))
local macro_rules | `(tactic| walk_at "sd") => `(tactic| first | assumption | rfl | omega | (walk_at "hp") | (refine ⟨?_, ?_⟩; (focus (walk_at "sd")); (walk_at "sd")) | fail "sd")
local macro_rules | `(tactic| walk_at "lk") => `(tactic| first | exact Rd.lk1 | rfl | decide +kernel)
local macro_rules | `(tactic| walk_at "rd1") => `(tactic| first | with_reducible refine Pr.dget ?_ | with_reducible refine Pr.dput ?_ | with_reducible refine Pr.sfld ?_ | with_reducible refine Pr.u_isInt ?_ | ((with_reducible show Pr.spNeed _ _ _ _ _ _); refine Pr.u_need (by omega) (by omega) ?_) | ((with_reducible show Pr.spIs _ _ _ _ _ _); refine Pr.u_isIn (by omega) ?_) | ((with_reducible apply Rd.fld1); (focus (walk_at "hp")); (focus assumption); (focus assumption); (focus (walk_at "lk"))) | ((with_reducible apply Au.methO); (focus (walk_at "hp")); (focus (walk_at "lk"))) | ((with_reducible apply Au.propO); (focus (walk_at "hp"))) | ((with_reducible show rIxT _ (V.ref _) (V.int _) _ _); refine Rd.ixT (Rd.sqt (by walk_at "hp")) rfl ?_) | ((with_reducible show rIxL _ (V.ref _) (V.int _) _ _); refine Rd.ixL (Rd.sql (by walk_at "hp")) rfl ?_) | ((with_reducible show Rd.rLenQ _ [V.ref _] _ _); first | refine Rd.lenL (Rd.sql (by walk_at "hp")) ?_ | refine Rd.lenT (Rd.sqt (by walk_at "hp")) ?_) | ((with_reducible show gTup _ _ _ (V.ref _) _ _ _); refine Rd.gtup (Rd.sqt (by walk_at "hp")) rfl ?_) | with_reducible refine Gx.gat ?_ | with_reducible refine Gx.gnx ?_ | with_reducible refine Gx.gthen ?_ | with_reducible refine Gx.gplain ?_ | with_reducible refine Gx.gfr ?_ | with_reducible refine Gx.lg ?_ | with_reducible refine Gx.mg ?_ | with_reducible refine Gx.sme ?_ | with_reducible refine Gx.callSD ?_ | with_reducible refine Gx.methSD ?_)
local macro_rules | `(tactic| walk_at "rd1") => `(tactic| first | with_reducible refine Gx.mkR ?_ | with_reducible refine Gx.fr3 ?_ | with_reducible refine Gx.makeD ?_ | with_reducible refine Gx.frz ?_ | with_reducible refine Gx.lcO ?_ | with_reducible refine Gx.itupO ?_ | with_reducible refine Gx.ilistO ?_ | with_reducible refine Gx.irng1O ?_ | with_reducible refine Gx.ival ?_ | ((with_reducible apply Gx.ivalO); (focus (walk_at "hp")); (focus assumption); (focus assumption); (focus (walk_at "lk"))) | ((with_reducible show Gx.rTupOf _ [V.ref _] _ _); refine Gx.tupOfL (Rd.sql (by walk_at "hp")) ?_) | ((with_reducible show Gx.rLstOf _ [V.ref _] _ _); first | refine Gx.lstOfL (Rd.sql (by walk_at "hp")) ?_ | refine Gx.lstOfT (Rd.sqt (by walk_at "hp")) ?_))
local macro_rules | `(tactic| walk_at "hp") => `(tactic| first | assumption | (apply Pr.smq; (focus assumption); (focus (walk_at "hp")); (focus (walk_at "ne")); (walk_at "ne")))
local macro_rules | `(tactic| walk_at "hp") => `(tactic| first | assumption | (apply smb; (focus assumption); (focus (walk_at "hp")); (focus assumption); assumption) | (apply smbK; (focus assumption); (focus (walk_at "hp")); (focus (walk_at "dr")); (constructor <;> (intro _ z; cases z; done))) | (apply smbN; (focus assumption); (focus (walk_at "hp")); (focus assumption); (walk_at "dr")))
local macro_rules | `(tactic| walk_at "dr") => `(tactic| first | assumption | (apply Draw.ex; (focus assumption); (walk_at "dr")) | (apply Draw.exp; (focus assumption); (focus (walk_at "dr")); (focus (walk_at "nd"))) | fail "dr")
local macro_rules | `(tactic| walk_at "nd") => `(tactic| first | assumption | (apply ndN; (focus assumption); (walk_at "dr")) | fail "nd")
def spBound : Sp := fun vs H Q _ => ∃ (d g : Addr), vs = [.ref d] ∧ Draw H d g ∧ ∀ (b : Nat) H', 1 ≤ b → b ≤ 2 ^ 256 → Draw H' d g → ExB d g H H' → Q (.int (b : Int)) H'
theorem pow257 {n : Nat} (h : n < 257) : 1 ≤ 2 ^ n ∧ 2 ^ n ≤ 2 ^ 256 := ⟨Nat.one_le_two_pow, Nat.pow_le_pow_right (by decide) (by omega)⟩
theorem pw2 (k : Nat) : (2 : Int) ^ k = ((2 ^ k : Nat) : Int) := by
  rw [Int.natCast_pow]; rfl
theorem lt300 {a : Nat} (h : a ≤ 2 ^ 256) : (a : Int) < 2 ^ 300 := by
  rw [pw2]
  exact Int.ofNat_lt.mpr (Nat.lt_of_le_of_lt h (Nat.pow_lt_pow_right (by decide) (by decide)))
theorem cal__law_bound (T : Txt K mg C_Source C_Scripted C_Draws C_Shortage C_Exhausted) : C8.Cal P w K mg base 3 "_law_bound" (spBound) [] := by
  obtain ⟨f, fd, F, b⟩ := T.d__law_bound
  refine C8.cal0 F b .nil sc__law_bound (fun vs H Q E h => ?_) (fun cdv A outer s H vs Q E hr h => ?_)
  · obtain ⟨d, g, rfl, _⟩ := h; rfl
  · obtain ⟨d, g, rfl, D, q⟩ := h
    have hu := hu_of hr
    have hu64 := hr.units
    have cl_Source := T.cl_Source
    have cl_Scripted := T.cl_Scripted
    have n_Scripted_s1_script := T.n_Scripted_s1_script
    have n_Scripted_s1_place := T.n_Scripted_s1_place
    have v_Scripted_KIND := T.v_Scripted_KIND
    have cl_Draws := T.cl_Draws
    have n_Draws_s5_source := T.n_Draws_s5_source
    have n_Draws_s5_used := T.n_Draws_s5_used
    have v_Draws_KIND := T.v_Draws_KIND
    refine ⟨_, (pss_cons (ps_set (i := 1) sc__law_bound.nd rfl (.inl rfl) (pe_op Rd.op_oneShl pe_int (C8.pe_c (cal__law_next T) hr (by omega) (by rfl) (pa_cons (pv 0) (pa_cons pe_int pa_nil)))))
      (pss_cons (ps_set (i := 2) sc__law_bound.nd rfl (.inl rfl) (pe_op op_add pe_int (C8.pe_c (cal__law_next T) hr (by omega) (by rfl) (pa_cons (pv 0) (pa_cons (pe_op Rd.op_oneShl pe_int (C8.pe_c (cal__law_next T) hr (by omega) (by rfl) (pa_cons (pv 0) (pa_cons pe_int pa_nil)))) pa_nil)))))
      (pss_cons (ps_set (i := 3) sc__law_bound.nd rfl (.inl rfl) (C8.pe_c (cal__law_pick T) hr (by omega) (by rfl) (pa_cons (pv 0) (pa_cons (pe_lst (pa_cons pe_int (pa_cons pe_int (pa_cons pe_int (pa_cons pe_int (pa_cons pe_int (pa_cons pe_int (pa_cons pe_int (pa_cons (pv 1) (pa_cons (pe_op op_add (pv 1) pe_int) (pa_cons (pe_callB (Rd.call_mx2 rfl) (by rfl) T.b_max (by decide +kernel) (pa_cons pe_int (pa_cons (pe_op op_sub (pv 1) pe_int) pa_nil))) (pa_cons (pv 2) (pa_cons (pv 2) pa_nil))))))))))))) pa_nil))))
      (pss_one (ps_ret (pe_callB (Rd.call_mn2 rfl) (by rfl) T.b_min (by decide +kernel) (pa_cons (pv 3) (pa_cons (pe_op Rd.op_oneShl pe_int pe_int) pa_nil)))))))), ?_⟩
    walk_at "rd"
    refine u_next (by decide) (by decide) D fun H1 v v0 v1 D1 x1 => ?_
    obtain ⟨v, rfl⟩ := Int.eq_ofNat_of_zero_le v0
    walk_at "rd"
    refine Rd.shl1 (by omega) ?_
    rw [pw2]
    obtain ⟨a1, a2⟩ := pow257 (n := v) (by omega)
    generalize 2 ^ v = x at a1 a2
    walk_at "rd"
    refine u_next (by decide) (by decide) D1 fun H2 u u0 u1 D2 x2 => ?_
    obtain ⟨u, rfl⟩ := Int.eq_ofNat_of_zero_le u0
    walk_at "rd"
    refine Rd.shl1 (by omega) ?_
    rw [pw2]
    obtain ⟨b1, b2⟩ := pow257 (n := u) (by omega)
    generalize 2 ^ u = y at b1 b2
    walk_at "rd"
    refine u_next (by omega) (lt300 b2) D2 fun H3 z z0 z1 D3 x3 => ?_
    obtain ⟨z, rfl⟩ := Int.eq_ofNat_of_zero_le z0
    walk_at "rd"
    rw [show (if (x : Int) - 1 > 1 then (x : Int) - 1 else 1) = ((max 1 (x - 1) : Nat) : Int) by split <;> omega]
    refine Au.new fun p H5 hp e5 k5 => ?_
    walk_at "rd"
    refine u_pickL (g := g) ⟨by walk_at "dr", k5, (ndN hp D3).2, Nat.le_of_ble_eq_true rfl, Nat.le_of_ble_eq_true rfl⟩ fun H6 j u hu D6 x6 => ?_
    obtain ⟨u', rfl, hu'⟩ : ∃ u' : Nat, u = .int (u' : Int) ∧ 1 ≤ u' := by
      match j, hu with
      | 0, hu => cases hu; exact ⟨1, rfl, by decide⟩
      | 1, hu => cases hu; exact ⟨2, rfl, by decide⟩
      | 2, hu => cases hu; exact ⟨3, rfl, by decide⟩
      | 3, hu => cases hu; exact ⟨5, rfl, by decide⟩
      | 4, hu => cases hu; exact ⟨10, rfl, by decide⟩
      | 5, hu => cases hu; exact ⟨4294967296, rfl, by decide⟩
      | 6, hu => cases hu; exact ⟨4294967297, rfl, by decide⟩
      | 7, hu => cases hu; exact ⟨x, rfl, a1⟩
      | 8, hu => cases hu; exact ⟨x + 1, rfl, by omega⟩
      | 9, hu => cases hu; exact ⟨max 1 (x - 1), rfl, by omega⟩
      | 10, hu => cases hu; exact ⟨1 + z, by rw [show ((1 + z : Nat) : Int) = 1 + (z : Int) by omega], by omega⟩
      | 11, hu => cases hu; exact ⟨1 + z, by rw [show ((1 + z : Nat) : Int) = 1 + (z : Int) by omega], by omega⟩
      | j + 12, hu => cases hu
    walk_at "rd"
    refine Rd.shl1 (k := 256) (by decide) ?_
    walk_at "rd"
    rw [pw2, show (if ((2 ^ 256 : Nat) : Int) < (u' : Int) then ((2 ^ 256 : Nat) : Int) else (u' : Int)) = ((min u' (2 ^ 256) : Nat) : Int) by split <;> omega]
    exact q _ H6 (Nat.le_min.mpr ⟨hu', Nat.one_le_two_pow⟩) (Nat.min_le_right _ _) D6 fun c o h n1 n2 => by walk_at "hp"
def spEnds : Sp := fun vs H Q _ => ∃ (a : Addr) (ws : List Nat) (b : Nat), vs = [.ref a, .int (b : Int)] ∧ (H a = some (.tup (Pr.words ws)) ∧ ws.length ≤ 1000 ∧ (1 ≤ b ∧ b ≤ 2 ^ 256) ∧ (∀ w ∈ ws, w < 4294967296) ∧ 1 < b ∧ ∃ t, ws.length = t * Pr.need (Pr.bl (b - 1)) ∧ ∀ i, i < t → b ≤ tryB ws 0 (Pr.bl (b - 1)) i) ∧ ∀ H', Rd.Ex H H' → Q (.bl true) H'
theorem need_pos {b : Nat} (h : 1 < b) : 0 < Pr.need (Pr.bl (b - 1)) := by
  rw [Pr.bl_pos (by omega)]
  unfold Pr.need
  omega
theorem prpb_Draws_words_used (T : Txt K mg C_Source C_Scripted C_Draws C_Shortage C_Exhausted) : Gx.PrpB P w K mg base 1 C_Draws "words_used" (Pr.spUsed C_Draws) := by
  obtain ⟨pp, f, fd, pr, F, b⟩ := T.d_Draws_words_used
  refine ⟨pp, f, fd, _, T.cl_Draws, pr, Gx.fnB F sc_Draws_words_used (fun vs H Q E h => ?_) (fun cdv A outer s H vs Q E p h => ?_), b⟩
  · obtain ⟨p, dx, o, n, rfl, _⟩ := h; rfl
  · obtain ⟨p, dx, o, n, rfl, hp, q⟩ := h
    have cl_Draws := T.cl_Draws
    have n_Draws_s5_used := T.n_Draws_s5_used
    refine ⟨_, (pss_one (ps_ret (pe_fld (pv 0) rfl))), ?_⟩
    walk_at "rd"
    exact q
theorem cal__law_ends (T : Txt K mg C_Source C_Scripted C_Draws C_Shortage C_Exhausted) : C8.Cal P w K mg base 15 "_law_ends" (spEnds) [] := by
  obtain ⟨f, fd, F, b⟩ := T.d__law_ends
  refine C8.cal0 F b .nil sc__law_ends (fun vs H Q E h => ?_) (fun cdv A outer s H vs Q E hr h => ?_)
  · obtain ⟨a, ws, b, rfl, _⟩ := h; rfl
  · obtain ⟨a, ws, b, rfl, ⟨ha, hl, hb, hw, hb1, t, ht, htr⟩, q⟩ := h
    have hu := hu_of hr
    have hu64 := hr.units
    have cl_Source := T.cl_Source
    have cl_Scripted := T.cl_Scripted
    have n_Scripted_s1_script := T.n_Scripted_s1_script
    have n_Scripted_s1_place := T.n_Scripted_s1_place
    have v_Scripted_KIND := T.v_Scripted_KIND
    have cl_Draws := T.cl_Draws
    have n_Draws_s5_source := T.n_Draws_s5_source
    have n_Draws_s5_used := T.n_Draws_s5_used
    have v_Draws_KIND := T.v_Draws_KIND
    refine ⟨_, (pss_cons (ps_set (i := 2) sc__law_ends.nd rfl (.inl rfl) (C8.pe_mk (mak_Draws T) hr (by omega) (by rfl) (pa_cons (C8.pe_mk ((mkk_Scripted T).2) hr (by omega) (by rfl) (pa_cons (pv 0) pa_nil)) pa_nil)))
      (pss_cons (ps_try_as (i := 3) rfl rfl sc__law_ends.nd rfl (by rfl) ⟨by rfl, by decide, .inl T.g_Exhausted⟩ LamX.takes0 (fun W pn xe tk _ => (pss_one (ps_expr (Gx.pe_ms (metx_Draws_below T) tk hr (by omega) (pv 2) (pa_cons (pv 1) pa_nil))))) (fun a oe cls d pn hz hf => (pss_one (ps_ret (pe_and (pe_cmpR op_eq (pe_xf T.f_Exhausted T.n_Exhausted_missing hz hf (pv 3)) pe_int (nomark _)) (pe_one (pe_cmpR op_eq (Gx.prpB (p := (a, oe)) (pv 2) (prpb_Draws_words_used T) (Gx.roomB hr _) (List.mem_cons_self ..) (by omega) rfl) (pe_callB (show CallR _ _ (Rd.rLenQ K) by exact Rd.call_lenQ) (by rfl) T.b_len PySem.boot_len (pa_cons (pv 0) pa_nil)) (nomark _))))))))
      (pss_one (ps_ret pe_bl)))), ?_⟩
    walk_at "rd"
    walk_at "rd"
    refine Pr.u_scr0 ⟨ha, by omega, hw⟩ fun bo dxb H8 hbo e8 k8 => ?_
    walk_at "rd"
    refine Pr.u_drw k8 fun dr dxd H9 hdr e9 k9 => ?_
    have ha' : H9 a = some (.tup (Pr.words ws)) := by walk_at "hp"
    have k8' : H9 bo = some (Pr.ScrO C_Scripted dxb a 0) := by walk_at "hp"
    have DA : Pr.DAt C_Draws C_Scripted H9 dr dxd bo dxb a ws 0 0 := ⟨k9, k8', ha', Nat.zero_le _⟩
    have hnp := need_pos hb1
    walk_at "rd"
    refine ⟨dr, dxd, bo, dxb, a, ws, 0, 0, b, rfl, ⟨DA, hb, hw⟩, fun j hj hjb hle H1 x1 D1 => ?_, fun j hj hlt x H1 hx x1 D1 k1 => ?_⟩
    · exfalso
      have h1 : (j + 1) * Pr.need (Pr.bl (b - 1)) ≤ t * Pr.need (Pr.bl (b - 1)) := by omega
      have h2 : j + 1 ≤ t := Nat.le_of_mul_le_mul_right h1 hnp
      have := htr j (by omega)
      omega
    · refine Gx.asYes T.m_Exhausted fun xa hxa => ?_
      walk_at "rd"
      refine ⟨_, rfl, rfl, rfl, x, _, _, rfl, k1, Rd.lk1, ?_⟩
      walk_at "rd"
      refine ⟨dr, _, _, rfl, D1.drw, ⟨dr, dxd, bo, _, rfl, D1.drw, ?_⟩⟩
      have hat := D1.scr.tup
      walk_at "rd"
      rw [List.length_map, Nat.sub_zero, Nat.zero_add, decide_eq_true rfl]
      exact q H1 fun c o h => by walk_at "hp"
end
end Pf

set_option Elab.async false
set_option linter.all false
set_option maxRecDepth 100000
set_option maxHeartbeats 4000000
set_option exponentiation.threshold 3000
namespace Pf
open PySem PySem.Spec PyProof.Rows L2
section
variable {P : Program} {w : World} {K : PySem.W.Frag} {mg : Str → Option Value} {base : Heap} {C_Source C_Scripted C_Draws C_Shortage C_Exhausted : Addr}
local macro_rules | `(tactic| walk_at "side") => `(tactic| first | ((with_reducible show L2.CMul _ _); first | exact Or.inl ⟨by omega, by omega⟩ | exact Or.inr ⟨by omega, by omega⟩) | ((with_reducible show L2.CPow _ _); exact ⟨by decide, by decide, by decide⟩) | ((with_reducible show L2.CMulW _ _); exact wide_mul (a := 96) (b := 96) (by omega) (by omega) (by decide) (by decide) (by decide)) | ((with_reducible show L2.CDivW _ _); first | exact wide_div (b := 96) (by omega) (by omega) (by decide) (by decide) | exact wide_div (b := 300) (by omega) (by omega) (by decide) (by decide)) | (show (0 : Int) < _; omega) | (show (0 : Int) ≤ _; omega))
local macro_rules | `(tactic| walk_at "rd1") => `(tactic| first | with_reducible refine Rd.seq ?_ | with_reducible refine Rd.asg ?_ | with_reducible refine Rd.nm ?_ | with_reducible refine Rd.ret ?_ | with_reducible refine Rd.drop ?_ | with_reducible refine Rd.ifs ?_ | with_reducible refine Rd.par ?_ | with_reducible refine Rd.par3 ?_ | with_reducible refine Rd.next ?_ | with_reducible refine Rd.fr1 ?_ | with_reducible refine Rd.nxp ?_ | with_reducible refine Rd.rtp ?_ | ((with_reducible show tVar _ _ _ _); refine Rd.var rfl ?_) | with_reducible refine Rd.cst ?_ | with_reducible refine Rd.op ?_ | with_reducible refine Rd.un ?_ | with_reducible refine Rd.i0 ?_ | with_reducible refine Rd.ung ?_ | with_reducible refine Rd.eqI ?_ | with_reducible refine Rd.neI ?_ | with_reducible refine Rd.eqS ?_ | with_reducible refine Rd.neS ?_ | with_reducible refine Rd.test ?_ | with_reducible refine Rd.tstB ?_ | with_reducible refine Rd.isB ?_ | with_reducible refine Rd.not ?_ | with_reducible refine Rd.andT ?_ | with_reducible refine Rd.orT ?_ | with_reducible refine Rd.andV ?_ | with_reducible refine Rd.orV ?_ | with_reducible refine Rd.notV ?_ | with_reducible refine Rd.ifE ?_ | with_reducible refine Rd.chain ?_ | with_reducible refine Rd.nil ?_ | with_reducible refine Rd.cons ?_ | with_reducible refine Rd.call ?_ | with_reducible refine Rd.cb ?_ | with_reducible refine Rd.bm ?_ | with_reducible refine Au.revL ?_ | with_reducible refine Rd.frl ?_ | with_reducible refine Rd.frt ?_ | with_reducible refine Rd.fre ?_ | with_reducible refine Rd.disp ?_ | with_reducible refine Rd.pnil ?_ | with_reducible refine Rd.pcons ?_ | with_reducible refine Rd.gcons ?_ | with_reducible refine Rd.gnil ?_ | with_reducible refine Rd.gsub ?_ | with_reducible refine Rd.setD ?_ | ((with_reducible show gTup _ _ _ _ _ (upd _ _ (HO.tup _)) _); refine Rd.tupNew rfl ?_) | with_reducible refine Rd.fld ?_ | with_reducible refine Rd.meth ?_ | with_reducible refine Rd.make ?_ | with_reducible refine Rd.prop ?_ | with_reducible refine Au.tup ?_ | with_reducible refine Au.lst ?_ | ((with_reducible refine Au.lenOk ?hl ?_); (case hl => exact rfl)) | with_reducible refine Au.nopart ?_ | with_reducible refine Au.part ?_ | with_reducible refine Au.isI ?_ | with_reducible refine Au.sl ?_ | with_reducible refine Au.pr2 ?_ | with_reducible refine Au.pr3 ?_ | with_reducible refine Au.eqB ?_ | with_reducible refine Rd.isInt ?_ | with_reducible refine Rd.isBool ?_ | with_reducible refine Rd.mx2 ?_ | with_reducible refine Rd.mn2 ?_ | ((with_reducible show Rd.rAndM _ _ _ _); first | refine Rd.and1 ?_ | refine Rd.and48 ?_ | refine Rd.and32 ?_ | refine Rd.and64 ?_ | refine Rd.and65 ?_) | ((with_reducible refine Rd.iC ?hc ?_); (case hc => walk_at "side")) | ((with_reducible refine Rd.yes ?hc ?_); (case hc => first | omega | exact rfl)) | ((with_reducible refine Rd.no ?hc ?_); (case hc => omega)) | ((with_reducible refine Rd.noN ?hc ?_); (case hc => first | omega | exact rfl)) | ((with_reducible refine Rd.yesN ?hc ?_); (case hc => omega)) | ((with_reducible refine Rd.yesNN ?hc ?_); (case hc => omega)) | ((with_reducible refine Rd.noNN ?hc ?_); (case hc => omega)) | with_reducible refine iteT ?_ | with_reducible refine iteF ?_ | with_reducible refine Rd.iteNT ?_ | with_reducible refine Rd.iteNF ?_)
local macro_rules | `(tactic| walk_at "rd") => `(tactic| repeat (walk_at "rd1"))
local macro_rules | `(tactic| walk_at "hp") => `(tactic| first | assumption | (apply Au.sm; (focus assumption); (walk_at "hp")) | (apply Au.smp; (focus assumption); (focus (walk_at "hp")); (walk_at "ne")) | (apply Au.smn; (focus assumption); (focus (walk_at "hp")); (focus (intro _ z; cases z; done))) | fail "hp")
local macro_rules | `(tactic| walk_at "ne") => `(tactic| first | assumption | (apply Ne.symm; assumption) | (apply Au.nen; (focus assumption); (walk_at "hp")) | (apply Au.nen'; (focus assumption); (walk_at "hp")) | (apply Au.nek; (focus assumption); (focus assumption); (intro z; cases z; done)) | (apply Au.nek2; (focus assumption); (focus (walk_at "hp")); (intro z; cases z; done)) | fail "ne")
local macro_rules | `(tactic| walk_at "dp") => `(tactic| first | exact Dp.int _ | exact Dp.str _ | exact Dp.bl _ | exact Dp.non | (apply Dp.lst; (focus (apply Rd.sql; walk_at "hp")); (walk_at "dps")) | (apply Dp.tup; (focus (apply Rd.sqt; walk_at "hp")); (walk_at "dps")) | fail "dp")
local macro_rules | `(tactic| walk_at "dps") => `(tactic| first | exact DpAll.nil | (apply DpAll.cons; (focus (walk_at "dp")); (walk_at "dps")) | fail "dps")
local macro_rules | `(tactic| walk_at "shp") => `(tactic| ((simp only [SeqAt.shaped, PyData.canLay0, PyData.canLayAll0, PyData.depth, PyData.depthAll]) <;> first | decide | rfl))
local macro_rules | `(tactic| walk_at "sd") => `(tactic| first | assumption | rfl | omega | (walk_at "hp") | (refine ⟨?_, ?_⟩; (focus (walk_at "sd")); (walk_at "sd")) | fail "sd")
local macro_rules | `(tactic| walk_at "lk") => `(tactic| first | exact Rd.lk1 | rfl | decide +kernel)
local macro_rules | `(tactic| walk_at "rd1") => `(tactic| first | with_reducible refine Pr.dget ?_ | with_reducible refine Pr.dput ?_ | with_reducible refine Pr.sfld ?_ | with_reducible refine Pr.u_isInt ?_ | ((with_reducible show Pr.spNeed _ _ _ _ _ _); refine Pr.u_need (by omega) (by omega) ?_) | ((with_reducible show Pr.spIs _ _ _ _ _ _); refine Pr.u_isIn (by omega) ?_) | ((with_reducible apply Rd.fld1); (focus (walk_at "hp")); (focus assumption); (focus assumption); (focus (walk_at "lk"))) | ((with_reducible apply Au.methO); (focus (walk_at "hp")); (focus (walk_at "lk"))) | ((with_reducible apply Au.propO); (focus (walk_at "hp"))) | ((with_reducible show rIxT _ (V.ref _) (V.int _) _ _); refine Rd.ixT (Rd.sqt (by walk_at "hp")) rfl ?_) | ((with_reducible show rIxL _ (V.ref _) (V.int _) _ _); refine Rd.ixL (Rd.sql (by walk_at "hp")) rfl ?_) | ((with_reducible show Rd.rLenQ _ [V.ref _] _ _); first | refine Rd.lenL (Rd.sql (by walk_at "hp")) ?_ | refine Rd.lenT (Rd.sqt (by walk_at "hp")) ?_) | ((with_reducible show gTup _ _ _ (V.ref _) _ _ _); refine Rd.gtup (Rd.sqt (by walk_at "hp")) rfl ?_) | with_reducible refine Gx.gat ?_ | with_reducible refine Gx.gnx ?_ | with_reducible refine Gx.gthen ?_ | with_reducible refine Gx.gplain ?_ | with_reducible refine Gx.gfr ?_ | with_reducible refine Gx.lg ?_ | with_reducible refine Gx.mg ?_ | with_reducible refine Gx.sme ?_ | with_reducible refine Gx.callSD ?_ | with_reducible refine Gx.methSD ?_)
local macro_rules | `(tactic| walk_at "rd1") => `(tactic| first | with_reducible refine Gx.mkR ?_ | with_reducible refine Gx.fr3 ?_ | with_reducible refine Gx.makeD ?_ | with_reducible refine Gx.frz ?_ | with_reducible refine Gx.lcO ?_ | with_reducible refine Gx.itupO ?_ | with_reducible refine Gx.ilistO ?_ | with_reducible refine Gx.irng1O ?_ | with_reducible refine Gx.ival ?_ | ((with_reducible apply Gx.ivalO); (focus (walk_at "hp")); (focus assumption); (focus assumption); (focus (walk_at "lk"))) | ((with_reducible show Gx.rTupOf _ [V.ref _] _ _); refine Gx.tupOfL (Rd.sql (by walk_at "hp")) ?_) | ((with_reducible show Gx.rLstOf _ [V.ref _] _ _); first | refine Gx.lstOfL (Rd.sql (by walk_at "hp")) ?_ | refine Gx.lstOfT (Rd.sqt (by walk_at "hp")) ?_))
local macro_rules | `(tactic| walk_at "hp") => `(tactic| first | assumption | (apply Pr.smq; (focus assumption); (focus (walk_at "hp")); (focus (walk_at "ne")); (walk_at "ne")))
local macro_rules | `(tactic| walk_at "hp") => `(tactic| first | assumption | (apply smb; (focus assumption); (focus (walk_at "hp")); (focus assumption); assumption) | (apply smbK; (focus assumption); (focus (walk_at "hp")); (focus (walk_at "dr")); (constructor <;> (intro _ z; cases z; done))) | (apply smbN; (focus assumption); (focus (walk_at "hp")); (focus assumption); (walk_at "dr")))
local macro_rules | `(tactic| walk_at "dr") => `(tactic| first | assumption | (apply Draw.ex; (focus assumption); (walk_at "dr")) | (apply Draw.exp; (focus assumption); (focus (walk_at "dr")); (focus (walk_at "nd"))) | fail "dr")
local macro_rules | `(tactic| walk_at "nd") => `(tactic| first | assumption | (apply ndN; (focus assumption); (walk_at "dr")) | fail "nd")
theorem tryB_app {R r : List Nat} {k j : Nat} (hR : ∀ w ∈ R, w < 4294967296) (hr : ∀ w ∈ r, w < 4294967296) (h : (j + 1) * Pr.need k ≤ R.length) : tryB (R ++ r) 0 k j = tryB R 0 k j := by
  unfold tryB
  by_cases hk : k = 0
  · rw [if_pos hk, if_pos hk]
  · rw [if_neg hk, if_neg hk]
    have h1 : (j + 1) * Pr.need k = j * Pr.need k + Pr.need k := Nat.succ_mul _ _
    rw [Nat.zero_add, List.drop_append_of_le_length (by omega), ← Pr.bitsN_take k (R.drop _ ++ r) (by omega) (fun w hw => (List.mem_append.mp hw).elim (fun z => hR w (List.mem_of_mem_drop z)) (hr w)), ← Pr.bitsN_take k (R.drop _) (by omega) (fun w hw => hR w (List.mem_of_mem_drop hw)),
      List.take_append_of_le_length (by rw [List.length_drop]; omega)]
theorem tryB_at {R r : List Nat} {k j : Nat} (h : j * Pr.need k = R.length) : tryB (R ++ r) 0 k j = if k = 0 then 0 else Pr.bitsN r k := by
  unfold tryB
  rw [Nat.zero_add, h, List.drop_left]
theorem pick_if {c : Prop} [Decidable c] {te1 te2 : TE} {σ : L2.St} {H : Hp} {Q : VK} (G : V → Hp → Prop) (key : ∀ x H', G x H' → Q x H') (h1 : c → (∀ x H', G x H' → Q x H') → te1 σ H Q) (h2 : ¬ c → (∀ x H', G x H' → Q x H') → te2 σ H Q) : if c then te1 σ H Q else te2 σ H Q := by
  split
  · exact h1 ‹_› key
  · exact h2 ‹_› key
def spRight : Sp := fun vs H Q _ => ∃ (d g : Addr), vs = [.ref d] ∧ Draw H d g ∧ ∀ H', Draw H' d g → Q (.bl true) H'
theorem cal__law_right (T : Txt K mg C_Source C_Scripted C_Draws C_Shortage C_Exhausted) : C8.Cal P w K mg base 16 "_law_right" (spRight) [] := by
  obtain ⟨f, fd, F, b⟩ := T.d__law_right
  refine C8.cal0 F b .nil sc__law_right (fun vs H Q E h => ?_) (fun cdv A outer s H vs Q E hr h => ?_)
  · obtain ⟨d, g, rfl, _⟩ := h; rfl
  · obtain ⟨d, g, rfl, D, q⟩ := h
    have hu := hu_of hr
    have hu64 := hr.units
    have cl_Source := T.cl_Source
    have cl_Scripted := T.cl_Scripted
    have n_Scripted_s1_script := T.n_Scripted_s1_script
    have n_Scripted_s1_place := T.n_Scripted_s1_place
    have v_Scripted_KIND := T.v_Scripted_KIND
    have cl_Draws := T.cl_Draws
    have n_Draws_s5_source := T.n_Draws_s5_source
    have n_Draws_s5_used := T.n_Draws_s5_used
    have v_Draws_KIND := T.v_Draws_KIND
    refine ⟨_, (pss_cons (ps_set (i := 1) sc__law_right.nd rfl (.inl rfl) (C8.pe_c (cal__law_bound T) hr (by omega) (by rfl) (pa_cons (pv 0) pa_nil)))
      (pss_cons (ps_par3 (i := 2) (j := 3) (l := 4) rfl sc__law_right.nd rfl rfl rfl (by decide) (by decide) (by decide) rfl rfl rfl (pa_cons (C8.pe_c (cal__law_size T) hr (by omega) (by rfl) (pa_cons (pe_op op_sub (pv 1) pe_int) pa_nil)) (pa_cons (pe_lst pa_nil) (pa_cons pe_int pa_nil))) (by rfl))
      (pss_cons (ps_set (i := 5) sc__law_right.nd rfl (.inl rfl) (C8.pe_c (cal__law_pick T) hr (by omega) (by rfl) (pa_cons (pv 0) (pa_cons (pe_lst (pa_cons pe_int (pa_cons (pe_op op_sub (pv 1) pe_int) (pa_cons (C8.pe_c (cal__law_next T) hr (by omega) (by rfl) (pa_cons (pv 0) (pa_cons (pv 1) pa_nil))) pa_nil)))) pa_nil))))
      (pss_cons (ps_set (i := 6) sc__law_right.nd rfl (.inl rfl) (pe_op op_sub (pe_op Rd.op_oneShl pe_int (pv 2)) (pv 1)))
      (pss_cons (ps_for PassesOwn.never rfl (pi_range1 rfl T.b_range (pa_cons (pe_ifExp (pt_cmpR op_gt (pv 6) pe_int (nomark _)) (C8.pe_c (cal__law_next T) hr (by omega) (by rfl) (pa_cons (pv 0) (pa_cons pe_int pa_nil))) pe_int) pa_nil)) (pg_name (i := 7) sc__law_right.nd rfl (.inl rfl)) (pss_cons (ps_expr (pe_bm PySem.F.plainAttrs_list PySem.F.slot_list_extend PySem.F.type_list_extend mt_extend (pv 3) (pa_cons (C8.pe_c (cal__law_row_of T) hr (by omega) (by rfl) (pa_cons (pv 0) (pa_cons (pe_op op_add (pv 1) (C8.pe_c (cal__law_pick T) hr (by omega) (by rfl) (pa_cons (pv 0) (pa_cons (pe_lst (pa_cons pe_int (pa_cons (pe_op op_sub (pv 6) pe_int) (pa_cons (C8.pe_c (cal__law_next T) hr (by omega) (by rfl) (pa_cons (pv 0) (pa_cons (pv 6) pa_nil))) pa_nil)))) pa_nil)))) (pa_cons (pv 2) pa_nil)))) pa_nil)))
      (pss_one (ps_set (i := 4) sc__law_right.nd rfl (.inl rfl) (pe_op op_add (pv 4) pe_int)))))
      (pss_cons (ps_set (i := 8) sc__law_right.nd rfl (.inl rfl) (pe_callTy Gx.call_tupOf (by rfl) T.b_tuple (by decide +kernel) (pa_cons (pv 3) pa_nil)))
      (pss_cons (ps_expr (pe_bm PySem.F.plainAttrs_list PySem.F.slot_list_extend PySem.F.type_list_extend mt_extend (pv 3) (pa_cons (C8.pe_c (cal__law_row_of T) hr (by omega) (by rfl) (pa_cons (pv 0) (pa_cons (pv 5) (pa_cons (pv 2) pa_nil)))) pa_nil)))
      (pss_cons (ps_set (i := 9) sc__law_right.nd rfl (.inl rfl) (C8.pe_mk (mak_Draws T) hr (by omega) (by rfl) (pa_cons (C8.pe_mk ((mkk_Scripted T).2) hr (by omega) (by rfl) (pa_cons (pe_callTy Gx.call_tupOf (by rfl) T.b_tuple (by decide +kernel) (pa_cons (pe_op op_cat (pv 3) (pe_lst (pa_cons pe_int pa_nil))) pa_nil)) pa_nil)) pa_nil)))
      (pss_cons (ps_if (PW.pt (pw_or (pt_cmpR op_ne (Gx.pe_mx (metx_Draws_below T) LamX.takes0 (E := fun _ _ _ => False) (fun _ _ _ _ h => h) hr (by omega) (pv 9) (pa_cons (pv 1) pa_nil)) (pv 5) (nomark _)) (pw_or1 (pt_cmpR op_ne (Gx.pe_propC (pv 9) (prop_Draws_words_used T) hr (by omega) rfl) (pe_op op_mul (pv 4) (pe_op op_fdivW (pe_op op_add (pv 2) pe_int) pe_int)) (nomark _))))) (pss_one (ps_ret pe_bl)) pss_nil)
      (pss_one (ps_ret (pe_or (pe_cmpR op_eq (pv 1) pe_int (nomark _)) (pe_one (C8.pe_c (cal__law_ends T) hr (by omega) (by rfl) (pa_cons (pv 8) (pa_cons (pv 1) pa_nil)))))))))))))))), ?_⟩
    walk_at "rd"
    refine ⟨d, g, rfl, D, fun b H1 b0 b1 D1 x1 => ?_⟩
    walk_at "rd"
    rw [show (b : Int) - 1 = ((b - 1 : Nat) : Int) by omega]
    refine u_size (Nat.lt_of_le_of_lt (show b - 1 ≤ 2 ^ 256 by omega) (Nat.pow_lt_pow_right (by decide) (by decide))) ?_
    have hk : Pr.bl (b - 1) ≤ 256 := Pr.bl_le (by omega)
    have hlt : b - 1 < 2 ^ Pr.bl (b - 1) := Pr.lt_bl _
    have hnp : 1 < b → 0 < Pr.need (Pr.bl (b - 1)) := need_pos
    have hk1 : b = 1 → Pr.bl (b - 1) = 0 := fun z => by subst z; exact Pr.bl_zero
    generalize hkk : Pr.bl (b - 1) = k at hk hlt hnp hk1
    walk_at "rd"
    refine Au.new fun row H2 hrw e2 k2 => ?_
    walk_at "rd"
    refine u_next (by omega) (lt300 b1) (d := d) (g := g) (by walk_at "dr") fun H3 v v0 v1 D3 x3 => ?_
    obtain ⟨v, rfl⟩ := Int.eq_ofNat_of_zero_le v0
    rw [show (b : Int) - 1 = ((b - 1 : Nat) : Int) by omega]
    walk_at "rd"
    refine Au.new fun p H4 hp e4 k4 => ?_
    walk_at "rd"
    refine u_pickL (g := g) ⟨by walk_at "dr", k4, (ndN hp D3).2, Nat.le_of_ble_eq_true rfl, Nat.le_of_ble_eq_true rfl⟩ fun H5 j u hu D5 x5 => ?_
    obtain ⟨due, rfl, hdue⟩ : ∃ u' : Nat, u = .int (u' : Int) ∧ u' < b := by
      match j, hu with
      | 0, hu => cases hu; exact ⟨0, rfl, by omega⟩
      | 1, hu => cases hu; exact ⟨b - 1, rfl, by omega⟩
      | 2, hu => cases hu; exact ⟨v, rfl, by omega⟩
      | j + 3, hu => cases hu
    have k5 : H5 row = some (.lst []) := by walk_at "hp"
    have ng : row ≠ d ∧ row ≠ g := ndN hrw D1
    clear x5 k4 e4 x3 k2 e2 x1
    walk_at "rd"
    refine Rd.shl1 (by omega) ?_
    rw [pw2]
    walk_at "rd"
    rw [show ((2 ^ k : Nat) : Int) - (b : Int) = ((2 ^ k - b : Nat) : Int) by omega]
    have hmk : k = 0 → 2 ^ k - b = 0 := fun z => by subst z; rw [Nat.pow_zero]; omega
    have hmb : 2 ^ k - b < 2 ^ k := by omega
    have hmc : b + (2 ^ k - b) = 2 ^ k := by omega
    have hmd : 2 ^ k - b ≤ 2 ^ 256 := by
      have := Nat.pow_le_pow_right (show 0 < 2 by decide) hk
      omega
    generalize 2 ^ k - b = many at *
    refine pick_if (fun x H6 => ∃ t : Nat, x = .int (t : Int) ∧ t < 4 ∧ (many = 0 → t = 0) ∧ Draw H6 d g ∧ H6 row = some (.lst [])) ?_ (fun c key => ?_) (fun c key => ?_)
    rotate_left
    · walk_at "rd"
      refine u_next (by decide) (by decide) D5 fun H6 t t0 t1 D6 x6 => ?_
      obtain ⟨t, rfl⟩ := Int.eq_ofNat_of_zero_le t0
      have c := of_decide_eq_true c
      exact key _ _ ⟨t, rfl, by omega, fun z => by omega, D6, x6 _ _ k5 ng.1 ng.2⟩
    · exact key _ _ ⟨0, rfl, by decide, fun _ => rfl, D5, k5⟩
    rintro x H6 ⟨t, rfl, ht, hm0, D6, k6⟩
    clear k5 D5
    walk_at "rd"
    refine Rd.frN (n := t) rfl (by omega) (fun i σ' H' => ∃ (R : List Nat) (y7 : Option V), σ' = [some (.ref d), some (.int (b : Int)), some (.int (k : Int)), some (.ref row), some (.int ((1 + i : Nat) : Int)), some (.int (due : Int)), some (.int (many : Int)), y7, none, none] ∧ H' row = some (.lst (Pr.words R)) ∧ R.length = i * Pr.need k ∧ (∀ w ∈ R, w < 4294967296) ∧ (∀ j, j < i → b ≤ tryB R 0 k j) ∧ Draw H' d g)
      ⟨[], none, rfl, k6, by rw [Nat.zero_mul]; rfl, fun w hw => (by cases hw), fun j hj => absurd hj (Nat.not_lt_zero _), D6⟩ ?_ ?_
    · rintro i σ' H7 hi ⟨R, y7, rfl, k7, l7, w7, t7, D7⟩
      have hmp : 0 < many := by
        rcases Nat.eq_zero_or_pos many with z | z
        · have := hm0 z; omega
        · exact z
      have hkp : k ≠ 0 := fun z => by have := hmk z; omega
      walk_at "rd"
      refine ⟨Rd.tyL k7, ?_⟩
      walk_at "rd"
      refine u_next (by omega) (lt300 hmd) D7 fun H8 u u0 u1 D8 x8 => ?_
      obtain ⟨u, rfl⟩ := Int.eq_ofNat_of_zero_le u0
      rw [show (many : Int) - 1 = ((many - 1 : Nat) : Int) by omega]
      walk_at "rd"
      refine Au.new fun p9 H9 hp9 e9 k9 => ?_
      walk_at "rd"
      refine u_pickL (g := g) ⟨by walk_at "dr", k9, (ndN hp9 D8).2, Nat.le_of_ble_eq_true rfl, Nat.le_of_ble_eq_true rfl⟩ fun H10 j z hz D10 x10 => ?_
      obtain ⟨z, rfl, hz⟩ : ∃ u' : Nat, z = .int (u' : Int) ∧ u' < many := by
        match j, hz with
        | 0, hu => cases hu; exact ⟨0, rfl, by omega⟩
        | 1, hu => cases hu; exact ⟨many - 1, rfl, by omega⟩
        | 2, hu => cases hu; exact ⟨u, rfl, by omega⟩
        | j + 3, hu => cases hu
      have k10 : H10 row = some (.lst (Pr.words R)) := by walk_at "hp"
      clear x8 e9 k9 x10
      walk_at "rd"
      rw [show (b : Int) + (z : Int) = ((b + z : Nat) : Int) by omega]
      refine ⟨d, g, b + z, k, rfl, ⟨D10, by omega, by omega⟩, fun p11 H11 r hp11 D11 x11 k11 lr wr hbr => ?_⟩
      have k11r := x11 _ _ k10 ng.1 ng.2
      have hn8 : Pr.need k ≤ 8 := by unfold Pr.need; omega
      have hin : i * Pr.need k ≤ 4 * 8 := Nat.mul_le_mul (by omega) hn8
      walk_at "rd"
      refine Gx.ext k11r k11 (by rw [List.length_map, List.length_map]; omega) fun H12 m12 k12 => ?_
      walk_at "rd"
      rw [show ((1 + i : Nat) : Int) + 1 = ((1 + (i + 1) : Nat) : Int) by omega]
      have hl12 : (R ++ r).length = (i + 1) * Pr.need k := by rw [List.length_append, l7, lr, Nat.succ_mul]
      refine ⟨R ++ r, _, rfl, by rw [k12]; simp only [Pr.words, List.map_append], hl12, fun w hw => (List.mem_append.mp hw).elim (w7 w) (wr w), fun j hj => ?_, D11.exp m12 ng⟩
      rcases Nat.eq_or_lt_of_le (show j ≤ i by omega) with e | e
      · subst e
        rw [tryB_at l7.symm, if_neg hkp, hbr (by omega)]
        omega
      · rw [tryB_app w7 wr (by rw [l7]; exact Nat.mul_le_mul_right _ (by omega))]
        exact t7 j e
    · rintro σ' H7 ⟨R, y7, rfl, k7, l7, w7, t7, D7⟩
      have hn8 : Pr.need k ≤ 8 := by unfold Pr.need; omega
      have htn : t * Pr.need k ≤ 4 * 8 := Nat.mul_le_mul (by omega) hn8
      walk_at "rd"
      refine Au.new fun rf H8 hrf e8 k8 => ?_
      have nrf := ndN hrf D7
      have k8r := e8 _ _ k7
      have D8 := D7.ex e8
      clear e8
      walk_at "rd"
      refine ⟨Rd.tyL k8r, ?_⟩
      walk_at "rd"
      refine ⟨d, g, due, k, rfl, ⟨D8, by omega, by omega⟩, fun p9 H9 r hp9 D9 x9 k9 lr wr hbr => ?_⟩
      have k9r := x9 _ _ k8r ng.1 ng.2
      have k9f := x9 _ _ k8 nrf.1 nrf.2
      clear x9
      walk_at "rd"
      refine Gx.ext k9r k9 (by rw [List.length_map, List.length_map]; omega) fun H10 m10 k10 => ?_
      rw [← List.map_append] at k10
      have k10f := m10 _ _ k9f (ne_of k9f k9r (fun z => by cases z))
      have D10 := D9.exp m10 ng
      clear m10
      walk_at "rd"
      refine Au.new fun p11 H11 hp11 e11 k11 => ?_
      walk_at "rd"
      refine Au.cat (xs := Pr.words (R ++ r)) (zs := [V.int 7]) (by walk_at "hp") k11 (by rw [List.length_map, List.length_append]; show _ + 1 ≤ 1000; omega) fun p12 H12 hp12 e12 k12 => ?_
      have k12 : H12 p12 = some (.lst (Pr.words (R ++ r ++ [7]))) := by rw [k12]; simp only [Pr.words, List.map_append, List.map_cons, List.map_nil]; rfl
      walk_at "rd"
      refine Au.new fun ro H13 hro e13 k13 => ?_
      have hwA : ∀ w ∈ R ++ r, w < 4294967296 := fun w hw => (List.mem_append.mp hw).elim (w7 w) (wr w)
      have hw7 : ∀ w ∈ ([7] : List Nat), w < 4294967296 := fun w hw => by cases List.mem_singleton.mp hw; decide
      have hwF : ∀ w ∈ R ++ r ++ [7], w < 4294967296 := fun w hw => (List.mem_append.mp hw).elim (hwA w) (hw7 w)
      have hlA : (R ++ r).length = (t + 1) * Pr.need k := by rw [List.length_append, l7, lr, Nat.succ_mul]
      have hlF : (R ++ r ++ [7]).length = (t + 1) * Pr.need k + 1 := by rw [List.length_append, hlA]; rfl
      have htn1 : (t + 1) * Pr.need k ≤ 5 * 8 := Nat.mul_le_mul (by omega) hn8
      walk_at "rd"
      refine Pr.u_scr0 ⟨k13, by omega, hwF⟩ fun bo dxb H14 hbo e14 k14 => ?_
      walk_at "rd"
      refine Pr.u_drw k14 fun dr dxd H15 hdr e15 k15 => ?_
      have k13' : H15 ro = some (.tup (Pr.words (R ++ r ++ [7]))) := by walk_at "hp"
      have k14' : H15 bo = some (Pr.ScrO C_Scripted dxb ro 0) := by walk_at "hp"
      have k15f : H15 rf = some (.tup (Pr.words R)) := by walk_at "hp"
      have DA : Pr.DAt C_Draws C_Scripted H15 dr dxd bo dxb ro (R ++ r ++ [7]) 0 0 := ⟨k15, k14', k13', Nat.zero_le _⟩
      have D15 : Draw H15 d g := D10.ex (fun c o h => by walk_at "hp")
      have hsm : ∀ j, j < t → b ≤ tryB (R ++ r ++ [7]) 0 k j := fun j hj => by
        have h1 : (j + 1) * Pr.need k ≤ t * Pr.need k := Nat.mul_le_mul_right _ (by omega)
        rw [List.append_assoc, tryB_app w7 (fun w hw => (List.mem_append.mp hw).elim (wr w) (hw7 w)) (by rw [l7]; exact h1)]
        exact t7 j hj
      have hat : tryB (R ++ r ++ [7]) 0 k t = due := by
        rw [tryB_app hwA hw7 (by rw [hlA]; exact Nat.le_refl _), tryB_at l7.symm]
        by_cases z : k = 0
        · rw [if_pos z]
          subst z
          rw [Nat.pow_zero] at hlt
          omega
        · rw [if_neg z, hbr (by omega)]
      clear e11 e12 e13 e14 e15 k11 k12 k13 k14 k10 k10f
      have hpd := DA.drw
      walk_at "rd"
      refine ⟨dr, dxd, bo, dxb, ro, R ++ r ++ [7], 0, 0, b, rfl, ⟨DA, ⟨b0, b1⟩, hwF⟩, fun j hj hjb hle H16 x16 D16 => ?_, fun j hj hle x H16 _ _ _ _ => ?_⟩
      · rw [hkk] at hj hjb hle D16 ⊢
        have : j = t := by
          rcases Nat.lt_trichotomy j t with z | z | z
          · have := hsm j z; omega
          · exact z
          · have := hj t z; omega
        subst this
        rw [hat]
        have D16' := Draw.exq x16 D15 DA.drw DA.scr.obj
        have k16f := x16 _ _ k15f (ne_of k15f DA.drw (fun z => by cases z)) (ne_of k15f DA.scr.obj (fun z => by cases z))
        walk_at "rd"
        refine ⟨dr, _, _, rfl, D16.drw, ⟨dr, dxd, bo, _, rfl, D16.drw, ?_⟩⟩
        walk_at "rd"
        have hE : ((0 + (j + 1) * Pr.need k : Nat) : Int) = ((1 + j : Nat) : Int) * (((k : Int) + 31) / 32) := by
          rw [Nat.zero_add, show ((k : Int) + 31) / 32 = ((Pr.need k : Nat) : Int) by unfold Pr.need; omega, Nat.add_comm 1 j]
          exact Int.natCast_mul _ _
        rw [decide_eq_true hE, if_neg (by decide)]
        walk_at "rd"
        by_cases hb1 : b = 1
        · rw [decide_eq_true (show (b : Int) = 1 by omega), if_pos rfl]
          exact q H16 D16'
        · rw [decide_eq_false (show ¬ (b : Int) = 1 by omega), if_neg (by decide)]
          walk_at "rd"
          exact ⟨rf, R, b, rfl, ⟨k16f, by omega, ⟨b0, b1⟩, w7, by omega, j, by rw [hkk]; exact l7, fun i hi => by rw [hkk]; exact t7 i hi⟩, fun H17 e17 => q H17 (D16'.ex e17)⟩
      · exfalso
        rw [hkk] at hj hle
        have : j ≤ t := Nat.le_of_not_lt fun z => by have := hj t z; omega
        have : (j + 1) * Pr.need k ≤ (t + 1) * Pr.need k := Nat.mul_le_mul_right _ (by omega)
        omega
end
end Pf

set_option Elab.async false
set_option linter.all false
set_option maxRecDepth 100000
set_option maxHeartbeats 4000000
set_option exponentiation.threshold 3000
namespace Pf
open PySem PySem.Spec PyProof.Rows L2
section
variable {P : Program} {w : World} {K : PySem.W.Frag} {mg : Str → Option Value} {base : Heap} {C_Source C_Scripted C_Draws C_Shortage C_Exhausted : Addr}
local macro_rules | `(tactic| walk_at "side") => `(tactic| first | ((with_reducible show L2.CMul _ _); first | exact Or.inl ⟨by omega, by omega⟩ | exact Or.inr ⟨by omega, by omega⟩) | ((with_reducible show L2.CPow _ _); exact ⟨by decide, by decide, by decide⟩) | ((with_reducible show L2.CMulW _ _); exact wide_mul (a := 96) (b := 96) (by omega) (by omega) (by decide) (by decide) (by decide)) | ((with_reducible show L2.CDivW _ _); first | exact wide_div (b := 96) (by omega) (by omega) (by decide) (by decide) | exact wide_div (b := 300) (by omega) (by omega) (by decide) (by decide)) | (show (0 : Int) < _; omega) | (show (0 : Int) ≤ _; omega))
local macro_rules | `(tactic| walk_at "rd1") => `(tactic| first | with_reducible refine Rd.seq ?_ | with_reducible refine Rd.asg ?_ | with_reducible refine Rd.nm ?_ | with_reducible refine Rd.ret ?_ | with_reducible refine Rd.drop ?_ | with_reducible refine Rd.ifs ?_ | with_reducible refine Rd.par ?_ | with_reducible refine Rd.par3 ?_ | with_reducible refine Rd.next ?_ | with_reducible refine Rd.fr1 ?_ | with_reducible refine Rd.nxp ?_ | with_reducible refine Rd.rtp ?_ | ((with_reducible show tVar _ _ _ _); refine Rd.var rfl ?_) | with_reducible refine Rd.cst ?_ | with_reducible refine Rd.op ?_ | with_reducible refine Rd.un ?_ | with_reducible refine Rd.i0 ?_ | with_reducible refine Rd.ung ?_ | with_reducible refine Rd.eqI ?_ | with_reducible refine Rd.neI ?_ | with_reducible refine Rd.eqS ?_ | with_reducible refine Rd.neS ?_ | with_reducible refine Rd.test ?_ | with_reducible refine Rd.tstB ?_ | with_reducible refine Rd.isB ?_ | with_reducible refine Rd.not ?_ | with_reducible refine Rd.andT ?_ | with_reducible refine Rd.orT ?_ | with_reducible refine Rd.andV ?_ | with_reducible refine Rd.orV ?_ | with_reducible refine Rd.notV ?_ | with_reducible refine Rd.ifE ?_ | with_reducible refine Rd.chain ?_ | with_reducible refine Rd.nil ?_ | with_reducible refine Rd.cons ?_ | with_reducible refine Rd.call ?_ | with_reducible refine Rd.cb ?_ | with_reducible refine Rd.bm ?_ | with_reducible refine Au.revL ?_ | with_reducible refine Rd.frl ?_ | with_reducible refine Rd.frt ?_ | with_reducible refine Rd.fre ?_ | with_reducible refine Rd.disp ?_ | with_reducible refine Rd.pnil ?_ | with_reducible refine Rd.pcons ?_ | with_reducible refine Rd.gcons ?_ | with_reducible refine Rd.gnil ?_ | with_reducible refine Rd.gsub ?_ | with_reducible refine Rd.setD ?_ | ((with_reducible show gTup _ _ _ _ _ (upd _ _ (HO.tup _)) _); refine Rd.tupNew rfl ?_) | with_reducible refine Rd.fld ?_ | with_reducible refine Rd.meth ?_ | with_reducible refine Rd.make ?_ | with_reducible refine Rd.prop ?_ | with_reducible refine Au.tup ?_ | with_reducible refine Au.lst ?_ | ((with_reducible refine Au.lenOk ?hl ?_); (case hl => exact rfl)) | with_reducible refine Au.nopart ?_ | with_reducible refine Au.part ?_ | with_reducible refine Au.isI ?_ | with_reducible refine Au.sl ?_ | with_reducible refine Au.pr2 ?_ | with_reducible refine Au.pr3 ?_ | with_reducible refine Au.eqB ?_ | with_reducible refine Rd.isInt ?_ | with_reducible refine Rd.isBool ?_ | with_reducible refine Rd.mx2 ?_ | with_reducible refine Rd.mn2 ?_ | ((with_reducible show Rd.rAndM _ _ _ _); first | refine Rd.and1 ?_ | refine Rd.and48 ?_ | refine Rd.and32 ?_ | refine Rd.and64 ?_ | refine Rd.and65 ?_) | ((with_reducible refine Rd.iC ?hc ?_); (case hc => walk_at "side")) | ((with_reducible refine Rd.yes ?hc ?_); (case hc => first | omega | exact rfl)) | ((with_reducible refine Rd.no ?hc ?_); (case hc => omega)) | ((with_reducible refine Rd.noN ?hc ?_); (case hc => first | omega | exact rfl)) | ((with_reducible refine Rd.yesN ?hc ?_); (case hc => omega)) | ((with_reducible refine Rd.yesNN ?hc ?_); (case hc => omega)) | ((with_reducible refine Rd.noNN ?hc ?_); (case hc => omega)) | with_reducible refine iteT ?_ | with_reducible refine iteF ?_ | with_reducible refine Rd.iteNT ?_ | with_reducible refine Rd.iteNF ?_)
local macro_rules | `(tactic| walk_at "rd") => `(tactic| repeat (walk_at "rd1"))
local macro_rules | `(tactic| walk_at "hp") => `(tactic| first | assumption | (apply Au.sm; (focus assumption); (walk_at "hp")) | (apply Au.smp; (focus assumption); (focus (walk_at "hp")); (walk_at "ne")) | (apply Au.smn; (focus assumption); (focus (walk_at "hp")); (focus (intro _ z; cases z; done))) | fail "hp")
local macro_rules | `(tactic| walk_at "ne") => `(tactic| first | assumption | (apply Ne.symm; assumption) | (apply Au.nen; (focus assumption); (walk_at "hp")) | (apply Au.nen'; (focus assumption); (walk_at "hp")) | (apply Au.nek; (focus assumption); (focus assumption); (intro z; cases z; done)) | (apply Au.nek2; (focus assumption); (focus (walk_at "hp")); (intro z; cases z; done)) | fail "ne")
local macro_rules | `(tactic| walk_at "dp") => `(tactic| first | exact Dp.int _ | exact Dp.str _ | exact Dp.bl _ | exact Dp.non | (apply Dp.lst; (focus (apply Rd.sql; walk_at "hp")); (walk_at "dps")) | (apply Dp.tup; (focus (apply Rd.sqt; walk_at "hp")); (walk_at "dps")) | fail "dp")
local macro_rules | `(tactic| walk_at "dps") => `(tactic| first | exact DpAll.nil | (apply DpAll.cons; (focus (walk_at "dp")); (walk_at "dps")) | fail "dps")
local macro_rules | `(tactic| walk_at "shp") => `(tactic| ((simp only [SeqAt.shaped, PyData.canLay0, PyData.canLayAll0, PyData.depth, PyData.depthAll]) <;> first | decide | rfl))
local macro_rules | `(tactic| walk_at "sd") => `(tactic| first | assumption | rfl | omega | (walk_at "hp") | (refine ⟨?_, ?_⟩; (focus (walk_at "sd")); (walk_at "sd")) | fail "sd")
local macro_rules | `(tactic| walk_at "lk") => `(tactic| first | exact Rd.lk1 | rfl | decide +kernel)
local macro_rules | `(tactic| walk_at "rd1") => `(tactic| first | with_reducible refine Pr.dget ?_ | with_reducible refine Pr.dput ?_ | with_reducible refine Pr.sfld ?_ | with_reducible refine Pr.u_isInt ?_ | ((with_reducible show Pr.spNeed _ _ _ _ _ _); refine Pr.u_need (by omega) (by omega) ?_) | ((with_reducible show Pr.spIs _ _ _ _ _ _); refine Pr.u_isIn (by omega) ?_) | ((with_reducible apply Rd.fld1); (focus (walk_at "hp")); (focus assumption); (focus assumption); (focus (walk_at "lk"))) | ((with_reducible apply Au.methO); (focus (walk_at "hp")); (focus (walk_at "lk"))) | ((with_reducible apply Au.propO); (focus (walk_at "hp"))) | ((with_reducible show rIxT _ (V.ref _) (V.int _) _ _); refine Rd.ixT (Rd.sqt (by walk_at "hp")) rfl ?_) | ((with_reducible show rIxL _ (V.ref _) (V.int _) _ _); refine Rd.ixL (Rd.sql (by walk_at "hp")) rfl ?_) | ((with_reducible show Rd.rLenQ _ [V.ref _] _ _); first | refine Rd.lenL (Rd.sql (by walk_at "hp")) ?_ | refine Rd.lenT (Rd.sqt (by walk_at "hp")) ?_) | ((with_reducible show gTup _ _ _ (V.ref _) _ _ _); refine Rd.gtup (Rd.sqt (by walk_at "hp")) rfl ?_) | with_reducible refine Gx.gat ?_ | with_reducible refine Gx.gnx ?_ | with_reducible refine Gx.gthen ?_ | with_reducible refine Gx.gplain ?_ | with_reducible refine Gx.gfr ?_ | with_reducible refine Gx.lg ?_ | with_reducible refine Gx.mg ?_ | with_reducible refine Gx.sme ?_ | with_reducible refine Gx.callSD ?_ | with_reducible refine Gx.methSD ?_)
local macro_rules | `(tactic| walk_at "rd1") => `(tactic| first | with_reducible refine Gx.mkR ?_ | with_reducible refine Gx.fr3 ?_ | with_reducible refine Gx.makeD ?_ | with_reducible refine Gx.frz ?_ | with_reducible refine Gx.lcO ?_ | with_reducible refine Gx.itupO ?_ | with_reducible refine Gx.ilistO ?_ | with_reducible refine Gx.irng1O ?_ | with_reducible refine Gx.ival ?_ | ((with_reducible apply Gx.ivalO); (focus (walk_at "hp")); (focus assumption); (focus assumption); (focus (walk_at "lk"))) | ((with_reducible show Gx.rTupOf _ [V.ref _] _ _); refine Gx.tupOfL (Rd.sql (by walk_at "hp")) ?_) | ((with_reducible show Gx.rLstOf _ [V.ref _] _ _); first | refine Gx.lstOfL (Rd.sql (by walk_at "hp")) ?_ | refine Gx.lstOfT (Rd.sqt (by walk_at "hp")) ?_))
local macro_rules | `(tactic| walk_at "hp") => `(tactic| first | assumption | (apply Pr.smq; (focus assumption); (focus (walk_at "hp")); (focus (walk_at "ne")); (walk_at "ne")))
local macro_rules | `(tactic| walk_at "hp") => `(tactic| first | assumption | (apply smb; (focus assumption); (focus (walk_at "hp")); (focus assumption); assumption) | (apply smbK; (focus assumption); (focus (walk_at "hp")); (focus (walk_at "dr")); (constructor <;> (intro _ z; cases z; done))) | (apply smbN; (focus assumption); (focus (walk_at "hp")); (focus assumption); (walk_at "dr")))
local macro_rules | `(tactic| walk_at "dr") => `(tactic| first | assumption | (apply Draw.ex; (focus assumption); (walk_at "dr")) | (apply Draw.exp; (focus assumption); (focus (walk_at "dr")); (focus (walk_at "nd"))) | fail "dr")
local macro_rules | `(tactic| walk_at "nd") => `(tactic| first | assumption | (apply ndN; (focus assumption); (walk_at "dr")) | fail "nd")
def spLaw (K : PySem.W.Frag) : Sp := fun vs H Q _ => ∃ (a : Addr) (ns : List Int), vs = [.ref a] ∧ SqL K H a (ns.map V.int) ∧ ns.length ≤ 63 ∧ ∀ H', Q (.bl true) H'
theorem fn_law (T : Txt K mg C_Source C_Scripted C_Draws C_Shortage C_Exhausted) {f : Addr} {fd : FuncData} (F : C8.Def K mg "law" s_law f fd) : Gx.FnG P w K mg base 17 f fd ["_law_script"] (spLaw K) := by
  refine Gx.fnG_of F.fn sc_law (fun vs H Q E h => ?_) (fun cdv A outer s H vs Q gd hr h => ?_)
  · obtain ⟨a, ns, rfl, _⟩ := h; rfl
  · obtain ⟨a, ns, rfl, hS, hl, q⟩ := h
    have hu := hu_of hr
    have hu64 := hr.units
    have cl1 := T.cl_Scripted
    have cl2 := T.cl_Draws
    have v1 := T.v_Draws_KIND
    refine ⟨_, (pss_cons (ps_set (i := 1) sc_law.nd rfl (.inl rfl) (C8.pe_c (cal__law_begun T) hr (by omega) (by rfl) (pa_cons (pv 0) pa_nil)))
      (pss_cons (ps_for PassesOwn.never rfl (pi_range1 rfl T.b_range (pa_cons (pe_op op_add pe_int (pe_callB (Rd.call_mn2 rfl) (by rfl) T.b_min (by decide +kernel) (pa_cons pe_int (pa_cons (pe_callB Rd.call_lenQ (by rfl) T.b_len PySem.boot_len (pa_cons (pv 0) pa_nil)) pa_nil)))) pa_nil)) (pg_name (i := 2) sc_law.nd rfl (.inl rfl)) (pss_one (ps_if (pt_not (pt_val (C8.pe_c (cal__law_right T) hr (by omega) (by rfl) (pa_cons (pv 1) pa_nil)))) (pss_one (ps_ret pe_bl)) pss_nil)))
      (pss_cons (ps_set (i := 3) sc_law.nd rfl (.inl rfl) (C8.pe_mk (mak_Draws T) hr (by omega) (by rfl) (pa_cons (C8.pe_mk ((mkk_Scripted T).2) hr (by omega) (by rfl) (pa_cons (pe_tup pa_nil) pa_nil)) pa_nil)))
      (pss_one (ps_ret (pe_cmpR (op_eqD hu64) (pe_lst (pa_cons (Gx.pe_mx (metx_Draws_below T) LamX.takes0 (E := fun _ _ _ => False) (fun _ _ _ _ h => h) hr (by omega) (pv 3) (pa_cons pe_int pa_nil)) (pa_cons (Gx.pe_propC (pv 3) (prop_Draws_words_used T) hr (by omega) rfl) pa_nil))) (pe_lst (pa_cons pe_int (pa_cons pe_int pa_nil))) (nomark _))))))), ?_⟩
    walk_at "rd"
    refine ⟨a, ns, rfl, hS, hl, fun H1 d g e1 D1 => ?_⟩
    walk_at "rd"
    refine Rd.lenL (Rd.ex_l e1 hS) ?_
    have hl' : ((ns.map V.int).length : Int) ≤ 63 := by rw [List.length_map]; omega
    walk_at "rd"
    refine Rd.frN (n := (6 + (if ((ns.map V.int).length : Int) < 12 then ((ns.map V.int).length : Int) else 12)).toNat) (by split <;> omega) (by split <;> omega)
      (fun i σ' H' => ∃ y2 y3, σ' = [some (.ref a), some (.ref d), y2, y3] ∧ Draw H' d g) ⟨none, none, rfl, D1⟩ ?_ ?_
    · rintro i σ' H' hi ⟨y2, y3, rfl, D2⟩
      walk_at "rd"
      refine ⟨d, g, rfl, D2, fun H3 D3 => ?_⟩
      walk_at "rd"
      exact ⟨_, _, rfl, D3⟩
    · rintro σ' H' ⟨y2, y3, rfl, D2⟩
      walk_at "rd"
      refine Au.new fun ro H3 hro e3 k3 => ?_
      walk_at "rd"
      refine Pr.u_scr0 (ws := []) ⟨k3, by decide, by decide⟩ fun bo dxb H4 hbo e4 k4 => ?_
      walk_at "rd"
      refine Pr.u_drw k4 fun dr dxd H5 hdr e5 k5 => ?_
      have DA : Pr.DAt C_Draws C_Scripted H5 dr dxd bo dxb ro [] 0 0 := ⟨k5, e5 _ _ k4, e5 _ _ (e4 _ _ k3), by decide⟩
      walk_at "rd"
      have hb0 : Pr.bl (1 - 1) = 0 := Pr.bl_zero
      refine ⟨dr, dxd, bo, dxb, ro, [], 0, 0, 1, rfl, ⟨DA, ⟨by decide, Nat.one_le_two_pow⟩, by decide⟩, fun j hj hjb hle H6 x6 D6 => ?_, fun j hj hlt => ?_⟩
      · rw [hb0] at D6 ⊢
        have k6 := D6.drw
        rw [show ((tryB [] 0 0 j : Nat) : Int) = 0 from rfl]
        rw [show 0 + (j + 1) * Pr.need 0 = 0 from Nat.zero_add _] at k6
        walk_at "rd"
        refine ⟨dr, dxd, bo, _, rfl, k6, ?_⟩
        walk_at "rd"
        refine Au.new fun l1 H7 hl1 e7 k7 => ?_
        walk_at "rd"
        refine Au.new fun l2 H8 hl2 e8 k8 => ?_
        walk_at "rd"
        refine Au.eqDs (d := .list [.int 0, .int 0]) (by walk_at "dp") (by walk_at "dp") (by decide +kernel) ?_
        walk_at "rd"
        exact q H8
      · rw [hb0] at hlt
        exact absurd hlt (by show ¬ 0 < 0 + (j + 1) * 0; omega)
end
theorem law_mk {l : PySem.W.OpenLaw} {w : World} {K : PySem.W.Frag} {mg : Str → Option Value} {fa C_Source C_Scripted C_Draws C_Shortage C_Exhausted : Addr} {h : Heap} (hmg : mg "law" = some (.ref fa)) (T : Txt K mg C_Source C_Scripted C_Draws C_Shortage C_Exhausted) : Gx.LawG l w K 17 "_law_script" mg fa h := by
  obtain ⟨f, fd, F, b, hb⟩ := T.d_law
  have e := hmg.symm.trans F.mgf
  cases e
  exact ⟨fd, [], spLaw K, fun p hp => (nomatch hp), fun p hp => (nomatch hp), fun p hp => (nomatch hp), hb, fun H a ns hl _ _ hS => ⟨a, ns, rfl, hS, hl, fun _ => rfl⟩, fun base _ _ _ => fn_law T F⟩
end Pf

set_option Elab.async false
set_option linter.all false
set_option maxRecDepth 100000
set_option maxHeartbeats 4000000
set_option exponentiation.threshold 3000
namespace Pf
open PySem PySem.Spec PyProof.Rows L2
set_option maxHeartbeats 4000000 in
theorem txt_mk {K : PySem.W.Frag} {h : Heap} {mg : Str → Option Value} {f_Exhausted___init__ f_is_integer f_is_word f_need_source f_is_script f_need_script_state f_script_after f_Scripted___init__ f_Scripted_next_word f_s5_need f_s5_digits f_Draws___init__ f_Draws_words_used f_Draws_s5_word f_Draws_s5_bits f_Draws_s5_below f_Draws_below f__law_begun f__law_next f__law_pick f__law_word f__law_digits f__law_number f__law_size f__law_row_of f__law_bound f__law_right f__law_ends f_law p_Draws_words_used C_Source C_Scripted C_Draws C_Shortage C_Exhausted : Addr} {od_Exhausted___init__ an_Exhausted___init__ od_is_integer an_is_integer od_is_word an_is_word od_need_source an_need_source od_is_script an_is_script od_need_script_state an_need_script_state od_script_after an_script_after od_Scripted___init__ an_Scripted___init__ od_Scripted_next_word an_Scripted_next_word od_s5_need an_s5_need od_s5_digits an_s5_digits od_Draws___init__ an_Draws___init__ od_Draws_words_used an_Draws_words_used od_Draws_s5_word an_Draws_s5_word od_Draws_s5_bits an_Draws_s5_bits od_Draws_s5_below an_Draws_s5_below od_Draws_below an_Draws_below od__law_begun an__law_begun od__law_next an__law_next od__law_pick an__law_pick od__law_word an__law_word od__law_digits an__law_digits od__law_number an__law_number od__law_size an__law_size od__law_row_of an__law_row_of od__law_bound an__law_bound od__law_right an__law_right od__law_ends an__law_ends od_law an_law : Option Addr} {sl_Exhausted___init__ sl_is_integer sl_is_word sl_need_source sl_is_script sl_need_script_state sl_script_after sl_Scripted___init__ sl_Scripted_next_word sl_s5_need sl_s5_digits sl_Draws___init__ sl_Draws_words_used sl_Draws_s5_word sl_Draws_s5_bits sl_Draws_s5_below sl_Draws_below sl__law_begun sl__law_next sl__law_pick sl__law_word sl__law_digits sl__law_number sl__law_size sl__law_row_of sl__law_bound sl__law_right sl__law_ends sl_law : Array (Option Value)} {oc_Exhausted___init__ kV_Exhausted___init__ dc_Exhausted___init__ pm_Exhausted___init__ cd_Exhausted___init__ ct_Exhausted___init__ oc_is_integer kV_is_integer dc_is_integer pm_is_integer cd_is_integer ct_is_integer oc_is_word kV_is_word dc_is_word pm_is_word cd_is_word ct_is_word oc_need_source kV_need_source dc_need_source pm_need_source cd_need_source ct_need_source oc_is_script kV_is_script dc_is_script pm_is_script cd_is_script ct_is_script oc_need_script_state kV_need_script_state dc_need_script_state pm_need_script_state cd_need_script_state ct_need_script_state oc_script_after kV_script_after dc_script_after pm_script_after cd_script_after ct_script_after oc_Scripted___init__ kV_Scripted___init__ dc_Scripted___init__ pm_Scripted___init__ cd_Scripted___init__ ct_Scripted___init__ oc_Scripted_next_word kV_Scripted_next_word dc_Scripted_next_word pm_Scripted_next_word cd_Scripted_next_word ct_Scripted_next_word oc_s5_need kV_s5_need dc_s5_need pm_s5_need cd_s5_need ct_s5_need oc_s5_digits kV_s5_digits dc_s5_digits pm_s5_digits cd_s5_digits ct_s5_digits oc_Draws___init__ kV_Draws___init__ dc_Draws___init__ pm_Draws___init__ cd_Draws___init__ ct_Draws___init__ oc_Draws_words_used kV_Draws_words_used dc_Draws_words_used pm_Draws_words_used cd_Draws_words_used ct_Draws_words_used oc_Draws_s5_word kV_Draws_s5_word dc_Draws_s5_word pm_Draws_s5_word cd_Draws_s5_word ct_Draws_s5_word oc_Draws_s5_bits kV_Draws_s5_bits dc_Draws_s5_bits pm_Draws_s5_bits cd_Draws_s5_bits ct_Draws_s5_bits oc_Draws_s5_below kV_Draws_s5_below dc_Draws_s5_below pm_Draws_s5_below cd_Draws_s5_below ct_Draws_s5_below oc_Draws_below kV_Draws_below dc_Draws_below pm_Draws_below cd_Draws_below ct_Draws_below oc__law_begun kV__law_begun dc__law_begun pm__law_begun cd__law_begun ct__law_begun oc__law_next kV__law_next dc__law_next pm__law_next cd__law_next ct__law_next oc__law_pick kV__law_pick dc__law_pick pm__law_pick cd__law_pick ct__law_pick oc__law_word kV__law_word dc__law_word pm__law_word cd__law_word ct__law_word oc__law_digits kV__law_digits dc__law_digits pm__law_digits cd__law_digits ct__law_digits oc__law_number kV__law_number dc__law_number pm__law_number cd__law_number ct__law_number oc__law_size kV__law_size dc__law_size pm__law_size cd__law_size ct__law_size oc__law_row_of kV__law_row_of dc__law_row_of pm__law_row_of cd__law_row_of ct__law_row_of oc__law_bound kV__law_bound dc__law_bound pm__law_bound cd__law_bound ct__law_bound oc__law_right kV__law_right dc__law_right pm__law_right cd__law_right ct__law_right oc__law_ends kV__law_ends dc__law_ends pm__law_ends cd__law_ends ct__law_ends oc_law kV_law dc_law pm_law cd_law ct_law : Value} {rs_Draws_words_used : List Value} {tk_WORDS tk_MOST_SCRIPT tk_WORD_BITS tk_MOST_BOUND : Tok} {D_Scripted___init__ : Addr} {dO_Scripted___init__ : Value} {dP_Scripted___init__ : Option Addr} {dN_Scripted___init__ : Nat} {dS_Scripted___init__ : Array (Option Value)} {dT_Scripted___init___0 : Tok} {vt_Scripted_KIND : Tok} {vt_Draws_KIND : Tok} (X : K.In h) (G : h.Ns mainGlobals mg)
    (a_Exhausted___init__ : PySem.W.findIn K (.ref C_Exhausted) "__init__" = some (some (.ref f_Exhausted___init__)))
    (ti_Exhausted___init__ : PySem.W.typeIn K (.ref f_Exhausted___init__) = some (.type "function"))
    (l_Exhausted___init__ : K.lookup f_Exhausted___init__ = some ⟨oc_Exhausted___init__, od_Exhausted___init__, .func (PySem.W.fnOf "__init__" "Exhausted.__init__" (C8.fnArgs s_Exhausted___init__) (C8.fnBody s_Exhausted___init__) (C8.fnScope s_Exhausted___init__) .none kV_Exhausted___init__ dc_Exhausted___init__ pm_Exhausted___init__ an_Exhausted___init__ cd_Exhausted___init__ ct_Exhausted___init__), sl_Exhausted___init__⟩)
    (c_Exhausted___init__ : PySem.W.codeIn K cd_Exhausted___init__ "Exhausted.__init__" = true)
    (a_is_integer : PySem.W.nsIn K mainGlobals "is_integer" = some (some (.ref f_is_integer)))
    (l_is_integer : K.lookup f_is_integer = some ⟨oc_is_integer, od_is_integer, .func (PySem.W.fnOf "is_integer" "is_integer" (C8.fnArgs s_is_integer) (C8.fnBody s_is_integer) (C8.fnScope s_is_integer) .none kV_is_integer dc_is_integer pm_is_integer an_is_integer cd_is_integer ct_is_integer), sl_is_integer⟩)
    (c_is_integer : PySem.W.codeIn K cd_is_integer "is_integer" = true)
    (k_is_integer : PySem.W.keepIn K (.ref f_is_integer) = true)
    (a_is_word : PySem.W.nsIn K mainGlobals "is_word" = some (some (.ref f_is_word)))
    (l_is_word : K.lookup f_is_word = some ⟨oc_is_word, od_is_word, .func (PySem.W.fnOf "is_word" "is_word" (C8.fnArgs s_is_word) (C8.fnBody s_is_word) (C8.fnScope s_is_word) .none kV_is_word dc_is_word pm_is_word an_is_word cd_is_word ct_is_word), sl_is_word⟩)
    (c_is_word : PySem.W.codeIn K cd_is_word "is_word" = true)
    (k_is_word : PySem.W.keepIn K (.ref f_is_word) = true)
    (a_need_source : PySem.W.nsIn K mainGlobals "need_source" = some (some (.ref f_need_source)))
    (l_need_source : K.lookup f_need_source = some ⟨oc_need_source, od_need_source, .func (PySem.W.fnOf "need_source" "need_source" (C8.fnArgs s_need_source) (C8.fnBody s_need_source) (C8.fnScope s_need_source) .none kV_need_source dc_need_source pm_need_source an_need_source cd_need_source ct_need_source), sl_need_source⟩)
    (c_need_source : PySem.W.codeIn K cd_need_source "need_source" = true)
    (k_need_source : PySem.W.keepIn K (.ref f_need_source) = true)
    (a_is_script : PySem.W.nsIn K mainGlobals "is_script" = some (some (.ref f_is_script)))
    (l_is_script : K.lookup f_is_script = some ⟨oc_is_script, od_is_script, .func (PySem.W.fnOf "is_script" "is_script" (C8.fnArgs s_is_script) (C8.fnBody s_is_script) (C8.fnScope s_is_script) .none kV_is_script dc_is_script pm_is_script an_is_script cd_is_script ct_is_script), sl_is_script⟩)
    (c_is_script : PySem.W.codeIn K cd_is_script "is_script" = true)
    (k_is_script : PySem.W.keepIn K (.ref f_is_script) = true)
    (a_need_script_state : PySem.W.nsIn K mainGlobals "need_script_state" = some (some (.ref f_need_script_state)))
    (l_need_script_state : K.lookup f_need_script_state = some ⟨oc_need_script_state, od_need_script_state, .func (PySem.W.fnOf "need_script_state" "need_script_state" (C8.fnArgs s_need_script_state) (C8.fnBody s_need_script_state) (C8.fnScope s_need_script_state) .none kV_need_script_state dc_need_script_state pm_need_script_state an_need_script_state cd_need_script_state ct_need_script_state), sl_need_script_state⟩)
    (c_need_script_state : PySem.W.codeIn K cd_need_script_state "need_script_state" = true)
    (k_need_script_state : PySem.W.keepIn K (.ref f_need_script_state) = true)
    (a_script_after : PySem.W.nsIn K mainGlobals "script_after" = some (some (.ref f_script_after)))
    (l_script_after : K.lookup f_script_after = some ⟨oc_script_after, od_script_after, .func (PySem.W.fnOf "script_after" "script_after" (C8.fnArgs s_script_after) (C8.fnBody s_script_after) (C8.fnScope s_script_after) .none kV_script_after dc_script_after pm_script_after an_script_after cd_script_after ct_script_after), sl_script_after⟩)
    (c_script_after : PySem.W.codeIn K cd_script_after "script_after" = true)
    (k_script_after : PySem.W.keepIn K (.ref f_script_after) = true)
    (a_Scripted___init__ : PySem.W.findIn K (.ref C_Scripted) "__init__" = some (some (.ref f_Scripted___init__)))
    (i_Scripted___init__ : PySem.W.isFn K (.ref f_Scripted___init__) = true)
    (l_Scripted___init__ : K.lookup f_Scripted___init__ = some ⟨oc_Scripted___init__, od_Scripted___init__, .func (PySem.W.fnOf "__init__" "Scripted.__init__" (C8.fnArgs s_Scripted___init__) (C8.fnBody s_Scripted___init__) (C8.fnScope s_Scripted___init__) (.ref D_Scripted___init__) kV_Scripted___init__ dc_Scripted___init__ pm_Scripted___init__ an_Scripted___init__ cd_Scripted___init__ ct_Scripted___init__), sl_Scripted___init__⟩)
    (c_Scripted___init__ : PySem.W.codeIn K cd_Scripted___init__ "Scripted.__init__" = true)
    (k_Scripted___init__ : PySem.W.keepIn K (.ref f_Scripted___init__) = true)
    (dl_Scripted___init__ : K.lookup D_Scripted___init__ = some ⟨dO_Scripted___init__, dP_Scripted___init__, .seq #[.int 0 dT_Scripted___init___0] dN_Scripted___init__, dS_Scripted___init__⟩)
    (mk_Scripted___init__ : PySem.W.makesIn K C_Scripted = true)
    (kc_Scripted___init__ : PySem.W.keepIn K (.ref C_Scripted) = true)
    (a_Scripted_next_word : PySem.W.findIn K (.ref C_Scripted) "next_word" = some (some (.ref f_Scripted_next_word)))
    (i_Scripted_next_word : PySem.W.isFn K (.ref f_Scripted_next_word) = true)
    (l_Scripted_next_word : K.lookup f_Scripted_next_word = some ⟨oc_Scripted_next_word, od_Scripted_next_word, .func (PySem.W.fnOf "next_word" "Scripted.next_word" (C8.fnArgs s_Scripted_next_word) (C8.fnBody s_Scripted_next_word) (C8.fnScope s_Scripted_next_word) .none kV_Scripted_next_word dc_Scripted_next_word pm_Scripted_next_word an_Scripted_next_word cd_Scripted_next_word ct_Scripted_next_word), sl_Scripted_next_word⟩)
    (c_Scripted_next_word : PySem.W.codeIn K cd_Scripted_next_word "Scripted.next_word" = true)
    (k_Scripted_next_word : PySem.W.keepIn K (.ref f_Scripted_next_word) = true)
    (a_s5_need : PySem.W.nsIn K mainGlobals "s5_need" = some (some (.ref f_s5_need)))
    (l_s5_need : K.lookup f_s5_need = some ⟨oc_s5_need, od_s5_need, .func (PySem.W.fnOf "s5_need" "s5_need" (C8.fnArgs s_s5_need) (C8.fnBody s_s5_need) (C8.fnScope s_s5_need) .none kV_s5_need dc_s5_need pm_s5_need an_s5_need cd_s5_need ct_s5_need), sl_s5_need⟩)
    (c_s5_need : PySem.W.codeIn K cd_s5_need "s5_need" = true)
    (k_s5_need : PySem.W.keepIn K (.ref f_s5_need) = true)
    (a_s5_digits : PySem.W.nsIn K mainGlobals "s5_digits" = some (some (.ref f_s5_digits)))
    (l_s5_digits : K.lookup f_s5_digits = some ⟨oc_s5_digits, od_s5_digits, .func (PySem.W.fnOf "s5_digits" "s5_digits" (C8.fnArgs s_s5_digits) (C8.fnBody s_s5_digits) (C8.fnScope s_s5_digits) .none kV_s5_digits dc_s5_digits pm_s5_digits an_s5_digits cd_s5_digits ct_s5_digits), sl_s5_digits⟩)
    (c_s5_digits : PySem.W.codeIn K cd_s5_digits "s5_digits" = true)
    (k_s5_digits : PySem.W.keepIn K (.ref f_s5_digits) = true)
    (a_Draws___init__ : PySem.W.findIn K (.ref C_Draws) "__init__" = some (some (.ref f_Draws___init__)))
    (i_Draws___init__ : PySem.W.isFn K (.ref f_Draws___init__) = true)
    (l_Draws___init__ : K.lookup f_Draws___init__ = some ⟨oc_Draws___init__, od_Draws___init__, .func (PySem.W.fnOf "__init__" "Draws.__init__" (C8.fnArgs s_Draws___init__) (C8.fnBody s_Draws___init__) (C8.fnScope s_Draws___init__) .none kV_Draws___init__ dc_Draws___init__ pm_Draws___init__ an_Draws___init__ cd_Draws___init__ ct_Draws___init__), sl_Draws___init__⟩)
    (c_Draws___init__ : PySem.W.codeIn K cd_Draws___init__ "Draws.__init__" = true)
    (k_Draws___init__ : PySem.W.keepIn K (.ref f_Draws___init__) = true)
    (mk_Draws___init__ : PySem.W.makesIn K C_Draws = true)
    (kc_Draws___init__ : PySem.W.keepIn K (.ref C_Draws) = true)
    (a_Draws_words_used : PySem.W.findIn K (.ref C_Draws) "words_used" = some (some (.ref p_Draws_words_used)))
    (g_Draws_words_used : PySem.W.specialIn K (.ref p_Draws_words_used) "__get__" = some (some (.builtin "property.__get__")))
    (t_Draws_words_used : PySem.W.takesIn K (.ref p_Draws_words_used) = some true)
    (r_Draws_words_used : PySem.W.recIn K p_Draws_words_used "property" = some (.ref f_Draws_words_used :: rs_Draws_words_used))
    (l_Draws_words_used : K.lookup f_Draws_words_used = some ⟨oc_Draws_words_used, od_Draws_words_used, .func (PySem.W.fnOf "words_used" "Draws.words_used" (C8.fnArgs s_Draws_words_used) (C8.fnBody s_Draws_words_used) (C8.fnScope s_Draws_words_used) .none kV_Draws_words_used dc_Draws_words_used pm_Draws_words_used an_Draws_words_used cd_Draws_words_used ct_Draws_words_used), sl_Draws_words_used⟩)
    (c_Draws_words_used : PySem.W.codeIn K cd_Draws_words_used "Draws.words_used" = true)
    (k_Draws_words_used : PySem.W.keepIn K (.ref f_Draws_words_used) = true)
    (a_Draws_s5_word : PySem.W.findIn K (.ref C_Draws) "s5_word" = some (some (.ref f_Draws_s5_word)))
    (i_Draws_s5_word : PySem.W.isFn K (.ref f_Draws_s5_word) = true)
    (l_Draws_s5_word : K.lookup f_Draws_s5_word = some ⟨oc_Draws_s5_word, od_Draws_s5_word, .func (PySem.W.fnOf "s5_word" "Draws.s5_word" (C8.fnArgs s_Draws_s5_word) (C8.fnBody s_Draws_s5_word) (C8.fnScope s_Draws_s5_word) .none kV_Draws_s5_word dc_Draws_s5_word pm_Draws_s5_word an_Draws_s5_word cd_Draws_s5_word ct_Draws_s5_word), sl_Draws_s5_word⟩)
    (c_Draws_s5_word : PySem.W.codeIn K cd_Draws_s5_word "Draws.s5_word" = true)
    (k_Draws_s5_word : PySem.W.keepIn K (.ref f_Draws_s5_word) = true)
    (a_Draws_s5_bits : PySem.W.findIn K (.ref C_Draws) "s5_bits" = some (some (.ref f_Draws_s5_bits)))
    (i_Draws_s5_bits : PySem.W.isFn K (.ref f_Draws_s5_bits) = true)
    (l_Draws_s5_bits : K.lookup f_Draws_s5_bits = some ⟨oc_Draws_s5_bits, od_Draws_s5_bits, .func (PySem.W.fnOf "s5_bits" "Draws.s5_bits" (C8.fnArgs s_Draws_s5_bits) (C8.fnBody s_Draws_s5_bits) (C8.fnScope s_Draws_s5_bits) .none kV_Draws_s5_bits dc_Draws_s5_bits pm_Draws_s5_bits an_Draws_s5_bits cd_Draws_s5_bits ct_Draws_s5_bits), sl_Draws_s5_bits⟩)
    (c_Draws_s5_bits : PySem.W.codeIn K cd_Draws_s5_bits "Draws.s5_bits" = true)
    (k_Draws_s5_bits : PySem.W.keepIn K (.ref f_Draws_s5_bits) = true)
    (a_Draws_s5_below : PySem.W.findIn K (.ref C_Draws) "s5_below" = some (some (.ref f_Draws_s5_below)))
    (i_Draws_s5_below : PySem.W.isFn K (.ref f_Draws_s5_below) = true)
    (l_Draws_s5_below : K.lookup f_Draws_s5_below = some ⟨oc_Draws_s5_below, od_Draws_s5_below, .func (PySem.W.fnOf "s5_below" "Draws.s5_below" (C8.fnArgs s_Draws_s5_below) (C8.fnBody s_Draws_s5_below) (C8.fnScope s_Draws_s5_below) .none kV_Draws_s5_below dc_Draws_s5_below pm_Draws_s5_below an_Draws_s5_below cd_Draws_s5_below ct_Draws_s5_below), sl_Draws_s5_below⟩)
    (c_Draws_s5_below : PySem.W.codeIn K cd_Draws_s5_below "Draws.s5_below" = true)
    (k_Draws_s5_below : PySem.W.keepIn K (.ref f_Draws_s5_below) = true)
    (a_Draws_below : PySem.W.findIn K (.ref C_Draws) "below" = some (some (.ref f_Draws_below)))
    (i_Draws_below : PySem.W.isFn K (.ref f_Draws_below) = true)
    (l_Draws_below : K.lookup f_Draws_below = some ⟨oc_Draws_below, od_Draws_below, .func (PySem.W.fnOf "below" "Draws.below" (C8.fnArgs s_Draws_below) (C8.fnBody s_Draws_below) (C8.fnScope s_Draws_below) .none kV_Draws_below dc_Draws_below pm_Draws_below an_Draws_below cd_Draws_below ct_Draws_below), sl_Draws_below⟩)
    (c_Draws_below : PySem.W.codeIn K cd_Draws_below "Draws.below" = true)
    (k_Draws_below : PySem.W.keepIn K (.ref f_Draws_below) = true)
    (a__law_begun : PySem.W.nsIn K mainGlobals "_law_begun" = some (some (.ref f__law_begun)))
    (l__law_begun : K.lookup f__law_begun = some ⟨oc__law_begun, od__law_begun, .func (PySem.W.fnOf "_law_begun" "_law_begun" (C8.fnArgs s__law_begun) (C8.fnBody s__law_begun) (C8.fnScope s__law_begun) .none kV__law_begun dc__law_begun pm__law_begun an__law_begun cd__law_begun ct__law_begun), sl__law_begun⟩)
    (c__law_begun : PySem.W.codeIn K cd__law_begun "_law_begun" = true)
    (k__law_begun : PySem.W.keepIn K (.ref f__law_begun) = true)
    (a__law_next : PySem.W.nsIn K mainGlobals "_law_next" = some (some (.ref f__law_next)))
    (l__law_next : K.lookup f__law_next = some ⟨oc__law_next, od__law_next, .func (PySem.W.fnOf "_law_next" "_law_next" (C8.fnArgs s__law_next) (C8.fnBody s__law_next) (C8.fnScope s__law_next) .none kV__law_next dc__law_next pm__law_next an__law_next cd__law_next ct__law_next), sl__law_next⟩)
    (c__law_next : PySem.W.codeIn K cd__law_next "_law_next" = true)
    (k__law_next : PySem.W.keepIn K (.ref f__law_next) = true)
    (a__law_pick : PySem.W.nsIn K mainGlobals "_law_pick" = some (some (.ref f__law_pick)))
    (l__law_pick : K.lookup f__law_pick = some ⟨oc__law_pick, od__law_pick, .func (PySem.W.fnOf "_law_pick" "_law_pick" (C8.fnArgs s__law_pick) (C8.fnBody s__law_pick) (C8.fnScope s__law_pick) .none kV__law_pick dc__law_pick pm__law_pick an__law_pick cd__law_pick ct__law_pick), sl__law_pick⟩)
    (c__law_pick : PySem.W.codeIn K cd__law_pick "_law_pick" = true)
    (k__law_pick : PySem.W.keepIn K (.ref f__law_pick) = true)
    (a__law_word : PySem.W.nsIn K mainGlobals "_law_word" = some (some (.ref f__law_word)))
    (l__law_word : K.lookup f__law_word = some ⟨oc__law_word, od__law_word, .func (PySem.W.fnOf "_law_word" "_law_word" (C8.fnArgs s__law_word) (C8.fnBody s__law_word) (C8.fnScope s__law_word) .none kV__law_word dc__law_word pm__law_word an__law_word cd__law_word ct__law_word), sl__law_word⟩)
    (c__law_word : PySem.W.codeIn K cd__law_word "_law_word" = true)
    (k__law_word : PySem.W.keepIn K (.ref f__law_word) = true)
    (a__law_digits : PySem.W.nsIn K mainGlobals "_law_digits" = some (some (.ref f__law_digits)))
    (l__law_digits : K.lookup f__law_digits = some ⟨oc__law_digits, od__law_digits, .func (PySem.W.fnOf "_law_digits" "_law_digits" (C8.fnArgs s__law_digits) (C8.fnBody s__law_digits) (C8.fnScope s__law_digits) .none kV__law_digits dc__law_digits pm__law_digits an__law_digits cd__law_digits ct__law_digits), sl__law_digits⟩)
    (c__law_digits : PySem.W.codeIn K cd__law_digits "_law_digits" = true)
    (k__law_digits : PySem.W.keepIn K (.ref f__law_digits) = true)
    (a__law_number : PySem.W.nsIn K mainGlobals "_law_number" = some (some (.ref f__law_number)))
    (l__law_number : K.lookup f__law_number = some ⟨oc__law_number, od__law_number, .func (PySem.W.fnOf "_law_number" "_law_number" (C8.fnArgs s__law_number) (C8.fnBody s__law_number) (C8.fnScope s__law_number) .none kV__law_number dc__law_number pm__law_number an__law_number cd__law_number ct__law_number), sl__law_number⟩)
    (c__law_number : PySem.W.codeIn K cd__law_number "_law_number" = true)
    (k__law_number : PySem.W.keepIn K (.ref f__law_number) = true)
    (a__law_size : PySem.W.nsIn K mainGlobals "_law_size" = some (some (.ref f__law_size)))
    (l__law_size : K.lookup f__law_size = some ⟨oc__law_size, od__law_size, .func (PySem.W.fnOf "_law_size" "_law_size" (C8.fnArgs s__law_size) (C8.fnBody s__law_size) (C8.fnScope s__law_size) .none kV__law_size dc__law_size pm__law_size an__law_size cd__law_size ct__law_size), sl__law_size⟩)
    (c__law_size : PySem.W.codeIn K cd__law_size "_law_size" = true)
    (k__law_size : PySem.W.keepIn K (.ref f__law_size) = true)
    (a__law_row_of : PySem.W.nsIn K mainGlobals "_law_row_of" = some (some (.ref f__law_row_of)))
    (l__law_row_of : K.lookup f__law_row_of = some ⟨oc__law_row_of, od__law_row_of, .func (PySem.W.fnOf "_law_row_of" "_law_row_of" (C8.fnArgs s__law_row_of) (C8.fnBody s__law_row_of) (C8.fnScope s__law_row_of) .none kV__law_row_of dc__law_row_of pm__law_row_of an__law_row_of cd__law_row_of ct__law_row_of), sl__law_row_of⟩)
    (c__law_row_of : PySem.W.codeIn K cd__law_row_of "_law_row_of" = true)
    (k__law_row_of : PySem.W.keepIn K (.ref f__law_row_of) = true)
    (a__law_bound : PySem.W.nsIn K mainGlobals "_law_bound" = some (some (.ref f__law_bound)))
    (l__law_bound : K.lookup f__law_bound = some ⟨oc__law_bound, od__law_bound, .func (PySem.W.fnOf "_law_bound" "_law_bound" (C8.fnArgs s__law_bound) (C8.fnBody s__law_bound) (C8.fnScope s__law_bound) .none kV__law_bound dc__law_bound pm__law_bound an__law_bound cd__law_bound ct__law_bound), sl__law_bound⟩)
    (c__law_bound : PySem.W.codeIn K cd__law_bound "_law_bound" = true)
    (k__law_bound : PySem.W.keepIn K (.ref f__law_bound) = true)
    (a__law_right : PySem.W.nsIn K mainGlobals "_law_right" = some (some (.ref f__law_right)))
    (l__law_right : K.lookup f__law_right = some ⟨oc__law_right, od__law_right, .func (PySem.W.fnOf "_law_right" "_law_right" (C8.fnArgs s__law_right) (C8.fnBody s__law_right) (C8.fnScope s__law_right) .none kV__law_right dc__law_right pm__law_right an__law_right cd__law_right ct__law_right), sl__law_right⟩)
    (c__law_right : PySem.W.codeIn K cd__law_right "_law_right" = true)
    (k__law_right : PySem.W.keepIn K (.ref f__law_right) = true)
    (a__law_ends : PySem.W.nsIn K mainGlobals "_law_ends" = some (some (.ref f__law_ends)))
    (l__law_ends : K.lookup f__law_ends = some ⟨oc__law_ends, od__law_ends, .func (PySem.W.fnOf "_law_ends" "_law_ends" (C8.fnArgs s__law_ends) (C8.fnBody s__law_ends) (C8.fnScope s__law_ends) .none kV__law_ends dc__law_ends pm__law_ends an__law_ends cd__law_ends ct__law_ends), sl__law_ends⟩)
    (c__law_ends : PySem.W.codeIn K cd__law_ends "_law_ends" = true)
    (k__law_ends : PySem.W.keepIn K (.ref f__law_ends) = true)
    (a_law : PySem.W.nsIn K mainGlobals "law" = some (some (.ref f_law)))
    (l_law : K.lookup f_law = some ⟨oc_law, od_law, .func (PySem.W.fnOf "law" "law" (C8.fnArgs s_law) (C8.fnBody s_law) (C8.fnScope s_law) .none kV_law dc_law pm_law an_law cd_law ct_law), sl_law⟩)
    (c_law : PySem.W.codeIn K cd_law "law" = true)
    (k_law : PySem.W.keepIn K (.ref f_law) = true)
    (e_WORDS : PySem.W.nsIn K mainGlobals "WORDS" = some (some (.int 4294967296 tk_WORDS)))
    (e_MOST_SCRIPT : PySem.W.nsIn K mainGlobals "MOST_SCRIPT" = some (some (.int 10000 tk_MOST_SCRIPT)))
    (e_WORD_BITS : PySem.W.nsIn K mainGlobals "WORD_BITS" = some (some (.int 32 tk_WORD_BITS)))
    (e_MOST_BOUND : PySem.W.nsIn K mainGlobals "MOST_BOUND" = some (some (.int 115792089237316195423570985008687907853269984665640564039457584007913129639936 tk_MOST_BOUND)))
    (q_Source : PySem.W.nsIn K mainGlobals "Source" = some (some (.ref C_Source)))
    (pg_Source : PySem.W.plainGet K C_Source Str.empty = true)
    (hd_Source : PySem.W.hasDictIn K C_Source = true)
    (po_Source : PySem.W.plainOver K C_Source = true)
    (sa_Source : PySem.W.findIn K (.ref C_Source) "__setattr__" = some (some (.builtin "object.__setattr__")))
    (ha_Source : PySem.W.findIn K (.ref C_Source) "__class__" = some (some (.builtin "object.__class__")))
    (hn_Source : PySem.W.specialIn K (.builtin "object.__class__") "__get__" = some (some (.builtin "getset_descriptor.__get__")))
    (ht_Source : PySem.W.takesIn K (.builtin "object.__class__") = some true)
    (hm_Source : PySem.W.mroIn K C_Source (.type "object") = some true)
    (q_Scripted : PySem.W.nsIn K mainGlobals "Scripted" = some (some (.ref C_Scripted)))
    (pg_Scripted : PySem.W.plainGet K C_Scripted Str.empty = true)
    (hd_Scripted : PySem.W.hasDictIn K C_Scripted = true)
    (po_Scripted : PySem.W.plainOver K C_Scripted = true)
    (sa_Scripted : PySem.W.findIn K (.ref C_Scripted) "__setattr__" = some (some (.builtin "object.__setattr__")))
    (ha_Scripted : PySem.W.findIn K (.ref C_Scripted) "__class__" = some (some (.builtin "object.__class__")))
    (hn_Scripted : PySem.W.specialIn K (.builtin "object.__class__") "__get__" = some (some (.builtin "getset_descriptor.__get__")))
    (ht_Scripted : PySem.W.takesIn K (.builtin "object.__class__") = some true)
    (hm_Scripted : PySem.W.mroIn K C_Scripted (.type "object") = some true)
    (na_Scripted_s1_script : PySem.W.findIn K (.ref C_Scripted) "s1_script" = some none)
    (na_Scripted_s1_place : PySem.W.findIn K (.ref C_Scripted) "s1_place" = some none)
    (q_Draws : PySem.W.nsIn K mainGlobals "Draws" = some (some (.ref C_Draws)))
    (pg_Draws : PySem.W.plainGet K C_Draws Str.empty = true)
    (hd_Draws : PySem.W.hasDictIn K C_Draws = true)
    (po_Draws : PySem.W.plainOver K C_Draws = true)
    (sa_Draws : PySem.W.findIn K (.ref C_Draws) "__setattr__" = some (some (.builtin "object.__setattr__")))
    (ha_Draws : PySem.W.findIn K (.ref C_Draws) "__class__" = some (some (.builtin "object.__class__")))
    (hn_Draws : PySem.W.specialIn K (.builtin "object.__class__") "__get__" = some (some (.builtin "getset_descriptor.__get__")))
    (ht_Draws : PySem.W.takesIn K (.builtin "object.__class__") = some true)
    (hm_Draws : PySem.W.mroIn K C_Draws (.type "object") = some true)
    (na_Draws_s5_source : PySem.W.findIn K (.ref C_Draws) "s5_source" = some none)
    (na_Draws_s5_used : PySem.W.findIn K (.ref C_Draws) "s5_used" = some none)
    (ob_Source_Scripted : PySem.W.kitOne K (.ref C_Source) (.ref C_Scripted) = some false)
    (ob_Source_Draws : PySem.W.kitOne K (.ref C_Source) (.ref C_Draws) = some false)
    (ob_Scripted_Source : PySem.W.kitOne K (.ref C_Scripted) (.ref C_Source) = some true)
    (ob_Scripted_Draws : PySem.W.kitOne K (.ref C_Scripted) (.ref C_Draws) = some false)
    (ob_Draws_Source : PySem.W.kitOne K (.ref C_Draws) (.ref C_Source) = some false)
    (ob_Draws_Scripted : PySem.W.kitOne K (.ref C_Draws) (.ref C_Scripted) = some false)
    (vf_Scripted_KIND : PySem.W.findIn K (.ref C_Scripted) "KIND" = some (some (.str "script" vt_Scripted_KIND)))
    (vs_Scripted_KIND : PySem.W.specialIn K (.str "script" vt_Scripted_KIND) "__get__" = some none)
    (vf_Draws_KIND : PySem.W.findIn K (.ref C_Draws) "KIND" = some (some (.str "plain" vt_Draws_KIND)))
    (vs_Draws_KIND : PySem.W.specialIn K (.str "plain" vt_Draws_KIND) "__get__" = some none)
    (q_Shortage : PySem.W.nsIn K mainGlobals "Shortage" = some (some (.ref C_Shortage)))
    (rd_Shortage : PySem.W.readsIn K C_Shortage (.type "type") = true)
    (rg_Shortage : PySem.W.specialIn K (.ref C_Shortage) "__getattribute__" = some (some (.builtin "type.__getattribute__")))
    (fi_Shortage : PySem.W.findCls K (.ref C_Shortage) (.type "type") "__init__" = some (.val (.builtin "LookupError.__init__")))
    (q_Exhausted : PySem.W.nsIn K mainGlobals "Exhausted" = some (some (.ref C_Exhausted)))
    (in_Exhausted : PySem.W.excInitIn K C_Exhausted [.type "LookupError", .type "Exception", .type "BaseException", .type "object"] "LookupError.__new__" = true)
    (ov_Exhausted : PySem.W.excOver K C_Exhausted [.type "LookupError", .type "Exception", .type "BaseException", .type "object"] = true)
    (hd_Exhausted : PySem.W.hasDictIn K C_Exhausted = true)
    (sa_Exhausted : PySem.W.findIn K (.ref C_Exhausted) "__setattr__" = some (some (.builtin "object.__setattr__")))
    (ex_Exhausted : PySem.W.subIn K (.ref C_Exhausted) (.type "BaseException") = some true)
    (ty_Exhausted : PySem.W.typeIn K (.ref C_Exhausted) = some (.type "type"))
    (kc_Exhausted : PySem.W.keepIn K (.ref C_Exhausted) = true)
    (ga_Exhausted : PySem.W.findIn K (.ref C_Exhausted) "__getattribute__" = some (some (.builtin "BaseException.__getattribute__")))
    (gg_Exhausted : PySem.W.findIn K (.ref C_Exhausted) "__getattr__" = some none)
    (na_Exhausted : PySem.W.findIn K (.ref C_Exhausted) "missing" = some none)
    (tk_Exhausted : PySem.W.takerIn K C_Exhausted "missing" = some none)
    (sb_Exhausted : PySem.W.subIn K (.ref C_Exhausted) (.ref C_Exhausted) = some true)
    (z_all : PySem.W.nsIn K mainGlobals "all" = some none)
    (z_bool : PySem.W.nsIn K mainGlobals "bool" = some none)
    (z_enumerate : PySem.W.nsIn K mainGlobals "enumerate" = some none)
    (z_int : PySem.W.nsIn K mainGlobals "int" = some none)
    (z_isinstance : PySem.W.nsIn K mainGlobals "isinstance" = some none)
    (z_len : PySem.W.nsIn K mainGlobals "len" = some none)
    (z_max : PySem.W.nsIn K mainGlobals "max" = some none)
    (z_min : PySem.W.nsIn K mainGlobals "min" = some none)
    (z_range : PySem.W.nsIn K mainGlobals "range" = some none)
    (z_tuple : PySem.W.nsIn K mainGlobals "tuple" = some none)
    : Txt K mg C_Source C_Scripted C_Draws C_Shortage C_Exhausted :=
  { d_Exhausted___init__ := ⟨f_Exhausted___init__, _, a_Exhausted___init__, ti_Exhausted___init__, ⟨⟨oc_Exhausted___init__, od_Exhausted___init__, .none, kV_Exhausted___init__, dc_Exhausted___init__, pm_Exhausted___init__, an_Exhausted___init__, cd_Exhausted___init__, ct_Exhausted___init__, sl_Exhausted___init__, rfl, l_Exhausted___init__, c_Exhausted___init__⟩⟩, C8.Fun.binds (x := "__init__") (qual := "Exhausted.__init__") (st := s_Exhausted___init__) (f := f_Exhausted___init__) ⟨⟨oc_Exhausted___init__, od_Exhausted___init__, .none, kV_Exhausted___init__, dc_Exhausted___init__, pm_Exhausted___init__, an_Exhausted___init__, cd_Exhausted___init__, ct_Exhausted___init__, sl_Exhausted___init__, rfl, l_Exhausted___init__, c_Exhausted___init__⟩⟩ rfl (fun _ _ _ _ _ _ us hl => match us, hl with | [_, _], _ => rfl)⟩,
    d_is_integer := ⟨f_is_integer, _, ⟨⟨⟨oc_is_integer, od_is_integer, .none, kV_is_integer, dc_is_integer, pm_is_integer, an_is_integer, cd_is_integer, ct_is_integer, sl_is_integer, rfl, l_is_integer, c_is_integer⟩⟩, PySem.W.mg_of X G a_is_integer, k_is_integer⟩, C8.Fun.binds (x := "is_integer") (qual := "is_integer") (st := s_is_integer) (f := f_is_integer) ⟨⟨oc_is_integer, od_is_integer, .none, kV_is_integer, dc_is_integer, pm_is_integer, an_is_integer, cd_is_integer, ct_is_integer, sl_is_integer, rfl, l_is_integer, c_is_integer⟩⟩ rfl (fun _ _ _ _ _ _ us hl => match us, hl with | [_], _ => rfl)⟩,
    d_is_word := ⟨f_is_word, _, ⟨⟨⟨oc_is_word, od_is_word, .none, kV_is_word, dc_is_word, pm_is_word, an_is_word, cd_is_word, ct_is_word, sl_is_word, rfl, l_is_word, c_is_word⟩⟩, PySem.W.mg_of X G a_is_word, k_is_word⟩, C8.Fun.binds (x := "is_word") (qual := "is_word") (st := s_is_word) (f := f_is_word) ⟨⟨oc_is_word, od_is_word, .none, kV_is_word, dc_is_word, pm_is_word, an_is_word, cd_is_word, ct_is_word, sl_is_word, rfl, l_is_word, c_is_word⟩⟩ rfl (fun _ _ _ _ _ _ us hl => match us, hl with | [_], _ => rfl)⟩,
    d_need_source := ⟨f_need_source, _, ⟨⟨⟨oc_need_source, od_need_source, .none, kV_need_source, dc_need_source, pm_need_source, an_need_source, cd_need_source, ct_need_source, sl_need_source, rfl, l_need_source, c_need_source⟩⟩, PySem.W.mg_of X G a_need_source, k_need_source⟩, C8.Fun.binds (x := "need_source") (qual := "need_source") (st := s_need_source) (f := f_need_source) ⟨⟨oc_need_source, od_need_source, .none, kV_need_source, dc_need_source, pm_need_source, an_need_source, cd_need_source, ct_need_source, sl_need_source, rfl, l_need_source, c_need_source⟩⟩ rfl (fun _ _ _ _ _ _ us hl => match us, hl with | [_], _ => rfl)⟩,
    d_is_script := ⟨f_is_script, _, ⟨⟨⟨oc_is_script, od_is_script, .none, kV_is_script, dc_is_script, pm_is_script, an_is_script, cd_is_script, ct_is_script, sl_is_script, rfl, l_is_script, c_is_script⟩⟩, PySem.W.mg_of X G a_is_script, k_is_script⟩, C8.Fun.binds (x := "is_script") (qual := "is_script") (st := s_is_script) (f := f_is_script) ⟨⟨oc_is_script, od_is_script, .none, kV_is_script, dc_is_script, pm_is_script, an_is_script, cd_is_script, ct_is_script, sl_is_script, rfl, l_is_script, c_is_script⟩⟩ rfl (fun _ _ _ _ _ _ us hl => match us, hl with | [_], _ => rfl)⟩,
    d_need_script_state := ⟨f_need_script_state, _, ⟨⟨⟨oc_need_script_state, od_need_script_state, .none, kV_need_script_state, dc_need_script_state, pm_need_script_state, an_need_script_state, cd_need_script_state, ct_need_script_state, sl_need_script_state, rfl, l_need_script_state, c_need_script_state⟩⟩, PySem.W.mg_of X G a_need_script_state, k_need_script_state⟩, C8.Fun.binds (x := "need_script_state") (qual := "need_script_state") (st := s_need_script_state) (f := f_need_script_state) ⟨⟨oc_need_script_state, od_need_script_state, .none, kV_need_script_state, dc_need_script_state, pm_need_script_state, an_need_script_state, cd_need_script_state, ct_need_script_state, sl_need_script_state, rfl, l_need_script_state, c_need_script_state⟩⟩ rfl (fun _ _ _ _ _ _ us hl => match us, hl with | [_], _ => rfl)⟩,
    d_script_after := ⟨f_script_after, _, ⟨⟨⟨oc_script_after, od_script_after, .none, kV_script_after, dc_script_after, pm_script_after, an_script_after, cd_script_after, ct_script_after, sl_script_after, rfl, l_script_after, c_script_after⟩⟩, PySem.W.mg_of X G a_script_after, k_script_after⟩, C8.Fun.binds (x := "script_after") (qual := "script_after") (st := s_script_after) (f := f_script_after) ⟨⟨oc_script_after, od_script_after, .none, kV_script_after, dc_script_after, pm_script_after, an_script_after, cd_script_after, ct_script_after, sl_script_after, rfl, l_script_after, c_script_after⟩⟩ rfl (fun _ _ _ _ _ _ us hl => match us, hl with | [_, _, _], _ => rfl)⟩,
    d_Scripted___init__ := ⟨f_Scripted___init__, _, ⟨mk_Scripted___init__, a_Scripted___init__, i_Scripted___init__, kc_Scripted___init__⟩, ⟨⟨oc_Scripted___init__, od_Scripted___init__, .ref D_Scripted___init__, kV_Scripted___init__, dc_Scripted___init__, pm_Scripted___init__, an_Scripted___init__, cd_Scripted___init__, ct_Scripted___init__, sl_Scripted___init__, rfl, l_Scripted___init__, c_Scripted___init__⟩⟩, (by obtain ⟨ds, hv, hb⟩ := FunD.binds1 (⟨⟨oc_Scripted___init__, od_Scripted___init__, .ref D_Scripted___init__, kV_Scripted___init__, dc_Scripted___init__, pm_Scripted___init__, an_Scripted___init__, cd_Scripted___init__, ct_Scripted___init__, sl_Scripted___init__, rfl, l_Scripted___init__, c_Scripted___init__, .inr ⟨by simp, D_Scripted___init__, _, [.int 0 dT_Scripted___init___0], _, rfl, dl_Scripted___init__, rfl, (.cons ⟨_, rfl⟩ .nil)⟩, .inl rfl⟩, k_Scripted___init__⟩ : FunD K "__init__" "Scripted.__init__" (C8.fnArgs s_Scripted___init__) (C8.fnBody s_Scripted___init__) (C8.fnScope s_Scripted___init__) [.int 0] [] f_Scripted___init__ _) (ps := ["self", "script", "place"]) 3 1 (by simp) rfl (fun _ _ _ _ _ _ _ us its hu hi => match us, its, hu, hi with | [_, _, _], [_], _, _ => ⟨_, rfl, rfl⟩); cases hv; exact hb), FunD.binds1 (⟨⟨oc_Scripted___init__, od_Scripted___init__, .ref D_Scripted___init__, kV_Scripted___init__, dc_Scripted___init__, pm_Scripted___init__, an_Scripted___init__, cd_Scripted___init__, ct_Scripted___init__, sl_Scripted___init__, rfl, l_Scripted___init__, c_Scripted___init__, .inr ⟨by simp, D_Scripted___init__, _, [.int 0 dT_Scripted___init___0], _, rfl, dl_Scripted___init__, rfl, (.cons ⟨_, rfl⟩ .nil)⟩, .inl rfl⟩, k_Scripted___init__⟩ : FunD K "__init__" "Scripted.__init__" (C8.fnArgs s_Scripted___init__) (C8.fnBody s_Scripted___init__) (C8.fnScope s_Scripted___init__) [.int 0] [] f_Scripted___init__ _) (ps := ["self", "script", "place"]) 2 0 (by simp) rfl (fun _ _ _ _ _ _ _ us its hu hi => match us, its, hu, hi with | [_, _], [_], _, _ => ⟨_, rfl, rfl⟩)⟩,
    d_Scripted_next_word := ⟨f_Scripted_next_word, _, ⟨a_Scripted_next_word, i_Scripted_next_word, k_Scripted_next_word⟩, ⟨⟨oc_Scripted_next_word, od_Scripted_next_word, .none, kV_Scripted_next_word, dc_Scripted_next_word, pm_Scripted_next_word, an_Scripted_next_word, cd_Scripted_next_word, ct_Scripted_next_word, sl_Scripted_next_word, rfl, l_Scripted_next_word, c_Scripted_next_word⟩⟩, C8.Fun.binds (x := "next_word") (qual := "Scripted.next_word") (st := s_Scripted_next_word) (f := f_Scripted_next_word) ⟨⟨oc_Scripted_next_word, od_Scripted_next_word, .none, kV_Scripted_next_word, dc_Scripted_next_word, pm_Scripted_next_word, an_Scripted_next_word, cd_Scripted_next_word, ct_Scripted_next_word, sl_Scripted_next_word, rfl, l_Scripted_next_word, c_Scripted_next_word⟩⟩ rfl (fun _ _ _ _ _ _ us hl => match us, hl with | [_], _ => rfl)⟩,
    d_s5_need := ⟨f_s5_need, _, ⟨⟨⟨oc_s5_need, od_s5_need, .none, kV_s5_need, dc_s5_need, pm_s5_need, an_s5_need, cd_s5_need, ct_s5_need, sl_s5_need, rfl, l_s5_need, c_s5_need⟩⟩, PySem.W.mg_of X G a_s5_need, k_s5_need⟩, C8.Fun.binds (x := "s5_need") (qual := "s5_need") (st := s_s5_need) (f := f_s5_need) ⟨⟨oc_s5_need, od_s5_need, .none, kV_s5_need, dc_s5_need, pm_s5_need, an_s5_need, cd_s5_need, ct_s5_need, sl_s5_need, rfl, l_s5_need, c_s5_need⟩⟩ rfl (fun _ _ _ _ _ _ us hl => match us, hl with | [_, _, _], _ => rfl)⟩,
    d_s5_digits := ⟨f_s5_digits, _, ⟨⟨⟨oc_s5_digits, od_s5_digits, .none, kV_s5_digits, dc_s5_digits, pm_s5_digits, an_s5_digits, cd_s5_digits, ct_s5_digits, sl_s5_digits, rfl, l_s5_digits, c_s5_digits⟩⟩, PySem.W.mg_of X G a_s5_digits, k_s5_digits⟩, C8.Fun.binds (x := "s5_digits") (qual := "s5_digits") (st := s_s5_digits) (f := f_s5_digits) ⟨⟨oc_s5_digits, od_s5_digits, .none, kV_s5_digits, dc_s5_digits, pm_s5_digits, an_s5_digits, cd_s5_digits, ct_s5_digits, sl_s5_digits, rfl, l_s5_digits, c_s5_digits⟩⟩ rfl (fun _ _ _ _ _ _ us hl => match us, hl with | [_], _ => rfl)⟩,
    d_Draws___init__ := ⟨f_Draws___init__, _, ⟨mk_Draws___init__, a_Draws___init__, i_Draws___init__, kc_Draws___init__⟩, ⟨⟨oc_Draws___init__, od_Draws___init__, .none, kV_Draws___init__, dc_Draws___init__, pm_Draws___init__, an_Draws___init__, cd_Draws___init__, ct_Draws___init__, sl_Draws___init__, rfl, l_Draws___init__, c_Draws___init__⟩⟩, C8.Fun.binds (x := "__init__") (qual := "Draws.__init__") (st := s_Draws___init__) (f := f_Draws___init__) ⟨⟨oc_Draws___init__, od_Draws___init__, .none, kV_Draws___init__, dc_Draws___init__, pm_Draws___init__, an_Draws___init__, cd_Draws___init__, ct_Draws___init__, sl_Draws___init__, rfl, l_Draws___init__, c_Draws___init__⟩⟩ rfl (fun _ _ _ _ _ _ us hl => match us, hl with | [_, _], _ => rfl)⟩,
    d_Draws_words_used := ⟨p_Draws_words_used, f_Draws_words_used, _, ⟨a_Draws_words_used, g_Draws_words_used, t_Draws_words_used, _, r_Draws_words_used⟩, ⟨⟨oc_Draws_words_used, od_Draws_words_used, .none, kV_Draws_words_used, dc_Draws_words_used, pm_Draws_words_used, an_Draws_words_used, cd_Draws_words_used, ct_Draws_words_used, sl_Draws_words_used, rfl, l_Draws_words_used, c_Draws_words_used⟩⟩, C8.Fun.binds (x := "words_used") (qual := "Draws.words_used") (st := s_Draws_words_used) (f := f_Draws_words_used) ⟨⟨oc_Draws_words_used, od_Draws_words_used, .none, kV_Draws_words_used, dc_Draws_words_used, pm_Draws_words_used, an_Draws_words_used, cd_Draws_words_used, ct_Draws_words_used, sl_Draws_words_used, rfl, l_Draws_words_used, c_Draws_words_used⟩⟩ rfl (fun _ _ _ _ _ _ us hl => match us, hl with | [_], _ => rfl)⟩,
    d_Draws_s5_word := ⟨f_Draws_s5_word, _, ⟨a_Draws_s5_word, i_Draws_s5_word, k_Draws_s5_word⟩, ⟨⟨oc_Draws_s5_word, od_Draws_s5_word, .none, kV_Draws_s5_word, dc_Draws_s5_word, pm_Draws_s5_word, an_Draws_s5_word, cd_Draws_s5_word, ct_Draws_s5_word, sl_Draws_s5_word, rfl, l_Draws_s5_word, c_Draws_s5_word⟩⟩, C8.Fun.binds (x := "s5_word") (qual := "Draws.s5_word") (st := s_Draws_s5_word) (f := f_Draws_s5_word) ⟨⟨oc_Draws_s5_word, od_Draws_s5_word, .none, kV_Draws_s5_word, dc_Draws_s5_word, pm_Draws_s5_word, an_Draws_s5_word, cd_Draws_s5_word, ct_Draws_s5_word, sl_Draws_s5_word, rfl, l_Draws_s5_word, c_Draws_s5_word⟩⟩ rfl (fun _ _ _ _ _ _ us hl => match us, hl with | [_], _ => rfl)⟩,
    d_Draws_s5_bits := ⟨f_Draws_s5_bits, _, ⟨a_Draws_s5_bits, i_Draws_s5_bits, k_Draws_s5_bits⟩, ⟨⟨oc_Draws_s5_bits, od_Draws_s5_bits, .none, kV_Draws_s5_bits, dc_Draws_s5_bits, pm_Draws_s5_bits, an_Draws_s5_bits, cd_Draws_s5_bits, ct_Draws_s5_bits, sl_Draws_s5_bits, rfl, l_Draws_s5_bits, c_Draws_s5_bits⟩⟩, C8.Fun.binds (x := "s5_bits") (qual := "Draws.s5_bits") (st := s_Draws_s5_bits) (f := f_Draws_s5_bits) ⟨⟨oc_Draws_s5_bits, od_Draws_s5_bits, .none, kV_Draws_s5_bits, dc_Draws_s5_bits, pm_Draws_s5_bits, an_Draws_s5_bits, cd_Draws_s5_bits, ct_Draws_s5_bits, sl_Draws_s5_bits, rfl, l_Draws_s5_bits, c_Draws_s5_bits⟩⟩ rfl (fun _ _ _ _ _ _ us hl => match us, hl with | [_, _], _ => rfl)⟩,
    d_Draws_s5_below := ⟨f_Draws_s5_below, _, ⟨a_Draws_s5_below, i_Draws_s5_below, k_Draws_s5_below⟩, ⟨⟨oc_Draws_s5_below, od_Draws_s5_below, .none, kV_Draws_s5_below, dc_Draws_s5_below, pm_Draws_s5_below, an_Draws_s5_below, cd_Draws_s5_below, ct_Draws_s5_below, sl_Draws_s5_below, rfl, l_Draws_s5_below, c_Draws_s5_below⟩⟩, C8.Fun.binds (x := "s5_below") (qual := "Draws.s5_below") (st := s_Draws_s5_below) (f := f_Draws_s5_below) ⟨⟨oc_Draws_s5_below, od_Draws_s5_below, .none, kV_Draws_s5_below, dc_Draws_s5_below, pm_Draws_s5_below, an_Draws_s5_below, cd_Draws_s5_below, ct_Draws_s5_below, sl_Draws_s5_below, rfl, l_Draws_s5_below, c_Draws_s5_below⟩⟩ rfl (fun _ _ _ _ _ _ us hl => match us, hl with | [_, _], _ => rfl)⟩,
    d_Draws_below := ⟨f_Draws_below, _, ⟨a_Draws_below, i_Draws_below, k_Draws_below⟩, ⟨⟨oc_Draws_below, od_Draws_below, .none, kV_Draws_below, dc_Draws_below, pm_Draws_below, an_Draws_below, cd_Draws_below, ct_Draws_below, sl_Draws_below, rfl, l_Draws_below, c_Draws_below⟩⟩, C8.Fun.binds (x := "below") (qual := "Draws.below") (st := s_Draws_below) (f := f_Draws_below) ⟨⟨oc_Draws_below, od_Draws_below, .none, kV_Draws_below, dc_Draws_below, pm_Draws_below, an_Draws_below, cd_Draws_below, ct_Draws_below, sl_Draws_below, rfl, l_Draws_below, c_Draws_below⟩⟩ rfl (fun _ _ _ _ _ _ us hl => match us, hl with | [_, _], _ => rfl)⟩,
    d__law_begun := ⟨f__law_begun, _, ⟨⟨⟨oc__law_begun, od__law_begun, .none, kV__law_begun, dc__law_begun, pm__law_begun, an__law_begun, cd__law_begun, ct__law_begun, sl__law_begun, rfl, l__law_begun, c__law_begun⟩⟩, PySem.W.mg_of X G a__law_begun, k__law_begun⟩, C8.Fun.binds (x := "_law_begun") (qual := "_law_begun") (st := s__law_begun) (f := f__law_begun) ⟨⟨oc__law_begun, od__law_begun, .none, kV__law_begun, dc__law_begun, pm__law_begun, an__law_begun, cd__law_begun, ct__law_begun, sl__law_begun, rfl, l__law_begun, c__law_begun⟩⟩ rfl (fun _ _ _ _ _ _ us hl => match us, hl with | [_], _ => rfl)⟩,
    d__law_next := ⟨f__law_next, _, ⟨⟨⟨oc__law_next, od__law_next, .none, kV__law_next, dc__law_next, pm__law_next, an__law_next, cd__law_next, ct__law_next, sl__law_next, rfl, l__law_next, c__law_next⟩⟩, PySem.W.mg_of X G a__law_next, k__law_next⟩, C8.Fun.binds (x := "_law_next") (qual := "_law_next") (st := s__law_next) (f := f__law_next) ⟨⟨oc__law_next, od__law_next, .none, kV__law_next, dc__law_next, pm__law_next, an__law_next, cd__law_next, ct__law_next, sl__law_next, rfl, l__law_next, c__law_next⟩⟩ rfl (fun _ _ _ _ _ _ us hl => match us, hl with | [_, _], _ => rfl)⟩,
    d__law_pick := ⟨f__law_pick, _, ⟨⟨⟨oc__law_pick, od__law_pick, .none, kV__law_pick, dc__law_pick, pm__law_pick, an__law_pick, cd__law_pick, ct__law_pick, sl__law_pick, rfl, l__law_pick, c__law_pick⟩⟩, PySem.W.mg_of X G a__law_pick, k__law_pick⟩, C8.Fun.binds (x := "_law_pick") (qual := "_law_pick") (st := s__law_pick) (f := f__law_pick) ⟨⟨oc__law_pick, od__law_pick, .none, kV__law_pick, dc__law_pick, pm__law_pick, an__law_pick, cd__law_pick, ct__law_pick, sl__law_pick, rfl, l__law_pick, c__law_pick⟩⟩ rfl (fun _ _ _ _ _ _ us hl => match us, hl with | [_, _], _ => rfl)⟩,
    d__law_word := ⟨f__law_word, _, ⟨⟨⟨oc__law_word, od__law_word, .none, kV__law_word, dc__law_word, pm__law_word, an__law_word, cd__law_word, ct__law_word, sl__law_word, rfl, l__law_word, c__law_word⟩⟩, PySem.W.mg_of X G a__law_word, k__law_word⟩, C8.Fun.binds (x := "_law_word") (qual := "_law_word") (st := s__law_word) (f := f__law_word) ⟨⟨oc__law_word, od__law_word, .none, kV__law_word, dc__law_word, pm__law_word, an__law_word, cd__law_word, ct__law_word, sl__law_word, rfl, l__law_word, c__law_word⟩⟩ rfl (fun _ _ _ _ _ _ us hl => match us, hl with | [_], _ => rfl)⟩,
    d__law_digits := ⟨f__law_digits, _, ⟨⟨⟨oc__law_digits, od__law_digits, .none, kV__law_digits, dc__law_digits, pm__law_digits, an__law_digits, cd__law_digits, ct__law_digits, sl__law_digits, rfl, l__law_digits, c__law_digits⟩⟩, PySem.W.mg_of X G a__law_digits, k__law_digits⟩, C8.Fun.binds (x := "_law_digits") (qual := "_law_digits") (st := s__law_digits) (f := f__law_digits) ⟨⟨oc__law_digits, od__law_digits, .none, kV__law_digits, dc__law_digits, pm__law_digits, an__law_digits, cd__law_digits, ct__law_digits, sl__law_digits, rfl, l__law_digits, c__law_digits⟩⟩ rfl (fun _ _ _ _ _ _ us hl => match us, hl with | [_, _], _ => rfl)⟩,
    d__law_number := ⟨f__law_number, _, ⟨⟨⟨oc__law_number, od__law_number, .none, kV__law_number, dc__law_number, pm__law_number, an__law_number, cd__law_number, ct__law_number, sl__law_number, rfl, l__law_number, c__law_number⟩⟩, PySem.W.mg_of X G a__law_number, k__law_number⟩, C8.Fun.binds (x := "_law_number") (qual := "_law_number") (st := s__law_number) (f := f__law_number) ⟨⟨oc__law_number, od__law_number, .none, kV__law_number, dc__law_number, pm__law_number, an__law_number, cd__law_number, ct__law_number, sl__law_number, rfl, l__law_number, c__law_number⟩⟩ rfl (fun _ _ _ _ _ _ us hl => match us, hl with | [_], _ => rfl)⟩,
    d__law_size := ⟨f__law_size, _, ⟨⟨⟨oc__law_size, od__law_size, .none, kV__law_size, dc__law_size, pm__law_size, an__law_size, cd__law_size, ct__law_size, sl__law_size, rfl, l__law_size, c__law_size⟩⟩, PySem.W.mg_of X G a__law_size, k__law_size⟩, C8.Fun.binds (x := "_law_size") (qual := "_law_size") (st := s__law_size) (f := f__law_size) ⟨⟨oc__law_size, od__law_size, .none, kV__law_size, dc__law_size, pm__law_size, an__law_size, cd__law_size, ct__law_size, sl__law_size, rfl, l__law_size, c__law_size⟩⟩ rfl (fun _ _ _ _ _ _ us hl => match us, hl with | [_], _ => rfl)⟩,
    d__law_row_of := ⟨f__law_row_of, _, ⟨⟨⟨oc__law_row_of, od__law_row_of, .none, kV__law_row_of, dc__law_row_of, pm__law_row_of, an__law_row_of, cd__law_row_of, ct__law_row_of, sl__law_row_of, rfl, l__law_row_of, c__law_row_of⟩⟩, PySem.W.mg_of X G a__law_row_of, k__law_row_of⟩, C8.Fun.binds (x := "_law_row_of") (qual := "_law_row_of") (st := s__law_row_of) (f := f__law_row_of) ⟨⟨oc__law_row_of, od__law_row_of, .none, kV__law_row_of, dc__law_row_of, pm__law_row_of, an__law_row_of, cd__law_row_of, ct__law_row_of, sl__law_row_of, rfl, l__law_row_of, c__law_row_of⟩⟩ rfl (fun _ _ _ _ _ _ us hl => match us, hl with | [_, _, _], _ => rfl)⟩,
    d__law_bound := ⟨f__law_bound, _, ⟨⟨⟨oc__law_bound, od__law_bound, .none, kV__law_bound, dc__law_bound, pm__law_bound, an__law_bound, cd__law_bound, ct__law_bound, sl__law_bound, rfl, l__law_bound, c__law_bound⟩⟩, PySem.W.mg_of X G a__law_bound, k__law_bound⟩, C8.Fun.binds (x := "_law_bound") (qual := "_law_bound") (st := s__law_bound) (f := f__law_bound) ⟨⟨oc__law_bound, od__law_bound, .none, kV__law_bound, dc__law_bound, pm__law_bound, an__law_bound, cd__law_bound, ct__law_bound, sl__law_bound, rfl, l__law_bound, c__law_bound⟩⟩ rfl (fun _ _ _ _ _ _ us hl => match us, hl with | [_], _ => rfl)⟩,
    d__law_right := ⟨f__law_right, _, ⟨⟨⟨oc__law_right, od__law_right, .none, kV__law_right, dc__law_right, pm__law_right, an__law_right, cd__law_right, ct__law_right, sl__law_right, rfl, l__law_right, c__law_right⟩⟩, PySem.W.mg_of X G a__law_right, k__law_right⟩, C8.Fun.binds (x := "_law_right") (qual := "_law_right") (st := s__law_right) (f := f__law_right) ⟨⟨oc__law_right, od__law_right, .none, kV__law_right, dc__law_right, pm__law_right, an__law_right, cd__law_right, ct__law_right, sl__law_right, rfl, l__law_right, c__law_right⟩⟩ rfl (fun _ _ _ _ _ _ us hl => match us, hl with | [_], _ => rfl)⟩,
    d__law_ends := ⟨f__law_ends, _, ⟨⟨⟨oc__law_ends, od__law_ends, .none, kV__law_ends, dc__law_ends, pm__law_ends, an__law_ends, cd__law_ends, ct__law_ends, sl__law_ends, rfl, l__law_ends, c__law_ends⟩⟩, PySem.W.mg_of X G a__law_ends, k__law_ends⟩, C8.Fun.binds (x := "_law_ends") (qual := "_law_ends") (st := s__law_ends) (f := f__law_ends) ⟨⟨oc__law_ends, od__law_ends, .none, kV__law_ends, dc__law_ends, pm__law_ends, an__law_ends, cd__law_ends, ct__law_ends, sl__law_ends, rfl, l__law_ends, c__law_ends⟩⟩ rfl (fun _ _ _ _ _ _ us hl => match us, hl with | [_, _], _ => rfl)⟩,
    d_law := ⟨f_law, _, ⟨⟨⟨oc_law, od_law, .none, kV_law, dc_law, pm_law, an_law, cd_law, ct_law, sl_law, rfl, l_law, c_law⟩⟩, PySem.W.mg_of X G a_law, k_law⟩, C8.Fun.binds (x := "law") (qual := "law") (st := s_law) (f := f_law) ⟨⟨oc_law, od_law, .none, kV_law, dc_law, pm_law, an_law, cd_law, ct_law, sl_law, rfl, l_law, c_law⟩⟩ rfl (fun _ _ _ _ _ _ us hl => match us, hl with | [_], _ => rfl), fun s v => .of_eq rfl⟩,
    c_WORDS := ⟨_, PySem.W.mg_of X G e_WORDS, _, rfl⟩,
    c_MOST_SCRIPT := ⟨_, PySem.W.mg_of X G e_MOST_SCRIPT, _, rfl⟩,
    c_WORD_BITS := ⟨_, PySem.W.mg_of X G e_WORD_BITS, _, rfl⟩,
    c_MOST_BOUND := ⟨_, PySem.W.mg_of X G e_MOST_BOUND, _, rfl⟩,
    k_Source := ⟨_, PySem.W.mg_of X G q_Source, rfl⟩,
    cl_Source := ⟨pg_Source, hd_Source, po_Source, sa_Source⟩,
    is_Source := ⟨⟨pg_Source, hd_Source, po_Source, sa_Source⟩, ha_Source, hn_Source, ht_Source, hm_Source, Rd.kit_self K C_Source⟩,
    k_Scripted := ⟨_, PySem.W.mg_of X G q_Scripted, rfl⟩,
    cl_Scripted := ⟨pg_Scripted, hd_Scripted, po_Scripted, sa_Scripted⟩,
    is_Scripted := ⟨⟨pg_Scripted, hd_Scripted, po_Scripted, sa_Scripted⟩, ha_Scripted, hn_Scripted, ht_Scripted, hm_Scripted, Rd.kit_self K C_Scripted⟩,
    n_Scripted_s1_script := na_Scripted_s1_script,
    n_Scripted_s1_place := na_Scripted_s1_place,
    k_Draws := ⟨_, PySem.W.mg_of X G q_Draws, rfl⟩,
    cl_Draws := ⟨pg_Draws, hd_Draws, po_Draws, sa_Draws⟩,
    is_Draws := ⟨⟨pg_Draws, hd_Draws, po_Draws, sa_Draws⟩, ha_Draws, hn_Draws, ht_Draws, hm_Draws, Rd.kit_self K C_Draws⟩,
    n_Draws_s5_source := na_Draws_s5_source,
    n_Draws_s5_used := na_Draws_s5_used,
    o_Source_Scripted := ob_Source_Scripted,
    o_Source_Draws := ob_Source_Draws,
    o_Scripted_Source := ob_Scripted_Source,
    o_Scripted_Draws := ob_Scripted_Draws,
    o_Draws_Source := ob_Draws_Source,
    o_Draws_Scripted := ob_Draws_Scripted,
    v_Scripted_KIND := ⟨⟨_, vf_Scripted_KIND, vs_Scripted_KIND, by first | rfl | decide +kernel, ⟨_, rfl⟩⟩, by decide +kernel⟩,
    v_Draws_KIND := ⟨⟨_, vf_Draws_KIND, vs_Draws_KIND, by first | rfl | decide +kernel, ⟨_, rfl⟩⟩, by decide +kernel⟩,
    k_Shortage := ⟨_, PySem.W.mg_of X G q_Shortage, rfl⟩,
    g_Shortage := PySem.W.mg_of X G q_Shortage,
    r_Shortage := ⟨rd_Shortage, rg_Shortage⟩,
    i_Shortage := fi_Shortage,
    k_Exhausted := ⟨_, PySem.W.mg_of X G q_Exhausted, rfl⟩,
    g_Exhausted := PySem.W.mg_of X G q_Exhausted,
    y_Exhausted := ⟨⟨"LookupError", "LookupError.__new__", _, PySem.F.excBase_LookupError, PySem.F.store_LookupError, in_Exhausted, ov_Exhausted⟩, hd_Exhausted, sa_Exhausted, ex_Exhausted, ty_Exhausted, kc_Exhausted⟩,
    f_Exhausted := ⟨ga_Exhausted, gg_Exhausted, ex_Exhausted, hd_Exhausted⟩,
    n_Exhausted_missing := na_Exhausted,
    t_Exhausted_missing := tk_Exhausted,
    m_Exhausted := PySem.W.exm_ref ex_Exhausted hd_Exhausted ty_Exhausted sb_Exhausted,
    b_all := PySem.W.mg_none_of X G z_all,
    b_bool := PySem.W.mg_none_of X G z_bool,
    b_enumerate := PySem.W.mg_none_of X G z_enumerate,
    b_int := PySem.W.mg_none_of X G z_int,
    b_isinstance := PySem.W.mg_none_of X G z_isinstance,
    b_len := PySem.W.mg_none_of X G z_len,
    b_max := PySem.W.mg_none_of X G z_max,
    b_min := PySem.W.mg_none_of X G z_min,
    b_range := PySem.W.mg_none_of X G z_range,
    b_tuple := PySem.W.mg_none_of X G z_tuple }
end Pf
open PySem PySem.W PyProof.Rows
set_option maxRecDepth 100000 in
set_option maxHeartbeats 0 in
theorem PySem.Challenge.cw_drawstate_k40_numbers_below_holds : PySem.Challenge.rw_drawstate_k40_numbers_below.Holds := by
  w_on; o_law; k_head; (case hw => w_witness2)
  k_fill
  refine Gx.walkG (l := PySem.Challenge.rw_drawstate_k40_numbers_below) (k := 17) (x := "_law_script") rfl rfl ⟨rfl, by decide, by decide⟩ (fun w h Y => PySem.W.kIn_of Y) ?F
  case F =>
    intro w mg fa h Y KX G hmg
    refine' Pf.law_mk hmg (Pf.txt_mk KX G ?a_Exhausted___init__ ?ti_Exhausted___init__ ?l_Exhausted___init__ ?c_Exhausted___init__ ?a_is_integer ?l_is_integer ?c_is_integer ?k_is_integer ?a_is_word ?l_is_word ?c_is_word ?k_is_word ?a_need_source ?l_need_source ?c_need_source ?k_need_source ?a_is_script ?l_is_script ?c_is_script ?k_is_script ?a_need_script_state ?l_need_script_state ?c_need_script_state ?k_need_script_state ?a_script_after ?l_script_after ?c_script_after ?k_script_after ?a_Scripted___init__ ?i_Scripted___init__ ?l_Scripted___init__ ?c_Scripted___init__ ?k_Scripted___init__ ?dl_Scripted___init__ ?mk_Scripted___init__ ?kc_Scripted___init__ ?a_Scripted_next_word ?i_Scripted_next_word ?l_Scripted_next_word ?c_Scripted_next_word ?k_Scripted_next_word ?a_s5_need ?l_s5_need ?c_s5_need ?k_s5_need ?a_s5_digits ?l_s5_digits ?c_s5_digits ?k_s5_digits ?a_Draws___init__ ?i_Draws___init__ ?l_Draws___init__ ?c_Draws___init__ ?k_Draws___init__ ?mk_Draws___init__ ?kc_Draws___init__ ?a_Draws_words_used ?g_Draws_words_used ?t_Draws_words_used ?r_Draws_words_used ?l_Draws_words_used ?c_Draws_words_used ?k_Draws_words_used ?a_Draws_s5_word ?i_Draws_s5_word ?l_Draws_s5_word ?c_Draws_s5_word ?k_Draws_s5_word ?a_Draws_s5_bits ?i_Draws_s5_bits ?l_Draws_s5_bits ?c_Draws_s5_bits ?k_Draws_s5_bits ?a_Draws_s5_below ?i_Draws_s5_below ?l_Draws_s5_below ?c_Draws_s5_below ?k_Draws_s5_below ?a_Draws_below ?i_Draws_below ?l_Draws_below ?c_Draws_below ?k_Draws_below ?a__law_begun ?l__law_begun ?c__law_begun ?k__law_begun ?a__law_next ?l__law_next ?c__law_next ?k__law_next ?a__law_pick ?l__law_pick ?c__law_pick ?k__law_pick ?a__law_word ?l__law_word ?c__law_word ?k__law_word ?a__law_digits ?l__law_digits ?c__law_digits ?k__law_digits ?a__law_number ?l__law_number ?c__law_number ?k__law_number ?a__law_size ?l__law_size ?c__law_size ?k__law_size ?a__law_row_of ?l__law_row_of ?c__law_row_of ?k__law_row_of ?a__law_bound ?l__law_bound ?c__law_bound ?k__law_bound ?a__law_right ?l__law_right ?c__law_right ?k__law_right ?a__law_ends ?l__law_ends ?c__law_ends ?k__law_ends ?a_law ?l_law ?c_law ?k_law ?e_WORDS ?e_MOST_SCRIPT ?e_WORD_BITS ?e_MOST_BOUND ?q_Source ?pg_Source ?hd_Source ?po_Source ?sa_Source ?ha_Source ?hn_Source ?ht_Source ?hm_Source ?q_Scripted ?pg_Scripted ?hd_Scripted ?po_Scripted ?sa_Scripted ?ha_Scripted ?hn_Scripted ?ht_Scripted ?hm_Scripted ?na_Scripted_s1_script ?na_Scripted_s1_place ?q_Draws ?pg_Draws ?hd_Draws ?po_Draws ?sa_Draws ?ha_Draws ?hn_Draws ?ht_Draws ?hm_Draws ?na_Draws_s5_source ?na_Draws_s5_used ?ob_Source_Scripted ?ob_Source_Draws ?ob_Scripted_Source ?ob_Scripted_Draws ?ob_Draws_Source ?ob_Draws_Scripted ?vf_Scripted_KIND ?vs_Scripted_KIND ?vf_Draws_KIND ?vs_Draws_KIND ?q_Shortage ?rd_Shortage ?rg_Shortage ?fi_Shortage ?q_Exhausted ?in_Exhausted ?ov_Exhausted ?hd_Exhausted ?sa_Exhausted ?ex_Exhausted ?ty_Exhausted ?kc_Exhausted ?ga_Exhausted ?gg_Exhausted ?na_Exhausted ?tk_Exhausted ?sb_Exhausted ?z_all ?z_bool ?z_enumerate ?z_int ?z_isinstance ?z_len ?z_max ?z_min ?z_range ?z_tuple)
    (case q_Source => k_is)
    (case q_Scripted => k_is)
    (case q_Draws => k_is)
    (case q_Shortage => k_is)
    (case q_Exhausted => k_is)
    (case a_Exhausted___init__ => k_is)
    (case ti_Exhausted___init__ => k_is)
    (case l_Exhausted___init__ => k_is)
    (case c_Exhausted___init__ => k_is)
    (case a_is_integer => k_is)
    (case l_is_integer => k_is)
    (case c_is_integer => k_is)
    (case k_is_integer => k_is)
    (case a_is_word => k_is)
    (case l_is_word => k_is)
    (case c_is_word => k_is)
    (case k_is_word => k_is)
    (case a_need_source => k_is)
    (case l_need_source => k_is)
    (case c_need_source => k_is)
    (case k_need_source => k_is)
    (case a_is_script => k_is)
    (case l_is_script => k_is)
    (case c_is_script => k_is)
    (case k_is_script => k_is)
    (case a_need_script_state => k_is)
    (case l_need_script_state => k_is)
    (case c_need_script_state => k_is)
    (case k_need_script_state => k_is)
    (case a_script_after => k_is)
    (case l_script_after => k_is)
    (case c_script_after => k_is)
    (case k_script_after => k_is)
    (case a_Scripted___init__ => k_is)
    (case i_Scripted___init__ => k_is)
    (case l_Scripted___init__ => k_is)
    (case c_Scripted___init__ => k_is)
    (case k_Scripted___init__ => k_is)
    (case dl_Scripted___init__ => k_is)
    (case mk_Scripted___init__ => k_is)
    (case kc_Scripted___init__ => k_is)
    (case a_Scripted_next_word => k_is)
    (case i_Scripted_next_word => k_is)
    (case l_Scripted_next_word => k_is)
    (case c_Scripted_next_word => k_is)
    (case k_Scripted_next_word => k_is)
    (case a_s5_need => k_is)
    (case l_s5_need => k_is)
    (case c_s5_need => k_is)
    (case k_s5_need => k_is)
    (case a_s5_digits => k_is)
    (case l_s5_digits => k_is)
    (case c_s5_digits => k_is)
    (case k_s5_digits => k_is)
    (case a_Draws___init__ => k_is)
    (case i_Draws___init__ => k_is)
    (case l_Draws___init__ => k_is)
    (case c_Draws___init__ => k_is)
    (case k_Draws___init__ => k_is)
    (case mk_Draws___init__ => k_is)
    (case kc_Draws___init__ => k_is)
    (case a_Draws_words_used => k_is)
    (case g_Draws_words_used => k_is)
    (case t_Draws_words_used => k_is)
    (case r_Draws_words_used => k_is)
    (case l_Draws_words_used => k_is)
    (case c_Draws_words_used => k_is)
    (case k_Draws_words_used => k_is)
    (case a_Draws_s5_word => k_is)
    (case i_Draws_s5_word => k_is)
    (case l_Draws_s5_word => k_is)
    (case c_Draws_s5_word => k_is)
    (case k_Draws_s5_word => k_is)
    (case a_Draws_s5_bits => k_is)
    (case i_Draws_s5_bits => k_is)
    (case l_Draws_s5_bits => k_is)
    (case c_Draws_s5_bits => k_is)
    (case k_Draws_s5_bits => k_is)
    (case a_Draws_s5_below => k_is)
    (case i_Draws_s5_below => k_is)
    (case l_Draws_s5_below => k_is)
    (case c_Draws_s5_below => k_is)
    (case k_Draws_s5_below => k_is)
    (case a_Draws_below => k_is)
    (case i_Draws_below => k_is)
    (case l_Draws_below => k_is)
    (case c_Draws_below => k_is)
    (case k_Draws_below => k_is)
    (case a__law_begun => k_is)
    (case l__law_begun => k_is)
    (case c__law_begun => k_is)
    (case k__law_begun => k_is)
    (case a__law_next => k_is)
    (case l__law_next => k_is)
    (case c__law_next => k_is)
    (case k__law_next => k_is)
    (case a__law_pick => k_is)
    (case l__law_pick => k_is)
    (case c__law_pick => k_is)
    (case k__law_pick => k_is)
    (case a__law_word => k_is)
    (case l__law_word => k_is)
    (case c__law_word => k_is)
    (case k__law_word => k_is)
    (case a__law_digits => k_is)
    (case l__law_digits => k_is)
    (case c__law_digits => k_is)
    (case k__law_digits => k_is)
    (case a__law_number => k_is)
    (case l__law_number => k_is)
    (case c__law_number => k_is)
    (case k__law_number => k_is)
    (case a__law_size => k_is)
    (case l__law_size => k_is)
    (case c__law_size => k_is)
    (case k__law_size => k_is)
    (case a__law_row_of => k_is)
    (case l__law_row_of => k_is)
    (case c__law_row_of => k_is)
    (case k__law_row_of => k_is)
    (case a__law_bound => k_is)
    (case l__law_bound => k_is)
    (case c__law_bound => k_is)
    (case k__law_bound => k_is)
    (case a__law_right => k_is)
    (case l__law_right => k_is)
    (case c__law_right => k_is)
    (case k__law_right => k_is)
    (case a__law_ends => k_is)
    (case l__law_ends => k_is)
    (case c__law_ends => k_is)
    (case k__law_ends => k_is)
    (case a_law => k_is)
    (case l_law => k_is)
    (case c_law => k_is)
    (case k_law => k_is)
    (case e_WORDS => k_is)
    (case e_MOST_SCRIPT => k_is)
    (case e_WORD_BITS => k_is)
    (case e_MOST_BOUND => k_is)
    (case pg_Source => k_is)
    (case hd_Source => k_is)
    (case po_Source => k_is)
    (case sa_Source => k_is)
    (case ha_Source => k_is)
    (case hn_Source => k_is)
    (case ht_Source => k_is)
    (case hm_Source => k_is)
    (case pg_Scripted => k_is)
    (case hd_Scripted => k_is)
    (case po_Scripted => k_is)
    (case sa_Scripted => k_is)
    (case ha_Scripted => k_is)
    (case hn_Scripted => k_is)
    (case ht_Scripted => k_is)
    (case hm_Scripted => k_is)
    (case na_Scripted_s1_script => k_is)
    (case na_Scripted_s1_place => k_is)
    (case pg_Draws => k_is)
    (case hd_Draws => k_is)
    (case po_Draws => k_is)
    (case sa_Draws => k_is)
    (case ha_Draws => k_is)
    (case hn_Draws => k_is)
    (case ht_Draws => k_is)
    (case hm_Draws => k_is)
    (case na_Draws_s5_source => k_is)
    (case na_Draws_s5_used => k_is)
    (case ob_Source_Scripted => kernel_rfl)
    (case ob_Source_Draws => kernel_rfl)
    (case ob_Scripted_Source => kernel_rfl)
    (case ob_Scripted_Draws => kernel_rfl)
    (case ob_Draws_Source => kernel_rfl)
    (case ob_Draws_Scripted => kernel_rfl)
    (case vf_Scripted_KIND => k_is)
    (case vs_Scripted_KIND => k_is)
    (case vf_Draws_KIND => k_is)
    (case vs_Draws_KIND => k_is)
    (case rd_Shortage => k_is)
    (case rg_Shortage => k_is)
    (case fi_Shortage => k_is)
    (case in_Exhausted => kernel_rfl)
    (case ov_Exhausted => kernel_rfl)
    (case hd_Exhausted => k_is)
    (case sa_Exhausted => k_is)
    (case ex_Exhausted => k_is)
    (case ty_Exhausted => k_is)
    (case kc_Exhausted => k_is)
    (case ga_Exhausted => k_is)
    (case gg_Exhausted => k_is)
    (case na_Exhausted => k_is)
    (case tk_Exhausted => k_is)
    (case sb_Exhausted => k_is)
    (case z_all => k_is)
    (case z_bool => k_is)
    (case z_enumerate => k_is)
    (case z_int => k_is)
    (case z_isinstance => k_is)
    (case z_len => k_is)
    (case z_max => k_is)
    (case z_min => k_is)
    (case z_range => k_is)
    (case z_tuple => k_is)
#print axioms PySem.Challenge.cw_drawstate_k40_numbers_below_holds
