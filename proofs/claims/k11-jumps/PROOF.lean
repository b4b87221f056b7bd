import PyProof.Rows.All
import Wide.All
import OpenK.AllK
import Wide.FinOn
import HandS.ForMost
import HandS.Exc
import HandS.Codes
import HandS.Wide
import HandS.WideBits
import HandS.IsInst
import HandS.Property
import HandS.Style
import HandS.Flow
import HandS.Small
import HandS.Lambda
import HandS.EndTab
import HandS.GenCall
import HandS.GenList
import KE.KOpsOwn
import HandS.ClsMeth
import HandS.Walk
import PySem.Challenge.RW_drawstate_k11_whole_jumps_and_ways_back
set_option Elab.async false
set_option linter.all false
set_option maxRecDepth 100000
set_option maxHeartbeats 4000000
namespace Gx
open PySem PySem.Spec PyProof.Rows L2
/-! ### repr of data: where no repr is under way -/
mutual
theorem dpNoDict {K : PySem.W.Frag} {H : Hp} : ∀ (d : PyData) (x : V), Dp K H x d → d.hasDict = false
  | .none, _, _ => by simp only [PyData.hasDict]
  | .bool _, _, _ => by simp only [PyData.hasDict]
  | .int _, _, _ => by simp only [PyData.hasDict]
  | .str _, _, _ => by simp only [PyData.hasDict]
  | .list ds, _, h => by
    cases h with
    | lst _ ha =>
      simp only [PyData.hasDict]
      exact dpNoDictAll ds _ ha
  | .tuple ds, _, h => by
    cases h with
    | tup _ ha =>
      simp only [PyData.hasDict]
      exact dpNoDictAll ds _ ha
  | .dict _, _, h => nomatch h
theorem dpNoDictAll {K : PySem.W.Frag} {H : Hp} : ∀ (ds : List PyData) (xs : List V), DpAll K H xs ds → PyData.hasDictAll ds = false
  | [], _, _ => by simp only [PyData.hasDictAll]
  | d :: ds, _, h => by
    cases h with
    | cons h1 h2 =>
      simp only [PyData.hasDictAll, Bool.or_eq_false_iff]
      exact ⟨dpNoDict d _ h1, dpNoDictAll ds _ h2⟩
end
def rRepr (K : PySem.W.Frag) : List V → Hp → VK → Prop := fun xs H Q => ∃ (x : V) (d : PyData), xs = [x] ∧ Dp K H x d ∧ d.showable = true ∧ d.depth ≤ 60 ∧ d.shown.length ≤ sizeLine ∧ Q (.str d.shown) H
theorem call_repr {X : Cx} (hg : X.A.guards = some []) (hu : X.A.units + 64 < cLine) : CallR X (.builtin "repr") (rRepr X.K) := by
  intro pins s σ H xs us Q I r h
  obtain ⟨x, d, rfl, hd, hs, hdep, hsz, q⟩ := h
  obtain ⟨u, rfl, ru⟩ := vals1 r
  obtain ⟨as, rd⟩ := Dp.reads I d x u hd ru
  have nd := dpNoDict d x hd
  cases hd with
  | non =>
    cases ru
    exact PySem.P.repr_of_none ⟨.str _, H, I.tok _, ⟨_, rfl⟩, q⟩
  | bl b =>
    cases ru
    exact PySem.P.repr_of_bool ⟨.str _, H, I.tok _, ⟨_, rfl⟩, q⟩
  | int i =>
    obtain ⟨t, rfl⟩ := ru
    exact PySem.P.repr_of_int (of_decide_eq_true (by simpa [PyData.showable] using hs)) ⟨.str _, H, I.tok _, ⟨_, rfl⟩, q⟩
  | str z =>
    obtain ⟨t, rfl⟩ := ru
    exact PySem.P.repr_of_str (hsz := hsz) ⟨.str _, H, I.tok _, ⟨_, rfl⟩, q⟩
  | lst h1 h2 =>
    cases ru
    exact repr_of_reads' rd hs (PyData.noDict_hsm nd) hg (by omega) (fun _ _ e => e) (fun h' t tk hk => ⟨.str _, H, I.kept hk, ⟨_, rfl⟩, q⟩) hsz
  | tup h1 h2 =>
    cases ru
    exact repr_of_reads' rd hs (PyData.noDict_hsm nd) hg (by omega) (fun _ _ e => e) (fun h' t tk hk => ⟨.str _, H, I.kept hk, ⟨_, rfl⟩, q⟩) hsz
/-! ### a def whose promise is kept where no repr is under way -/
structure FnG (P : Program) (w : World) (K : PySem.W.Frag) (mg : Str → Option Value) (base : Heap) (k : Nat) (f : Addr) (fd : FuncData) (ps : List Str) (sp : Sp) : Prop where
  len : ∀ vs H Q E, sp vs H Q E → vs.length = ps.length
  run : ∀ (A : Around) (outer : List Env) (s : Shared) (H : Hp) (args : Args) (us : List Value) (vs : List V) (Q : VK), A.guards = some [] → Room k A → Env0 P w K mg base A outer s H →
    BindsTo s fd args (ps.zip us) → Vals vs us → sp vs H Q C8.E0 → codeAny (model P w) A (.call (.ref f) args) (CR C8.CX0 outer P w H s Q C8.E0) s
structure CalG (P : Program) (w : World) (K : PySem.W.Frag) (mg : Str → Option Value) (base : Heap) (k : Nat) (x : Str) (sp : Sp) : Prop where
  ex : ∃ (f : Addr) (fd : FuncData) (ps : List Str), FnG P w K mg base k f fd ps sp ∧ mg x = some (.ref f) ∧ PySem.W.keepIn K (.ref f) = true ∧ Binds K fd ps []
section
variable {P : Program} {w : World} {K : PySem.W.Frag} {mg : Str → Option Value} {base : Heap}
theorem fnG_of {x qual : Str} {st : Stmt} {f : Addr} {fd : FuncData} {N ps : List Str} {k : Nat} {sp : Sp} (F : C8.Fun K x qual st f fd) (S : FnScope N ps (C8.fnScope st)) (len : ∀ vs H Q E, sp vs H Q E → vs.length = ps.length)
    (hbody : ∀ (cdv : Value) (A : Around) (outer : List Env) (s : Shared) (H : Hp) (vs : List V) (Q : VK), A.guards = some [] → Room k (A.deeper (envOfC qual (C8.fnScope st) s.heap.objs.size f cdv)) → sp vs H Q C8.E0 →
      ∃ t, PSs (cxOf C8.CX0 P w K mg base N qual (C8.fnScope st) f cdv A outer s H C8.E0).nox (C8.fnBody st) t ∧ t { nx := fun _ H' => Q .non H', rt := Q } (start N vs) H) : FnG P w K mg base (k + 1) f fd ps sp := by
  obtain ⟨oc, od, dV, kV, doc, pm, an, cdv, ct, osl, rfl, lk, hcd⟩ := F.ex
  refine ⟨len, fun A outer s H args us vs Q hg hr e0 hb r hsp => ?_⟩
  refine LamX.run_ofS (CX := C8.CX0) (E := C8.E0) lk hcd S hr e0 hb r (len _ _ _ _ hsp) fun hr' => ?_
  obtain ⟨t, h, q⟩ := hbody cdv A outer s H vs Q hg hr' hsp
  exact ⟨t, h.nox, q⟩
theorem calG {x : Str} {st : Stmt} {f : Addr} {fd : FuncData} {N ps : List Str} {k : Nat} {sp : Sp} (F : C8.Def K mg x st f fd) (b : Binds K fd ps []) (S : FnScope N ps (C8.fnScope st)) (len : ∀ vs H Q E, sp vs H Q E → vs.length = ps.length)
    (hbody : ∀ (cdv : Value) (A : Around) (outer : List Env) (s : Shared) (H : Hp) (vs : List V) (Q : VK), A.guards = some [] → Room k (A.deeper (envOfC x (C8.fnScope st) s.heap.objs.size f cdv)) → sp vs H Q C8.E0 →
      ∃ t, PSs (cxOf C8.CX0 P w K mg base N x (C8.fnScope st) f cdv A outer s H C8.E0).nox (C8.fnBody st) t ∧ t { nx := fun _ H' => Q .non H', rt := Q } (start N vs) H) : CalG P w K mg base (k + 1) x sp :=
  ⟨f, fd, ps, fnG_of F.fn S len hbody, F.mgf, F.kp, b⟩
end
section
variable {X : Cx} {k j : Nat} {x : Str} {sp : Sp} {p pos : Pos} {e : Expr} {es : List Expr} {t : TA}
theorem runG {f : Addr} {fd : FuncData} {ps : List Str} {pins : List (Addr × Obj)} {σ : L2.St} {H : Hp} {s : Shared} {Q : VK} {us : List Value} {vs : List V} (F : FnG X.prog X.w X.K X.mg X.base k f fd ps sp) (gd : X.A.guards = some []) (hr : Room k X.A) (hb : Binds X.K fd ps [])
    (I : Inv X pins σ H s) (r : Vals vs us) (h : sp vs H Q C8.E0) : wpAny (model X.prog X.w) X.A (call (.ref f) us) (EP X pins σ Q) X.xe s := by
  have hl : us.length = ps.length := r.length.symm.trans (F.len _ _ _ _ h)
  have hbt : BindsTo s fd ⟨us, []⟩ (ps.zip us) := by
    have z := hb s us I.kIn (by rw [List.append_nil]; exact hl)
    rw [List.append_nil] at z
    exact z
  have go := F.run X.A X.stack s H ⟨us, []⟩ us vs Q gd hr I.env0 hbt r h
  refine wpAny_call (codeAny_mono go fun res s2 hres => ?_)
  match res, hres with
  | .ok (.ret u), hq => exact I.after hq
  | .ok .next, hq => exact hq.elim
  | .ok .brk, hq => exact hq.elim
  | .ok .cont, hq => exact hq.elim
  | .error er, hq => exact (show False from hq).elim
theorem pe_g (c : CalG X.prog X.w X.K X.mg X.base k x sp) (gd : X.A.guards = some []) (hr : Room j X.A) (hk : k ≤ j) (hgl : Gl X x) (ha : PA X (e :: es) t)
    (hdb : (x == ("__debug__" : Str)) = false := by decide) (hst : starEach (e :: es) X.env = (false, eval e X.env) :: starEach es X.env := by rfl)
    (hpl : (backTo pos (starEach es X.env)).any (·.1) = false := by rfl) : PE X (.Call (.Name x p) (e :: es) [] pos) (tCall sp [] C8.E0 t) := by
  obtain ⟨f, fd, ps, F, hm, kp, b⟩ := c.ex
  constructor
  intro pins s σ H Q I h
  refine wpAny_Call_Name_kw (ld_glob I hgl hm ?_ hdb)
  refine PySem.W.callWith_K (h₀ := X.base) I.ok.mod.kin kp ?_ hst hpl
  refine thn (ha.run pos pins s σ H _ I h) fun us s1 got => ?_
  obtain ⟨vs, H1, I1, r, q⟩ := got
  refine ⟨I1.kIn, runG F gd (hr.mono hk) b I1 r ?_⟩
  have z : sp (vs ++ []) H1 Q C8.E0 := q
  rw [List.append_nil] at z
  exact z
end
end Gx

set_option Elab.async false
set_option linter.all false
set_option maxRecDepth 100000
set_option maxHeartbeats 4000000
namespace Gx
open PySem PySem.Spec PyProof.Rows L2
/-! ### a property by its getter's promise -/
structure PrpC (P : Program) (w : World) (K : PySem.W.Frag) (mg : Str → Option Value) (base : Heap) (k : Nat) (C : Addr) (nm : Str) (sp : Sp) : Prop where
  ex : ∃ (p f : Addr) (fd : FuncData) (ps : List Str), Cls K C ∧ PropOf K C nm p f ∧ FnOk P w K mg base C8.CX0 k f fd ps sp ∧ Binds K fd ps []
theorem prp0 {P : Program} {w : World} {K : PySem.W.Frag} {mg : Str → Option Value} {base : Heap} {nm qual : Str} {C p : Addr} {st : Stmt} {f : Addr} {fd : FuncData} {N ps : List Str} {k : Nat} {sp : Sp} (c : Cls K C) (pr : PropOf K C nm p f) (F : C8.Fun K nm qual st f fd) (b : Binds K fd ps [])
    (S : FnScope N ps (C8.fnScope st)) (len : ∀ vs H Q E, sp vs H Q E → vs.length = ps.length)
    (hbody : ∀ (cdv : Value) (A : Around) (outer : List Env) (s : Shared) (H : Hp) (vs : List V) (Q : VK) (E : XK), Room k (A.deeper (envOfC qual (C8.fnScope st) s.heap.objs.size f cdv)) → sp vs H Q E →
      ∃ t, PSs (cxOf C8.CX0 P w K mg base N qual (C8.fnScope st) f cdv A outer s H E).nox (C8.fnBody st) t ∧ t { nx := fun _ H' => Q .non H', rt := Q } (start N vs) H) : PrpC P w K mg base (k + 1) C nm sp :=
  ⟨p, f, fd, ps, c, pr, C8.fn0 F S len hbody, b⟩
theorem pe_propC {X : Cx} {k j : Nat} {C : Addr} {nm : Str} {sp : Sp} {e : Expr} {ta : TE} {pos : Pos} (he : PE X e ta) (c : PrpC X.prog X.w X.K X.mg X.base k C nm sp) (hr : Room j X.A) (hk : k + 1 ≤ j) (hab : attributeBase e nm X.env (eval e X.env) = eval e X.env) :
    PE X (.Attribute e nm pos) (tProp C sp [] C8.E0 ta) := by
  obtain ⟨p, f, fd, ps, cl, pr, F, b⟩ := c.ex
  exact pe_prop he cl pr F (hr.mono hk) b .nil C8.pass0 hab
/-! ### the end of a law: its def is called where no repr is under way; cs: the code objects that make lambdas, with their tables -/
section
variable {P : Program} {w : World} {K : PySem.W.Frag} {mg mb : Str → Option Value} {k : Nat} {fa a : Addr} {cs : List (Addr × Addr)} {fd : FuncData} {x : Str} {sp : Sp} {t : Shared} {vs : List Value} {ns : List Int}
/-- the abstract heap at the law's call: the script and the tables -/
structure Hp0 (P : Program) (w : World) (K : PySem.W.Frag) (cs : List (Addr × Addr)) (a : Addr) (ns : List Int) (h : Heap) (H : Hp) : Prop where
  tab : ∀ p ∈ cs, H p.2 = some (.tbl #[])
  only : ∀ b, H b = none ∨ b ∈ cs.map (·.2) ∨ ∃ o xs, H b = some (.frz o (.lst xs))
  seq : SqL K H a (ns.map V.int)
  ok : HOk P w H h
  dom : ∀ b, H b ≠ none → b = a ∨ b ∈ cs.map (·.2)
  scr : H a ≠ none → K.lookup a = none
theorem hp0 (KX : K.In t.heap) (hT : ∀ p ∈ cs, t.heap.get? p.2 = some { cls := .none, data := .fields #[] }) (ha : t.heap.get? a = some { cls := .type "list", data := .seq vs.toArray }) (hi : IntsAre vs ns) (hl : ns.length ≤ sizeLine) :
    ∃ H, Hp0 P w K cs a ns t.heap H := by
  have rv := vals_ints hi
  have isT : ∀ b ∈ cs.map (·.2), t.heap.get? b = some { cls := .none, data := .fields #[] } := fun b hb => by
    obtain ⟨p, hp, rfl⟩ := List.mem_map.mp hb
    exact hT p hp
  have aT : a ∉ cs.map (·.2) := fun z => by
    have q := isT a z
    rw [ha] at q
    cases congrArg Obj.data (Option.some.inj q)
  have mem : ∀ p ∈ cs, p.2 ∈ cs.map (·.2) := fun p hp => List.mem_map.mpr ⟨p, hp, rfl⟩
  cases hk : K.lookup a with
  | some o =>
    have e := KX a o hk
    rw [ha] at e
    cases e
    refine ⟨fun b => if b ∈ cs.map (·.2) then some (.tbl #[]) else none, fun p hp => if_pos (mem p hp), fun b => ?_,
      .inr ⟨_, vs.toArray, _, hk, rfl, rfl, rfl, by rw [List.size_toArray, hi.length]; exact hl, by simpa using rv⟩, fun b u z => ?_, fun b z => ?_, fun z => absurd (if_neg aT) z⟩
    · by_cases hb : b ∈ cs.map (·.2)
      · exact .inr (.inl hb)
      · exact .inl (if_neg hb)
    · by_cases hb : b ∈ cs.map (·.2)
      · cases (if_pos hb).symm.trans z
        exact isT b hb
      · cases (if_neg hb).symm.trans z
    · by_cases hb : b ∈ cs.map (·.2)
      · exact .inr hb
      · exact absurd (if_neg hb) z
  | none =>
    refine ⟨fun b => if b = a then some (.frz { cls := .type "list", data := .seq vs.toArray } (.lst (ns.map V.int))) else if b ∈ cs.map (·.2) then some (.tbl #[]) else none,
      fun p hp => ?_, fun b => ?_, .inl (.inr ⟨{ cls := .type "list", data := .seq vs.toArray }, if_pos rfl⟩), fun b u z => ?_, fun b z => ?_, fun _ => hk⟩
    · have np : ¬ p.2 = a := fun z => aT (z ▸ mem p hp)
      exact (if_neg np).trans (if_pos (mem p hp))
    · by_cases hb : b = a
      · exact .inr (.inr ⟨_, _, if_pos hb⟩)
      · by_cases hc : b ∈ cs.map (·.2)
        · exact .inr (.inl hc)
        · exact .inl ((if_neg hb).trans (if_neg hc))
    · by_cases hb : b = a
      · cases (if_pos hb).symm.trans z
        subst hb
        exact ⟨ha, by rw [List.length_map]; exact hl, vs, _, rv, ha⟩
      · have z1 := (if_neg hb).symm.trans z
        by_cases hc : b ∈ cs.map (·.2)
        · cases (if_pos hc).symm.trans z1
          exact isT b hc
        · cases (if_neg hc).symm.trans z1
    · by_cases hb : b = a
      · exact .inl hb
      · by_cases hc : b ∈ cs.map (·.2)
        · exact .inr hc
        · exact absurd ((if_neg hb).trans (if_neg hc)) z
theorem callG (KX : K.In t.heap) (hns : t.heap.Ns mainGlobals mg) (hb : t.heap.Ns builtinsNs mb) (hbb : ∀ x : Str, x ≠ "__name__" → mb x = bootBuiltins x) (hlim : t.heap.NoLimit) (hg : t.gens = #[])
    (hT : ∀ p ∈ cs, t.heap.get? p.2 = some { cls := .none, data := .fields #[] }) (nT : ∀ p ∈ cs, K.lookup p.2 = none) (C : ∀ p ∈ cs, PySem.W.CodeHd t.heap p.1 p.2)
    (hbm : ∃ (bm : Addr) (ob : Obj), mg "__builtins__" = some (.ref bm) ∧ bm ≠ builtinsNs ∧ t.heap.get? bm = some ob ∧ ob.cls = .type "module" ∧ ob.dict = some builtinsNs ∧ ob.data = .plain)
    (ha : t.heap.get? a = some { cls := .type "list", data := .seq vs.toArray }) (hi : IntsAre vs ns) (hl : ns.length ≤ sizeLine) (hr : Room k callerA)
    (F : ∀ base : Heap, K.In base → base.Ns mainGlobals mg → (∀ p ∈ cs, LamX.TabB base mg p.1 p.2) → FnG P w K mg base k fa fd [x] sp) (hbind : ∀ (s : Shared) (u : Value), BindsTo s fd ⟨[u], []⟩ [(x, u)])
    (hsp : ∀ H : Hp, (∀ p ∈ cs, H p.2 = some (.tbl #[])) → SqL K H a (ns.map V.int) → sp [.ref a] H (fun v _ => v = .bl true) C8.E0) :
    codeAny (model P w) callerA (.call (.ref fa) ⟨[.ref a], []⟩) (fun r s' => r = .ok (.ret (.bool true)) ∧ OldK t.heap s'.heap ∧ s'.os = t.os ∧ AllBare s'.gens) t := by
  obtain ⟨H, Z⟩ := hp0 (P := P) (w := w) KX hT ha hi hl
  have see : ∀ {b : Addr} {o : Obj}, t.heap.get? b = some o → H b = none → (hidT t.heap H).get? b = some o := fun e n => hidT_get e n
  -- what is neither a list nor a table is not tracked
  have off : ∀ {b : Addr} {o : Obj}, t.heap.get? b = some o → (∀ ws n, o.data ≠ .seq ws n) → o.data ≠ .fields #[] → H b = none := fun {b o} e h1 h2 => by
    cases q : H b with
    | none => rfl
    | some u =>
      rcases Z.dom b (by rw [q]; simp) with e1 | e1
      · rw [e1, ha] at e
        cases e
        exact (h1 _ _ rfl).elim
      · obtain ⟨p, hp, rfl⟩ := List.mem_map.mp e1
        rw [hT p hp] at e
        cases e
        exact (h2 rfl).elim
  have offD : ∀ {b : Addr} {o : Obj} {es : Array DictEntry} {ep : Nat}, t.heap.get? b = some o → o.data = .dict es ep → H b = none := fun {b o es ep} e d =>
    off e (fun ws n z => by rw [d] at z; cases z) (fun z => by rw [d] at z; cases z)
  have nsOk : ∀ {b : Addr} {m : Str → Option Value}, t.heap.Ns b m → (hidT t.heap H).Ns b m := fun {b m} hh => by
    obtain ⟨o, es, ep, e, d, r⟩ := hh
    exact ⟨o, es, ep, see e (offD e d), d, r⟩
  have kOk : K.In (hidT t.heap H) := fun b o e => by
    refine see (KX b o e) ?_
    cases q : H b with
    | none => rfl
    | some u =>
      rcases Z.dom b (by rw [q]; simp) with e1 | e1
      · subst e1
        rw [Z.scr (by rw [q]; simp)] at e
        cases e
      · obtain ⟨p, hp, rfl⟩ := List.mem_map.mp e1
        rw [nT p hp] at e
        cases e
  have lim : (hidT t.heap H).NoLimit := by
    obtain ⟨mc, h1, h2⟩ := hlim
    exact ⟨mc, nsOk h1, h2⟩
  have hM : L2.Mod K mg (hidT t.heap H) := ⟨kOk, nsOk hns, ⟨mb, nsOk hb, hbb⟩, lim⟩
  have TB : ∀ p ∈ cs, LamX.TabB (hidT t.heap H) mg p.1 p.2 := fun p hp => by
    have hp2 := hT p hp
    refine ⟨?_, ?_, fun z => ?_⟩
    · obtain ⟨o, us, file, tf, flags, tg, inF, text, tt, e1, r1, r2, r3, r4, r5, r6, r7, r8, hne⟩ := C p hp
      refine ⟨o, us, file, tf, flags, tg, inF, text, tt, see e1 (off e1 (fun ws n z => ?_) fun z => ?_), r1, r2, r3, r4, r5, r6, r7, r8, hne⟩
      · rw [r2] at z; cases z
      · rw [r2] at z; cases z; simp at r3
    · obtain ⟨bm, ob, b1, b2, b3, b4, b5, b6⟩ := hbm
      refine ⟨bm, ob, b1, b2, fun q => ?_, fun q => ?_, see b3 (off b3 (fun ws n z => ?_) fun z => ?_), b4, b5, b6⟩
      · obtain ⟨o, es, ep, e, hd, _⟩ := hns
        rw [q, e] at b3; cases b3; rw [hd] at b6; cases b6
      · rw [q, hp2] at b3; cases b3; cases b6
      · rw [b6] at z; cases z
      · rw [b6] at z; cases z
    · obtain ⟨o, es, ep, e, hd, _⟩ := hns
      rw [z, hp2] at e; cases e; cases hd
  have nil : ∀ b : Addr, b ∉ ([] : List Addr) := fun b z => by simp at z
  have e0 : Env0 P w K mg (hidT t.heap H) callerA [] t H := ⟨rfl, hM, fun b o e => of_hidT e, Nat.le_of_eq (hidT_size _ _), trivial, fun b z => absurd z (nil b), Z.ok, .of_eq hg⟩
  have go := (F _ kOk (nsOk hns) TB).run callerA [] t H ⟨[.ref a], []⟩ [.ref a] [.ref a] _ rfl hr e0 (hbind t (.ref a)) (.cons rfl .nil) (hsp H Z.tab Z.seq)
  refine codeAny_mono go fun res s2 hres => ?_
  match res, hres with
  | .ok .next, h => exact h.elim
  | .ok .brk, h => exact h.elim
  | .ok .cont, h => exact h.elim
  | .error e, h => exact (show False from h).elim
  | .ok (.ret u), h =>
    obtain ⟨v, H', os, bare, un, ok2, r', q⟩ := h
    obtain rfl : v = .bl true := q
    obtain rfl : u = Value.bool true := r'
    have same : ∀ b o, b ∉ cs.map (·.2) → t.heap.get? b = some o → s2.heap.get? b = some o := fun b o nb e => by
      rcases Z.only b with z | z | ⟨ob, xs, z⟩
      · exact un.keep b o e z (nil b) (nil b)
      · exact absurd z nb
      · obtain ⟨e1, _⟩ := Z.ok b _ z
        obtain ⟨e2, _⟩ := ok2 b _ (un.frzs b ob _ z)
        rw [e] at e1
        cases e1
        exact e2
    have grown : ∀ p ∈ cs, ∃ more : Array Value, s2.heap.get? p.2 = some { cls := .none, data := .fields more } := fun p hp => by
      obtain ⟨more, z⟩ := un.tbls p.2 #[] (Z.tab p hp)
      exact ⟨_, ok2 p.2 _ z⟩
    refine ⟨rfl, ⟨fun b o e => ?_, fun b o e => ?_⟩, os, bare⟩
    · by_cases hb : b ∈ cs.map (·.2)
      · obtain ⟨p, hp, rfl⟩ := List.mem_map.mp hb
        obtain ⟨more, hm⟩ := grown p hp
        rw [hT p hp] at e
        cases e
        exact .inr (.inl ⟨((C p hp).tab (hT p hp)).isCodeTable, rfl, #[], more, rfl, by rw [Array.empty_append]; exact hm⟩)
      · exact .inl (same b o hb e)
    · by_cases hb : b ∈ cs.map (·.2)
      · obtain ⟨p, hp, rfl⟩ := List.mem_map.mp hb
        obtain ⟨more, hm⟩ := grown p hp
        exact ⟨_, hm⟩
      · exact ⟨o, same b o hb e⟩
end
/-- what is known of the law's promise -/
def LawG (l : PySem.W.OpenLaw) (w : World) (K : PySem.W.Frag) (k : Nat) (x : Str) (mg : Str → Option Value) (fa : Addr) (h : Heap) : Prop :=
  ∃ (fd : FuncData) (cs : List (Addr × Addr)) (sp : Sp), (∀ p ∈ cs, h.get? p.2 = some { cls := .none, data := .fields #[] }) ∧ (∀ p ∈ cs, K.lookup p.2 = none) ∧ (∀ p ∈ cs, PySem.W.CodeHd h p.1 p.2) ∧
    (∀ (s : Shared) (u : Value), BindsTo s fd ⟨[u], []⟩ [(x, u)]) ∧
    (∀ (H : Hp) (a : Addr) (ns : List Int), ns.length ≤ 63 → (∀ z ∈ ns, Builtin.Int.intBits z ≤ 1048576) → (∀ p ∈ cs, H p.2 = some (.tbl #[])) → SqL K H a (ns.map V.int) → sp [.ref a] H (fun v _ => v = .bl true) C8.E0) ∧
    ∀ base : Heap, K.In base → base.Ns mainGlobals mg → (∀ p ∈ cs, LamX.TabB base mg p.1 p.2) → FnG l.prog w K mg base k fa fd [x] sp
theorem walkG {l : PySem.W.OpenLaw} {k : Nat} {q : Program} {loose : List Str} {XP : (Str → Option Value) → Heap → Prop} {YP : World → Heap → Prop} {d : DefRec} {K : Params → PySem.W.Frag} {x : Str}
    (hn : l.most = some 63) (hdf : d.params.defaults = []) (hr : Room k callerA) (hY : ∀ (w : World) (h : Heap), YP w h → (K w.params).In h)
    (F : ∀ (w : World) (mg : Str → Option Value) (fa : Addr) (h : Heap), YP w h → (K w.params).In h → h.Ns mainGlobals mg → mg d.name = some (.ref fa) → LawG l w (K w.params) k x mg fa h) :
    PySem.W.WalkO q loose XP YP l.row.toRowW d [] (fun f vs => PySem.call f vs) := by
  refine Att.attach_callB hn hdf ?_
  intro w s0 t mg mb fa o pm cd doc a vs ns G Y ho hd hcd hmg hobj hints hlen hbits hg
  have KX := hY w _ Y
  obtain ⟨fd, cs, sp, hT, nT, C, hb, hsp, hF⟩ := F w mg fa _ Y KX G.T.g hmg
  exact callG KX G.T.g G.T.b G.T.builtins G.T.nolimit hg hT nT C G.T.bmain hobj hints (Nat.le_trans hlen (by decide)) hr hF hb fun H hH hS => hsp H a ns hlen hbits hH hS
end Gx

set_option Elab.async false
set_option linter.all false
set_option maxRecDepth 100000
set_option maxHeartbeats 4000000
namespace Rd
open PySem PySem.Spec PyProof.Rows L2
/-! ### readings, step by step: each row takes one reading apart -/
section
variable {D : Ends} {σ : L2.St} {H H1 : Hp} {Q : VK} {QB : Bool → Hp → Prop} {QA : List V → Hp → Prop} {t1 t2 : TS} {te ta tb tc : TE} {t u : TT} {i j : Nat} {v x y : V} {m n : Int} {r r2 : R2} {K : PySem.W.Frag} {A B : Prop} {b : Bool} {p : Prop}
theorem seq (h : t1 { D with nx := t2 D } σ H) : tSeq t1 t2 D σ H := h
theorem next (h : D.nx σ H) : tNext D σ H := h
theorem asg {g : TG} (h : te σ H fun x H1 => g x σ H1 D.nx) : tAsg te g D σ H := h
theorem nm {Qs : L2.St → Hp → Prop} (h : Qs (σ.set i (some v)) H) : gName i v σ H Qs := h
theorem ret (h : te σ H D.rt) : tRet te D σ H := h
theorem drop (h : te σ H fun _ H1 => D.nx σ H1) : tDrop te D σ H := h
theorem ifs (h : t σ H fun b H1 => if b = true then t1 D σ H1 else t2 D σ H1) : tIfS t t1 t2 D σ H := h
theorem par {ta : TA} (h : ta σ H fun vs H1 => ∃ v w, vs = [v, w] ∧ D.nx ((σ.set i (some v)).set j (some w)) H1) : tPar i j ta D σ H := h
theorem par3 {l : Nat} {ta : TA} (h : ta σ H fun vs H1 => ∃ u v w, vs = [u, v, w] ∧ D.nx (((σ.set i (some u)).set j (some v)).set l (some w)) H1) : tPar3 i j l ta D σ H := h
theorem var (h : σ[i]? = some (some v)) (k : Q v H) : tVar i σ H Q := ⟨v, h, k⟩
theorem cst (k : Q v H) : tC v σ H Q := k
theorem op (h : ta σ H fun x H1 => tb σ H1 fun y H2 => r x y H2 Q) : tOp r ta tb σ H Q := h
theorem un {g : V → Hp → VK → Prop} (h : ta σ H fun x H1 => g x H1 Q) : tUn g ta σ H Q := h
theorem ung {g : Int → V} (h : Q (g m) H) : rU g (.int m) H Q := ⟨m, rfl, h⟩
theorem i0 {g : Int → Int → V} (h : Q (g m n) H) : rI0 g (.int m) (.int n) H Q := ⟨m, n, rfl, rfl, h⟩
theorem iC {C : Int → Int → Prop} {g : Int → Int → V} (hc : C m n) (h : Q (g m n) H) : rI C g (.int m) (.int n) H Q := ⟨m, n, rfl, rfl, hc, h⟩
theorem eqI (h : Q (.bl (decide (m = n))) H) : rEq (.int m) (.int n) H Q := ⟨rfl, by
  have e : decide (V.int m = V.int n) = decide (m = n) := by
    by_cases z : m = n
    · subst z; simp
    · rw [decide_eq_false z, decide_eq_false (fun q => z (V.int.inj q))]
  rw [e]; exact h⟩
theorem neI (h : Q (.bl (!decide (m = n))) H) : rNe (.int m) (.int n) H Q := ⟨rfl, by
  have e : decide (V.int m = V.int n) = decide (m = n) := by
    by_cases z : m = n
    · subst z; simp
    · rw [decide_eq_false z, decide_eq_false (fun q => z (V.int.inj q))]
  rw [e]; exact h⟩
theorem eqS {a c : Str} (h : Q (.bl (decide (a = c))) H) : rEq (.str a) (.str c) H Q := ⟨rfl, by
  have e : decide (V.str a = V.str c) = decide (a = c) := by
    by_cases z : a = c
    · subst z; simp
    · rw [decide_eq_false z, decide_eq_false (fun q => z (V.str.inj q))]
  rw [e]; exact h⟩
theorem neS {a c : Str} (h : Q (.bl (!decide (a = c))) H) : rNe (.str a) (.str c) H Q := ⟨rfl, by
  have e : decide (V.str a = V.str c) = decide (a = c) := by
    by_cases z : a = c
    · subst z; simp
    · rw [decide_eq_false z, decide_eq_false (fun q => z (V.str.inj q))]
  rw [e]; exact h⟩
theorem test (h : te σ H fun x H' => ∃ k, x = .bl k ∧ QB k H') : tTest te σ H QB := h
theorem tstB (h : te σ H fun x H' => ∃ k, x = .bl k ∧ QB k H') : tB te σ H QB := h
theorem isB {QC : Bool → Prop} (h : QC b) : ∃ k, V.bl b = .bl k ∧ QC k := ⟨b, rfl, h⟩
theorem nxp {f g c d} (h : f σ H) : (Ends.mk f g c d).nx σ H := h
theorem rtp {f g c d} (h : g v H) : (Ends.mk f g c d).rt v H := h
theorem bkp {f g c d} (h : c σ H) : (Ends.mk f g c d).bk σ H := h
theorem ctp {f g c d} (h : d σ H) : (Ends.mk f g c d).ct σ H := h
theorem not (h : t σ H fun c H1 => QB (!c) H1) : tNot t σ H QB := h
theorem andT (h : t σ H fun c H1 => if c = true then u σ H1 QB else QB false H1) : tAnd t u σ H QB := h
theorem orT (h : t σ H fun c H1 => if c = true then QB true H1 else u σ H1 QB) : tOr t u σ H QB := h
theorem andV (h : ta σ H fun x H1 => ∃ c, x = .bl c ∧ if c = true then tb σ H1 Q else Q (.bl false) H1) : tAndV ta tb σ H Q := h
theorem orV (h : ta σ H fun x H1 => ∃ c, x = .bl c ∧ if c = true then Q (.bl true) H1 else tb σ H1 Q) : tOrV ta tb σ H Q := h
theorem notV (h : ta σ H fun x H1 => ∃ c, x = .bl c ∧ Q (.bl (!c)) H1) : tNotV ta σ H Q := h
theorem ifE (h : t σ H fun c H1 => if c = true then ta σ H1 Q else tb σ H1 Q) : tIf t ta tb σ H Q := h
theorem chain (h : ta σ H fun x H1 => tb σ H1 fun y H2 => r x y H2 fun z H3 => ∃ k, z = .bl k ∧ (if k = true then tc σ H3 fun w' H4 => r2 y w' H4 Q else Q (.bl false) H3)) : tChain r r2 ta tb tc σ H Q := h
theorem nil (h : QA [] H) : tNil σ H QA := h
theorem cons {tr : TA} (h : ta σ H fun x H1 => tr σ H1 fun xs H2 => QA (x :: xs) H2) : tCons ta tr σ H QA := h
theorem call {sp : Sp} {E : XK} {tr : TA} (h : tr σ H fun vs H1 => sp (vs ++ []) H1 Q E) : tCall sp [] E tr σ H Q := h
theorem cb {g : List V → Hp → VK → Prop} {tr : TA} (h : tr σ H fun vs H1 => g vs H1 Q) : tCB g tr σ H Q := h
theorem tup {tr : TA} (h : tr σ H fun xs H1 => xs.length ≤ sizeLine ∧ ∀ p, H1 p = none → Q (.ref p) (upd H1 p (.tup xs))) : tTup tr σ H Q := h
theorem lst {tr : TA} (h : tr σ H fun xs H1 => xs.length ≤ sizeLine ∧ ∀ p, H1 p = none → Q (.ref p) (upd H1 p (.lst xs))) : tLst tr σ H Q := h
theorem yes (c : p) [Decidable p] (h : A) : if decide p = true then A else B := by
  rw [decide_eq_true c, if_pos rfl]
  exact h
theorem no (c : ¬ p) [Decidable p] (h : B) : if decide p = true then A else B := by
  rw [decide_eq_false c, if_neg Bool.false_ne_true]
  exact h
theorem yesN (c : ¬ p) [Decidable p] (h : A) : if (!decide p) = true then A else B := by
  rw [decide_eq_false c]
  exact iteT h
theorem noN (c : p) [Decidable p] (h : B) : if (!decide p) = true then A else B := by
  rw [decide_eq_true c]
  exact iteF h
theorem both [Decidable p] (h1 : p → A) (h2 : ¬ p → B) : if decide p = true then A else B := by
  by_cases c : p
  · exact yes c (h1 c)
  · exact no c (h2 c)
theorem bothN [Decidable p] (h1 : ¬ p → A) (h2 : p → B) : if (!decide p) = true then A else B := by
  by_cases c : p
  · exact noN c (h2 c)
  · exact yesN c (h1 c)
end
theorem iteNT {A B : Prop} (h : B) : if (!true) = true then A else B := iteF h
theorem iteNF {A B : Prop} (h : A) : if (!false) = true then A else B := iteT h
theorem yesNN {A B p : Prop} [Decidable p] (c : p) (h : A) : if (!(!decide p)) = true then A else B := by
  rw [decide_eq_true c]
  exact iteT h
theorem noNN {A B p : Prop} [Decidable p] (c : ¬ p) (h : B) : if (!(!decide p)) = true then A else B := by
  rw [decide_eq_false c]
  exact iteF h
/-! ### readings with a name -/
def rAndM : R2 := fun x y H Q => ∃ (i : Int) (k : Nat), x = .int i ∧ y = .int (2 ^ k - 1) ∧ Q (.int (i % 2 ^ k)) H
theorem op_andM {X : Cx} : OpR X (binaryOp .BitAnd) rAndM := L2.op_andM
theorem andM {i m : Int} {H : Hp} {Q : VK} (k : Nat) (e : m = 2 ^ k - 1) (h : Q (.int (i % 2 ^ k)) H) : rAndM (.int i) (.int m) H Q := ⟨i, k, rfl, congrArg V.int e, h⟩
theorem and48 {i : Int} {H : Hp} {Q : VK} (h : Q (.int (i % 281474976710656)) H) : rAndM (.int i) (.int (281474976710656 - 1)) H Q := andM 48 (by decide) h
theorem and32 {i : Int} {H : Hp} {Q : VK} (h : Q (.int (i % 4294967296)) H) : rAndM (.int i) (.int (4294967296 - 1)) H Q := andM 32 (by decide) h
theorem and64 {i : Int} {H : Hp} {Q : VK} (h : Q (.int (i % 18446744073709551616)) H) : rAndM (.int i) (.int (18446744073709551616 - 1)) H Q := andM 64 (by decide) h
theorem and65 {i : Int} {H : Hp} {Q : VK} (h : Q (.int (i % 36893488147419103232)) H) : rAndM (.int i) (.int (36893488147419103232 - 1)) H Q := andM 65 (by decide) h
theorem and1 {i : Int} {H : Hp} {Q : VK} (h : Q (.int (i % 2)) H) : rAndM (.int i) (.int 1) H Q := andM 1 (by decide) h
def rShl1 : R2 := fun x y H Q => ∃ k : Nat, x = .int 1 ∧ y = .int (k : Int) ∧ k ≤ 134217727 ∧ Q (.int (2 ^ k)) H
theorem op_oneShl {X : Cx} : OpR X (binaryOp .LShift) rShl1 := L2.op_oneShl
theorem shl1 {k : Nat} {H : Hp} {Q : VK} (hk : k ≤ 134217727) (h : Q (.int (2 ^ k)) H) : rShl1 (.int 1) (.int (k : Int)) H Q := ⟨k, rfl, rfl, hk, h⟩
def rLenQ (K : PySem.W.Frag) : List V → Hp → VK → Prop := fun xs H Q => ∃ p ys, xs = [.ref p] ∧ (SqL K H p ys ∨ SqT K H p ys) ∧ Q (.int ys.length) H
theorem call_lenQ {X : Cx} : CallR X (.builtin "len") (rLenQ X.K) := call_len_seq
theorem lenL {K : PySem.W.Frag} {p : Addr} {ys : List V} {H : Hp} {Q : VK} (h : SqL K H p ys) (q : Q (.int ys.length) H) : rLenQ K [.ref p] H Q := ⟨p, ys, rfl, .inl h, q⟩
theorem lenT {K : PySem.W.Frag} {p : Addr} {ys : List V} {H : Hp} {Q : VK} (h : SqT K H p ys) (q : Q (.int ys.length) H) : rLenQ K [.ref p] H Q := ⟨p, ys, rfl, .inr h, q⟩
def rMax2 : List V → Hp → VK → Prop := fun xs H Q => ∃ i j, xs = [.int i, .int j] ∧ Q (.int (if j > i then j else i)) H
theorem call_mx2 {X : Cx} (hc : X.calm = true) : CallR X (.builtin "max") rMax2 := call_max2 hc
theorem mx2 {i j : Int} {H : Hp} {Q : VK} (q : Q (.int (if j > i then j else i)) H) : rMax2 [.int i, .int j] H Q := ⟨i, j, rfl, q⟩
def rMin2 : List V → Hp → VK → Prop := fun xs H Q => ∃ i j, xs = [.int i, .int j] ∧ Q (.int (if j < i then j else i)) H
theorem call_mn2 {X : Cx} (hc : X.calm = true) : CallR X (.builtin "min") rMin2 := call_min2 hc
theorem mn2 {i j : Int} {H : Hp} {Q : VK} (q : Q (.int (if j < i then j else i)) H) : rMin2 [.int i, .int j] H Q := ⟨i, j, rfl, q⟩
/-! ### isinstance of an int -/
theorem kit_int_int (K : PySem.W.Frag) : PySem.W.kitOne K (.type "int") (.type "int") = some true := by first | rfl | decide +kernel | kernel_rfl
theorem kit_int_bool (K : PySem.W.Frag) : PySem.W.kitOne K (.type "int") (.type "bool") = some false := by first | rfl | decide +kernel | kernel_rfl
theorem kit_self (K : PySem.W.Frag) (C : Addr) : PySem.W.kitOne K (.ref C) (.ref C) = some true := by
  unfold PySem.W.kitOne
  simp
theorem isInt {K : PySem.W.Frag} {n : Int} {H : Hp} {Q : VK} (q : Q (.bl true) H) : rIsi K [.int n, .ty "int"] H Q := ⟨_, _, .type "int", _, true, rfl, .ty _, .base (.int n), kit_int_int K, q⟩
theorem isBool {K : PySem.W.Frag} {n : Int} {H : Hp} {Q : VK} (q : Q (.bl false) H) : rIsi K [.int n, .ty "bool"] H Q := ⟨_, _, .type "int", _, false, rfl, .ty _, .base (.int n), kit_int_bool K, q⟩
theorem isOwn {K : PySem.W.Frag} {C a dx : Addr} {fs : List (Str × V)} {H : Hp} {Q : VK} (c : C8.InsC K C) (h : H a = some (.ins C dx fs)) (q : Q (.bl true) H) : rIsi K [.ref a, .ref C] H Q :=
  ⟨_, _, .ref C, .ref C, true, rfl, .own C, .base (.ins h c.cl c.ha c.hn c.htk c.hm), c.me, q⟩
/-! ### tuples, lists, fields -/
theorem sqt {K : PySem.W.Frag} {H : Hp} {a : Addr} {xs : List V} (h : H a = some (.tup xs)) : SqT K H a xs := .inl (.inl h)
theorem ixT {K : PySem.W.Frag} {p : Addr} {xs : List V} {i : Int} {v : V} {H : Hp} {Q : VK} (h : SqT K H p xs) (a : atI xs i = some v) (q : Q v H) : rIxT K (.ref p) (.int i) H Q := ⟨p, xs, i, v, rfl, rfl, h, a, q⟩
theorem ixL {K : PySem.W.Frag} {p : Addr} {xs : List V} {i : Int} {v : V} {H : Hp} {Q : VK} (h : SqL K H p xs) (a : atI xs i = some v) (q : Q v H) : rIxL K (.ref p) (.int i) H Q := ⟨p, xs, i, v, rfl, rfl, h, a, q⟩
theorem fld {K : PySem.W.Frag} {ta : TE} {f : Str} {σ : L2.St} {H : Hp} {Q : VK} (h : ta σ H fun x H1 => ∃ a C dx fs v, x = .ref a ∧ H1 a = some (.ins C dx fs) ∧ Cls K C ∧ NoAttr K C f ∧ fs.lookup f = some v ∧ Q v H1) : tFld K ta f σ H Q := h
theorem sql {K : PySem.W.Frag} {H : Hp} {a : Addr} {xs : List V} (h : H a = some (.lst xs)) : SqL K H a xs := .inl (.inl h)
theorem lk1 {f : Str} {v : V} : [(f, v)].lookup f = some v := by simp [List.lookup]
theorem lk_ne {f g : Str} {v : V} (h : ¬ g = f) : [(f, v)].lookup g = none := by
  have e : (g == f) = false := by simpa using h
  simp [List.lookup, e]
theorem fld1 {K : PySem.W.Frag} {f : Str} {H : Hp} {Q : V → Prop} {a C dx : Addr} {fs : List (Str × V)} {v : V} (h : H a = some (.ins C dx fs)) (c : Cls K C) (n : NoAttr K C f) (l : fs.lookup f = some v) (q : Q v) :
    ∃ a' C' dx' fs' v', V.ref a = .ref a' ∧ H a' = some (.ins C' dx' fs') ∧ Cls K C' ∧ NoAttr K C' f ∧ fs'.lookup f = some v' ∧ Q v' := ⟨a, C, dx, fs, v, rfl, h, c, n, l, q⟩
theorem meth {C : Addr} {m : Str} {sp : Sp} {E : XK} {ta : TE} {t : TA} {σ : L2.St} {H : Hp} {Q : VK} (h : ta σ H fun x H1 => ∃ a dx fs, x = .ref a ∧ H1 a = some (.ins C dx fs) ∧ fs.lookup m = none ∧ t σ H1 fun vs H2 => sp (x :: (vs ++ [])) H2 Q E) : tMeth C m sp [] E ta t σ H Q := h
theorem make {C : Addr} {sp : Sp} {E : XK} {t : TA} {σ : L2.St} {H : Hp} {Q : VK} (h : t σ H fun vs H1 => ∀ x dx, H1 x = none → H1 dx = none → dx ≠ x →
  sp (.ref x :: (vs ++ [])) (upd (upd H1 dx (.own x)) x (.ins C dx [])) (fun v H2 => v = .non ∧ Q (.ref x) H2) E) : tMake C sp [] E t σ H Q := h
theorem prop {C : Addr} {sp : Sp} {E : XK} {ta : TE} {σ : L2.St} {H : Hp} {Q : VK} (h : ta σ H fun x H1 => ∃ a dx fs, x = .ref a ∧ H1 a = some (.ins C dx fs) ∧ sp (.ref a :: []) H1 Q E) : tProp C sp [] E ta σ H Q := h
theorem gtup {K : PySem.W.Frag} {n : Nat} {t : TGs} {a : Addr} {xs : List V} {σ : L2.St} {H : Hp} {Q : L2.St → Hp → Prop} (h : SqT K H a xs) (hl : xs.length = n) (q : t xs σ H Q) : gTup K n t (.ref a) σ H Q := ⟨a, xs, rfl, h, hl, q⟩
theorem gcons {t : TG} {u : TGs} {v : V} {r : List V} {σ : L2.St} {H : Hp} {Q : L2.St → Hp → Prop} (h : t v σ H fun σ' H' => u r σ' H' Q) : gCons t u (v :: r) σ H Q := ⟨v, r, rfl, h⟩
theorem gnil {σ : L2.St} {H : Hp} {Q : L2.St → Hp → Prop} (h : Q σ H) : gNil [] σ H Q := ⟨rfl, h⟩
theorem gsub {to ti : TE} {t : TSet} {v : V} {σ : L2.St} {H : Hp} {Q : L2.St → Hp → Prop} (h : to σ H fun o H1 => ti σ H1 fun i H2 => t o i v H2 fun H3 => Q σ H3) : gSub to ti t v σ H Q := h
theorem setD {o i v : V} {H : Hp} {Q : Hp → Prop} (h : ∃ a H', o = .ref a ∧ DPut H a i v H' ∧ Q H') : rSetD o i v H Q := h
theorem setL {p : Addr} {xs : List V} {k : Int} {j : Nat} {v : V} {H : Hp} {Q : Hp → Prop} (h : H p = some (.lst xs)) (hj : ixN xs.length k = some j) (q : Q (upd H p (.lst (xs.set j v)))) : rSetL (.ref p) (.int k) v H Q := ⟨p, xs, k, j, rfl, rfl, h, hj, q⟩
theorem tupNew {K : PySem.W.Frag} {n : Nat} {t : TGs} {p : Addr} {xs : List V} {σ : L2.St} {H : Hp} {Q : L2.St → Hp → Prop} (hl : xs.length = n) (q : t xs σ (upd H p (.tup xs)) Q) : gTup K n t (.ref p) σ (upd H p (.tup xs)) Q := gtup (sqt upd_same) hl q
theorem cut {t u : TS} {D : Ends} {σ : L2.St} {H : Hp} (Mid : L2.St → Hp → Prop) (h1 : t { D with nx := Mid } σ H) (h2 : ∀ σ' H', Mid σ' H' → u D σ' H') : C8.tCut t u D σ H := ⟨Mid, h1, h2⟩
theorem bm {K : PySem.W.Frag} {T : String} {r : V → List V → Hp → VK → Prop} {to : TE} {t : TA} {σ : L2.St} {H : Hp} {Q : VK} (h : to σ H fun x H1 => tyV K T x H1 ∧ t σ H1 fun xs H2 => r x xs H2 Q) : tBM K T r to t σ H Q := h
theorem tyL {K : PySem.W.Frag} {H : Hp} {p : Addr} {xs : List V} (h : H p = some (.lst xs)) : tyV K "list" (.ref p) H := Or.inl ⟨rfl, _, Or.inl (Or.inl h)⟩
theorem app {H : Hp} {Q : VK} {l : Addr} {xs : List V} {y : V} (h : H l = some (.lst xs)) (hl : xs.length < 100000) (q : Q .non (upd H l (.lst (xs ++ [y])))) : rAppend (.ref l) [y] H Q := ⟨l, xs, y, rfl, rfl, h, Nat.lt_of_lt_of_le hl (by decide), q⟩
theorem revL {K : PySem.W.Frag} {te : TE} {σ : L2.St} {H : Hp} {Q : VK} (h : te σ H fun x H1 => ∃ a xs, x = .ref a ∧ SqL K H1 a xs ∧ ∀ p, H1 p = none → Q (.ref p) (upd H1 p (.lst xs.reverse))) : tRevL K te σ H Q := h
theorem frl {K : PySem.W.Frag} {tl : TE} {g : TG} {tb : TS} {D : Ends} {σ : L2.St} {H : Hp} (h : tl σ H fun x H1 => ∃ a, x = .ref a ∧ (∃ xs, SqL K H1 a xs) ∧ ∃ W : Nat → Nat → L2.St → Hp → Prop, (∃ m, W 0 m σ H1) ∧ ∀ i m σ H, W i m σ H →
    ((Itl K a).stop i H ∧ D.nx σ H) ∨ ((Itl K a).go i H ∧ ∃ N : L2.St → Hp → Prop, (∀ σ' H', N σ' H' → ∃ m', m' < m ∧ W (i + 1) m' σ' H') ∧ ∀ x H', (Itl K a).yld i H x H' → g x σ H' fun σ2 H2 => tb { D with nx := N, ct := N, bk := D.nx } σ2 H2)) :
    tFor (iList K tl) g tb D σ H := h
theorem frt {K : PySem.W.Frag} {tl : TE} {g : TG} {tb : TS} {D : Ends} {σ : L2.St} {H : Hp} (h : tl σ H fun x H1 => ∃ a, x = .ref a ∧ (∃ xs, SqT K H1 a xs) ∧ ∃ W : Nat → Nat → L2.St → Hp → Prop, (∃ m, W 0 m σ H1) ∧ ∀ i m σ H, W i m σ H →
    ((Itt K a).stop i H ∧ D.nx σ H) ∨ ((Itt K a).go i H ∧ ∃ N : L2.St → Hp → Prop, (∀ σ' H', N σ' H' → ∃ m', m' < m ∧ W (i + 1) m' σ' H') ∧ ∀ x H', (Itt K a).yld i H x H' → g x σ H' fun σ2 H2 => tb { D with nx := N, ct := N, bk := D.nx } σ2 H2)) :
    tFor (iTup K tl) g tb D σ H := h
theorem fre {K : PySem.W.Frag} {ta : TA} {g : TG} {tb : TS} {D : Ends} {σ : L2.St} {H : Hp} (h : ta σ H fun vs H1 => ∃ a xs, vs = [.ref a] ∧ SqL K H1 a xs ∧ ∃ W : Nat → Nat → L2.St → Hp → Prop, (∃ m, W 0 m σ H1) ∧ ∀ i m σ H, W i m σ H →
    ((Ite K a).stop i H ∧ D.nx σ H) ∨ ((Ite K a).go i H ∧ ∃ N : L2.St → Hp → Prop, (∀ σ' H', N σ' H' → ∃ m', m' < m ∧ W (i + 1) m' σ' H') ∧ ∀ x H', (Ite K a).yld i H x H' → g x σ H' fun σ2 H2 => tb { D with nx := N, ct := N, bk := D.nx } σ2 H2)) :
    tFor (iEnum K ta) g tb D σ H := h
theorem disp {trs : List (TE × TE)} {σ : L2.St} {H : Hp} {Q : VK} (h : ∀ p, H p = none → tPairs trs σ (upd H p (.dK [])) fun ps H2 => H2 p = some (.dK []) ∧ ∃ kvs : List (Key × V), ps = kvs.map (fun kv => (kV kv.1, kv.2)) ∧ kvs.length ≤ 15 ∧ Q (.ref p) (upd H2 p (.dK (mergeK [] kvs)))) : tDisp trs σ H Q := h
theorem pnil {σ : L2.St} {H : Hp} {Q : List (V × V) → Hp → Prop} (h : Q [] H) : tPairs [] σ H Q := h
theorem pcons {tk tv : TE} {r : List (TE × TE)} {σ : L2.St} {H : Hp} {Q : List (V × V) → Hp → Prop} (h : tk σ H fun x H1 => tv σ H1 fun y H2 => tPairs r σ H2 fun ps H3 => Q ((x, y) :: ps) H3) : tPairs ((tk, tv) :: r) σ H Q := h
/-! ### loops -/
theorem whl {c : TT} {tb : TS} {D : Ends} {σ : L2.St} {H : Hp} (W : Nat → L2.St → Hp → Prop) (m : Nat) (w0 : W m σ H) (hs : ∀ m σ H, W m σ H → c σ H fun b H1 => if b = true then ∃ N : L2.St → Hp → Prop, (∀ σ' H', N σ' H' → ∃ m', m' < m ∧ W m' σ' H') ∧
    tb { D with nx := N, ct := N, bk := D.nx } σ H1 else D.nx σ H1) : tWhile c tb D σ H := ⟨W, ⟨m, w0⟩, hs⟩
theorem fr1 {ta : TA} {g : TG} {tb : TS} {D : Ends} {σ : L2.St} {H : Hp} (h : ta σ H fun vs H1 => ∃ j : Int, vs = [.int j] ∧ -(2 ^ 62) ≤ j ∧ j < 2 ^ 62 ∧ ∃ W : Nat → Nat → L2.St → Hp → Prop, (∃ m, W 0 m σ H1) ∧ ∀ i m σ H, W i m σ H →
    ((Itr 0 j.toNat).stop i H ∧ D.nx σ H) ∨ ((Itr 0 j.toNat).go i H ∧ ∃ N : L2.St → Hp → Prop, (∀ σ' H', N σ' H' → ∃ m', m' < m ∧ W (i + 1) m' σ' H') ∧ ∀ x H', (Itr 0 j.toNat).yld i H x H' → g x σ H' fun σ2 H2 => tb { D with nx := N, ct := N, bk := D.nx } σ2 H2)) :
    tFor (iRng1 ta) g tb D σ H := h
/-- range(n), the turn told as a number -/
theorem frN {n : Nat} {k : Int} {g : TG} {tb : TS} {D : Ends} {σ : L2.St} {H : Hp} (hk : k = (n : Int)) (hn : n ≤ 1000000) (Pv : Nat → L2.St → Hp → Prop) (h0 : Pv 0 σ H)
    (hs : ∀ i σ H, i < n → Pv i σ H → g (.int (i : Int)) σ H fun σ2 H2 => tb { D with nx := Pv (i + 1), ct := Pv (i + 1), bk := D.nx } σ2 H2) (hd : ∀ σ H, Pv n σ H → D.nx σ H) :
    ∃ j : Int, [V.int k] = [.int j] ∧ -(2 ^ 62) ≤ j ∧ j < 2 ^ 62 ∧ ∃ W : Nat → Nat → L2.St → Hp → Prop, (∃ m, W 0 m σ H) ∧ ∀ i m σ H, W i m σ H →
    ((Itr 0 j.toNat).stop i H ∧ D.nx σ H) ∨ ((Itr 0 j.toNat).go i H ∧ ∃ N : L2.St → Hp → Prop, (∀ σ' H', N σ' H' → ∃ m', m' < m ∧ W (i + 1) m' σ' H') ∧ ∀ x H', (Itr 0 j.toNat).yld i H x H' → g x σ H' fun σ2 H2 => tb { D with nx := N, ct := N, bk := D.nx } σ2 H2) := by
  subst hk
  refine ⟨(n : Int), rfl, by omega, by omega, ?_⟩
  rw [Int.toNat_natCast]
  refine for_range (n := n) Pv h0 (fun i σ H hi hp => ?_) hd
  have e := hs i σ H hi hp
  rw [Int.zero_add]
  exact e
/-- all that was tracked stands -/
abbrev Ex := L2.Same
theorem ex_new {H : Hp} {p : Addr} {o : HO} (h : H p = none) : Ex H (upd H p o) := fun b z e => by
  rw [upd_ne (ne_of_none e h)]
  exact e
theorem ex_mut {H H' : Hp} {p : Addr} {o : HO} (e : Ex H H') (h : H p = none) : Ex H (upd H' p o) := fun b z q => by
  rw [upd_ne (ne_of_none q h)]
  exact e b z q
theorem ex_t {K : PySem.W.Frag} {H H' : Hp} {a : Addr} {xs : List V} (e : Ex H H') (h : SqT K H a xs) : SqT K H' a xs := by
  rcases h with (h | ⟨o, h⟩) | h
  · exact .inl (.inl (e _ _ h))
  · exact .inl (.inr ⟨o, e _ _ h⟩)
  · exact .inr h
theorem ex_l {K : PySem.W.Frag} {H H' : Hp} {a : Addr} {xs : List V} (e : Ex H H') (h : SqL K H a xs) : SqL K H' a xs := e.seq h
end Rd

set_option Elab.async false
set_option linter.all false
set_option maxRecDepth 100000
set_option maxHeartbeats 1000000
/-! a for loop in a generator's body -/
namespace Gx
open PySem PySem.Spec PyProof.Rows L2 GenW
def hX (env : Env) (x : Value) : Sem PySem.Fin := (do noteFrame x env; theTreesLotGoes x : Sem Unit).wrap (fun _ => .raise x) .raise id id
theorem seg_forLoop {prog : Program} {w : World} {A : Around} {R : GenEnd} {Y : Protocol} {n : Nat} {s₀ s : Shared} {fs : List Frame} {env : Env} {tg : Expr} {it : Value} {body : List Stmt}
    (h : wpAny (model prog w) (A.over (.forLoop tg it body [] env) fs) (pyNext it) (fun r s1 => match r with
      | none => Seg (model prog w) A R Y n s₀ (.forLoop tg it body [] env) (.pure (.again (.block [] env))) fs s1
      | some v => wpAny (model prog w) (A.over (.forLoop tg it body [] env) fs) (letOwnedTupleGo tg it v) (fun _ s2 =>
          wpAny (model prog w) (A.over (.forLoop tg it body [] env) fs) (assign tg env v) (fun _ s3 =>
            Seg (model prog w) A R Y n s₀ (.forLoop tg it body [] env) ((execs body env).wrap (fun f => match f with
              | .next | .cont => .pure (.again (.forLoop tg it body [] env))
              | .brk => .pure (.done .next)
              | .ret v => .pure (.done (.ret v))) (hX env) id id) fs s3)
            (fun x s' => Seg (model prog w) A R Y n s₀ (.forLoop tg it body [] env) (hX env x) fs s') s2)
          (fun x s' => Seg (model prog w) A R Y n s₀ (.forLoop tg it body [] env) (hX env x) fs s') s1)
      (fun x s' => Seg (model prog w) A R Y n s₀ (.forLoop tg it body [] env) (hX env x) fs s') s) :
    Seg (model prog w) A R Y n s₀ (.forLoop tg it body [] env) ((model prog w).den (.forLoop tg it body [] env)) fs s := by
  have hh : ∀ e, (do noteFrame e env; theTreesLotGoes e : Sem Unit).bind (fun _ => (.raise e : Sem PySem.Fin)) = hX env e := fun e => Sem.bind_eq_wrap _ _
  show Seg _ A R Y n s₀ _ ((forTurn tg it body [] env).onRaise (fun x => do noteFrame x env; theTreesLotGoes x)) fs s
  unfold forTurn
  rw [Sem.onRaise_eq_wrap]
  refine seg_bind_wrap (wpAny_standAt ?_)
  refine seg_bind_wrap (wpAny_onRaise (wpAny_mono h (fun r s1 h1 => ?_) fun x s' hx => wpAny_standAt ?_))
  · cases r with
    | none => exact h1
    | some v =>
      refine seg_bind_wrap (wpAny_mono h1 (fun _ s2 h2 => ?_) fun x s' hx => ?_)
      · refine seg_bind_wrap (wpAny_mono h2 (fun _ s3 h3 => ?_) fun x s' hx => ?_)
        · rw [Sem.bind_eq_wrap', Sem.wrap_wrap]
          rw [Sem.wrap_congr (execs body env) _ _ (K' := fun f => match f with
              | .next | .cont => .pure (.again (.forLoop tg it body [] env))
              | .brk => .pure (.done .next)
              | .ret v => .pure (.done (.ret v))) (H' := hX env) (fun f => by cases f <;> rfl) (fun e => by exact hh e)]
          exact h3
        · rw [← hh] at hx; exact hx
      · rw [← hh] at hx; exact hx
  · rw [← hh] at hx; exact hx
def tGFor (wi : TI) (g : TG) (tb : TGn) : TGn := fun D ys σ H => wi σ H fun J H1 => ∃ W : Nat → Nat → List V → L2.St → Hp → Prop, (∃ m, W 0 m ys σ H1) ∧ ∀ i m ys σ H, W i m ys σ H →
  (J.stop i H ∧ D.nx ys σ H) ∨ (J.go i H ∧ ∃ N : List V → L2.St → Hp → Prop, (∀ ys' σ' H', N ys' σ' H' → ∃ m', m' < m ∧ W (i + 1) m' ys' σ' H') ∧
    ∀ x H', J.yld i H x H' → g x σ H' fun σ2 H2 => tb { D with nx := N, ct := N, bk := D.nx } ys σ2 H2)
section
variable {X : Cx}
theorem gs_for {tg iter : Expr} {body : List Stmt} {pos : Pos} {wi : TI} {g : TG} {tb : TGn} (hp : PassesOwn (model X.prog X.w) X.A X.env X.xe) (hc : X.calm = true) (hi : PI X tg iter wi) (hg : PG X tg g) (hb : GSs X body tb)
    (hs : ∀ x, foldedSetIterable iter X.env x = pure x := by intro _; rfl) : GS X (.For tg iter body [] pos) (tGFor wi g tb) := by
  refine ⟨fun A S ip R n ys s₀ c fs K J gd lv s σ H D gc hn k hI ht => ?_⟩
  obtain ⟨acc0, cc0, r0, I0⟩ := hI
  rw [exec_For]
  refine seg_bind_wrap (wpAny_standAt ?_)
  refine seg_bind_wrap ?_
  rw [gc.over]
  refine wpAny_mono (hi.run _ s σ H _ I0 ht) (fun v s1 h1 => ?_) fun x s' hx => k.exc n s₀ x s' hx
  refine seg_bind_wrap (wpAny_of_eq (hs v) ?_)
  refine seg_bind_wrap (wpAny_standAt ?_)
  refine seg_bind_wrap (wpAny_holding ?_)
  rw [gc.over]
  refine wpAny_mono h1 (fun itv s2 h2 => ?_) fun x s' hx => k.exc n s₀ x s' hx
  obtain ⟨it, fp, tn, JJ, H2, e, I2, T, st2, f2, W, ⟨m0, w0⟩, turn⟩ := h2
  subst e
  refine seg_call fun p => ?_
  have gl := fun (kk : Result → Sem PySem.Fin) => gc_loop (k := kk) (c' := .forLoop tg (.ref it) body [] X.env) (l := lv []) (kp := []) (p := p) gc rfl rfl
  have glb := fun (kk : Result → Sem PySem.Fin) => gc_loop (k := kk) (c' := .block [] X.env) (l := lv []) (kp := []) (p := p) gc rfl rfl
  -- the objects of the iterator
  have stat : ∀ {acc : Array Value} {cc : Nat} {H' : Hp}, (∀ b ∈ fp, H' b = none) → ∀ b ∈ fp, FpOk X ((S, lstObj acc cc) :: ip) H' b := fun {acc cc H'} hn b hb => by
    obtain ⟨_, q1, q2, q3, q4, q5⟩ := f2 b hb
    refine ⟨hn b hb, q1, q2, q3, q4, fun p hp => ?_⟩
    rcases List.mem_append.mp hp with z | z
    · exact q5 p (List.mem_append_left _ z)
    · rcases List.mem_cons.mp z with z | z
      · rw [z]; exact q5 (S, lstObj acc0 cc0) (List.mem_append_right _ List.mem_cons_self)
      · exact q5 p (List.mem_append_right _ (List.mem_cons_of_mem _ z))
  have fpS : ∀ b ∈ fp, b ≠ S := fun b hb z => (f2 b hb).2.2.2.2.2 (S, lstObj acc0 cc0) (List.mem_append_right _ List.mem_cons_self) z.symm
  have loop : ∀ (m n : Nat) (i : Nat) (ys : List V) (s₀ s : Shared) (σ : L2.St) (H : Hp), n + ys.length = sizeLine → W i m ys σ H → GI X S ip ys σ H s → tn i s.heap → (∀ b ∈ fp, H b = none) →
      Seg (model X.prog X.w) A R (GY X S) n s₀ (.forLoop tg (.ref it) body [] X.env) ((model X.prog X.w).den (.forLoop tg (.ref it) body [] X.env))
        (.ret (fun r => ((match r with | .ok f => (.pure f : Sem Flow) | .error e => .raise e).onRaise (cameBack X.env)).wrap K J gd lv) none (gd false) (lv []) c p [] :: fs) s := by
    intro m
    induction m using Nat.strongRecOn with
    | ind m ih =>
      intro n i ys s₀ s σ H hn w hI hst hfr
      have ee : ∀ (n : Nat) (s₀ : Shared) (x : Value) (s' : Shared), X.xe x s' → Seg (model X.prog X.w) A R (GY X S) n s₀ (.forLoop tg (.ref it) body [] X.env) (hX X.env x)
          (.ret (fun r => ((match r with | .ok f => (.pure f : Sem Flow) | .error e => .raise e).onRaise (cameBack X.env)).wrap K J gd lv) none (gd false) (lv []) c p [] :: fs) s' := fun n s₀ x s' hx => by
        refine seg_wrap ?_
        rw [(gl _).over]
        refine wpAny_bind (wpAny_mono (hp x s' hx) (fun _ s'' hcb => wpAny_theTreesLotGoes ?_) fun y s'' hcb => ?_)
        · exact seg_leaf (.error x) (seg_cameBack gc k hcb)
        · exact seg_leaf (.error y) (seg_cameBack gc k hcb)
      refine seg_forLoop ?_
      rw [(gl _).over]
      obtain ⟨acc, cc, r, I⟩ := hI
      rcases turn i m ys σ H w with ⟨stop, qn⟩ | ⟨go, N, hN, step⟩
      · refine wpAny_mono (T.done X rfl rfl rfl hc i _ s σ H X.xe I (stat hfr) hst stop) (fun q s4 ⟨hr, I4⟩ => ?_) fun x s' hx => ee n s₀ x s' hx
        subst hr
        refine seg_again rfl ?_
        show Seg _ _ _ _ n s₀ (.block [] X.env) (((execs [] X.env).onRaise _) >>= fun f => pure (.done f)) _ s4
        exact seg_leaf (.ok .next) (k.ok n ys s₀ s4 .next hn ⟨σ, H, ⟨acc, cc, r, I4⟩, qn⟩)
      · refine wpAny_mono (T.item X rfl rfl rfl hc i _ s σ H X.xe I (stat hfr) hst go) (fun q s4 ⟨u, hr, h4⟩ => ?_) fun x s' hx => ee n s₀ x s' hx
        subst hr
        refine wpAny_mono h4 (fun _ s5 ⟨x, H5, I5, r5, y5, st5, fr5⟩ => ?_) fun x s' hx => ee n s₀ x s' hx
        have I5' := I5.pinned (stat fr5) (T.obj _ _ st5)
        refine wpAny_mono (hg.run _ s5 σ H5 x u _ I5' r5 (step x H5 y5)) (fun _ s6 ⟨σ6, H6, I6, q6⟩ => ?_) fun x s' hx => ee n s₀ x s' hx
        have gip : ∀ p ∈ ip ++ pinsAt fp s5.heap, p.1 ≠ S := fun p hp => by
          rcases List.mem_append.mp hp with z | z
          · exact gc.ip p z
          · exact fpS _ (of_pinsAt z).1
        have un : ∀ {ys' : List V} {σ' : L2.St} {H' : Hp} {s' : Shared}, GI X S (ip ++ pinsAt fp s5.heap) ys' σ' H' s' → GI X S ip ys' σ' H' s' ∧ tn (i + 1) s'.heap ∧ ∀ b ∈ fp, H' b = none := fun {ys' σ' H' s'} hI => by
          obtain ⟨acc, cc, r, I⟩ := hI
          have pn := fun b hb o e => I.pin (b, o) (List.mem_append_right _ (List.mem_cons_of_mem _ (List.mem_append_right _ (mem_pinsAt (fp := fp) (h := s5.heap) (b := b) (o := o) hb e))))
          refine ⟨⟨acc, cc, r, I.pins_of fun p hp => I.pin p (List.mem_append_right _ ?_)⟩, T.keep _ _ _ st5 fun b hb o e => (pn b hb o e).1, fun b hb => ?_⟩
          · rcases List.mem_cons.mp hp with z | z
            · exact z ▸ List.mem_cons_self
            · exact List.mem_cons_of_mem _ (List.mem_append_left _ z)
          · obtain ⟨o, e, d⟩ := T.obj _ _ st5 b hb
            exact (pn b hb o e).2.1
        refine hb.run A S (ip ++ pinsAt fp s5.heap) R n ys s₀ _ _ _ _ id id s6 σ6 H6 { D with nx := N, ct := N, bk := D.nx } ⟨gc.pn, gip, gc.apart, (gl _).over, (gl _).split, (gl _).guard, rfl⟩ hn ⟨fun n' ys' s₀' s7 f hn' hs => ?_, fun n' s₀' x s3 hx => ee n' s₀' x s3 hx⟩ ⟨acc, cc, r, I6⟩ q6
        cases f with
        | next =>
          obtain ⟨σ7, H7, I7, n7⟩ := hs
          obtain ⟨I8, st8, fr8⟩ := un I7
          obtain ⟨m', hm, w7⟩ := hN ys' σ7 H7 n7
          exact seg_again rfl (ih m' hm n' (i + 1) ys' s₀' s7 σ7 H7 hn' w7 I8 st8 fr8)
        | cont =>
          obtain ⟨σ7, H7, I7, n7⟩ := hs
          obtain ⟨I8, st8, fr8⟩ := un I7
          obtain ⟨m', hm, w7⟩ := hN ys' σ7 H7 n7
          exact seg_again rfl (ih m' hm n' (i + 1) ys' s₀' s7 σ7 H7 hn' w7 I8 st8 fr8)
        | brk =>
          obtain ⟨σ7, H7, I7, n7⟩ := hs
          exact seg_leaf (.ok .next) (k.ok n' ys' s₀' s7 .next hn' ⟨σ7, H7, (un I7).1, n7⟩)
        | ret v =>
          obtain ⟨x7, σ7, H7, I7, r7, n7⟩ := hs
          exact seg_leaf (.ok (.ret v)) (k.ok n' ys' s₀' s7 (.ret v) hn' ⟨x7, σ7, H7, (un I7).1, r7, n7⟩)
  exact loop m0 n 0 ys s₀ s2 σ H2 hn w0 ⟨acc0, cc0, r0, I2⟩ st2 fun b hb => (f2 b hb).1
/-- over a range -/
theorem gfor_range {lo : Int} {n : Nat} {g : TG} {tb : TGn} {D : GEnds} {ys : List V} {σ : L2.St} {H : Hp} (Pv : Nat → List V → L2.St → Hp → Prop) (h0 : Pv 0 ys σ H)
    (hs : ∀ i ys σ H, i < n → Pv i ys σ H → g (.int (lo + i)) σ H fun σ2 H2 => tb { D with nx := Pv (i + 1), ct := Pv (i + 1), bk := D.nx } ys σ2 H2) (hd : ∀ ys σ H, Pv n ys σ H → D.nx ys σ H) :
    ∃ W : Nat → Nat → List V → L2.St → Hp → Prop, (∃ m, W 0 m ys σ H) ∧ ∀ i m ys σ H, W i m ys σ H →
      ((Itr lo n).stop i H ∧ D.nx ys σ H) ∨ ((Itr lo n).go i H ∧ ∃ N : List V → L2.St → Hp → Prop, (∀ ys' σ' H', N ys' σ' H' → ∃ m', m' < m ∧ W (i + 1) m' ys' σ' H') ∧ ∀ x H', (Itr lo n).yld i H x H' → g x σ H' fun σ2 H2 => tb { D with nx := N, ct := N, bk := D.nx } ys σ2 H2) := by
  refine ⟨fun i m ys σ H => m = n - i ∧ i ≤ n ∧ Pv i ys σ H, ⟨n, by simp, Nat.zero_le _, h0⟩, ?_⟩
  rintro i m ys σ H ⟨rfl, hi, p⟩
  by_cases hlt : i < n
  · refine .inr ⟨hlt, Pv (i + 1), fun ys' σ' H' p' => ⟨n - (i + 1), by omega, rfl, hlt, p'⟩, fun x H' y => ?_⟩
    obtain ⟨rfl, rfl⟩ := y
    exact hs i ys σ _ hlt p
  · have e : i = n := by omega
    subst e
    exact .inl ⟨Nat.le_refl _, hd ys σ H p⟩
end
end Gx

set_option Elab.async false
set_option linter.all false
set_option maxRecDepth 100000
set_option maxHeartbeats 1000000
/-! an operator of one's own class, a static method, list() of a generator method -/
namespace Gx
open PySem PySem.Spec PyProof.Rows L2 GenW
/-! ### an own operator, the right side an int -/
structure OwnOp (K : PySem.W.Frag) (C : Addr) (nm : String) : Prop where
  sf : PySem.W.selfFirst K C = true
  r : PySem.W.findIn K (.ref C) (dunderR nm) = some none
  l1 : ∃ fo, PySem.W.findIn K (.type "int") (PySem.dunder nm) = some fo
  l2 : ∃ ro, PySem.W.findIn K (.type "int") (dunderR nm) = some ro
  sub : PySem.W.subIn K (.type "int") (.ref C) = some false
def rOwn (C : Addr) (sp : Sp) : V → V → Hp → VK → Prop := fun x y H Q => ∃ (a dx : Addr) (fs : List (Str × V)) (n : Int), x = .ref a ∧ y = .int n ∧ H a = some (.ins C dx fs) ∧ sp ([x, y] ++ []) H (fun v H' => (∃ b, v = .ref b) ∧ Q v H') C8.E0
section
variable {X : Cx} {k j : Nat} {C : Addr} {m : Str} {sp : Sp}
theorem op_own {op : Operator} (c : C8.Met X.prog X.w X.K X.mg X.base k C m sp []) (hr : Room j X.A) (hk : k ≤ j) (o : OwnOp X.K C op.info.2) (hm : PySem.dunder op.info.2 = m) : OpR X (binaryOp op) (rOwn C sp) := by
  intro pins s σ H x y v u Q I rx ry h
  obtain ⟨a, dx, fs, n, rfl, rfl, ha, q⟩ := h
  obtain rfl : v = Value.ref a := rx
  obtain ⟨f, fd, ps, ds, hc, me, F, b, d⟩ := c.ex
  obtain ⟨mA, O, rr, _, _, _⟩ := ins_get I.hok ha
  obtain ⟨od, J, hl⟩ := O.look
  obtain ⟨m0, fr⟩ := I.fr
  obtain ⟨fo, h1⟩ := o.l1
  obtain ⟨ro, h2⟩ := o.l2
  obtain ⟨t, rfl⟩ := id ry
  subst hm
  refine PySem.W.ksp_binT fr I.mod.kin J (T := "int") rfl o.sf me.at_ me.fn o.r (.inl rfl) h1 h2 o.sub ?_
  refine thn (run_fn (us := [.ref a, .int n t]) (vs := [.ref a, .int n]) F (hr.mono hk) b d C8.pass0 I (.cons rfl (.cons ry .nil)) q) fun v s1 hv => ?_
  obtain ⟨x, H1, I1, r1, ⟨b1, rfl⟩, q1⟩ := hv
  obtain rfl : v = Value.ref b1 := r1
  exact (⟨.ref b1, H1, I1, rfl, q1⟩ : EP X pins σ Q (.ref b1) s1)
end
/-! ### a static method of a class, by the class -/
structure SMet (P : Program) (w : World) (K : PySem.W.Frag) (mg : Str → Option Value) (base : Heap) (k : Nat) (C : Addr) (m : Str) (sp : Sp) : Prop where
  ex : ∃ (mc : Value) (p f : Addr) (fd : FuncData) (ps : List Str) (rest : List Value), ClX.CRead K C mc ∧ PySem.W.findCls K (.ref C) mc m = some (.get (.builtin "staticmethod.__get__") (.ref p) .none (.ref C)) ∧
    PySem.W.recIn K p "staticmethod" = some (.ref f :: rest) ∧ PySem.W.keepIn K (.ref f) = true ∧ FnOk P w K mg base C8.CX0 k f fd ps sp ∧ Binds K fd ps []
structure SAt (K : PySem.W.Frag) (C : Addr) (m : Str) (f : Addr) : Prop where
  ex : ∃ (mc : Value) (p : Addr) (rest : List Value), ClX.CRead K C mc ∧ PySem.W.findCls K (.ref C) mc m = some (.get (.builtin "staticmethod.__get__") (.ref p) .none (.ref C)) ∧ PySem.W.recIn K p "staticmethod" = some (.ref f :: rest) ∧ PySem.W.keepIn K (.ref f) = true
theorem smet0 {P : Program} {w : World} {K : PySem.W.Frag} {mg : Str → Option Value} {base : Heap} {m qual : Str} {C : Addr} {st : Stmt} {f : Addr} {fd : FuncData} {N ps : List Str} {k : Nat} {sp : Sp} (me : SAt K C m f) (F : C8.Fun K m qual st f fd) (b : Binds K fd ps []) (S : FnScope N ps (C8.fnScope st))
    (len : ∀ vs H Q E, sp vs H Q E → vs.length = ps.length)
    (hbody : ∀ (cdv : Value) (A : Around) (outer : List Env) (s : Shared) (H : Hp) (vs : List V) (Q : VK) (E : XK), Room k (A.deeper (envOfC qual (C8.fnScope st) s.heap.objs.size f cdv)) → sp vs H Q E →
      ∃ t, PSs (cxOf C8.CX0 P w K mg base N qual (C8.fnScope st) f cdv A outer s H E).nox (C8.fnBody st) t ∧ t { nx := fun _ H' => Q .non H', rt := Q } (start N vs) H) : SMet P w K mg base (k + 1) C m sp := by
  obtain ⟨mc, p, rest, r, a, b1, kp⟩ := me.ex
  exact ⟨mc, p, f, fd, ps, rest, r, a, b1, kp, C8.fn0 F S len hbody, b⟩
def tSMeth (C : Addr) (sp : Sp) (ta : TE) (t : TA) : TE := fun σ H Q => ta σ H fun x H1 => x = .ref C ∧ t σ H1 fun vs H2 => sp (vs ++ []) H2 Q C8.E0
section
variable {X : Cx} {k j : Nat} {C : Addr} {m : Str} {sp : Sp} {pos apos : Pos} {e o : Expr} {es : List Expr} {ta : TE} {t : TA} {pl : Sem Bool}
theorem pe_sm (c : SMet X.prog X.w X.K X.mg X.base k C m sp) (hr : Room j X.A) (hk : k ≤ j) (he : PE X o ta) (ha : PA X (e :: es) t)
    (hst : starEach (e :: es) X.env = (false, eval e X.env) :: starEach es X.env := by rfl) (hpl : (backTo pos (starEach es X.env)).any (·.1) = false := by rfl)
    (ht : eval (.Call (.Attribute o m apos) (e :: es) [] pos) X.env = (do
      let ov ← eval o X.env
      standAt apos.atName
      let (f, first) ← holding [ov] (getMethod ov m pl)
      callWith pos f first (backTo pos (starEach (e :: es) X.env)) (backToKw pos (keywordEach [] X.env))) := by rfl) :
    PE X (.Call (.Attribute o m apos) (e :: es) [] pos) (tSMeth C sp ta t) := by
  obtain ⟨mc, p, f, fd, ps, rest, r, a, b1, kp, F, b⟩ := c.ex
  refine ⟨fun pins s σ H Q I h => ?_⟩
  refine PySem.W.methodCall_KW (pl := pl) (thn (he.run pins s σ H _ I h) fun u s1 ⟨x, H1, I1, rx, ex, q⟩ => ?_) ht
  subst ex
  obtain rfl : u = Value.ref C := rx
  refine PySem.W.method_cls I1.kIn r.ga (PySem.W.cls_bind I1.kIn r.rd a (wpAny_call (PySem.W.sm_get (s := { s1 with toks := s1.toks + 1 }) I1.kIn b1 (PySem.W.handed_on rfl ?_))))
  have I2 : Inv X pins σ H1 { s1 with toks := s1.toks + 1 } := I1.tok _
  refine PySem.W.callWith_K (first := []) (h₀ := X.base) I.ok.mod.kin kp (thn (ha.run pos pins _ σ H1 _ I2 q) fun us s2 ⟨vs, H2, I3, rv, q2⟩ => ⟨I3.kIn, ?_⟩) hst hpl
  exact run_fn F (hr.mono hk) b .nil C8.pass0 I3 rv q2
end
/-! ### a generator method -/
structure GMet (P : Program) (w : World) (K : PySem.W.Frag) (mg : Str → Option Value) (base : Heap) (k : Nat) (C : Addr) (m : Str) (sp : SpG) : Prop where
  ex : ∃ (f : Addr) (fd : FuncData) (ps : List Str), Cls K C ∧ Meth K C m f ∧ GFn P w K mg base k f fd ps sp ∧ Binds K fd ps []
def gscC (N P : List Str) (sc : Scope) : Bool :=
  decide (sc.kind = .function) && !sc.isCoroutine && sc.isGenerator && decide N.Nodup && decide (N.take P.length = P) && P.all (fun x => decide (sc.names.lookup x = some .local) || decide (sc.names.lookup x = some .cell)) && sc.names.all (fun y => !decide (y.2 = .free))
theorem gscope_by {N P : List Str} {sc : Scope} (h : gscC N P sc = true) : GScope N P sc := by
  simp only [gscC, Bool.and_eq_true, decide_eq_true_eq, Bool.not_eq_true', List.all_eq_true, Bool.or_eq_true, decide_eq_false_iff_not] at h
  obtain ⟨⟨⟨⟨⟨⟨h1, h2⟩, h3⟩, h4⟩, h5⟩, h6⟩, h7⟩ := h
  exact ⟨h1, h2, h3, h4, h5, h6, h7⟩
theorem gmet0 {P : Program} {w : World} {K : PySem.W.Frag} {mg : Str → Option Value} {base : Heap} {m qual : Str} {C : Addr} {st : Stmt} {f : Addr} {fd : FuncData} {N ps : List Str} {k : Nat} {sp : SpG} (c : Cls K C) (me : Meth K C m f) (F : C8.Fun K m qual st f fd) (b : Binds K fd ps [])
    (S : GScope N ps (C8.fnScope st)) (len : ∀ vs H Q E, sp vs H Q E → vs.length = ps.length)
    (hbody : ∀ (cdv : Value) (A : Around) (outer : List Env) (s : Shared) (H : Hp) (vs : List V) (Q : List V → Hp → Prop) (E : XK) (pn : List (Addr × Obj)), Room k (A.deeper (envOfC qual (C8.fnScope st) s.heap.objs.size f cdv)) → sp vs H Q E →
      ∃ t, GSs (gcxOf P w K mg base N qual (C8.fnScope st) f cdv A outer s H E pn) (C8.fnBody st) t ∧ t { nx := fun ys _ H' => Q ys H', rt := fun ys v H' => v = .non ∧ Q ys H' } [] (start N vs) H) : GMet P w K mg base (k + 1) C m sp := by
  obtain ⟨oc, od, dV, kV, doc, pm, an, cdv, ct, osl, rfl, lk, hcd⟩ := F.ex
  exact ⟨f, _, ps, c, me, gfn_of lk hcd S len (hbody cdv), b⟩
theorem pass0G {X : Cx} : Passes (CX X.prog X.w) X C8.E0 := fun _ _ _ _ _ _ _ h => by
  obtain ⟨a, B, H', cls, d, _, _, _, _, _, _, _, z⟩ := h
  exact z.elim
section
variable {X : Cx} {k j : Nat} {C : Addr} {m : Str} {sp : SpG} {p pos pos' apos : Pos} {e o : Expr} {es : List Expr} {ta : TE} {t : TA} {pl : Sem Bool}
/-- list(o.m(..)) -/
theorem pe_listM (c : GMet X.prog X.w X.K X.mg X.base k C m sp) (hr : Room j X.A) (hk : k + 3 ≤ j) (he : PE X o ta) (ha : PA X (e :: es) t) (hg : Gl X "list") (hmg : X.mg "list" = none)
    (hst : starEach (e :: es) X.env = (false, eval e X.env) :: starEach es X.env := by rfl) (hpl : (backTo pos' (starEach es X.env)).any (·.1) = false := by rfl)
    (ht : eval (.Call (.Attribute o m apos) (e :: es) [] pos') X.env = (do
      let ov ← eval o X.env
      standAt apos.atName
      let (f, first) ← holding [ov] (getMethod ov m pl)
      callWith pos' f first (backTo pos' (starEach (e :: es) X.env)) (backToKw pos' (keywordEach [] X.env))) := by rfl)
    (hst2 : starEach [.Call (.Attribute o m apos) (e :: es) [] pos'] X.env = (false, eval (.Call (.Attribute o m apos) (e :: es) [] pos') X.env) :: starEach [] X.env := by rfl) :
    PE X (.Call (.Name "list" p) [.Call (.Attribute o m apos) (e :: es) [] pos'] [] pos) (tListG (tMethG C m sp [] C8.E0 ta t)) := by
  obtain ⟨f, fd, ps, hc, hm, F, b⟩ := c.ex
  exact pe_listG (pgen_meth (pl := pl) he hc hm F (hr.mono (by omega)) b .nil ha hst hpl ht) pass0G (fun _ _ _ z => z.elim) (hr.mono hk) hg hmg (by rfl) (by decide) (by decide) hst2
end
end Gx
namespace Gx
open PySem PySem.Spec PyProof.Rows L2 GenW
theorem isTup {K : PySem.W.Frag} {a : Addr} {xs : List V} {H : Hp} {Q : VK} (h : H a = some (.tup xs)) (q : Q (.bl true) H) : rIsi K [.ref a, .ty "tuple"] H Q :=
  ⟨_, _, .type "tuple", _, true, rfl, .ty _, .base (.tup h), by first | rfl | decide +kernel | kernel_rfl, q⟩
section
variable {t u : TGn} {tp : TS} {te : TE} {D : GEnds} {ys : List V} {σ : L2.St} {H : Hp}
theorem gthen (h : t { D with nx := fun ys' σ' H' => u D ys' σ' H' } ys σ H) : tGThen t u D ys σ H := h
theorem gplain (h : tp (D.at ys) σ H) : tPlain tp D ys σ H := h
theorem gat (h : D.nx ys σ H) : (D.at ys).nx σ H := h
theorem gnx {f g c d} (h : f ys σ H) : (GEnds.mk f g c d).nx ys σ H := h
theorem sfld {K : PySem.W.Frag} {to te : TE} {f : Str} {D : Ends} (h : te σ H fun y H1 => to σ H1 fun x H2 => ∃ a C dx fs, x = .ref a ∧ H2 a = some (.ins C dx fs) ∧ Cls K C ∧ NoAttr K C f ∧ fs.length < 1000 ∧ D.nx σ (upd H2 a (.ins C dx (putF f y fs)))) : sFld K to te f D σ H := h
theorem lg {tg : TGen} {Q : VK} (h : tg σ H fun out H2 => ∀ p, H2 p = none → Q (.ref p) (upd H2 p (.lst out))) : tListG tg σ H Q := h
theorem mg {C : Addr} {m : Str} {sp : SpG} {E : XK} {ta : TE} {t : TA} {cont : List V → Hp → Prop} (h : ta σ H fun x H1 => ∃ a dx fs, x = .ref a ∧ H1 a = some (.ins C dx fs) ∧ fs.lookup m = none ∧ t σ H1 fun vs H2 => sp (x :: (vs ++ [])) H2 cont E) : tMethG C m sp [] E ta t σ H cont := h
theorem sme {C : Addr} {sp : Sp} {ta : TE} {t : TA} {Q : VK} (h : ta σ H fun x H1 => x = .ref C ∧ t σ H1 fun vs H2 => sp (vs ++ []) H2 Q C8.E0) : tSMeth C sp ta t σ H Q := h
theorem gnil (h : D.nx ys σ H) : tG0 D ys σ H := h
theorem gy (hl : ys.length < sizeLine) (h : te σ H fun x H1 => D.nx (ys ++ [x]) σ H1) : tGYield te D ys σ H := ⟨hl, h⟩
theorem gfr {ta : TA} {g : TG} {tb : TGn} (h : ta σ H fun vs H1 => ∃ j : Int, vs = [.int j] ∧ -(2 ^ 62) ≤ j ∧ j < 2 ^ 62 ∧ ∃ W : Nat → Nat → List V → L2.St → Hp → Prop, (∃ m, W 0 m ys σ H1) ∧ ∀ i m ys σ H, W i m ys σ H →
  ((Itr 0 j.toNat).stop i H ∧ D.nx ys σ H) ∨ ((Itr 0 j.toNat).go i H ∧ ∃ N : List V → L2.St → Hp → Prop, (∀ ys' σ' H', N ys' σ' H' → ∃ m', m' < m ∧ W (i + 1) m' ys' σ' H') ∧
    ∀ x H', (Itr 0 j.toNat).yld i H x H' → g x σ H' fun σ2 H2 => tb { D with nx := N, ct := N, bk := D.nx } ys σ2 H2)) : tGFor (iRng1 ta) g tb D ys σ H := h
end
end Gx
namespace Gx
open PySem PySem.Spec PyProof.Rows L2 GenW
/-- a new object's heap by a name -/
theorem newo {H : Hp} {p : Addr} {o : HO} (hp : H p = none) : ∃ H1, H1 = upd H p o ∧ Rd.Ex H H1 ∧ H1 p = some o := ⟨_, rfl, Rd.ex_new hp, upd_same⟩
end Gx

set_option Elab.async false
set_option linter.all false
set_option maxRecDepth 100000
set_option maxHeartbeats 4000000
set_option exponentiation.threshold 2000
namespace Gx
open PySem PySem.Spec PyProof.Rows L2
/-! ### texts of data: how long they are -/
mutual
def Sml : PyData → Prop
  | .none => True
  | .bool _ => True
  | .int i => i.natAbs < 2 ^ 600
  | .str _ => False
  | .list xs => SmlAll xs
  | .tuple xs => SmlAll xs
  | .dict _ => False
def SmlAll : List PyData → Prop
  | [] => True
  | x :: xs => Sml x ∧ SmlAll xs
end
mutual
def nodes : PyData → Nat
  | .list xs => nodesAll xs + 1
  | .tuple xs => nodesAll xs + 1
  | .none => 1
  | .bool _ => 1
  | .int _ => 1
  | .str _ => 1
  | .dict _ => 1
def nodesAll : List PyData → Nat
  | [] => 0
  | x :: xs => nodes x + nodesAll xs
end
theorem log_lt {n k : Nat} (hk : 0 < k) (h : n < 2 ^ k) : n.log2 < k := PySem.Flt.log2_lt_of hk h
mutual
theorem sml_show : ∀ d : PyData, Sml d → d.showable = true
  | .none, _ => by simp only [PyData.showable]
  | .bool _, _ => by simp only [PyData.showable]
  | .int i, h => by
    simp only [PyData.showable, decide_eq_true_eq]
    exact Nat.lt_trans (log_lt (by decide) (show i.natAbs < 2 ^ 600 from by simpa only [Sml] using h)) (by decide)
  | .str _, h => by simp only [Sml] at h
  | .list xs, h => by
    simp only [PyData.showable]
    exact sml_showAll xs (by simpa only [Sml] using h)
  | .tuple xs, h => by
    simp only [PyData.showable]
    exact sml_showAll xs (by simpa only [Sml] using h)
  | .dict _, h => by simp only [Sml] at h
theorem sml_showAll : ∀ xs : List PyData, SmlAll xs → PyData.showableAll xs = true
  | [], _ => by simp only [PyData.showableAll]
  | x :: xs, h => by
    simp only [SmlAll] at h
    simp only [PyData.showableAll, Bool.and_eq_true]
    exact ⟨sml_show x h.1, sml_showAll xs h.2⟩
end
mutual
theorem sml_len : ∀ d : PyData, Sml d → d.shown.length + 2 ≤ 612 * nodes d
  | .none, _ => by simp only [nodes, PyData.shown]; decide
  | .bool b, _ => by cases b <;> simp only [nodes, PyData.shown] <;> decide
  | .int i, h => by
    have z : (toString i).length ≤ 601 := int_text_length_le (by decide) (log_lt (by decide) (show i.natAbs < 2 ^ 600 from by simpa only [Sml] using h))
    have e : (PyData.shown (.int i)).length = (toString i).length := by simp only [PyData.shown]; exact PySem.ofString_length _
    rw [e]
    simp only [nodes]
    omega
  | .str _, h => by simp only [Sml] at h
  | .list xs, h => by
    simp only [PyData.shown, nodes]
    have a := listText_len_le (PyData.shownAll xs)
    have b := sml_lenAll xs (by simpa only [Sml] using h)
    omega
  | .tuple xs, h => by
    simp only [PyData.shown, nodes]
    have a := tupleText_len_le (PyData.shownAll xs)
    have b := sml_lenAll xs (by simpa only [Sml] using h)
    omega
  | .dict _, h => by simp only [Sml] at h
theorem sml_lenAll : ∀ xs : List PyData, SmlAll xs → ((PyData.shownAll xs).map (·.length)).sum + 2 * (PyData.shownAll xs).length ≤ 612 * nodesAll xs
  | [], _ => by simp [PyData.shownAll, nodesAll]
  | x :: xs, h => by
    simp only [SmlAll] at h
    have a := sml_len x h.1
    have b := sml_lenAll xs h.2
    simp only [PyData.shownAll, nodesAll, List.map_cons, List.sum_cons, List.length_cons]
    omega
end
/-- what repr asks of the data -/
structure Okd (d : PyData) : Prop where
  sh : d.showable = true
  dp : d.depth ≤ 60
  ln : d.shown.length ≤ sizeLine
theorem okd {d : PyData} (h : Sml d) (hd : d.depth ≤ 60) (hn : nodes d ≤ 20000) : Okd d := ⟨sml_show d h, hd, by
  have := sml_len d h
  have e : sizeLine = 16777216 := sizeLine_eq
  omega⟩
theorem rpr {K : PySem.W.Frag} {H : Hp} {Q : VK} {x : V} (d : PyData) (h : Dp K H x d) (o : Okd d) (q : Q (.str d.shown) H) : rRepr K [x] H Q := ⟨x, d, rfl, h, o.sh, o.dp, o.ln, q⟩
theorem okInt {i : Int} (h : i.natAbs < 2 ^ 600) : Okd (.int i) := okd (by simpa only [Sml] using h) (by simp only [PyData.depth]; omega) (by simp only [nodes]; omega)
/-! ### three pairs -/
section
variable {k1 k2 k3 : Key} {a b c v : V}
theorem val1 : valV [(k1, a), (k2, b), (k3, c)] k1 = some a := valV_pos rfl
theorem val2 (h : ¬ k1 = k2) : valV [(k1, a), (k2, b), (k3, c)] k2 = some b := (valV_neg (p := (k1, a)) h).trans (valV_pos rfl)
theorem val3 (h : ¬ k1 = k3) (h2 : ¬ k2 = k3) : valV [(k1, a), (k2, b), (k3, c)] k3 = some c := (valV_neg (p := (k1, a)) h).trans ((valV_neg (p := (k2, b)) h2).trans (valV_pos rfl))
theorem put1 (h : ¬ k2 = k1) (h3 : ¬ k3 = k1) : putK [(k1, a), (k2, b), (k3, c)] k1 v = [(k1, v), (k2, b), (k3, c)] := by simp [putK, h, h3]
theorem put2 (h : ¬ k1 = k2) (h3 : ¬ k3 = k2) : putK [(k1, a), (k2, b), (k3, c)] k2 v = [(k1, a), (k2, v), (k3, c)] := by simp [putK, h, h3]
theorem put3 (h : ¬ k1 = k3) (h3 : ¬ k2 = k3) : putK [(k1, a), (k2, b), (k3, c)] k3 v = [(k1, a), (k2, b), (k3, v)] := by simp [putK, h, h3]
theorem merge3 (h : ¬ k1 = k2) (h2 : ¬ k1 = k3) (h3 : ¬ k2 = k3) : mergeK [] [(k1, a), (k2, b), (k3, c)] = [(k1, a), (k2, b), (k3, c)] := by
  have e1 : putK [] k1 a = [(k1, a)] := by simp [putK]
  have e2 : putK [(k1, a)] k2 b = [(k1, a), (k2, b)] := by simp [putK, h]
  have e3 : putK [(k1, a), (k2, b)] k3 c = [(k1, a), (k2, b), (k3, c)] := by simp [putK, h2, h3]
  simp only [mergeK, List.foldl_cons, List.foldl_nil, e1, e2, e3]
end
/-! ### an item of a written list -/
theorem pick {l : List Int} {P : Int → Prop} (h : ∀ x ∈ l, P x) {i : Int} (h0 : 0 ≤ i) (h1 : i < (l.length : Int)) : ∃ x, P x ∧ atI (l.map V.int) i = some (.int x) := by
  obtain ⟨n, rfl⟩ := Int.eq_ofNat_of_zero_le h0
  have hl : n < l.length := by omega
  refine ⟨l[n], h _ (List.getElem_mem hl), ?_⟩
  refine atI_nat ?_
  rw [List.getElem?_map, List.getElem?_eq_getElem hl]
  rfl
theorem dpInts {K : PySem.W.Frag} {H : Hp} : ∀ ns : List Int, DpAll K H (ns.map V.int) (ns.map PyData.int)
  | [] => .nil
  | n :: ns => .cons (.int n) (dpInts ns)
theorem canInts : ∀ ns : List Int, PyData.canLayAll0 (ns.map PyData.int) = true
  | [] => rfl
  | n :: ns => by simp only [List.map_cons, PyData.canLayAll0, PyData.canLay0, canInts ns, Bool.and_self]
theorem depInts : ∀ ns : List Int, PyData.depthAll (ns.map PyData.int) = 0
  | [] => rfl
  | n :: ns => by simp only [List.map_cons, PyData.depthAll, PyData.depth, depInts ns]; omega
theorem shpInts (ns : List Int) : SeqAt.shaped (.list (ns.map PyData.int)) = true := by
  simp only [SeqAt.shaped, PyData.canLay0, canInts, PyData.depth, depInts]
  decide
theorem eqInts : ∀ ns ms : List Int, PyData.eqvAll (ns.map PyData.int) (ms.map PyData.int) = decide (ns = ms)
  | [], [] => rfl
  | [], _ :: _ => rfl
  | _ :: _, [] => rfl
  | n :: ns, m :: ms => by
    simp only [List.map_cons, PyData.eqvAll, PyData.eqv, eqInts ns ms]
    by_cases h : n = m
    · subst h; simp
    · simp [h]
/-- two lists of ints compared -/
theorem eqL {K : PySem.W.Frag} {H : Hp} {Q : VK} {p q : Addr} {ns ms : List Int} (h1 : SqL K H p (ns.map V.int)) (h2 : SqL K H q (ms.map V.int)) (k : Q (.bl (decide (ns = ms))) H) : rEqD K (.ref p) (.ref q) H Q :=
  ⟨_, _, .lst h1 (dpInts ns), .lst h2 (dpInts ms), shpInts ns, shpInts ms, by
    have e : PyData.eqv (.list (ns.map PyData.int)) (.list (ms.map PyData.int)) = decide (ns = ms) := by simp only [PyData.eqv, eqInts]
    rw [e]; exact k⟩
theorem neL {K : PySem.W.Frag} {H : Hp} {Q : VK} {p q : Addr} {ns ms : List Int} (h1 : SqL K H p (ns.map V.int)) (h2 : SqL K H q (ms.map V.int)) (k : Q (.bl (!decide (ns = ms))) H) : rNeD K (.ref p) (.ref q) H Q :=
  ⟨_, _, .lst h1 (dpInts ns), .lst h2 (dpInts ms), shpInts ns, shpInts ms, by
    have e : PyData.eqv (.list (ns.map PyData.int)) (.list (ms.map PyData.int)) = decide (ns = ms) := by simp only [PyData.eqv, eqInts]
    rw [e]; exact k⟩
end Gx

set_option maxRecDepth 100000
namespace ML
/-! ### the linear source: x to (A * x + 11) modulo M -/
def A : Int := 205891132094649
def M : Int := 281474976710656
def S : Nat → Int
  | 0 => 0
  | n + 1 => A * S n + 1
theorem pow_ge (n : Nat) : A ^ n = 1 + (A - 1) * S n := by
  induction n with
  | zero => simp [S]
  | succ n ih => rw [Int.pow_succ, ih]; simp only [S]; grind
theorem S_add (a b : Nat) : S (a + b) = A ^ b * S a + S b := by
  induction b with
  | zero => simp [S]
  | succ b ih => rw [← Nat.add_assoc]; simp only [S]; rw [ih, Int.pow_succ]; grind
/-- the state after n steps, as an integer -/
def raw (n : Nat) (x : Int) : Int := A ^ n * x + 11 * S n
theorem raw_add (a b : Nat) (x : Int) : raw (a + b) x = raw b (raw a x) := by
  unfold raw
  rw [S_add, Int.pow_add]
  grind
theorem raw_sub (n : Nat) (x : Int) : raw n x - x = S n * ((A - 1) * x + 11) := by
  unfold raw
  rw [pow_ge]
  grind
def mv (n : Nat) (x : Int) : Int := raw n x % 281474976710656
def m1 (n : Nat) : Int := A ^ n % 281474976710656
def m2 (n : Nat) : Int := 11 * S n % 281474976710656
theorem m1_rng (n : Nat) : 0 ≤ m1 n ∧ m1 n < 281474976710656 := by unfold m1; omega
theorem m2_rng (n : Nat) : 0 ≤ m2 n ∧ m2 n < 281474976710656 := by unfold m2; omega
theorem mv_rng (n : Nat) (x : Int) : 0 ≤ mv n x ∧ mv n x < 281474976710656 := by unfold mv; omega
theorem mul_add_mod (a b x m : Int) : ((a % m) * x + b % m) % m = (a * x + b) % m := by
  rw [Int.add_emod, Int.emod_emod_of_dvd _ (Int.dvd_refl m), Int.mul_emod, Int.emod_emod_of_dvd _ (Int.dvd_refl m), ← Int.mul_emod, ← Int.add_emod]
theorem mul_add_mod2 (a b x m : Int) : (a * (x % m) + b % m) % m = (a * x + b) % m := by
  rw [Int.mul_comm, mul_add_mod, Int.mul_comm]
theorem mul_mod2 (a x m : Int) : ((a % m) * (x % m)) % m = (a * x) % m := by rw [← Int.mul_emod]
theorem mapped (n : Nat) (x : Int) : (m1 n * x + m2 n) % 281474976710656 = mv n x := by
  unfold m1 m2 mv raw
  exact mul_add_mod _ _ _ _
theorem join1 (a b : Nat) : m1 a * m1 b % 281474976710656 = m1 (a + b) := by
  unfold m1
  rw [mul_mod2, Int.pow_add]
theorem join2 (a b : Nat) : (m2 a * m1 b + m2 b) % 281474976710656 = m2 (a + b) := by
  unfold m2 m1
  rw [mul_add_mod2, S_add, Int.add_emod, Int.mul_emod, Int.emod_emod_of_dvd _ (Int.dvd_refl _), ← Int.mul_emod, ← Int.add_emod]
  congr 1
  grind
theorem mv_add (a b : Nat) (x : Int) : mv b (mv a x) = mv (a + b) x := by
  unfold mv
  rw [raw_add]
  unfold raw
  rw [Int.add_emod, Int.mul_emod, Int.emod_emod_of_dvd _ (Int.dvd_refl _), ← Int.mul_emod, ← Int.add_emod]
theorem mv_zero {x : Int} (h0 : 0 ≤ x) (h1 : x < 281474976710656) : mv 0 x = x := by
  unfold mv raw S
  rw [Int.pow_zero]
  omega
theorem m_zero : m1 0 = 1 ∧ m2 0 = 0 := by
  constructor <;> rfl
theorem m_one : m1 1 = 205891132094649 ∧ m2 1 = 11 := by
  constructor <;> rfl
/-! ### digits and periods -/
theorem S_double (n : Nat) : S (2 * n) = S n * (2 * (1 + 102945566047324 * S n)) := by
  rw [Nat.two_mul, S_add, pow_ge]
  have e : A - 1 = 205891132094648 := by decide
  rw [e]
  grind
theorem S_odd (n : Nat) : S (2 * n + 1) % 2 = 1 := by
  show (A * S (2 * n) + 1) % 2 = 1
  rw [S_double]
  have : A * (S n * (2 * (1 + 102945566047324 * S n))) = 2 * (A * (S n * (1 + 102945566047324 * S n))) := by grind
  rw [this]
  omega
theorem dvd_odd {k : Nat} {a c : Int} (h : c % 2 = 1) : (2 ^ k : Int) ∣ a * c ↔ (2 ^ k : Int) ∣ a := by
  constructor
  · intro hd
    induction k with
    | zero => exact Int.one_dvd _
    | succ k ih =>
      have h1 : (2 ^ k : Int) ∣ a * c := Int.dvd_trans ⟨2, by rw [Int.pow_succ]⟩ hd
      obtain ⟨z, hz⟩ := ih h1
      obtain ⟨y, hy⟩ := hd
      have p : (0 : Int) < 2 ^ k := Int.pow_pos (by decide)
      have e : (2 : Int) ^ k * (z * c) = 2 ^ k * (2 * y) := by rw [Int.pow_succ] at hy; grind
      have e2 := Int.eq_of_mul_eq_mul_left (Int.ne_of_gt p) e
      have hz2 : z % 2 = 0 := by
        have h5 : (z * c) % 2 = 0 := by omega
        rw [Int.mul_emod, h] at h5
        omega
      exact ⟨z / 2, by rw [Int.pow_succ, hz]; have : z = 2 * (z / 2) := by omega
                       rw [Int.mul_assoc, ← this]⟩
  · intro hd
    obtain ⟨z, hz⟩ := hd
    exact ⟨z * c, by rw [hz, Int.mul_assoc]⟩
theorem S_dvd : ∀ (k n : Nat), (2 ^ k : Int) ∣ S n ↔ (2 ^ k : Nat) ∣ n
  | 0, n => ⟨fun _ => ⟨n, by simp⟩, fun _ => Int.one_dvd _⟩
  | k + 1, n => by
    rcases Nat.mod_two_eq_zero_or_one n with h | h
    · have e : n = 2 * (n / 2) := by omega
      rw [e, S_double]
      have ih := S_dvd k (n / 2)
      have od : (1 + 102945566047324 * S (n / 2)) % 2 = 1 := by omega
      constructor
      · intro hd
        have h2 : (2 ^ k : Int) ∣ S (n / 2) * (1 + 102945566047324 * S (n / 2)) := by
          obtain ⟨y, hy⟩ := hd
          exact ⟨y, by
            rw [Int.pow_succ] at hy
            have : (2 : Int) * (S (n / 2) * (1 + 102945566047324 * S (n / 2))) = 2 * (2 ^ k * y) := by grind
            exact Int.eq_of_mul_eq_mul_left (by decide) this⟩
        obtain ⟨z, hz⟩ := ih.mp ((dvd_odd od).mp h2)
        exact ⟨z, by rw [Nat.pow_succ, hz]; simp only [Nat.mul_comm, Nat.mul_left_comm]⟩
      · rintro ⟨z, hz⟩
        have h3 : (2 ^ k : Nat) ∣ n / 2 := ⟨z, by
          rw [Nat.pow_succ, Nat.mul_comm (2 ^ k) 2, Nat.mul_assoc] at hz
          omega⟩
        obtain ⟨y, hy⟩ := ih.mpr h3
        exact ⟨y * (1 + 102945566047324 * S (n / 2)), by rw [Int.pow_succ]; rw [hy]; grind⟩
    · have e : n = 2 * (n / 2) + 1 := by omega
      constructor
      · intro hd
        have h1 := S_odd (n / 2)
        rw [← e] at h1
        obtain ⟨y, hy⟩ := hd
        rw [Int.pow_succ, Int.mul_comm _ 2, Int.mul_assoc] at hy
        omega
      · rintro ⟨z, hz⟩
        rw [Nat.pow_succ, Nat.mul_comm (2 ^ k) 2, Nat.mul_assoc] at hz
        omega
/-- n steps leave the lowest k digits as they are exactly if 2 ^ k divides n -/
theorem low_iff (k n : Nat) (x : Int) : (2 ^ k : Int) ∣ raw n x - x ↔ (2 ^ k : Nat) ∣ n := by
  rw [raw_sub, dvd_odd (by have : A - 1 = 205891132094648 := by decide
                           rw [this]; omega)]
  exact S_dvd k n
theorem mv_low {k : Nat} (hk : k ≤ 48) (n : Nat) (x : Int) : (2 ^ k : Int) ∣ mv n x - x ↔ (2 ^ k : Nat) ∣ n := by
  rw [← low_iff k n x]
  have e : (2 ^ k : Int) ∣ raw n x - mv n x := by
    unfold mv
    have h1 : (281474976710656 : Int) ∣ raw n x - raw n x % 281474976710656 := ⟨raw n x / 281474976710656, by omega⟩
    have h2 : (2 ^ k : Int) ∣ 281474976710656 := ⟨2 ^ (48 - k), by rw [← Int.pow_add, show k + (48 - k) = 48 by omega]; decide⟩
    exact Int.dvd_trans h2 h1
  constructor
  · intro h
    have := Int.dvd_add e h
    rwa [show raw n x - mv n x + (mv n x - x) = raw n x - x by omega] at this
  · intro h
    have := Int.dvd_sub h e
    rwa [show raw n x - x - (raw n x - mv n x) = mv n x - x by omega] at this
/-- at most one number of steps leads from x to y -/
theorem mv_inj {a b : Nat} {x : Int} (h : mv a x = mv b x) : (a : Int) % 281474976710656 = (b : Int) % 281474976710656 := by
  have key : ∀ {a b : Nat}, a ≤ b → mv a x = mv b x → (281474976710656 : Nat) ∣ b - a := fun {a b} hab h => by
    have e : mv (b - a) (mv a x) = mv b x := by rw [mv_add]; congr 1; omega
    have d : (2 ^ 48 : Int) ∣ mv (b - a) (mv a x) - mv a x := by
      rw [e, ← h]
      exact ⟨0, by omega⟩
    exact (mv_low (Nat.le_refl 48) _ _).mp d
  rcases Nat.le_total a b with hab | hab
  · obtain ⟨z, hz⟩ := key hab h
    omega
  · obtain ⟨z, hz⟩ := key hab h.symm
    omega
theorem mv_period (n : Nat) {x : Int} (h0 : 0 ≤ x) (h1 : x < 281474976710656) : mv (281474976710656 * n) x = x := by
  have d : (2 ^ 48 : Int) ∣ mv (281474976710656 * n) x - x := (mv_low (Nat.le_refl 48) _ _).mpr ⟨n, by rfl⟩
  have r := mv_rng (281474976710656 * n) x
  obtain ⟨z, hz⟩ := d
  have : (2 ^ 48 : Int) = 281474976710656 := by decide
  rw [this] at hz
  omega
theorem mv_mod (n : Nat) (x : Int) : mv (n % 281474976710656) x = mv n x := by
  have e : n = 281474976710656 * (n / 281474976710656) + n % 281474976710656 := by omega
  have r := mv_rng (n % 281474976710656) x
  calc mv (n % 281474976710656) x = mv (281474976710656 * (n / 281474976710656)) (mv (n % 281474976710656) x) := (mv_period _ r.1 r.2).symm
    _ = mv (n % 281474976710656 + 281474976710656 * (n / 281474976710656)) x := mv_add _ _ _
    _ = mv n x := by congr 1; omega
end ML

namespace ML
/-- 2 ^ i steps lead from a number that is right up to digit i to one that is right up to the next -/
theorem flip {i : Nat} (hi : i < 48) {s y : Int} (h : (2 ^ i : Int) ∣ s - y) (hn : ¬ (2 ^ (i + 1) : Int) ∣ s - y) : (2 ^ (i + 1) : Int) ∣ mv (2 ^ i) s - y := by
  obtain ⟨u, hu⟩ := h
  obtain ⟨v, hv⟩ := (mv_low (by omega : i ≤ 48) (2 ^ i) s).mpr (Nat.dvd_refl _)
  have nv : ¬ (2 ^ (i + 1) : Int) ∣ mv (2 ^ i) s - s := fun z => by
    have d := (mv_low (by omega : i + 1 ≤ 48) (2 ^ i) s).mp z
    have := Nat.le_of_dvd (Nat.pow_pos (by decide)) d
    rw [Nat.pow_succ] at this
    have := Nat.pow_pos (n := i) (show 0 < 2 by decide)
    omega
  have od : ∀ {d z : Int}, d = 2 ^ i * z → ¬ (2 ^ (i + 1) : Int) ∣ d → z % 2 = 1 := fun {d z} e n => by
    rcases Int.emod_two_eq z with q | q
    · refine absurd ⟨z / 2, ?_⟩ n
      rw [e, Int.pow_succ, Int.mul_assoc, show 2 * (z / 2) = z by omega]
    · exact q
  have h1 := od hu hn
  have h2 := od hv nv
  refine ⟨(u + v) / 2, ?_⟩
  have e : mv (2 ^ i) s - y = 2 ^ i * (u + v) := by rw [Int.mul_add, ← hu, ← hv]; omega
  rw [e, Int.pow_succ, Int.mul_assoc, show 2 * ((u + v) / 2) = u + v by omega]
theorem mod_eq_iff {m a b : Nat} : a % m = b % m ↔ (m : Int) ∣ (a : Int) - b := by
  constructor
  · intro h
    refine ⟨(a / m : Nat) - (b / m : Nat), ?_⟩
    have e1 := Nat.div_add_mod a m
    have e2 := Nat.div_add_mod b m
    rw [h] at e1
    have e3 : ((m * (a / m) + b % m : Nat) : Int) - ((m * (b / m) + b % m : Nat) : Int) = (a : Int) - b := by rw [e1, e2]
    rw [← e3, Int.mul_sub]
    push_cast
    omega
  · intro h
    have h2 := Int.emod_eq_emod_iff_emod_sub_eq_zero.mpr (Int.emod_eq_zero_of_dvd h)
    have h3 : ((a % m : Nat) : Int) = ((b % m : Nat) : Int) := by rw [Int.natCast_emod, Int.natCast_emod]; exact h2
    exact Int.ofNat.inj h3
/-- the digit i of the exclusive or tells whether two numbers that are equal below it differ there -/
theorem bit_xor {i : Nat} {a b : Nat} (h : (2 ^ i : Int) ∣ (a : Int) - b) : (a ^^^ b) / 2 ^ i % 2 = 1 ↔ ¬ (2 ^ (i + 1) : Int) ∣ (a : Int) - b := by
  have hm : a % 2 ^ i = b % 2 ^ i := mod_eq_iff.mpr (by push_cast; exact h)
  have hx : ∀ x : Nat, x / 2 ^ i % 2 = (x.testBit i).toNat := fun x => by
    rw [Nat.testBit_eq_decide_div_mod_eq]
    rcases Nat.mod_two_eq_zero_or_one (x / 2 ^ i) with q | q <;> rw [q] <;> rfl
  have hs : (2 ^ (i + 1) : Int) ∣ (a : Int) - b ↔ a % 2 ^ (i + 1) = b % 2 ^ (i + 1) := by
    rw [mod_eq_iff]; push_cast; exact Iff.rfl
  rw [hs, Nat.mod_pow_succ, Nat.mod_pow_succ, hm, hx, hx, hx, Nat.testBit_xor]
  have p := Nat.pow_pos (n := i) (show 0 < 2 by decide)
  cases a.testBit i <;> cases b.testBit i <;> simp <;> omega
end ML
namespace ML
/-! ### digits from the lowest on -/
def lsb (n : Nat) : List Int := if n = 0 then [] else ((n % 2 : Nat) : Int) :: lsb (n / 2)
termination_by n
decreasing_by omega
theorem lsb_zero : lsb 0 = [] := by rw [lsb]; rfl
theorem lsb_pos {n : Nat} (h : 0 < n) : lsb n = ((n % 2 : Nat) : Int) :: lsb (n / 2) := by
  rw [lsb, if_neg (by omega)]
theorem lsb_len : ∀ (k n : Nat), n < 2 ^ k → (lsb n).length ≤ k
  | 0, n, h => by
    have : n = 0 := by simpa using h
    subst this
    rw [lsb_zero]
    exact Nat.le_refl _
  | k + 1, n, h => by
    by_cases hn : n = 0
    · subst hn; rw [lsb_zero]; exact Nat.zero_le _
    · rw [lsb_pos (by omega), List.length_cons]
      have := lsb_len k (n / 2) (by rw [Nat.pow_succ] at h; omega)
      omega
theorem lsb_bit : ∀ (k n : Nat), n < 2 ^ k → ∀ d ∈ lsb n, d = 0 ∨ d = 1
  | 0, n, h => by
    have : n = 0 := by simpa using h
    subst this
    rw [lsb_zero]
    intro d hd
    cases hd
  | k + 1, n, h => by
    by_cases hn : n = 0
    · subst hn; rw [lsb_zero]; intro d hd; cases hd
    · rw [lsb_pos (by omega)]
      intro d hd
      rcases List.mem_cons.mp hd with e | e
      · subst e; omega
      · exact lsb_bit k (n / 2) (by rw [Nat.pow_succ] at h; omega) d e
/-- the number that digits write, the highest first -/
def valD (l : List Int) : Nat := l.foldl (fun a d => 2 * a + d.toNat) 0
theorem valD_snoc (l : List Int) (d : Int) : valD (l ++ [d]) = 2 * valD l + d.toNat := by
  unfold valD
  rw [List.foldl_append]
  rfl
theorem val_lsb : ∀ (k n : Nat), n < 2 ^ k → valD (lsb n).reverse = n
  | 0, n, h => by
    have : n = 0 := by simpa using h
    subst this
    rw [lsb_zero]
    rfl
  | k + 1, n, h => by
    by_cases hn : n = 0
    · subst hn; rw [lsb_zero]; rfl
    · rw [lsb_pos (by omega), List.reverse_cons, valD_snoc, val_lsb k (n / 2) (by rw [Nat.pow_succ] at h; omega)]
      omega
theorem dbl1 (k : Nat) : m1 k * m1 k % 281474976710656 = m1 (2 * k) := by rw [join1, Nat.two_mul]
theorem dbl2 (k : Nat) : (m1 k + 1) * m2 k % 281474976710656 = m2 (2 * k) := by
  rw [Nat.two_mul, ← join2]
  congr 1
  grind
theorem inc1 (k : Nat) : 205891132094649 * m1 k % 281474976710656 = m1 (k + 1) := by
  rw [← join1, m_one.1, Int.mul_comm]
theorem inc2 (k : Nat) : (205891132094649 * m2 k + 11) % 281474976710656 = m2 (k + 1) := by
  rw [← join2, m_one.1, m_one.2, Int.mul_comm]
end ML

set_option Elab.async false
set_option linter.all false
set_option maxRecDepth 100000
set_option maxHeartbeats 4000000
namespace Pf
open PySem PySem.Spec PyProof.Rows L2
def top (i : Nat) : Stmt := PySem.Challenge.pw_drawstate_k11_whole_jumps_and_ways_back.main.body.getD i (.Pass ⟨0, 0, 0, 0⟩)
abbrev s_is_integer : Stmt := top 8
theorem sc_is_integer : FnScope ["value"] ["value"] (C8.fnScope s_is_integer) := C8.fnScope_by (by decide +kernel)
abbrev s_need_steps : Stmt := top 12
theorem sc_need_steps : FnScope ["steps"] ["steps"] (C8.fnScope s_need_steps) := C8.fnScope_by (by decide +kernel)
abbrev s_need_many : Stmt := top 13
theorem sc_need_many : FnScope ["many"] ["many"] (C8.fnScope s_need_many) := C8.fnScope_by (by decide +kernel)
abbrev s_s2_is_number : Stmt := top 20
theorem sc_s2_is_number : FnScope ["value"] ["value"] (C8.fnScope s_s2_is_number) := C8.fnScope_by (by decide +kernel)
abbrev s_s2_need_start : Stmt := top 21
theorem sc_s2_need_start : FnScope ["start"] ["start"] (C8.fnScope s_s2_need_start) := C8.fnScope_by (by decide +kernel)
abbrev s_s2_need_state : Stmt := top 22
theorem sc_s2_need_state : FnScope ["state"] ["state"] (C8.fnScope s_s2_need_state) := C8.fnScope_by (by decide +kernel)
abbrev s_s2_joined : Stmt := top 23
theorem sc_s2_joined : FnScope ["one", "other"] ["one", "other"] (C8.fnScope s_s2_joined) := C8.fnScope_by (by decide +kernel)
abbrev s_s2_step_map : Stmt := top 24
theorem sc_s2_step_map : FnScope ["steps", "found", "power"] ["steps"] (C8.fnScope s_s2_step_map) := C8.fnScope_by (by decide +kernel)
abbrev s_s2_mapped : Stmt := top 25
theorem sc_s2_mapped : FnScope ["one", "start"] ["one", "start"] (C8.fnScope s_s2_mapped) := C8.fnScope_by (by decide +kernel)
abbrev s_s2_moved : Stmt := top 26
theorem sc_s2_moved : FnScope ["start", "steps"] ["start", "steps"] (C8.fnScope s_s2_moved) := C8.fnScope_by (by decide +kernel)
abbrev s_Linear___init__ : Stmt := inClass (top 27) 1
theorem sc_Linear___init__ : FnScope ["self", "start"] ["self", "start"] (C8.fnScope s_Linear___init__) := C8.fnScope_by (by decide +kernel)
abbrev s_Linear_next_word : Stmt := inClass (top 27) 2
theorem sc_Linear_next_word : FnScope ["self"] ["self"] (C8.fnScope s_Linear_next_word) := C8.fnScope_by (by decide +kernel)
abbrev s_Linear_words : Stmt := inClass (top 27) 3
theorem sc_Linear_words : GScope ["self", "many", "turn"] ["self", "many"] (C8.fnScope s_Linear_words) := Gx.gscope_by (by decide +kernel)
abbrev s_Linear_state : Stmt := inClass (top 27) 4
theorem sc_Linear_state : FnScope ["self"] ["self"] (C8.fnScope s_Linear_state) := C8.fnScope_by (by decide +kernel)
abbrev s_Linear_jump : Stmt := inClass (top 27) 7
theorem sc_Linear_jump : FnScope ["self", "steps"] ["self", "steps"] (C8.fnScope s_Linear_jump) := C8.fnScope_by (by decide +kernel)
abbrev s_Linear_back : Stmt := inClass (top 27) 8
theorem sc_Linear_back : FnScope ["self", "steps"] ["self", "steps"] (C8.fnScope s_Linear_back) := C8.fnScope_by (by decide +kernel)
abbrev s_Linear_ahead : Stmt := inClass (top 27) 9
theorem sc_Linear_ahead : FnScope ["self", "steps"] ["self", "steps"] (C8.fnScope s_Linear_ahead) := C8.fnScope_by (by decide +kernel)
abbrev s_Linear_behind : Stmt := inClass (top 27) 10
theorem sc_Linear_behind : FnScope ["self", "steps"] ["self", "steps"] (C8.fnScope s_Linear_behind) := C8.fnScope_by (by decide +kernel)
abbrev s_Linear___rshift__ : Stmt := inClass (top 27) 11
theorem sc_Linear___rshift__ : FnScope ["self", "other"] ["self", "other"] (C8.fnScope s_Linear___rshift__) := C8.fnScope_by (by decide +kernel)
abbrev s_Linear___lshift__ : Stmt := inClass (top 27) 12
theorem sc_Linear___lshift__ : FnScope ["self", "other"] ["self", "other"] (C8.fnScope s_Linear___lshift__) := C8.fnScope_by (by decide +kernel)
abbrev s_Linear_copy : Stmt := inClass (top 27) 13
theorem sc_Linear_copy : FnScope ["self"] ["self"] (C8.fnScope s_Linear_copy) := C8.fnScope_by (by decide +kernel)
abbrev s_Linear_same_state : Stmt := inClass (top 27) 14
theorem sc_Linear_same_state : FnScope ["self", "other"] ["self", "other"] (C8.fnScope s_Linear_same_state) := C8.fnScope_by (by decide +kernel)
abbrev s_Linear_state_after : Stmt := inClass (top 27) 17
theorem sc_Linear_state_after : FnScope ["state", "steps"] ["state", "steps"] (C8.fnScope s_Linear_state_after) := C8.fnScope_by (by decide +kernel)
abbrev s__law_begun : Stmt := top 29
theorem sc__law_begun : FnScope ["_law_script", "_law_run", "_law_k", "_law_cell"] ["_law_script"] (C8.fnScope s__law_begun) := C8.fnScope_by (by decide +kernel)
abbrev s__law_next : Stmt := top 30
theorem sc__law_next : FnScope ["_law_draw", "_law_below", "_law_great", "_law_at", "_law_found", "_law_run"] ["_law_draw", "_law_below"] (C8.fnScope s__law_next) := C8.fnScope_by (by decide +kernel)
abbrev s__law_x : Stmt := top 31
theorem sc__law_x : FnScope ["_law_draw", "_law_far", "_law_some"] ["_law_draw"] (C8.fnScope s__law_x) := C8.fnScope_by (by decide +kernel)
abbrev s__law_steps : Stmt := top 32
theorem sc__law_steps : FnScope ["_law_draw", "_law_far", "_law_some"] ["_law_draw"] (C8.fnScope s__law_steps) := C8.fnScope_by (by decide +kernel)
abbrev s__law_digits : Stmt := top 33
theorem sc__law_digits : FnScope ["_law_number", "_law_found"] ["_law_number"] (C8.fnScope s__law_digits) := C8.fnScope_by (by decide +kernel)
abbrev s__law_map : Stmt := top 34
theorem sc__law_map : FnScope ["_law_steps_here", "_law_p", "_law_q", "_law_whole", "_law_digit"] ["_law_steps_here"] (C8.fnScope s__law_map) := C8.fnScope_by (by decide +kernel)
abbrev s__law_moved : Stmt := top 35
theorem sc__law_moved : FnScope ["_law_x_here", "_law_steps_here", "_law_p", "_law_q"] ["_law_x_here", "_law_steps_here"] (C8.fnScope s__law_moved) := C8.fnScope_by (by decide +kernel)
abbrev s__law_ways_right : Stmt := top 36
theorem sc__law_ways_right : FnScope ["_law_x_here", "_law_steps_here", "_law_source", "_law_due", "_law_last", "_law_found", "_law_later", "_law_far"] ["_law_x_here", "_law_steps_here"] (C8.fnScope s__law_ways_right) := C8.fnScope_by (by decide +kernel)
abbrev s__law_small_right : Stmt := top 37
theorem sc__law_small_right : FnScope ["_law_x_here", "_law_steps_here", "_law_source", "_law_far", "_law_drawn"] ["_law_x_here", "_law_steps_here"] (C8.fnScope s__law_small_right) := C8.fnScope_by (by decide +kernel)
abbrev s_law : Stmt := top 38
theorem sc_law : FnScope ["_law_script", "_law_draw", "_law_turn", "_law_x_here", "_law_one", "_law_two", "_law_source", "_law_far", "_law_other"] ["_law_script"] (C8.fnScope s_law) := C8.fnScope_by (by decide +kernel)
structure Txt (K : PySem.W.Frag) (mg : Str → Option Value) (C_Linear : Addr) : Prop where
  d_is_integer : ∃ f fd, C8.Def K mg "is_integer" s_is_integer f fd ∧ Binds K fd ["value"] []
  d_need_steps : ∃ f fd, C8.Def K mg "need_steps" s_need_steps f fd ∧ Binds K fd ["steps"] []
  d_need_many : ∃ f fd, C8.Def K mg "need_many" s_need_many f fd ∧ Binds K fd ["many"] []
  d_s2_is_number : ∃ f fd, C8.Def K mg "s2_is_number" s_s2_is_number f fd ∧ Binds K fd ["value"] []
  d_s2_need_start : ∃ f fd, C8.Def K mg "s2_need_start" s_s2_need_start f fd ∧ Binds K fd ["start"] []
  d_s2_need_state : ∃ f fd, C8.Def K mg "s2_need_state" s_s2_need_state f fd ∧ Binds K fd ["state"] []
  d_s2_joined : ∃ f fd, C8.Def K mg "s2_joined" s_s2_joined f fd ∧ Binds K fd ["one", "other"] []
  d_s2_step_map : ∃ f fd, C8.Def K mg "s2_step_map" s_s2_step_map f fd ∧ Binds K fd ["steps"] []
  d_s2_mapped : ∃ f fd, C8.Def K mg "s2_mapped" s_s2_mapped f fd ∧ Binds K fd ["one", "start"] []
  d_s2_moved : ∃ f fd, C8.Def K mg "s2_moved" s_s2_moved f fd ∧ Binds K fd ["start", "steps"] []
  d_Linear___init__ : ∃ f fd, Mk K C_Linear f ∧ C8.Fun K "__init__" "Linear.__init__" s_Linear___init__ f fd ∧ Binds K fd ["self", "start"] []
  d_Linear_next_word : ∃ f fd, Meth K C_Linear "next_word" f ∧ C8.Fun K "next_word" "Linear.next_word" s_Linear_next_word f fd ∧ Binds K fd ["self"] []
  d_Linear_words : ∃ f fd, Meth K C_Linear "words" f ∧ C8.Fun K "words" "Linear.words" s_Linear_words f fd ∧ Binds K fd ["self", "many"] []
  d_Linear_state : ∃ p f fd, PropOf K C_Linear "state" p f ∧ C8.Fun K "state" "Linear.state" s_Linear_state f fd ∧ Binds K fd ["self"] []
  d_Linear_jump : ∃ f fd, Meth K C_Linear "jump" f ∧ C8.Fun K "jump" "Linear.jump" s_Linear_jump f fd ∧ Binds K fd ["self", "steps"] []
  d_Linear_back : ∃ f fd, Meth K C_Linear "back" f ∧ C8.Fun K "back" "Linear.back" s_Linear_back f fd ∧ Binds K fd ["self", "steps"] []
  d_Linear_ahead : ∃ f fd, Meth K C_Linear "ahead" f ∧ C8.Fun K "ahead" "Linear.ahead" s_Linear_ahead f fd ∧ Binds K fd ["self", "steps"] []
  d_Linear_behind : ∃ f fd, Meth K C_Linear "behind" f ∧ C8.Fun K "behind" "Linear.behind" s_Linear_behind f fd ∧ Binds K fd ["self", "steps"] []
  d_Linear___rshift__ : ∃ f fd, Meth K C_Linear "__rshift__" f ∧ C8.Fun K "__rshift__" "Linear.__rshift__" s_Linear___rshift__ f fd ∧ Binds K fd ["self", "other"] []
  d_Linear___lshift__ : ∃ f fd, Meth K C_Linear "__lshift__" f ∧ C8.Fun K "__lshift__" "Linear.__lshift__" s_Linear___lshift__ f fd ∧ Binds K fd ["self", "other"] []
  d_Linear_copy : ∃ f fd, Meth K C_Linear "copy" f ∧ C8.Fun K "copy" "Linear.copy" s_Linear_copy f fd ∧ Binds K fd ["self"] []
  d_Linear_same_state : ∃ f fd, Meth K C_Linear "same_state" f ∧ C8.Fun K "same_state" "Linear.same_state" s_Linear_same_state f fd ∧ Binds K fd ["self", "other"] []
  d_Linear_state_after : ∃ f fd, Gx.SAt K C_Linear "state_after" f ∧ C8.Fun K "state_after" "Linear.state_after" s_Linear_state_after f fd ∧ Binds K fd ["state", "steps"] []
  d__law_begun : ∃ f fd, C8.Def K mg "_law_begun" s__law_begun f fd ∧ Binds K fd ["_law_script"] []
  d__law_next : ∃ f fd, C8.Def K mg "_law_next" s__law_next f fd ∧ Binds K fd ["_law_draw", "_law_below"] []
  d__law_x : ∃ f fd, C8.Def K mg "_law_x" s__law_x f fd ∧ Binds K fd ["_law_draw"] []
  d__law_steps : ∃ f fd, C8.Def K mg "_law_steps" s__law_steps f fd ∧ Binds K fd ["_law_draw"] []
  d__law_digits : ∃ f fd, C8.Def K mg "_law_digits" s__law_digits f fd ∧ Binds K fd ["_law_number"] []
  d__law_map : ∃ f fd, C8.Def K mg "_law_map" s__law_map f fd ∧ Binds K fd ["_law_steps_here"] []
  d__law_moved : ∃ f fd, C8.Def K mg "_law_moved" s__law_moved f fd ∧ Binds K fd ["_law_x_here", "_law_steps_here"] []
  d__law_ways_right : ∃ f fd, C8.Def K mg "_law_ways_right" s__law_ways_right f fd ∧ Binds K fd ["_law_x_here", "_law_steps_here"] []
  d__law_small_right : ∃ f fd, C8.Def K mg "_law_small_right" s__law_small_right f fd ∧ Binds K fd ["_law_x_here", "_law_steps_here"] []
  d_law : ∃ f fd, C8.Def K mg "law" s_law f fd ∧ Binds K fd ["_law_script"] [] ∧ ∀ (s : Shared) (v : Value), BindsTo s fd ⟨[v], []⟩ [("_law_script", v)]
  c_MOST_STEPS : ∃ u, mg "MOST_STEPS" = some u ∧ RelV (.int 18446744073709551616) u
  c_MOST_WORDS : ∃ u, mg "MOST_WORDS" = some u ∧ RelV (.int 1000000) u
  c_MODULUS : ∃ u, mg "MODULUS" = some u ∧ RelV (.int 281474976710656) u
  c_MULTIPLIER : ∃ u, mg "MULTIPLIER" = some u ∧ RelV (.int 205891132094649) u
  c_ADDEND : ∃ u, mg "ADDEND" = some u ∧ RelV (.int 11) u
  c_LOW_WORD : ∃ u, mg "LOW_WORD" = some u ∧ RelV (.int 65536) u
  k_Linear : ∃ u, mg "Linear" = some u ∧ RelV (.ref C_Linear) u
  cl_Linear : Cls K C_Linear
  is_Linear : C8.InsC K C_Linear
  n_Linear_s2_x : NoAttr K C_Linear "s2_x"
  o_Linear_rshift : Gx.OwnOp K C_Linear "rshift"
  o_Linear_lshift : Gx.OwnOp K C_Linear "lshift"
  b_isinstance : mg "isinstance" = none
  b_int : mg "int" = none
  b_bool : mg "bool" = none
  b_tuple : mg "tuple" = none
  b_list : mg "list" = none
  b_range : mg "range" = none
  b_enumerate : mg "enumerate" = none
  b_len : mg "len" = none
  b_max : mg "max" = none
  b_min : mg "min" = none
  b_repr : mg "repr" = none
section
variable {P : Program} {w : World} {K : PySem.W.Frag} {mg : Str → Option Value} {base : Heap} {C_Linear : Addr}
local macro_rules | `(tactic| walk_at "side") => `(tactic| first | ((with_reducible show L2.CMul _ _); first | exact Or.inl ⟨by omega, by omega⟩ | exact Or.inr ⟨by omega, by omega⟩) | ((with_reducible show L2.CPow _ _); exact ⟨by decide, by decide, by decide⟩) | ((with_reducible show L2.CMulW _ _); exact wide_mul (a := 96) (b := 96) (by omega) (by omega) (by decide) (by decide) (by decide)) | ((with_reducible show L2.CDivW _ _); exact wide_div (b := 96) (by omega) (by omega) (by decide) (by decide)) | (show (0 : Int) < _; omega) | (show (0 : Int) ≤ _; omega))
local macro_rules | `(tactic| walk_at "rd1") => `(tactic| first | with_reducible refine Rd.seq ?_ | with_reducible refine Rd.asg ?_ | with_reducible refine Rd.nm ?_ | with_reducible refine Rd.ret ?_ | with_reducible refine Rd.drop ?_ | with_reducible refine Rd.ifs ?_ | with_reducible refine Rd.par ?_ | with_reducible refine Rd.par3 ?_ | with_reducible refine Rd.next ?_ | with_reducible refine Rd.fr1 ?_ | with_reducible refine Rd.nxp ?_ | with_reducible refine Rd.rtp ?_ | ((with_reducible show tVar _ _ _ _); refine Rd.var rfl ?_) | with_reducible refine Rd.cst ?_ | with_reducible refine Rd.op ?_ | with_reducible refine Rd.un ?_ | with_reducible refine Rd.i0 ?_ | with_reducible refine Rd.ung ?_ | with_reducible refine Rd.eqI ?_ | with_reducible refine Rd.neI ?_ | with_reducible refine Rd.eqS ?_ | with_reducible refine Rd.neS ?_ | with_reducible refine Rd.test ?_ | with_reducible refine Rd.tstB ?_ | with_reducible refine Rd.isB ?_ | with_reducible refine Rd.not ?_ | with_reducible refine Rd.andT ?_ | with_reducible refine Rd.orT ?_ | with_reducible refine Rd.andV ?_ | with_reducible refine Rd.orV ?_ | with_reducible refine Rd.notV ?_ | with_reducible refine Rd.ifE ?_ | with_reducible refine Rd.chain ?_ | with_reducible refine Rd.nil ?_ | with_reducible refine Rd.cons ?_ | with_reducible refine Rd.call ?_ | with_reducible refine Rd.cb ?_ | with_reducible refine Rd.bm ?_ | with_reducible refine Rd.revL ?_ | with_reducible refine Rd.frl ?_ | with_reducible refine Rd.frt ?_ | with_reducible refine Rd.fre ?_ | with_reducible refine Rd.disp ?_ | with_reducible refine Rd.pnil ?_ | with_reducible refine Rd.pcons ?_ | with_reducible refine Rd.gcons ?_ | with_reducible refine Rd.gnil ?_ | with_reducible refine Rd.gsub ?_ | with_reducible refine Rd.setD ?_ | ((with_reducible show gTup _ _ _ _ _ (upd _ _ (HO.tup _)) _); refine Rd.tupNew rfl ?_) | with_reducible refine Rd.fld ?_ | with_reducible refine Rd.meth ?_ | with_reducible refine Rd.make ?_ | with_reducible refine Rd.prop ?_ | with_reducible refine Rd.tup ?_ | with_reducible refine Rd.lst ?_ | ((with_reducible show (List.length _ ≤ sizeLine ∧ ∀ p, _ = none → _)); refine ⟨Nat.le_of_ble_eq_true rfl, ?_⟩) | with_reducible refine Rd.isInt ?_ | with_reducible refine Rd.isBool ?_ | with_reducible refine Rd.mx2 ?_ | with_reducible refine Rd.mn2 ?_ | ((with_reducible show Rd.rAndM _ _ _ _); first | refine Rd.and1 ?_ | refine Rd.and48 ?_ | refine Rd.and32 ?_ | refine Rd.and64 ?_ | refine Rd.and65 ?_) | ((with_reducible refine Rd.iC ?hc ?_); (case hc => walk_at "side")) | ((with_reducible refine Rd.yes ?hc ?_); (case hc => omega)) | ((with_reducible refine Rd.no ?hc ?_); (case hc => omega)) | ((with_reducible refine Rd.noN ?hc ?_); (case hc => omega)) | ((with_reducible refine Rd.yesN ?hc ?_); (case hc => omega)) | ((with_reducible refine Rd.yesNN ?hc ?_); (case hc => omega)) | ((with_reducible refine Rd.noNN ?hc ?_); (case hc => omega)) | with_reducible refine iteT ?_ | with_reducible refine iteF ?_ | with_reducible refine Rd.iteNT ?_ | with_reducible refine Rd.iteNF ?_)
local macro_rules | `(tactic| walk_at "rd") => `(tactic| repeat (walk_at "rd1"))
/-! ### the program -/
def spIsInt : Sp := fun vs H Q _ => ∃ n : Int, vs = [.int n] ∧ Q (.bl true) H
theorem cal_is_integer (T : Txt K mg C_Linear) : C8.Cal P w K mg base 1 "is_integer" spIsInt [] := by
  obtain ⟨f, fd, F, b⟩ := T.d_is_integer
  refine C8.cal0 F b .nil sc_is_integer (fun vs H Q E h => ?_) (fun cdv A outer s H vs Q E hr h => ?_)
  · obtain ⟨n, rfl, _⟩ := h; rfl
  · obtain ⟨n, rfl, q⟩ := h
    refine ⟨_, (pss_one (ps_ret (pe_and (pe_callB call_isi (by rfl) T.b_isinstance (by decide +kernel) (pa_cons (pv 0) (pa_cons (pe_bltn (v := .ty "int") (by rfl) T.b_int (by decide +kernel) rfl) pa_nil))) (pe_one (pe_not (pe_callB call_isi (by rfl) T.b_isinstance (by decide +kernel) (pa_cons (pv 0) (pa_cons (pe_bltn (v := .ty "bool") (by rfl) T.b_bool (by decide +kernel) rfl) pa_nil)))))))), ?_⟩
    walk_at "rd"
    exact q
theorem u_isInt {n : Int} {H : Hp} {Q : VK} {E : XK} (h : Q (.bl true) H) : spIsInt ([.int n] ++ []) H Q E := ⟨n, rfl, h⟩
local macro_rules | `(tactic| walk_at "rd1") => `(tactic| with_reducible refine u_isInt ?_)
/-- no answer but None, where the number lies in its bounds -/
def spNeed (lo hi : Int) : Sp := fun vs H Q _ => ∃ n : Int, vs = [.int n] ∧ lo ≤ n ∧ n ≤ hi ∧ Q .non H
theorem u_need {lo hi n : Int} {H : Hp} {Q : VK} {E : XK} (h1 : lo ≤ n) (h2 : n ≤ hi) (h : Q .non H) : spNeed lo hi ([.int n] ++ []) H Q E := ⟨n, rfl, h1, h2, h⟩
local macro_rules | `(tactic| walk_at "rd1") => `(tactic| ((with_reducible show spNeed _ _ _ _ _ _); refine u_need (by omega) (by omega) ?_))
theorem cal_need_steps (T : Txt K mg C_Linear) : C8.Cal P w K mg base 2 "need_steps" (spNeed 0 18446744073709551616) [] := by
  obtain ⟨f, fd, F, b⟩ := T.d_need_steps
  refine C8.cal0 F b .nil sc_need_steps (fun vs H Q E h => ?_) (fun cdv A outer s H vs Q E hr h => ?_)
  · obtain ⟨n, rfl, _⟩ := h; rfl
  · obtain ⟨n, rfl, h1, h2, q⟩ := h
    refine ⟨_, (pss_one (ps_if (PW.pt (pw_or (pt_not (pt_val (C8.pe_c (cal_is_integer T) hr (by omega) (by rfl) (pa_cons (pv 0) pa_nil)))) (pw_or1 (pt_not (pt_chain op_le op_le pe_int (pv 0) (C8.pe_gc (by rfl) T.c_MOST_STEPS)))))) pss_never pss_nil)), ?_⟩
    walk_at "rd"
    exact q
theorem cal_need_many (T : Txt K mg C_Linear) : C8.Cal P w K mg base 2 "need_many" (spNeed 0 1000000) [] := by
  obtain ⟨f, fd, F, b⟩ := T.d_need_many
  refine C8.cal0 F b .nil sc_need_many (fun vs H Q E h => ?_) (fun cdv A outer s H vs Q E hr h => ?_)
  · obtain ⟨n, rfl, _⟩ := h; rfl
  · obtain ⟨n, rfl, h1, h2, q⟩ := h
    refine ⟨_, (pss_one (ps_if (PW.pt (pw_or (pt_not (pt_val (C8.pe_c (cal_is_integer T) hr (by omega) (by rfl) (pa_cons (pv 0) pa_nil)))) (pw_or1 (pt_not (pt_chain op_le op_le pe_int (pv 0) (C8.pe_gc (by rfl) T.c_MOST_WORDS)))))) pss_never pss_nil)), ?_⟩
    walk_at "rd"
    exact q
def spIsNum : Sp := fun vs H Q _ => ∃ n : Int, vs = [.int n] ∧ 0 ≤ n ∧ n < 281474976710656 ∧ Q (.bl true) H
theorem cal_s2_is_number (T : Txt K mg C_Linear) : C8.Cal P w K mg base 2 "s2_is_number" spIsNum [] := by
  obtain ⟨f, fd, F, b⟩ := T.d_s2_is_number
  refine C8.cal0 F b .nil sc_s2_is_number (fun vs H Q E h => ?_) (fun cdv A outer s H vs Q E hr h => ?_)
  · obtain ⟨n, rfl, _⟩ := h; rfl
  · obtain ⟨n, rfl, h1, h2, q⟩ := h
    refine ⟨_, (pss_one (ps_ret (pe_and (C8.pe_c (cal_is_integer T) hr (by omega) (by rfl) (pa_cons (pv 0) pa_nil)) (pe_one (pe_chain op_le op_lt pe_int (pv 0) (C8.pe_gc (by rfl) T.c_MODULUS)))))), ?_⟩
    walk_at "rd"
    rw [decide_eq_true h2]
    exact q
theorem u_isNum {n : Int} {H : Hp} {Q : VK} {E : XK} (h1 : 0 ≤ n) (h2 : n < 281474976710656) (h : Q (.bl true) H) : spIsNum ([.int n] ++ []) H Q E := ⟨n, rfl, h1, h2, h⟩
local macro_rules | `(tactic| walk_at "rd1") => `(tactic| ((with_reducible show spIsNum _ _ _ _); refine u_isNum (by omega) (by omega) ?_))
theorem cal_s2_need_start (T : Txt K mg C_Linear) : C8.Cal P w K mg base 3 "s2_need_start" (spNeed 0 281474976710655) [] := by
  obtain ⟨f, fd, F, b⟩ := T.d_s2_need_start
  refine C8.cal0 F b .nil sc_s2_need_start (fun vs H Q E h => ?_) (fun cdv A outer s H vs Q E hr h => ?_)
  · obtain ⟨n, rfl, _⟩ := h; rfl
  · obtain ⟨n, rfl, h1, h2, q⟩ := h
    refine ⟨_, (pss_one (ps_if (pt_not (pt_val (C8.pe_c (cal_s2_is_number T) hr (by omega) (by rfl) (pa_cons (pv 0) pa_nil)))) pss_never pss_nil)), ?_⟩
    walk_at "rd"
    exact q
/-- maps of steps as tuples -/
def MapAt (K : PySem.W.Frag) (H : Hp) (a : Addr) (n : Nat) : Prop := SqT K H a [.int (ML.m1 n), .int (ML.m2 n)]
def spJoined (K : PySem.W.Frag) : Sp := fun vs H Q _ => ∃ (a b : Addr) (n m : Nat), vs = [.ref a, .ref b] ∧ MapAt K H a n ∧ MapAt K H b m ∧
  ∀ t, H t = none → Q (.ref t) (upd H t (.tup [.int (ML.m1 (n + m)), .int (ML.m2 (n + m))]))
theorem cal_s2_joined (T : Txt K mg C_Linear) : C8.Cal P w K mg base 1 "s2_joined" (spJoined K) [] := by
  obtain ⟨f, fd, F, b⟩ := T.d_s2_joined
  refine C8.cal0 F b .nil sc_s2_joined (fun vs H Q E h => ?_) (fun cdv A outer s H vs Q E hr h => ?_)
  · obtain ⟨a, c, n, m, rfl, _⟩ := h; rfl
  · obtain ⟨a, c, n, m, rfl, ha, hc, q⟩ := h
    have r1 := ML.m1_rng n
    have r2 := ML.m2_rng n
    have r3 := ML.m1_rng m
    have r4 := ML.m2_rng m
    refine ⟨_, (pss_one (ps_ret (pe_tup (pa_cons (pe_op Rd.op_andM (pe_op op_mul (pe_ix ix_tup (pv 0) pe_int (fun _ _ => rfl)) (pe_ix ix_tup (pv 1) pe_int (fun _ _ => rfl))) (pe_op op_sub (C8.pe_gc (by rfl) T.c_MODULUS) pe_int)) (pa_cons (pe_op Rd.op_andM (pe_op op_add (pe_op op_mul (pe_ix ix_tup (pv 0) pe_int (fun _ _ => rfl)) (pe_ix ix_tup (pv 1) pe_int (fun _ _ => rfl))) (pe_ix ix_tup (pv 1) pe_int (fun _ _ => rfl))) (pe_op op_sub (C8.pe_gc (by rfl) T.c_MODULUS) pe_int)) pa_nil))))), ?_⟩
    walk_at "rd"
    refine Rd.ixT ha rfl ?_
    walk_at "rd"
    refine Rd.ixT hc rfl ?_
    walk_at "rd"
    refine Rd.ixT ha rfl ?_
    walk_at "rd"
    refine Rd.ixT hc rfl ?_
    walk_at "rd"
    refine Rd.ixT hc rfl ?_
    walk_at "rd"
    intro t ht
    rw [ML.join1, ML.join2]
    exact q t ht
def spMapped (K : PySem.W.Frag) : Sp := fun vs H Q _ => ∃ (a : Addr) (n : Nat) (x : Int), vs = [.ref a, .int x] ∧ MapAt K H a n ∧ 0 ≤ x ∧ x < 281474976710656 ∧ Q (.int (ML.mv n x)) H
theorem cal_s2_mapped (T : Txt K mg C_Linear) : C8.Cal P w K mg base 1 "s2_mapped" (spMapped K) [] := by
  obtain ⟨f, fd, F, b⟩ := T.d_s2_mapped
  refine C8.cal0 F b .nil sc_s2_mapped (fun vs H Q E h => ?_) (fun cdv A outer s H vs Q E hr h => ?_)
  · obtain ⟨a, n, x, rfl, _⟩ := h; rfl
  · obtain ⟨a, n, x, rfl, ha, h1, h2, q⟩ := h
    have r1 := ML.m1_rng n
    have r2 := ML.m2_rng n
    refine ⟨_, (pss_one (ps_ret (pe_op Rd.op_andM (pe_op op_add (pe_op op_mul (pe_ix ix_tup (pv 0) pe_int (fun _ _ => rfl)) (pv 1)) (pe_ix ix_tup (pv 0) pe_int (fun _ _ => rfl))) (pe_op op_sub (C8.pe_gc (by rfl) T.c_MODULUS) pe_int)))), ?_⟩
    walk_at "rd"
    refine Rd.ixT ha rfl ?_
    walk_at "rd"
    refine Rd.ixT ha rfl ?_
    walk_at "rd"
    rw [ML.mapped]
    exact q
end
end Pf

set_option Elab.async false
set_option linter.all false
set_option maxRecDepth 100000
set_option maxHeartbeats 4000000
namespace Pf
open PySem PySem.Spec PyProof.Rows L2
section
variable {P : Program} {w : World} {K : PySem.W.Frag} {mg : Str → Option Value} {base : Heap} {C_Linear : Addr}
local macro_rules | `(tactic| walk_at "side") => `(tactic| first | ((with_reducible show L2.CMul _ _); first | exact Or.inl ⟨by omega, by omega⟩ | exact Or.inr ⟨by omega, by omega⟩) | ((with_reducible show L2.CPow _ _); exact ⟨by decide, by decide, by decide⟩) | ((with_reducible show L2.CMulW _ _); exact wide_mul (a := 96) (b := 96) (by omega) (by omega) (by decide) (by decide) (by decide)) | ((with_reducible show L2.CDivW _ _); exact wide_div (b := 96) (by omega) (by omega) (by decide) (by decide)) | (show (0 : Int) < _; omega) | (show (0 : Int) ≤ _; omega))
local macro_rules | `(tactic| walk_at "rd1") => `(tactic| first | with_reducible refine Rd.seq ?_ | with_reducible refine Rd.asg ?_ | with_reducible refine Rd.nm ?_ | with_reducible refine Rd.ret ?_ | with_reducible refine Rd.drop ?_ | with_reducible refine Rd.ifs ?_ | with_reducible refine Rd.par ?_ | with_reducible refine Rd.par3 ?_ | with_reducible refine Rd.next ?_ | with_reducible refine Rd.fr1 ?_ | with_reducible refine Rd.nxp ?_ | with_reducible refine Rd.rtp ?_ | ((with_reducible show tVar _ _ _ _); refine Rd.var rfl ?_) | with_reducible refine Rd.cst ?_ | with_reducible refine Rd.op ?_ | with_reducible refine Rd.un ?_ | with_reducible refine Rd.i0 ?_ | with_reducible refine Rd.ung ?_ | with_reducible refine Rd.eqI ?_ | with_reducible refine Rd.neI ?_ | with_reducible refine Rd.eqS ?_ | with_reducible refine Rd.neS ?_ | with_reducible refine Rd.test ?_ | with_reducible refine Rd.tstB ?_ | with_reducible refine Rd.isB ?_ | with_reducible refine Rd.not ?_ | with_reducible refine Rd.andT ?_ | with_reducible refine Rd.orT ?_ | with_reducible refine Rd.andV ?_ | with_reducible refine Rd.orV ?_ | with_reducible refine Rd.notV ?_ | with_reducible refine Rd.ifE ?_ | with_reducible refine Rd.chain ?_ | with_reducible refine Rd.nil ?_ | with_reducible refine Rd.cons ?_ | with_reducible refine Rd.call ?_ | with_reducible refine Rd.cb ?_ | with_reducible refine Rd.bm ?_ | with_reducible refine Rd.revL ?_ | with_reducible refine Rd.frl ?_ | with_reducible refine Rd.frt ?_ | with_reducible refine Rd.fre ?_ | with_reducible refine Rd.disp ?_ | with_reducible refine Rd.pnil ?_ | with_reducible refine Rd.pcons ?_ | with_reducible refine Rd.gcons ?_ | with_reducible refine Rd.gnil ?_ | with_reducible refine Rd.gsub ?_ | with_reducible refine Rd.setD ?_ | ((with_reducible show gTup _ _ _ _ _ (upd _ _ (HO.tup _)) _); refine Rd.tupNew rfl ?_) | with_reducible refine Rd.fld ?_ | with_reducible refine Rd.meth ?_ | with_reducible refine Rd.make ?_ | with_reducible refine Rd.prop ?_ | with_reducible refine Rd.tup ?_ | with_reducible refine Rd.lst ?_ | ((with_reducible show (List.length _ ≤ sizeLine ∧ ∀ p, _ = none → _)); refine ⟨Nat.le_of_ble_eq_true rfl, ?_⟩) | with_reducible refine Rd.isInt ?_ | with_reducible refine Rd.isBool ?_ | with_reducible refine Rd.mx2 ?_ | with_reducible refine Rd.mn2 ?_ | ((with_reducible show Rd.rAndM _ _ _ _); first | refine Rd.and1 ?_ | refine Rd.and48 ?_ | refine Rd.and32 ?_ | refine Rd.and64 ?_ | refine Rd.and65 ?_) | ((with_reducible refine Rd.iC ?hc ?_); (case hc => walk_at "side")) | ((with_reducible refine Rd.yes ?hc ?_); (case hc => omega)) | ((with_reducible refine Rd.no ?hc ?_); (case hc => omega)) | ((with_reducible refine Rd.noN ?hc ?_); (case hc => omega)) | ((with_reducible refine Rd.yesN ?hc ?_); (case hc => omega)) | ((with_reducible refine Rd.yesNN ?hc ?_); (case hc => omega)) | ((with_reducible refine Rd.noNN ?hc ?_); (case hc => omega)) | with_reducible refine iteT ?_ | with_reducible refine iteF ?_ | with_reducible refine Rd.iteNT ?_ | with_reducible refine Rd.iteNF ?_)
local macro_rules | `(tactic| walk_at "rd") => `(tactic| repeat (walk_at "rd1"))
local macro_rules | `(tactic| walk_at "rd1") => `(tactic| with_reducible refine u_isInt ?_)
local macro_rules | `(tactic| walk_at "rd1") => `(tactic| ((with_reducible show spNeed _ _ _ _ _ _); refine u_need (by omega) (by omega) ?_))
local macro_rules | `(tactic| walk_at "rd1") => `(tactic| ((with_reducible show spIsNum _ _ _ _); refine u_isNum (by omega) (by omega) ?_))
theorem MapAt.ex {H H' : Hp} {a : Addr} {n : Nat} (e : Rd.Ex H H') (h : MapAt K H a n) : MapAt K H' a n := Rd.ex_t e h
def spMap (K : PySem.W.Frag) : Sp := fun vs H Q _ => ∃ n : Int, vs = [.int n] ∧ ∀ t H', Rd.Ex H H' → MapAt K H' t (n % 281474976710656).toNat → Q (.ref t) H'
theorem cal_s2_step_map (T : Txt K mg C_Linear) : C8.Cal P w K mg base 2 "s2_step_map" (spMap K) [] := by
  obtain ⟨f, fd, F, b⟩ := T.d_s2_step_map
  refine C8.cal0 F b .nil sc_s2_step_map (fun vs H Q E h => ?_) (fun cdv A outer s H vs Q E hr h => ?_)
  · obtain ⟨n, rfl, _⟩ := h; rfl
  · obtain ⟨n, rfl, q⟩ := h
    refine ⟨_, (pss_cons (ps_par (i := 1) (j := 2) rfl sc_s2_step_map.nd rfl rfl (by decide) rfl rfl (pa_cons (pe_tup (pa_cons pe_int (pa_cons pe_int pa_nil))) (pa_cons (pe_tup (pa_cons (C8.pe_gc (by rfl) T.c_MULTIPLIER) (pa_cons (C8.pe_gc (by rfl) T.c_ADDEND) pa_nil))) pa_nil)) (by rfl))
      (pss_cons (ps_set (i := 0) sc_s2_step_map.nd rfl (.inl rfl) (pe_op Rd.op_andM (pv 0) (pe_op op_sub (C8.pe_gc (by rfl) T.c_MODULUS) pe_int)))
      (pss_cons (ps_while PassesOwn.never (pt_cmpR op_gt (pv 0) pe_int (nomark _)) (pss_cons (ps_if (pt_cmpR op_eq (pe_op Rd.op_andM (pv 0) pe_int) pe_int (nomark _)) (pss_one (ps_set (i := 1) sc_s2_step_map.nd rfl (.inl rfl) (C8.pe_c (cal_s2_joined T) hr (by omega) (by rfl) (pa_cons (pv 1) (pa_cons (pv 2) pa_nil))))) pss_nil)
      (pss_cons (ps_set (i := 2) sc_s2_step_map.nd rfl (.inl rfl) (C8.pe_c (cal_s2_joined T) hr (by omega) (by rfl) (pa_cons (pv 2) (pa_cons (pv 2) pa_nil))))
      (pss_one (ps_set (i := 0) sc_s2_step_map.nd rfl (.inl rfl) (pe_op op_fdivW (pv 0) pe_int))))))
      (pss_one (ps_ret (pv 1)))))), ?_⟩
    walk_at "rd"
    intro p1 hp1
    walk_at "rd"
    intro p2 hp2
    walk_at "rd"
    refine ⟨_, _, rfl, ?_⟩
    walk_at "rd"
    have x1 : Rd.Ex H (upd H p1 (.tup [.int 1, .int 0])) := Rd.ex_new hp1
    have x2 := x1.trans (Rd.ex_new (o := .tup [.int 205891132094649, .int 11]) hp2)
    have hn : (0 : Int) ≤ n % 281474976710656 := by omega
    refine Rd.whl (fun m σ' H' => ∃ (r : Int) (a c : Nat) (fa pa : Addr), m = r.toNat ∧ σ' = [some (.int r), some (.ref fa), some (.ref pa)] ∧ MapAt K H' fa a ∧ MapAt K H' pa c ∧ Rd.Ex H H' ∧ 0 ≤ r ∧ a + c * r.toNat = (n % 281474976710656).toNat)
      (n % 281474976710656).toNat ⟨n % 281474976710656, 0, 1, p1, p2, rfl, rfl, ?_, ?_, x2, hn, by omega⟩ ?_
    · exact MapAt.ex (Rd.ex_new hp2) (Rd.sqt upd_same)
    · exact Rd.sqt upd_same
    · rintro m σ' H' ⟨r, a, c, fa, pa, rfl, rfl, hf, hp, x, h0, e⟩
      walk_at "rd"
      refine Rd.both (fun c1 => ?_) (fun c1 => ?_)
      · refine ⟨_, fun _ _ z => z, ?_⟩
        walk_at "rd"
        refine Rd.both (fun c2 => ?_) (fun c2 => ?_)
        · walk_at "rd"
          refine ⟨fa, pa, a, c, rfl, hf, hp, fun t ht => ?_⟩
          walk_at "rd"
          have hp' := MapAt.ex (Rd.ex_new (o := .tup [.int (ML.m1 (a + c)), .int (ML.m2 (a + c))]) ht) hp
          refine ⟨pa, pa, c, c, rfl, hp', hp', fun t2 ht2 => ?_⟩
          walk_at "rd"
          refine ⟨(r / 2).toNat, by omega, r / 2, a + c, c + c, t, t2, rfl, rfl, ?_, Rd.sqt upd_same, (x.trans (Rd.ex_new ht)).trans (Rd.ex_new ht2), by omega, ?_⟩
          · exact MapAt.ex (Rd.ex_new ht2) (Rd.sqt upd_same)
          · rw [← e]
            have : r.toNat = 2 * (r / 2).toNat + 1 := by omega
            rw [this]; grind
        · walk_at "rd"
          refine ⟨pa, pa, c, c, rfl, hp, hp, fun t2 ht2 => ?_⟩
          walk_at "rd"
          refine ⟨(r / 2).toNat, by omega, r / 2, a, c + c, fa, t2, rfl, rfl, ?_, Rd.sqt upd_same, x.trans (Rd.ex_new ht2), by omega, ?_⟩
          · exact MapAt.ex (Rd.ex_new ht2) hf
          · rw [← e]
            have : r.toNat = 2 * (r / 2).toNat := by omega
            rw [this]; grind
      · walk_at "rd"
        have : r.toNat = 0 := by omega
        rw [this] at e
        refine q fa H' x ?_
        rw [← e]
        exact hf
def spMoved : Sp := fun vs H Q _ => ∃ x n : Int, vs = [.int x, .int n] ∧ 0 ≤ x ∧ x < 281474976710656 ∧ ∀ H', Rd.Ex H H' → Q (.int (ML.mv (n % 281474976710656).toNat x)) H'
theorem cal_s2_moved (T : Txt K mg C_Linear) : C8.Cal P w K mg base 3 "s2_moved" spMoved [] := by
  obtain ⟨f, fd, F, b⟩ := T.d_s2_moved
  refine C8.cal0 F b .nil sc_s2_moved (fun vs H Q E h => ?_) (fun cdv A outer s H vs Q E hr h => ?_)
  · obtain ⟨x, n, rfl, _⟩ := h; rfl
  · obtain ⟨x, n, rfl, h1, h2, q⟩ := h
    refine ⟨_, (pss_one (ps_ret (C8.pe_c (cal_s2_mapped T) hr (by omega) (by rfl) (pa_cons (C8.pe_c (cal_s2_step_map T) hr (by omega) (by rfl) (pa_cons (pv 1) pa_nil)) (pa_cons (pv 0) pa_nil))))), ?_⟩
    walk_at "rd"
    refine ⟨n, rfl, fun t H' e m => ?_⟩
    walk_at "rd"
    exact ⟨t, _, x, rfl, m, h1, h2, q H' e⟩
end
end Pf

set_option Elab.async false
set_option linter.all false
set_option maxRecDepth 100000
set_option maxHeartbeats 4000000
namespace Pf
open PySem PySem.Spec PyProof.Rows L2
section
variable {P : Program} {w : World} {K : PySem.W.Frag} {mg : Str → Option Value} {base : Heap} {C_Linear : Addr}
local macro_rules | `(tactic| walk_at "side") => `(tactic| first | ((with_reducible show L2.CMul _ _); first | exact Or.inl ⟨by omega, by omega⟩ | exact Or.inr ⟨by omega, by omega⟩) | ((with_reducible show L2.CPow _ _); exact ⟨by decide, by decide, by decide⟩) | ((with_reducible show L2.CMulW _ _); exact wide_mul (a := 96) (b := 96) (by omega) (by omega) (by decide) (by decide) (by decide)) | ((with_reducible show L2.CDivW _ _); exact wide_div (b := 96) (by omega) (by omega) (by decide) (by decide)) | (show (0 : Int) < _; omega) | (show (0 : Int) ≤ _; omega))
local macro_rules | `(tactic| walk_at "rd1") => `(tactic| first | with_reducible refine Rd.seq ?_ | with_reducible refine Rd.asg ?_ | with_reducible refine Rd.nm ?_ | with_reducible refine Rd.ret ?_ | with_reducible refine Rd.drop ?_ | with_reducible refine Rd.ifs ?_ | with_reducible refine Rd.par ?_ | with_reducible refine Rd.par3 ?_ | with_reducible refine Rd.next ?_ | with_reducible refine Rd.fr1 ?_ | with_reducible refine Rd.nxp ?_ | with_reducible refine Rd.rtp ?_ | ((with_reducible show tVar _ _ _ _); refine Rd.var rfl ?_) | with_reducible refine Rd.cst ?_ | with_reducible refine Rd.op ?_ | with_reducible refine Rd.un ?_ | with_reducible refine Rd.i0 ?_ | with_reducible refine Rd.ung ?_ | with_reducible refine Rd.eqI ?_ | with_reducible refine Rd.neI ?_ | with_reducible refine Rd.eqS ?_ | with_reducible refine Rd.neS ?_ | with_reducible refine Rd.test ?_ | with_reducible refine Rd.tstB ?_ | with_reducible refine Rd.isB ?_ | with_reducible refine Rd.not ?_ | with_reducible refine Rd.andT ?_ | with_reducible refine Rd.orT ?_ | with_reducible refine Rd.andV ?_ | with_reducible refine Rd.orV ?_ | with_reducible refine Rd.notV ?_ | with_reducible refine Rd.ifE ?_ | with_reducible refine Rd.chain ?_ | with_reducible refine Rd.nil ?_ | with_reducible refine Rd.cons ?_ | with_reducible refine Rd.call ?_ | with_reducible refine Rd.cb ?_ | with_reducible refine Rd.bm ?_ | with_reducible refine Rd.revL ?_ | with_reducible refine Rd.frl ?_ | with_reducible refine Rd.frt ?_ | with_reducible refine Rd.fre ?_ | with_reducible refine Rd.disp ?_ | with_reducible refine Rd.pnil ?_ | with_reducible refine Rd.pcons ?_ | with_reducible refine Rd.gcons ?_ | with_reducible refine Rd.gnil ?_ | with_reducible refine Rd.gsub ?_ | with_reducible refine Rd.setD ?_ | ((with_reducible show gTup _ _ _ _ _ (upd _ _ (HO.tup _)) _); refine Rd.tupNew rfl ?_) | with_reducible refine Rd.fld ?_ | with_reducible refine Rd.meth ?_ | with_reducible refine Rd.make ?_ | with_reducible refine Rd.prop ?_ | with_reducible refine Rd.tup ?_ | with_reducible refine Rd.lst ?_ | ((with_reducible show (List.length _ ≤ sizeLine ∧ ∀ p, _ = none → _)); refine ⟨Nat.le_of_ble_eq_true rfl, ?_⟩) | with_reducible refine Rd.isInt ?_ | with_reducible refine Rd.isBool ?_ | with_reducible refine Rd.mx2 ?_ | with_reducible refine Rd.mn2 ?_ | ((with_reducible show Rd.rAndM _ _ _ _); first | refine Rd.and1 ?_ | refine Rd.and48 ?_ | refine Rd.and32 ?_ | refine Rd.and64 ?_ | refine Rd.and65 ?_) | ((with_reducible refine Rd.iC ?hc ?_); (case hc => walk_at "side")) | ((with_reducible refine Rd.yes ?hc ?_); (case hc => omega)) | ((with_reducible refine Rd.no ?hc ?_); (case hc => omega)) | ((with_reducible refine Rd.noN ?hc ?_); (case hc => omega)) | ((with_reducible refine Rd.yesN ?hc ?_); (case hc => omega)) | ((with_reducible refine Rd.yesNN ?hc ?_); (case hc => omega)) | ((with_reducible refine Rd.noNN ?hc ?_); (case hc => omega)) | with_reducible refine iteT ?_ | with_reducible refine iteF ?_ | with_reducible refine Rd.iteNT ?_ | with_reducible refine Rd.iteNF ?_)
local macro_rules | `(tactic| walk_at "rd") => `(tactic| repeat (walk_at "rd1"))
local macro_rules | `(tactic| walk_at "rd1") => `(tactic| with_reducible refine u_isInt ?_)
local macro_rules | `(tactic| walk_at "rd1") => `(tactic| ((with_reducible show spNeed _ _ _ _ _ _); refine u_need (by omega) (by omega) ?_))
local macro_rules | `(tactic| walk_at "rd1") => `(tactic| ((with_reducible show spIsNum _ _ _ _); refine u_isNum (by omega) (by omega) ?_))
local macro_rules | `(tactic| walk_at "rd1") => `(tactic| first | with_reducible refine Gx.sfld ?_ | with_reducible refine Gx.lg ?_ | with_reducible refine Gx.mg ?_ | with_reducible refine Gx.sme ?_)
/-! ### linear sources -/
def LinAt (C : Addr) (H : Hp) (a : Addr) (x : Int) : Prop := ∃ dx, H a = some (.ins C dx [("s2_x", .int x)])
theorem LinAt.ex {C : Addr} {H H' : Hp} {a : Addr} {x : Int} (e : Rd.Ex H H') (h : LinAt C H a x) : LinAt C H' a x := by
  obtain ⟨dx, h⟩ := h
  exact ⟨dx, e _ _ h⟩
theorem u_x {T : Txt K mg C_Linear} {H : Hp} {Q : V → Prop} {a : Addr} {x : Int} (h : LinAt C_Linear H a x) (q : Q (.int x)) :
    ∃ a' C' dx' fs' v', V.ref a = .ref a' ∧ H a' = some (.ins C' dx' fs') ∧ Cls K C' ∧ NoAttr K C' "s2_x" ∧ fs'.lookup ("s2_x" : Str) = some v' ∧ Q v' := by
  obtain ⟨dx, h⟩ := h
  exact Rd.fld1 h T.cl_Linear T.n_Linear_s2_x Rd.lk1 q
def spInit (C : Addr) : Sp := fun vs H Q _ => ∃ (p dx : Addr) (x : Int), vs = [.ref p, .int x] ∧ 0 ≤ x ∧ x < 281474976710656 ∧ H p = some (.ins C dx []) ∧ Q .non (upd H p (.ins C dx [("s2_x", .int x)]))
theorem mak_Linear (T : Txt K mg C_Linear) : C8.Mak P w K mg base 4 "Linear" C_Linear (spInit C_Linear) [] := by
  obtain ⟨f, fd, M, F, b⟩ := T.d_Linear___init__
  obtain ⟨u, hu1, hu2⟩ := T.k_Linear
  cases hu2
  refine C8.mak0 M hu1 F b .nil sc_Linear___init__ (fun vs H Q E h => ?_) (fun cdv A outer s H vs Q E hr h => ?_)
  · obtain ⟨p, dx, x, rfl, _⟩ := h; rfl
  · obtain ⟨p, dx, x, rfl, h1, h2, hp, q⟩ := h
    refine ⟨_, (pss_cons (ps_expr (C8.pe_c (cal_s2_need_start T) hr (by omega) (by rfl) (pa_cons (pv 1) pa_nil)))
      (pss_one (ps_fld (pv 0) (pv 1) rfl))), ?_⟩
    walk_at "rd"
    exact ⟨p, C_Linear, dx, [], rfl, hp, T.cl_Linear, T.n_Linear_s2_x, Nat.le_of_ble_eq_true rfl, q⟩
/-- a new source -/
theorem u_mk {C : Addr} {H : Hp} {Q : Addr → Hp → Prop} {E : XK} {n : Int} (h1 : 0 ≤ n) (h2 : n < 281474976710656) (h : ∀ p H', H p = none → Rd.Ex H H' → LinAt C H' p n → Q p H') :
    ∀ x dx, H x = none → H dx = none → dx ≠ x → spInit C (.ref x :: ([.int n] ++ [])) (upd (upd H dx (.own x)) x (.ins C dx [])) (fun v H2 => v = .non ∧ Q x H2) E := fun x dx hx hdx hne =>
  ⟨x, dx, n, rfl, h1, h2, upd_same, rfl, h x _ hx (fun b o e => by
    rw [upd_upd, upd_ne (ne_of_none e hx), upd_ne (ne_of_none e hdx)]
    exact e) ⟨dx, upd_same⟩⟩
def spState (C : Addr) : Sp := fun vs H Q _ => ∃ (p : Addr) (x : Int), vs = [.ref p] ∧ LinAt C H p x ∧ ∀ t, H t = none → Q (.ref t) (upd H t (.tup [.int x]))
theorem prop_Linear_state (T : Txt K mg C_Linear) : Gx.PrpC P w K mg base 1 C_Linear "state" (spState C_Linear) := by
  obtain ⟨p, f, fd, pr, F, b⟩ := T.d_Linear_state
  refine Gx.prp0 T.cl_Linear pr F b sc_Linear_state (fun vs H Q E h => ?_) (fun cdv A outer s H vs Q E hr h => ?_)
  · obtain ⟨p, x, rfl, _⟩ := h; rfl
  · obtain ⟨p, x, rfl, hp, q⟩ := h
    refine ⟨_, (pss_one (ps_ret (pe_tup (pa_cons (pe_fld (pv 0) rfl) pa_nil)))), ?_⟩
    walk_at "rd"
    refine u_x (T := T) hp ?_
    walk_at "rd"
    exact q
def spAhead (C : Addr) (g : Int → Int) : Sp := fun vs H Q _ => ∃ (p : Addr) (x n : Int), vs = [.ref p, .int n] ∧ LinAt C H p x ∧ (0 ≤ x ∧ x < 281474976710656) ∧ (0 ≤ n ∧ n ≤ 18446744073709551616) ∧
  ∀ p' H', H p' = none → Rd.Ex H H' → LinAt C H' p' (ML.mv (g n % 281474976710656).toNat x) → Q (.ref p') H'
theorem met_Linear_ahead (T : Txt K mg C_Linear) : C8.Met P w K mg base 6 C_Linear "ahead" (spAhead C_Linear fun n => n) [] := by
  obtain ⟨f, fd, M, F, b⟩ := T.d_Linear_ahead
  refine C8.met0 T.cl_Linear M F b sc_Linear_ahead (fun vs H Q E h => ?_) (fun cdv A outer s H vs Q E hr h => ?_)
  · obtain ⟨p, x, n, rfl, _⟩ := h; rfl
  · obtain ⟨p, x, n, rfl, hp, ⟨x0, x1⟩, ⟨n0, n1⟩, q⟩ := h
    refine ⟨_, (pss_cons (ps_expr (C8.pe_c (cal_need_steps T) hr (by omega) (by rfl) (pa_cons (pv 1) pa_nil)))
      (pss_one (ps_ret (C8.pe_mk (mak_Linear T) hr (by omega) (by rfl) (pa_cons (C8.pe_c (cal_s2_moved T) hr (by omega) (by rfl) (pa_cons (pe_fld (pv 0) rfl) (pa_cons (pv 1) pa_nil))) pa_nil))))), ?_⟩
    walk_at "rd"
    refine u_x (T := T) hp ?_
    walk_at "rd"
    refine ⟨x, n, rfl, x0, x1, fun H' e => ?_⟩
    have r := ML.mv_rng (n % 281474976710656).toNat x
    walk_at "rd"
    exact u_mk r.1 r.2 fun p' H2 hn e2 l => q p' H2 (e.free hn) (e.trans e2) l
theorem met_Linear_behind (T : Txt K mg C_Linear) : C8.Met P w K mg base 6 C_Linear "behind" (spAhead C_Linear fun n => 0 - n) [] := by
  obtain ⟨f, fd, M, F, b⟩ := T.d_Linear_behind
  refine C8.met0 T.cl_Linear M F b sc_Linear_behind (fun vs H Q E h => ?_) (fun cdv A outer s H vs Q E hr h => ?_)
  · obtain ⟨p, x, n, rfl, _⟩ := h; rfl
  · obtain ⟨p, x, n, rfl, hp, ⟨x0, x1⟩, ⟨n0, n1⟩, q⟩ := h
    refine ⟨_, (pss_cons (ps_expr (C8.pe_c (cal_need_steps T) hr (by omega) (by rfl) (pa_cons (pv 1) pa_nil)))
      (pss_one (ps_ret (C8.pe_mk (mak_Linear T) hr (by omega) (by rfl) (pa_cons (C8.pe_c (cal_s2_moved T) hr (by omega) (by rfl) (pa_cons (pe_fld (pv 0) rfl) (pa_cons (pe_op op_sub pe_int (pv 1)) pa_nil))) pa_nil))))), ?_⟩
    walk_at "rd"
    refine u_x (T := T) hp ?_
    walk_at "rd"
    refine ⟨x, 0 - n, rfl, x0, x1, fun H' e => ?_⟩
    have r := ML.mv_rng ((0 - n) % 281474976710656).toNat x
    walk_at "rd"
    exact u_mk r.1 r.2 fun p' H2 hn e2 l => q p' H2 (e.free hn) (e.trans e2) l
def spSame (C : Addr) : Sp := fun vs H Q _ => ∃ (p o : Addr) (x y : Int), vs = [.ref p, .ref o] ∧ LinAt C H p x ∧ LinAt C H o y ∧ Q (.bl (decide (x = y))) H
theorem met_Linear_same_state (T : Txt K mg C_Linear) : C8.Met P w K mg base 1 C_Linear "same_state" (spSame C_Linear) [] := by
  obtain ⟨f, fd, M, F, b⟩ := T.d_Linear_same_state
  refine C8.met0 T.cl_Linear M F b sc_Linear_same_state (fun vs H Q E h => ?_) (fun cdv A outer s H vs Q E hr h => ?_)
  · obtain ⟨p, o, x, y, rfl, _⟩ := h; rfl
  · obtain ⟨p, o, x, y, rfl, hp, ho, q⟩ := h
    refine ⟨_, (pss_one (ps_ret (pe_and (pe_callB call_isi (by rfl) T.b_isinstance (by decide +kernel) (pa_cons (pv 1) (pa_cons (C8.pe_gc (by rfl) T.k_Linear) pa_nil))) (pe_one (pe_cmpR op_eq (pe_fld (pv 0) rfl) (pe_fld (pv 1) rfl) (nomark _)))))), ?_⟩
    walk_at "rd"
    obtain ⟨dy, hy⟩ := id ho
    refine Rd.isOwn T.is_Linear hy ?_
    walk_at "rd"
    refine u_x (T := T) hp ?_
    walk_at "rd"
    refine u_x (T := T) ho ?_
    walk_at "rd"
    exact q
def ExP (p : Addr) (H H' : Hp) : Prop := ∀ c o, H c = some o → c ≠ p → H' c = some o
theorem ExP.of {p : Addr} {H H' : Hp} (e : Rd.Ex H H') : ExP p H H' := fun c o h _ => e c o h
theorem ExP.trans {p : Addr} {H H1 H2 : Hp} (a : ExP p H H1) (b : ExP p H1 H2) : ExP p H H2 := fun c o h n => b c o (a c o h n) n
theorem ExP.put {p : Addr} {H H' : Hp} {o : HO} (e : ExP p H H') : ExP p H (upd H' p o) := fun c z h n => by rw [upd_ne n]; exact e c z h n
theorem ExP.ex {p : Addr} {H H1 H2 : Hp} (e : Rd.Ex H H1) (hp : H p = none) (m : ExP p H1 H2) : Rd.Ex H H2 := fun c o h => m c o (e c o h) (ne_of_none h hp)
theorem ExP.lin {C p c : Addr} {H H' : Hp} {y : Int} (m : ExP p H H') (h : LinAt C H c y) (n : c ≠ p) : LinAt C H' c y := by
  obtain ⟨dx, h⟩ := h
  exact ⟨dx, m _ _ h n⟩
theorem LinAt.ne_t {C p c : Addr} {H : Hp} {x : Int} {xs : List V} (l : LinAt C H p x) (h : H c = some (.tup xs)) : c ≠ p := by
  obtain ⟨dx, l⟩ := l
  exact ne_of h l (fun z => by cases z)
theorem LinAt.ne_l {C p c : Addr} {H : Hp} {x : Int} {xs : List V} (l : LinAt C H p x) (h : H c = some (.lst xs)) : c ≠ p := by
  obtain ⟨dx, l⟩ := l
  exact ne_of h l (fun z => by cases z)
theorem LinAt.ne_n {C p c : Addr} {H : Hp} {x : Int} (l : LinAt C H p x) (h : H c = none) : p ≠ c := by
  obtain ⟨dx, l⟩ := l
  exact ne_of_none l h
theorem u_meth {R : Prop} {C : Addr} {H : Hp} {p : Addr} {x : Int} {m : Str} (h : LinAt C H p x) (hm : ¬ m = ("s2_x" : Str)) (r : R) : ∃ a dx fs, V.ref p = .ref a ∧ H a = some (.ins C dx fs) ∧ fs.lookup m = none ∧ R := by
  obtain ⟨dx, h⟩ := h
  exact ⟨p, dx, _, rfl, h, Rd.lk_ne hm, r⟩
theorem u_go {C : Addr} {g : Int → Int} {H : Hp} {Q : VK} {E : XK} {p : Addr} {x n : Int} (h : LinAt C H p x) (hx : 0 ≤ x ∧ x < 281474976710656) (hn : 0 ≤ n ∧ n ≤ 18446744073709551616)
    (q : ∀ p' H', H p' = none → Rd.Ex H H' → LinAt C H' p' (ML.mv (g n % 281474976710656).toNat x) → Q (.ref p') H') : spAhead C g (.ref p :: ([.int n] ++ [])) H Q E := ⟨p, x, n, rfl, h, hx, hn, q⟩
theorem met_Linear___rshift__ (T : Txt K mg C_Linear) : C8.Met P w K mg base 7 C_Linear "__rshift__" (spAhead C_Linear fun n => n) [] := by
  obtain ⟨f, fd, M, F, b⟩ := T.d_Linear___rshift__
  refine C8.met0 T.cl_Linear M F b sc_Linear___rshift__ (fun vs H Q E h => ?_) (fun cdv A outer s H vs Q E hr h => ?_)
  · obtain ⟨p, x, n, rfl, _⟩ := h; rfl
  · obtain ⟨p, x, n, rfl, hp, hx, hn, q⟩ := h
    refine ⟨_, (pss_one (ps_ret (C8.pe_mt (met_Linear_ahead T) hr (by omega) (pv 0) (pa_cons (pv 1) pa_nil)))), ?_⟩
    walk_at "rd"
    refine u_meth hp (by decide +kernel) ?_
    walk_at "rd"
    exact u_go hp hx hn q
theorem met_Linear___lshift__ (T : Txt K mg C_Linear) : C8.Met P w K mg base 7 C_Linear "__lshift__" (spAhead C_Linear fun n => 0 - n) [] := by
  obtain ⟨f, fd, M, F, b⟩ := T.d_Linear___lshift__
  refine C8.met0 T.cl_Linear M F b sc_Linear___lshift__ (fun vs H Q E h => ?_) (fun cdv A outer s H vs Q E hr h => ?_)
  · obtain ⟨p, x, n, rfl, _⟩ := h; rfl
  · obtain ⟨p, x, n, rfl, hp, hx, hn, q⟩ := h
    refine ⟨_, (pss_one (ps_ret (C8.pe_mt (met_Linear_behind T) hr (by omega) (pv 0) (pa_cons (pv 1) pa_nil)))), ?_⟩
    walk_at "rd"
    refine u_meth hp (by decide +kernel) ?_
    walk_at "rd"
    exact u_go hp hx hn q
def spCopy (C : Addr) : Sp := fun vs H Q _ => ∃ (p : Addr) (x : Int), vs = [.ref p] ∧ LinAt C H p x ∧ (0 ≤ x ∧ x < 281474976710656) ∧ ∀ p' H', H p' = none → Rd.Ex H H' → LinAt C H' p' x → Q (.ref p') H'
theorem met_Linear_copy (T : Txt K mg C_Linear) : C8.Met P w K mg base 6 C_Linear "copy" (spCopy C_Linear) [] := by
  obtain ⟨f, fd, M, F, b⟩ := T.d_Linear_copy
  refine C8.met0 T.cl_Linear M F b sc_Linear_copy (fun vs H Q E h => ?_) (fun cdv A outer s H vs Q E hr h => ?_)
  · obtain ⟨p, x, rfl, _⟩ := h; rfl
  · obtain ⟨p, x, rfl, hp, hx, q⟩ := h
    refine ⟨_, (pss_one (ps_ret (C8.pe_mk (mak_Linear T) hr (by omega) (by rfl) (pa_cons (pe_fld (pv 0) rfl) pa_nil)))), ?_⟩
    walk_at "rd"
    refine u_x (T := T) hp ?_
    walk_at "rd"
    exact u_mk hx.1 hx.2 q
def spJump (C : Addr) (g : Int → Int) : Sp := fun vs H Q _ => ∃ (p : Addr) (x n : Int), vs = [.ref p, .int n] ∧ LinAt C H p x ∧ (0 ≤ x ∧ x < 281474976710656) ∧ (0 ≤ n ∧ n ≤ 18446744073709551616) ∧
  ∀ H', ExP p H H' → LinAt C H' p (ML.mv (g n % 281474976710656).toNat x) → Q .non H'
theorem met_Linear_jump (T : Txt K mg C_Linear) : C8.Met P w K mg base 6 C_Linear "jump" (spJump C_Linear fun n => n) [] := by
  obtain ⟨f, fd, M, F, b⟩ := T.d_Linear_jump
  refine C8.met0 T.cl_Linear M F b sc_Linear_jump (fun vs H Q E h => ?_) (fun cdv A outer s H vs Q E hr h => ?_)
  · obtain ⟨p, x, n, rfl, _⟩ := h; rfl
  · obtain ⟨p, x, n, rfl, hp, ⟨x0, x1⟩, ⟨n0, n1⟩, q⟩ := h
    refine ⟨_, (pss_cons (ps_expr (C8.pe_c (cal_need_steps T) hr (by omega) (by rfl) (pa_cons (pv 1) pa_nil)))
      (pss_one (ps_fld (pv 0) (C8.pe_c (cal_s2_moved T) hr (by omega) (by rfl) (pa_cons (pe_fld (pv 0) rfl) (pa_cons (pv 1) pa_nil))) rfl))), ?_⟩
    walk_at "rd"
    refine u_x (T := T) hp ?_
    walk_at "rd"
    refine ⟨x, n, rfl, x0, x1, fun H' e => ?_⟩
    walk_at "rd"
    obtain ⟨dx, hp'⟩ := id (hp.ex e)
    exact ⟨p, C_Linear, dx, _, rfl, hp', T.cl_Linear, T.n_Linear_s2_x, Nat.le_of_ble_eq_true rfl, q _ (ExP.of e).put ⟨dx, by rw [upd_same]; rfl⟩⟩
theorem met_Linear_back (T : Txt K mg C_Linear) : C8.Met P w K mg base 6 C_Linear "back" (spJump C_Linear fun n => 0 - n) [] := by
  obtain ⟨f, fd, M, F, b⟩ := T.d_Linear_back
  refine C8.met0 T.cl_Linear M F b sc_Linear_back (fun vs H Q E h => ?_) (fun cdv A outer s H vs Q E hr h => ?_)
  · obtain ⟨p, x, n, rfl, _⟩ := h; rfl
  · obtain ⟨p, x, n, rfl, hp, ⟨x0, x1⟩, ⟨n0, n1⟩, q⟩ := h
    refine ⟨_, (pss_cons (ps_expr (C8.pe_c (cal_need_steps T) hr (by omega) (by rfl) (pa_cons (pv 1) pa_nil)))
      (pss_one (ps_fld (pv 0) (C8.pe_c (cal_s2_moved T) hr (by omega) (by rfl) (pa_cons (pe_fld (pv 0) rfl) (pa_cons (pe_op op_sub pe_int (pv 1)) pa_nil))) rfl))), ?_⟩
    walk_at "rd"
    refine u_x (T := T) hp ?_
    walk_at "rd"
    refine ⟨x, 0 - n, rfl, x0, x1, fun H' e => ?_⟩
    walk_at "rd"
    obtain ⟨dx, hp'⟩ := id (hp.ex e)
    exact ⟨p, C_Linear, dx, _, rfl, hp', T.cl_Linear, T.n_Linear_s2_x, Nat.le_of_ble_eq_true rfl, q _ (ExP.of e).put ⟨dx, by rw [upd_same]; rfl⟩⟩
def spWord (C : Addr) : Sp := fun vs H Q _ => ∃ (p : Addr) (x : Int), vs = [.ref p] ∧ LinAt C H p x ∧ (0 ≤ x ∧ x < 281474976710656) ∧ ∀ H', ExP p H H' → LinAt C H' p (ML.mv 1 x) → Q (.int (ML.mv 1 x / 65536)) H'
theorem met_Linear_next_word (T : Txt K mg C_Linear) : C8.Met P w K mg base 1 C_Linear "next_word" (spWord C_Linear) [] := by
  obtain ⟨f, fd, M, F, b⟩ := T.d_Linear_next_word
  refine C8.met0 T.cl_Linear M F b sc_Linear_next_word (fun vs H Q E h => ?_) (fun cdv A outer s H vs Q E hr h => ?_)
  · obtain ⟨p, x, rfl, _⟩ := h; rfl
  · obtain ⟨p, x, rfl, hp, ⟨x0, x1⟩, q⟩ := h
    refine ⟨_, (pss_cons (ps_fld (pv 0) (pe_op Rd.op_andM (pe_op op_add (pe_op op_mul (C8.pe_gc (by rfl) T.c_MULTIPLIER) (pe_fld (pv 0) rfl)) (C8.pe_gc (by rfl) T.c_ADDEND)) (pe_op op_sub (C8.pe_gc (by rfl) T.c_MODULUS) pe_int)) rfl)
      (pss_one (ps_ret (pe_op op_fdivW (pe_fld (pv 0) rfl) (C8.pe_gc (by rfl) T.c_LOW_WORD))))), ?_⟩
    have e1 : (205891132094649 * x + 11) % 281474976710656 = ML.mv 1 x := by rw [← ML.mapped, ML.m_one.1, ML.m_one.2]
    walk_at "rd"
    refine u_x (T := T) hp ?_
    walk_at "rd"
    obtain ⟨dx, hp'⟩ := id hp
    refine ⟨p, C_Linear, dx, _, rfl, hp', T.cl_Linear, T.n_Linear_s2_x, Nat.le_of_ble_eq_true rfl, ?_⟩
    walk_at "rd"
    rw [e1]
    have l1 : LinAt C_Linear (upd H p (.ins C_Linear dx (putF "s2_x" (.int (ML.mv 1 x)) [("s2_x", .int x)]))) p (ML.mv 1 x) := ⟨dx, by rw [upd_same]; rfl⟩
    refine u_x (T := T) l1 ?_
    walk_at "rd"
    exact q _ (ExP.of (fun c o h => h)).put l1
def spNeedState : Sp := fun vs H Q _ => ∃ (a : Addr) (x : Int), vs = [.ref a] ∧ H a = some (.tup [.int x]) ∧ 0 ≤ x ∧ x < 281474976710656 ∧ Q .non H
theorem cal_s2_need_state (T : Txt K mg C_Linear) : C8.Cal P w K mg base 3 "s2_need_state" spNeedState [] := by
  obtain ⟨f, fd, F, b⟩ := T.d_s2_need_state
  refine C8.cal0 F b .nil sc_s2_need_state (fun vs H Q E h => ?_) (fun cdv A outer s H vs Q E hr h => ?_)
  · obtain ⟨a, x, rfl, _⟩ := h; rfl
  · obtain ⟨a, x, rfl, ha, x0, x1, q⟩ := h
    refine ⟨_, (pss_one (ps_if (PW.pt (pw_or (pt_not (pt_val (pe_callB call_isi (by rfl) T.b_isinstance (by decide +kernel) (pa_cons (pv 0) (pa_cons (pe_bltn (v := .ty "tuple") (by rfl) T.b_tuple (by decide +kernel) rfl) pa_nil))))) (pw_or (pt_cmpR op_ne (pe_callB Rd.call_lenQ (by rfl) T.b_len PySem.boot_len (pa_cons (pv 0) pa_nil)) pe_int (nomark _)) (pw_or1 (pt_not (pt_val (C8.pe_c (cal_s2_is_number T) hr (by omega) (by rfl) (pa_cons (pe_ix ix_tup (pv 0) pe_int (fun _ _ => rfl)) pa_nil)))))))) pss_never pss_nil)), ?_⟩
    walk_at "rd"
    refine Gx.isTup ha ?_
    walk_at "rd"
    refine Rd.lenT (Rd.sqt ha) ?_
    walk_at "rd"
    refine Rd.noN rfl ?_
    walk_at "rd"
    refine Rd.ixT (Rd.sqt ha) (v := .int x) rfl ?_
    walk_at "rd"
    exact q
def spAfter : Sp := fun vs H Q _ => ∃ (a : Addr) (x n : Int), vs = [.ref a, .int n] ∧ H a = some (.tup [.int x]) ∧ (0 ≤ x ∧ x < 281474976710656) ∧ (0 ≤ n ∧ n ≤ 18446744073709551616) ∧
  ∀ t H', H t = none → Rd.Ex H H' → H' t = some (.tup [.int (ML.mv (n % 281474976710656).toNat x)]) → Q (.ref t) H'
theorem smet_Linear_state_after (T : Txt K mg C_Linear) : Gx.SMet P w K mg base 5 C_Linear "state_after" spAfter := by
  obtain ⟨f, fd, M, F, b⟩ := T.d_Linear_state_after
  refine Gx.smet0 M F b sc_Linear_state_after (fun vs H Q E h => ?_) (fun cdv A outer s H vs Q E hr h => ?_)
  · obtain ⟨a, x, n, rfl, _⟩ := h; rfl
  · obtain ⟨a, x, n, rfl, ha, ⟨x0, x1⟩, ⟨n0, n1⟩, q⟩ := h
    refine ⟨_, (pss_cons (ps_expr (C8.pe_c (cal_s2_need_state T) hr (by omega) (by rfl) (pa_cons (pv 0) pa_nil)))
      (pss_cons (ps_expr (C8.pe_c (cal_need_steps T) hr (by omega) (by rfl) (pa_cons (pv 1) pa_nil)))
      (pss_one (ps_ret (pe_tup (pa_cons (C8.pe_c (cal_s2_moved T) hr (by omega) (by rfl) (pa_cons (pe_ix ix_tup (pv 0) pe_int (fun _ _ => rfl)) (pa_cons (pv 1) pa_nil))) pa_nil)))))), ?_⟩
    walk_at "rd"
    refine ⟨a, x, rfl, ha, x0, x1, ?_⟩
    walk_at "rd"
    refine Rd.ixT (Rd.sqt ha) (v := .int x) rfl ?_
    walk_at "rd"
    refine ⟨x, n, rfl, x0, x1, fun H' e => ?_⟩
    walk_at "rd"
    intro t ht
    exact q t _ (e.free ht) (e.trans (Rd.ex_new ht)) upd_same
end
end Pf

set_option Elab.async false
set_option linter.all false
set_option maxRecDepth 100000
set_option maxHeartbeats 4000000
namespace Pf
open PySem PySem.Spec PyProof.Rows L2
section
variable {P : Program} {w : World} {K : PySem.W.Frag} {mg : Str → Option Value} {base : Heap} {C_Linear : Addr}
local macro_rules | `(tactic| walk_at "side") => `(tactic| first | ((with_reducible show L2.CMul _ _); first | exact Or.inl ⟨by omega, by omega⟩ | exact Or.inr ⟨by omega, by omega⟩) | ((with_reducible show L2.CPow _ _); exact ⟨by decide, by decide, by decide⟩) | ((with_reducible show L2.CMulW _ _); exact wide_mul (a := 96) (b := 96) (by omega) (by omega) (by decide) (by decide) (by decide)) | ((with_reducible show L2.CDivW _ _); exact wide_div (b := 96) (by omega) (by omega) (by decide) (by decide)) | (show (0 : Int) < _; omega) | (show (0 : Int) ≤ _; omega))
local macro_rules | `(tactic| walk_at "rd1") => `(tactic| first | with_reducible refine Rd.seq ?_ | with_reducible refine Rd.asg ?_ | with_reducible refine Rd.nm ?_ | with_reducible refine Rd.ret ?_ | with_reducible refine Rd.drop ?_ | with_reducible refine Rd.ifs ?_ | with_reducible refine Rd.par ?_ | with_reducible refine Rd.par3 ?_ | with_reducible refine Rd.next ?_ | with_reducible refine Rd.fr1 ?_ | with_reducible refine Rd.nxp ?_ | with_reducible refine Rd.rtp ?_ | ((with_reducible show tVar _ _ _ _); refine Rd.var rfl ?_) | with_reducible refine Rd.cst ?_ | with_reducible refine Rd.op ?_ | with_reducible refine Rd.un ?_ | with_reducible refine Rd.i0 ?_ | with_reducible refine Rd.ung ?_ | with_reducible refine Rd.eqI ?_ | with_reducible refine Rd.neI ?_ | with_reducible refine Rd.eqS ?_ | with_reducible refine Rd.neS ?_ | with_reducible refine Rd.test ?_ | with_reducible refine Rd.tstB ?_ | with_reducible refine Rd.isB ?_ | with_reducible refine Rd.not ?_ | with_reducible refine Rd.andT ?_ | with_reducible refine Rd.orT ?_ | with_reducible refine Rd.andV ?_ | with_reducible refine Rd.orV ?_ | with_reducible refine Rd.notV ?_ | with_reducible refine Rd.ifE ?_ | with_reducible refine Rd.chain ?_ | with_reducible refine Rd.nil ?_ | with_reducible refine Rd.cons ?_ | with_reducible refine Rd.call ?_ | with_reducible refine Rd.cb ?_ | with_reducible refine Rd.bm ?_ | with_reducible refine Rd.revL ?_ | with_reducible refine Rd.frl ?_ | with_reducible refine Rd.frt ?_ | with_reducible refine Rd.fre ?_ | with_reducible refine Rd.disp ?_ | with_reducible refine Rd.pnil ?_ | with_reducible refine Rd.pcons ?_ | with_reducible refine Rd.gcons ?_ | with_reducible refine Rd.gnil ?_ | with_reducible refine Rd.gsub ?_ | with_reducible refine Rd.setD ?_ | ((with_reducible show gTup _ _ _ _ _ (upd _ _ (HO.tup _)) _); refine Rd.tupNew rfl ?_) | with_reducible refine Rd.fld ?_ | with_reducible refine Rd.meth ?_ | with_reducible refine Rd.make ?_ | with_reducible refine Rd.prop ?_ | with_reducible refine Rd.tup ?_ | with_reducible refine Rd.lst ?_ | ((with_reducible show (List.length _ ≤ sizeLine ∧ ∀ p, _ = none → _)); refine ⟨Nat.le_of_ble_eq_true rfl, ?_⟩) | with_reducible refine Rd.isInt ?_ | with_reducible refine Rd.isBool ?_ | with_reducible refine Rd.mx2 ?_ | with_reducible refine Rd.mn2 ?_ | ((with_reducible show Rd.rAndM _ _ _ _); first | refine Rd.and1 ?_ | refine Rd.and48 ?_ | refine Rd.and32 ?_ | refine Rd.and64 ?_ | refine Rd.and65 ?_) | ((with_reducible refine Rd.iC ?hc ?_); (case hc => walk_at "side")) | ((with_reducible refine Rd.yes ?hc ?_); (case hc => omega)) | ((with_reducible refine Rd.no ?hc ?_); (case hc => omega)) | ((with_reducible refine Rd.noN ?hc ?_); (case hc => omega)) | ((with_reducible refine Rd.yesN ?hc ?_); (case hc => omega)) | ((with_reducible refine Rd.yesNN ?hc ?_); (case hc => omega)) | ((with_reducible refine Rd.noNN ?hc ?_); (case hc => omega)) | with_reducible refine iteT ?_ | with_reducible refine iteF ?_ | with_reducible refine Rd.iteNT ?_ | with_reducible refine Rd.iteNF ?_)
local macro_rules | `(tactic| walk_at "rd") => `(tactic| repeat (walk_at "rd1"))
local macro_rules | `(tactic| walk_at "rd1") => `(tactic| with_reducible refine u_isInt ?_)
local macro_rules | `(tactic| walk_at "rd1") => `(tactic| ((with_reducible show spNeed _ _ _ _ _ _); refine u_need (by omega) (by omega) ?_))
local macro_rules | `(tactic| walk_at "rd1") => `(tactic| ((with_reducible show spIsNum _ _ _ _); refine u_isNum (by omega) (by omega) ?_))
local macro_rules | `(tactic| walk_at "rd1") => `(tactic| first | with_reducible refine Gx.gat ?_ | with_reducible refine Gx.gnx ?_ | with_reducible refine Gx.gthen ?_ | with_reducible refine Gx.gplain ?_ | with_reducible refine Gx.gfr ?_ | with_reducible refine Gx.sfld ?_ | with_reducible refine Gx.lg ?_ | with_reducible refine Gx.mg ?_ | with_reducible refine Gx.sme ?_)
def ws (n : Nat) (x : Int) : List Int := (List.range n).map fun i => ML.mv (i + 1) x / 65536
theorem ws_succ (n : Nat) (x : Int) : (ws (n + 1) x).map V.int = (ws n x).map V.int ++ [.int (ML.mv 1 (ML.mv n x) / 65536)] := by
  rw [ML.mv_add]
  simp [ws, List.range_succ]
theorem ws_len (n : Nat) (x : Int) : ((ws n x).map V.int).length = n := by simp [ws]
def spWords (C : Addr) : SpG := fun vs H Q _ => ∃ (p : Addr) (x : Int) (n : Nat), vs = [.ref p, .int n] ∧ n ≤ 1000 ∧ LinAt C H p x ∧ (0 ≤ x ∧ x < 281474976710656) ∧
  ∀ H', ExP p H H' → LinAt C H' p (ML.mv n x) → Q ((ws n x).map V.int) H'
theorem gmet_Linear_words (T : Txt K mg C_Linear) : Gx.GMet P w K mg base 3 C_Linear "words" (spWords C_Linear) := by
  obtain ⟨f, fd, M, F, b⟩ := T.d_Linear_words
  refine Gx.gmet0 T.cl_Linear M F b sc_Linear_words (fun vs H Q E h => ?_) (fun cdv A outer s H vs Q E pn hr h => ?_)
  · obtain ⟨p, x, n, rfl, _⟩ := h; rfl
  · obtain ⟨p, x, n, rfl, hn, hp, ⟨x0, x1⟩, q⟩ := h
    refine ⟨_, (gss_cons (gs_ps (ps_expr (C8.pe_c (cal_need_many T) hr (by omega) (by rfl) (pa_cons (pv 1) pa_nil))))
      (gss_cons (Gx.gs_for owns_gcx rfl (pi_range1 rfl T.b_range (pa_cons (pv 1) pa_nil)) (pg_name (i := 2) sc_Linear_words.nd rfl (.inl rfl)) (gss_cons (gs_yield (C8.pe_mt0 (met_Linear_next_word T) hr (by omega) (pv 0)) sc_Linear_words.co)
      gss_nil))
      gss_nil)), ?_⟩
    walk_at "rd"
    refine ⟨n, rfl, by omega, by omega, Gx.gfor_range (n := ((n : Int)).toNat) (fun i ys σ' H' => ∃ tn, σ' = [some (.ref p), some (.int n), tn] ∧ ys = (ws i x).map V.int ∧ ExP p H H' ∧ LinAt C_Linear H' p (ML.mv i x))
      ⟨none, rfl, rfl, ExP.of (fun c o h => h), by rw [ML.mv_zero x0 x1]; exact hp⟩ ?_ ?_⟩
    · rintro i ys σ' H' hi ⟨tn, rfl, rfl, e, l⟩
      have r := ML.mv_rng i x
      have hl := ws_len i x
      walk_at "rd"
      with_reducible refine Gx.gy (by rw [hl]; exact Nat.lt_of_lt_of_le (show i < 100000 by omega) (Nat.le_of_ble_eq_true rfl)) ?_
      walk_at "rd"
      refine u_meth l (by decide +kernel) ?_
      refine ⟨p, _, rfl, l, r, fun H2 e2 l2 => ?_⟩
      (with_reducible refine Gx.gnx ?_)
      (with_reducible refine Gx.gnil ?_)
      refine ⟨_, rfl, (ws_succ i x).symm, e.trans e2, ?_⟩
      rw [ML.mv_add] at l2
      exact l2
    · rintro ys σ' H' ⟨tn, rfl, rfl, e, l⟩
      rw [Int.toNat_natCast] at l ⊢
      exact Gx.gnx (q H' e l)
end
end Pf

set_option Elab.async false
set_option linter.all false
set_option maxRecDepth 100000
set_option maxHeartbeats 4000000
namespace Pf
open PySem PySem.Spec PyProof.Rows L2
section
variable {P : Program} {w : World} {K : PySem.W.Frag} {mg : Str → Option Value} {base : Heap} {C_Linear : Addr}
local macro_rules | `(tactic| walk_at "side") => `(tactic| first | ((with_reducible show L2.CMul _ _); first | exact Or.inl ⟨by omega, by omega⟩ | exact Or.inr ⟨by omega, by omega⟩) | ((with_reducible show L2.CPow _ _); exact ⟨by decide, by decide, by decide⟩) | ((with_reducible show L2.CMulW _ _); exact wide_mul (a := 96) (b := 96) (by omega) (by omega) (by decide) (by decide) (by decide)) | ((with_reducible show L2.CDivW _ _); exact wide_div (b := 96) (by omega) (by omega) (by decide) (by decide)) | (show (0 : Int) < _; omega) | (show (0 : Int) ≤ _; omega))
local macro_rules | `(tactic| walk_at "rd1") => `(tactic| first | with_reducible refine Rd.seq ?_ | with_reducible refine Rd.asg ?_ | with_reducible refine Rd.nm ?_ | with_reducible refine Rd.ret ?_ | with_reducible refine Rd.drop ?_ | with_reducible refine Rd.ifs ?_ | with_reducible refine Rd.par ?_ | with_reducible refine Rd.par3 ?_ | with_reducible refine Rd.next ?_ | with_reducible refine Rd.fr1 ?_ | with_reducible refine Rd.nxp ?_ | with_reducible refine Rd.rtp ?_ | ((with_reducible show tVar _ _ _ _); refine Rd.var rfl ?_) | with_reducible refine Rd.cst ?_ | with_reducible refine Rd.op ?_ | with_reducible refine Rd.un ?_ | with_reducible refine Rd.i0 ?_ | with_reducible refine Rd.ung ?_ | with_reducible refine Rd.eqI ?_ | with_reducible refine Rd.neI ?_ | with_reducible refine Rd.eqS ?_ | with_reducible refine Rd.neS ?_ | with_reducible refine Rd.test ?_ | with_reducible refine Rd.tstB ?_ | with_reducible refine Rd.isB ?_ | with_reducible refine Rd.not ?_ | with_reducible refine Rd.andT ?_ | with_reducible refine Rd.orT ?_ | with_reducible refine Rd.andV ?_ | with_reducible refine Rd.orV ?_ | with_reducible refine Rd.notV ?_ | with_reducible refine Rd.ifE ?_ | with_reducible refine Rd.chain ?_ | with_reducible refine Rd.nil ?_ | with_reducible refine Rd.cons ?_ | with_reducible refine Rd.call ?_ | with_reducible refine Rd.cb ?_ | with_reducible refine Rd.bm ?_ | with_reducible refine Rd.revL ?_ | with_reducible refine Rd.frl ?_ | with_reducible refine Rd.frt ?_ | with_reducible refine Rd.fre ?_ | with_reducible refine Rd.disp ?_ | with_reducible refine Rd.pnil ?_ | with_reducible refine Rd.pcons ?_ | with_reducible refine Rd.gcons ?_ | with_reducible refine Rd.gnil ?_ | with_reducible refine Rd.gsub ?_ | with_reducible refine Rd.setD ?_ | ((with_reducible show gTup _ _ _ _ _ (upd _ _ (HO.tup _)) _); refine Rd.tupNew rfl ?_) | with_reducible refine Rd.fld ?_ | with_reducible refine Rd.meth ?_ | with_reducible refine Rd.make ?_ | with_reducible refine Rd.prop ?_ | with_reducible refine Rd.tup ?_ | with_reducible refine Rd.lst ?_ | ((with_reducible show (List.length _ ≤ sizeLine ∧ ∀ p, _ = none → _)); refine ⟨Nat.le_of_ble_eq_true rfl, ?_⟩) | with_reducible refine Rd.isInt ?_ | with_reducible refine Rd.isBool ?_ | with_reducible refine Rd.mx2 ?_ | with_reducible refine Rd.mn2 ?_ | ((with_reducible show Rd.rAndM _ _ _ _); first | refine Rd.and1 ?_ | refine Rd.and48 ?_ | refine Rd.and32 ?_ | refine Rd.and64 ?_ | refine Rd.and65 ?_) | ((with_reducible refine Rd.iC ?hc ?_); (case hc => walk_at "side")) | ((with_reducible refine Rd.yes ?hc ?_); (case hc => omega)) | ((with_reducible refine Rd.no ?hc ?_); (case hc => omega)) | ((with_reducible refine Rd.noN ?hc ?_); (case hc => omega)) | ((with_reducible refine Rd.yesN ?hc ?_); (case hc => omega)) | ((with_reducible refine Rd.yesNN ?hc ?_); (case hc => omega)) | ((with_reducible refine Rd.noNN ?hc ?_); (case hc => omega)) | with_reducible refine iteT ?_ | with_reducible refine iteF ?_ | with_reducible refine Rd.iteNT ?_ | with_reducible refine Rd.iteNF ?_)
local macro_rules | `(tactic| walk_at "rd") => `(tactic| repeat (walk_at "rd1"))
local macro_rules | `(tactic| walk_at "rd1") => `(tactic| with_reducible refine u_isInt ?_)
local macro_rules | `(tactic| walk_at "rd1") => `(tactic| ((with_reducible show spNeed _ _ _ _ _ _); refine u_need (by omega) (by omega) ?_))
local macro_rules | `(tactic| walk_at "rd1") => `(tactic| ((with_reducible show spIsNum _ _ _ _); refine u_isNum (by omega) (by omega) ?_))
local macro_rules | `(tactic| walk_at "rd1") => `(tactic| first | with_reducible refine Gx.gat ?_ | with_reducible refine Gx.gnx ?_ | with_reducible refine Gx.gthen ?_ | with_reducible refine Gx.gplain ?_ | with_reducible refine Gx.gfr ?_ | with_reducible refine Gx.sfld ?_ | with_reducible refine Gx.lg ?_ | with_reducible refine Gx.mg ?_ | with_reducible refine Gx.sme ?_)
/-! ### the law's draws -/
abbrev kRun : Key := Sum.inr "run"
abbrev kGreat : Key := Sum.inr "great"
abbrev kTurn : Key := Sum.inr "turn"
theorem n_rg : ¬ kRun = kGreat := by decide +kernel
theorem n_rt : ¬ kRun = kTurn := by decide +kernel
theorem n_gt : ¬ kGreat = kTurn := by decide +kernel
theorem n_gr : ¬ kGreat = kRun := by decide +kernel
theorem n_tr : ¬ kTurn = kRun := by decide +kernel
theorem n_tg : ¬ kTurn = kGreat := by decide +kernel
structure DrawAt (H : Hp) (d g : Addr) (run turn : Int) (ns : List Int) : Prop where
  dic : H d = some (.dK [(kRun, .int run), (kGreat, .ref g), (kTurn, .int turn)])
  lst : H g = some (.lst (ns.map V.int))
  r0 : 0 ≤ run
  r1 : run < 2305843009213693951
def Draw (H : Hp) (d g : Addr) : Prop := ∃ run turn ns, DrawAt H d g run turn ns
/-- all but the draw's own objects stand -/
def ExB (d g : Addr) (H H' : Hp) : Prop := ∀ c o, H c = some o → c ≠ d → c ≠ g → H' c = some o
theorem ExB.refl {d g : Addr} (H : Hp) : ExB d g H H := fun _ _ e _ _ => e
theorem ExB.trans {d g : Addr} {H H1 H2 : Hp} (a : ExB d g H H1) (b : ExB d g H1 H2) : ExB d g H H2 := fun c o e h1 h2 => b c o (a c o e h1 h2) h1 h2
theorem ExB.of {d g : Addr} {H H' : Hp} (e : Rd.Ex H H') : ExB d g H H' := fun c o h _ _ => e c o h
theorem ExB.d {d g : Addr} {H H' : Hp} {o : HO} (e : ExB d g H H') : ExB d g H (upd H' d o) := fun c z h h1 h2 => by
  rw [upd_ne h1]
  exact e c z h h1 h2
theorem ExB.g {d g : Addr} {H H' : Hp} {o : HO} (e : ExB d g H H') : ExB d g H (upd H' g o) := fun c z h h1 h2 => by
  rw [upd_ne h2]
  exact e c z h h1 h2
theorem DrawAt.ex {H H' : Hp} {d g : Addr} {run turn : Int} {ns : List Int} (e : Rd.Ex H H') (h : DrawAt H d g run turn ns) : DrawAt H' d g run turn ns := ⟨e _ _ h.dic, e _ _ h.lst, h.r0, h.r1⟩
theorem Draw.ex {H H' : Hp} {d g : Addr} (e : Rd.Ex H H') (h : Draw H d g) : Draw H' d g := by
  obtain ⟨r, t, ns, h⟩ := h
  exact ⟨r, t, ns, h.ex e⟩
theorem DrawAt.ne {H : Hp} {d g : Addr} {run turn : Int} {ns : List Int} (h : DrawAt H d g run turn ns) : d ≠ g := ne_of h.dic h.lst (fun z => by cases z)
/-- d['turn'], d['run'], d['great'] -/
theorem u_get {H : Hp} {d : Addr} {kvs : List (Key × V)} {x : Str} {v : V} {Q : V → Prop} (h : H d = some (.dK kvs)) (e : valV kvs (Sum.inr x) = some v) (q : Q v) : ∃ a v', V.ref d = .ref a ∧ DGet H a (.str x) (some v') ∧ Q v' :=
  ⟨d, v, rfl, by rw [← e]; exact DGet.k (k := Sum.inr x) h, q⟩
theorem dget {td ty : TE} {σ : L2.St} {H : Hp} {Q : VK} (h : td σ H fun x H1 => ty σ H1 fun y H2 => ∃ a v, x = .ref a ∧ DGet H2 a y (some v) ∧ Q v H2) : tDGet td ty σ H Q := h
theorem dput {td ty tv : TE} {D : Ends} {σ : L2.St} {H : Hp} (h : tv σ H fun v H1 => td σ H1 fun x H2 => ty σ H2 fun y H3 => ∃ a H4, x = .ref a ∧ DPut H3 a y v H4 ∧ D.nx σ H4) : sDPut td ty tv D σ H := h
theorem u_put {H : Hp} {d : Addr} {kvs kvs' : List (Key × V)} {x : Str} {v : V} {Q : Hp → Prop} (h : H d = some (.dK kvs)) (hl : kvs.length < 1000) (e : putK kvs (Sum.inr x) v = kvs') (q : Q (upd H d (.dK kvs'))) : ∃ a H4, V.ref d = .ref a ∧ DPut H a (.str x) v H4 ∧ Q H4 :=
  ⟨d, _, rfl, DPut.k (k := Sum.inr x) h (small1000 (by omega)), by rw [e]; exact q⟩
local macro_rules | `(tactic| walk_at "rd1") => `(tactic| first | with_reducible refine dget ?_ | with_reducible refine dput ?_)
def spNext : Sp := fun vs H Q _ => ∃ (d g : Addr) (b : Int), vs = [.ref d, .int b] ∧ 0 < b ∧ b < 2 ^ 90 ∧ Draw H d g ∧ ∀ (H' : Hp) (v : Int), 0 ≤ v → v < b → Draw H' d g → ExB d g H H' → Q (.int v) H'
theorem cal__law_next (T : Txt K mg C_Linear) : C8.Cal P w K mg base 1 "_law_next" spNext [] := by
  obtain ⟨f, fd, F, b⟩ := T.d__law_next
  refine C8.cal0 F b .nil sc__law_next (fun vs H Q E h => ?_) (fun cdv A outer s H vs Q E hr h => ?_)
  · obtain ⟨d, g, b, rfl, _⟩ := h; rfl
  · obtain ⟨d, g, m, rfl, m0, m1, ⟨run, turn, ns, D⟩, q⟩ := h
    have hu := hu_of hr
    have hu64 := hr.units
    refine ⟨_, (pss_cons (ps_asg (pe_tup (pa_cons (pe_op op_add (pe_dget hu (pv 0) pe_str (fun _ _ => rfl)) pe_int) (pa_cons (pe_dget hu (pv 0) pe_str (fun _ _ => rfl)) pa_nil))) (pg_tup rfl (pgs_cons (pg_sub (pv 0) pe_str (set_dict hu)) (pgs_cons (pg_name (i := 2) sc__law_next.nd rfl (.inl rfl)) pgs_nil))))
      (pss_cons (ps_set (i := 3) sc__law_next.nd rfl (.inl rfl) (pe_op op_mod (pe_dget hu (pv 0) pe_str (fun _ _ => rfl)) (pe_callB (Rd.call_mx2 rfl) (by rfl) T.b_max (by decide +kernel) (pa_cons pe_int (pa_cons (pe_callB Rd.call_lenQ (by rfl) T.b_len PySem.boot_len (pa_cons (pv 2) pa_nil)) pa_nil)))))
      (C8.pss_cut (ps_if (PW.pt (pw_and (pt_cmpR (op_neD hu64) (pv 2) (pe_lst pa_nil) (nomark _)) (pw_and1 (pt_cmpR op_gt (pe_ix ix_list (pv 2) (pv 3) (fun _ _ => rfl)) pe_int (nomark _))))) (pss_cons (ps_set (i := 4) sc__law_next.nd rfl (.inl rfl) (pe_op op_mod (pe_ix ix_list (pv 2) (pv 3) (fun _ _ => rfl)) (pv 1)))
      (pss_cons (ps_asg (pe_op op_fdivW (pe_ix ix_list (pv 2) (pv 3) (fun _ _ => rfl)) (pv 1)) (pg_sub (pv 2) (pv 3) set_list))
      (pss_one (ps_ret (pv 4))))) pss_nil)
      (pss_cons (ps_set (i := 5) sc__law_next.nd rfl (.inl rfl) (pe_op op_add (pe_op op_add (pe_op op_mul (pe_dget hu (pv 0) pe_str (fun _ _ => rfl)) pe_int) (pe_op op_mul pe_int (pe_dget hu (pv 0) pe_str (fun _ _ => rfl)))) pe_int))
      (pss_cons (ps_dput hu (pv 0) pe_str (pe_op op_mod (pv 5) pe_int) rfl)
      (pss_one (ps_ret (pe_op op_mod (pe_op op_fdivW (pe_dget hu (pv 0) pe_str (fun _ _ => rfl)) pe_int) (pv 1))))))))), ?_⟩
    have ndg := D.ne
    walk_at "rd"
    refine u_get D.dic (Gx.val3 n_rt n_gt) ?_
    walk_at "rd"
    refine u_get D.dic (Gx.val2 n_rg) ?_
    walk_at "rd"
    intro t ht
    have D1 := D.ex (Rd.ex_new (o := .tup [.int (turn + 1), .ref g]) ht)
    have x1 : ExB d g H (upd H t (.tup [.int (turn + 1), .ref g])) := .of (Rd.ex_new ht)
    walk_at "rd"
    refine u_put D1.dic (by show 3 < 1000; decide) (Gx.put3 n_rt n_gt) ?_
    walk_at "rd"
    generalize hH2 : upd (upd H t (.tup [.int (turn + 1), .ref g])) d (.dK [(kRun, .int run), (kGreat, .ref g), (kTurn, .int (turn + 1))]) = H2
    have D2 : DrawAt H2 d g run (turn + 1) ns := by
      subst hH2
      exact ⟨upd_same, by rw [upd_ne (Ne.symm ndg)]; exact D1.lst, D.r0, D.r1⟩
    have x2 : ExB d g H H2 := by subst hH2; exact x1.d
    refine u_get D2.dic (Gx.val3 n_rt n_gt) ?_
    walk_at "rd"
    refine Rd.lenL (Rd.sql D2.lst) ?_
    walk_at "rd"
    generalize hat : (turn + 1) % (if ((ns.map V.int).length : Int) > 1 then ((ns.map V.int).length : Int) else 1) = at'
    have at0 : ns ≠ [] → 0 ≤ at' ∧ at' < (ns.length : Int) := fun hne => by
      have hl : 0 < ns.length := List.length_pos_iff.mpr hne
      rw [List.length_map] at hat
      rw [← hat]
      by_cases h1 : (ns.length : Int) > 1
      · rw [if_pos h1]
        exact ⟨Int.emod_nonneg _ (by omega), Int.emod_lt_of_pos _ (by omega)⟩
      · rw [if_neg h1]
        omega
    refine Rd.cut (fun σ' H' => ∃ y4 y5, σ' = [some (.ref d), some (.int m), some (.ref g), some (.int at'), y4, y5] ∧ DrawAt H' d g run (turn + 1) ns ∧ ExB d g H H') ?_ ?_
    · walk_at "rd"
      intro p hp
      have D3 := D2.ex (Rd.ex_new (o := .lst []) hp)
      have x3 : ExB d g H (upd H2 p (.lst [])) := x2.trans (.of (Rd.ex_new hp))
      refine Gx.neL (ms := []) (Rd.sql D3.lst) (Rd.sql upd_same) ?_
      walk_at "rd"
      refine Rd.bothN (fun c => ?_) (fun c => ?_)
      · obtain ⟨h0, h1⟩ := at0 c
        obtain ⟨k, rfl⟩ := Int.eq_ofNat_of_zero_le h0
        have hk : k < ns.length := by omega
        have gk : atI (ns.map V.int) (k : Int) = some (.int ns[k]) := atI_nat (by rw [List.getElem?_map, List.getElem?_eq_getElem hk]; rfl)
        walk_at "rd"
        refine Rd.ixL (Rd.sql D3.lst) gk ?_
        walk_at "rd"
        refine Rd.both (fun c2 => ?_) (fun c2 => ?_)
        · walk_at "rd"
          refine Rd.ixL (Rd.sql D3.lst) gk ?_
          walk_at "rd"
          refine Rd.ixL (Rd.sql D3.lst) gk ?_
          walk_at "rd"
          have ij : ixN (ns.map V.int).length (k : Int) = some k := by
            unfold ixN
            rw [if_pos h0, if_pos (by rw [List.length_map]; omega), Int.toNat_natCast]
          refine Rd.setL D3.lst ij ?_
          walk_at "rd"
          refine q _ _ (Int.emod_nonneg _ (by omega)) (Int.emod_lt_of_pos _ m0) ⟨run, turn + 1, ns.set k (ns[k] / m), ?_, ?_, D.r0, D.r1⟩ x3.g
          · rw [upd_ne ndg]; exact D3.dic
          · rw [upd_same, List.map_set]
        · walk_at "rd"
          exact ⟨_, _, rfl, D3, x3⟩
      · walk_at "rd"
        exact ⟨_, _, rfl, D3, x3⟩
    · rintro σ' H' ⟨y4, y5, rfl, D4, x4⟩
      have r0 := D.r0
      have r1 := D.r1
      walk_at "rd"
      refine u_get D4.dic Gx.val1 ?_
      walk_at "rd"
      refine u_get D4.dic (Gx.val3 n_rt n_gt) ?_
      walk_at "rd"
      generalize hn : (run * 6364136223846793 + 1442695040888963 * (turn + 1) + 11) % 2305843009213693951 = r'
      refine u_put D4.dic (by show 3 < 1000; decide) (Gx.put1 n_gr n_tr) ?_
      walk_at "rd"
      refine u_get upd_same Gx.val1 ?_
      walk_at "rd"
      refine q _ _ (Int.emod_nonneg _ (by omega)) (Int.emod_lt_of_pos _ m0) ⟨r', turn + 1, ns, upd_same, ?_, by omega, by omega⟩ x4.d
      rw [upd_ne (Ne.symm ndg)]; exact D4.lst
theorem u_next {H : Hp} {Q : VK} {E : XK} {d g : Addr} {b : Int} (h0 : 0 < b) (h1 : b < 2 ^ 90) (D : Draw H d g) (q : ∀ (H' : Hp) (v : Int), 0 ≤ v → v < b → Draw H' d g → ExB d g H H' → Q (.int v) H') : spNext ([.ref d, .int b] ++ []) H Q E := ⟨d, g, b, rfl, h0, h1, D, q⟩
/-- numbers below a bound that a helper draws -/
def spPick (hi : Int) : Sp := fun vs H Q _ => ∃ (d g : Addr), vs = [.ref d] ∧ Draw H d g ∧ ∀ (H' : Hp) (v : Int), 0 ≤ v → v ≤ hi → Draw H' d g → ExB d g H H' → Q (.int v) H'
theorem Draw.nd {H : Hp} {d g p : Addr} (D : Draw H d g) (h : H p = none) : p ≠ d ∧ p ≠ g := by
  obtain ⟨r, t, ns, D⟩ := D
  exact ⟨Ne.symm (ne_of_none D.dic h), Ne.symm (ne_of_none D.lst h)⟩
theorem pick_of (l : List Int) (hi : Int) (hl : l.length = 8) (hb : ∀ x ∈ l, 0 ≤ x ∧ x ≤ hi) {v : Int} (v0 : 0 ≤ v) (v1 : v < 12) :
    ∃ j x : Int, atI ([0, 1, 2, 3, 4, 5, 6, 7, 7, 7, 7, 7].map V.int) v = some (.int j) ∧ atI (l.map V.int) j = some (.int x) ∧ 0 ≤ x ∧ x ≤ hi := by
  obtain ⟨j, hj, ej⟩ := Gx.pick (l := [0, 1, 2, 3, 4, 5, 6, 7, 7, 7, 7, 7]) (P := fun j => 0 ≤ j ∧ j < 8) (by decide) v0 v1
  obtain ⟨x, hx, ex⟩ := Gx.pick (l := l) (P := fun x => 0 ≤ x ∧ x ≤ hi) hb hj.1 (by omega)
  exact ⟨j, x, ej, ex, hx.1, hx.2⟩
theorem cal__law_x (T : Txt K mg C_Linear) : C8.Cal P w K mg base 2 "_law_x" (spPick 281474976710655) [] := by
  obtain ⟨f, fd, F, b⟩ := T.d__law_x
  refine C8.cal0 F b .nil sc__law_x (fun vs H Q E h => ?_) (fun cdv A outer s H vs Q E hr h => ?_)
  · obtain ⟨d, g, rfl, _⟩ := h; rfl
  · obtain ⟨d, g, rfl, D, q⟩ := h
    refine ⟨_, (pss_cons (ps_set (i := 1) sc__law_x.nd rfl (.inl rfl) (C8.pe_c (cal__law_next T) hr (by omega) (by rfl) (pa_cons (pv 0) (pa_cons pe_int pa_nil))))
      (pss_cons (ps_set (i := 2) sc__law_x.nd rfl (.inl rfl) (pe_lst (pa_cons pe_int (pa_cons pe_int (pa_cons pe_int (pa_cons pe_int (pa_cons pe_int (pa_cons pe_int (pa_cons (pe_op op_sub (pv 1) (pe_op op_mod (pv 1) pe_int)) (pa_cons (pv 1) pa_nil))))))))))
      (pss_one (ps_ret (pe_ix ix_list (pv 2) (pe_ix ix_list (pe_lst (pa_cons pe_int (pa_cons pe_int (pa_cons pe_int (pa_cons pe_int (pa_cons pe_int (pa_cons pe_int (pa_cons pe_int (pa_cons pe_int (pa_cons pe_int (pa_cons pe_int (pa_cons pe_int (pa_cons pe_int pa_nil))))))))))))) (C8.pe_c (cal__law_next T) hr (by omega) (by rfl) (pa_cons (pv 0) (pa_cons pe_int pa_nil))) (fun _ _ => rfl)) (fun _ _ => rfl)))))), ?_⟩
    walk_at "rd"
    refine u_next (by decide) (by decide) D fun H1 v v0 v1 D1 x1 => ?_
    walk_at "rd"
    intro p hp
    generalize hl : ([0, 1, 65535, 65536, 281474976710655, 140737488355328, v - v % 65536, v] : List Int) = l
    have e : ([.int 0, .int 1, .int 65535, .int 65536, .int 281474976710655, .int 140737488355328, .int (v - v % 65536), .int v] : List V) = l.map V.int := by subst hl; rfl
    rw [e]
    have hb : ∀ x ∈ l, 0 ≤ x ∧ x ≤ 281474976710655 := by
      subst hl
      intro x hx
      simp only [List.mem_cons, List.not_mem_nil, or_false] at hx
      omega
    walk_at "rd"
    intro p2 hp2
    walk_at "rd"
    have x2 : Rd.Ex H1 (upd (upd H1 p (.lst (l.map V.int))) p2 (.lst ([0, 1, 2, 3, 4, 5, 6, 7, 7, 7, 7, 7].map V.int))) := (Rd.ex_new hp).trans (Rd.ex_new hp2)
    have D2 := D1.ex x2
    have n1 := D1.nd hp
    have n2 := (D1.ex (Rd.ex_new hp)).nd hp2
    refine u_next (by decide) (by decide) D2 fun H2 v' w0 w1 D3 x3 => ?_
    obtain ⟨j, x, ej, ex, h0, h1⟩ := pick_of l 281474976710655 (by subst hl; rfl) hb w0 w1
    refine Rd.ixL (Rd.sql (x3 _ _ upd_same n2.1 n2.2)) ej ?_
    refine Rd.ixL (Rd.sql (x3 _ _ (Rd.ex_new hp2 _ _ upd_same) n1.1 n1.2)) ex ?_
    walk_at "rd"
    exact q H2 x h0 h1 D3 ((x1.trans (.of x2)).trans x3)
theorem cal__law_steps (T : Txt K mg C_Linear) : C8.Cal P w K mg base 2 "_law_steps" (spPick 18446744073709551616) [] := by
  obtain ⟨f, fd, F, b⟩ := T.d__law_steps
  refine C8.cal0 F b .nil sc__law_steps (fun vs H Q E h => ?_) (fun cdv A outer s H vs Q E hr h => ?_)
  · obtain ⟨d, g, rfl, _⟩ := h; rfl
  · obtain ⟨d, g, rfl, D, q⟩ := h
    refine ⟨_, (pss_cons (ps_set (i := 1) sc__law_steps.nd rfl (.inl rfl) (C8.pe_c (cal__law_next T) hr (by omega) (by rfl) (pa_cons (pv 0) (pa_cons pe_int pa_nil))))
      (pss_cons (ps_set (i := 2) sc__law_steps.nd rfl (.inl rfl) (pe_lst (pa_cons pe_int (pa_cons pe_int (pa_cons pe_int (pa_cons pe_int (pa_cons pe_int (pa_cons pe_int (pa_cons pe_int (pa_cons (pv 1) pa_nil))))))))))
      (pss_one (ps_ret (pe_ix ix_list (pv 2) (pe_ix ix_list (pe_lst (pa_cons pe_int (pa_cons pe_int (pa_cons pe_int (pa_cons pe_int (pa_cons pe_int (pa_cons pe_int (pa_cons pe_int (pa_cons pe_int (pa_cons pe_int (pa_cons pe_int (pa_cons pe_int (pa_cons pe_int pa_nil))))))))))))) (C8.pe_c (cal__law_next T) hr (by omega) (by rfl) (pa_cons (pv 0) (pa_cons pe_int pa_nil))) (fun _ _ => rfl)) (fun _ _ => rfl)))))), ?_⟩
    walk_at "rd"
    refine u_next (by decide) (by decide) D fun H1 v v0 v1 D1 x1 => ?_
    walk_at "rd"
    intro p hp
    generalize hl : ([0, 1, 2, 281474976710655, 281474976710656, 281474976710657, 18446744073709551616, v] : List Int) = l
    have e : ([.int 0, .int 1, .int 2, .int 281474976710655, .int 281474976710656, .int 281474976710657, .int 18446744073709551616, .int v] : List V) = l.map V.int := by subst hl; rfl
    rw [e]
    have hb : ∀ x ∈ l, 0 ≤ x ∧ x ≤ 18446744073709551616 := by
      subst hl
      intro x hx
      simp only [List.mem_cons, List.not_mem_nil, or_false] at hx
      omega
    walk_at "rd"
    intro p2 hp2
    walk_at "rd"
    have x2 : Rd.Ex H1 (upd (upd H1 p (.lst (l.map V.int))) p2 (.lst ([0, 1, 2, 3, 4, 5, 6, 7, 7, 7, 7, 7].map V.int))) := (Rd.ex_new hp).trans (Rd.ex_new hp2)
    have D2 := D1.ex x2
    have n1 := D1.nd hp
    have n2 := (D1.ex (Rd.ex_new hp)).nd hp2
    refine u_next (by decide) (by decide) D2 fun H2 v' w0 w1 D3 x3 => ?_
    obtain ⟨j, x, ej, ex, h0, h1⟩ := pick_of l 18446744073709551616 (by subst hl; rfl) hb w0 w1
    refine Rd.ixL (Rd.sql (x3 _ _ upd_same n2.1 n2.2)) ej ?_
    refine Rd.ixL (Rd.sql (x3 _ _ (Rd.ex_new hp2 _ _ upd_same) n1.1 n1.2)) ex ?_
    walk_at "rd"
    exact q H2 x h0 h1 D3 ((x1.trans (.of x2)).trans x3)
end
end Pf

set_option Elab.async false
set_option linter.all false
set_option maxRecDepth 100000
set_option maxHeartbeats 4000000
namespace Pf
open PySem PySem.Spec PyProof.Rows L2
section
variable {P : Program} {w : World} {K : PySem.W.Frag} {mg : Str → Option Value} {base : Heap} {C_Linear : Addr}
local macro_rules | `(tactic| walk_at "side") => `(tactic| first | ((with_reducible show L2.CMul _ _); first | exact Or.inl ⟨by omega, by omega⟩ | exact Or.inr ⟨by omega, by omega⟩) | ((with_reducible show L2.CPow _ _); exact ⟨by decide, by decide, by decide⟩) | ((with_reducible show L2.CMulW _ _); exact wide_mul (a := 96) (b := 96) (by omega) (by omega) (by decide) (by decide) (by decide)) | ((with_reducible show L2.CDivW _ _); exact wide_div (b := 96) (by omega) (by omega) (by decide) (by decide)) | (show (0 : Int) < _; omega) | (show (0 : Int) ≤ _; omega))
local macro_rules | `(tactic| walk_at "rd1") => `(tactic| first | with_reducible refine Rd.seq ?_ | with_reducible refine Rd.asg ?_ | with_reducible refine Rd.nm ?_ | with_reducible refine Rd.ret ?_ | with_reducible refine Rd.drop ?_ | with_reducible refine Rd.ifs ?_ | with_reducible refine Rd.par ?_ | with_reducible refine Rd.par3 ?_ | with_reducible refine Rd.next ?_ | with_reducible refine Rd.fr1 ?_ | with_reducible refine Rd.nxp ?_ | with_reducible refine Rd.rtp ?_ | ((with_reducible show tVar _ _ _ _); refine Rd.var rfl ?_) | with_reducible refine Rd.cst ?_ | with_reducible refine Rd.op ?_ | with_reducible refine Rd.un ?_ | with_reducible refine Rd.i0 ?_ | with_reducible refine Rd.ung ?_ | with_reducible refine Rd.eqI ?_ | with_reducible refine Rd.neI ?_ | with_reducible refine Rd.eqS ?_ | with_reducible refine Rd.neS ?_ | with_reducible refine Rd.test ?_ | with_reducible refine Rd.tstB ?_ | with_reducible refine Rd.isB ?_ | with_reducible refine Rd.not ?_ | with_reducible refine Rd.andT ?_ | with_reducible refine Rd.orT ?_ | with_reducible refine Rd.andV ?_ | with_reducible refine Rd.orV ?_ | with_reducible refine Rd.notV ?_ | with_reducible refine Rd.ifE ?_ | with_reducible refine Rd.chain ?_ | with_reducible refine Rd.nil ?_ | with_reducible refine Rd.cons ?_ | with_reducible refine Rd.call ?_ | with_reducible refine Rd.cb ?_ | with_reducible refine Rd.bm ?_ | with_reducible refine Rd.revL ?_ | with_reducible refine Rd.frl ?_ | with_reducible refine Rd.frt ?_ | with_reducible refine Rd.fre ?_ | with_reducible refine Rd.disp ?_ | with_reducible refine Rd.pnil ?_ | with_reducible refine Rd.pcons ?_ | with_reducible refine Rd.gcons ?_ | with_reducible refine Rd.gnil ?_ | with_reducible refine Rd.gsub ?_ | with_reducible refine Rd.setD ?_ | ((with_reducible show gTup _ _ _ _ _ (upd _ _ (HO.tup _)) _); refine Rd.tupNew rfl ?_) | with_reducible refine Rd.fld ?_ | with_reducible refine Rd.meth ?_ | with_reducible refine Rd.make ?_ | with_reducible refine Rd.prop ?_ | with_reducible refine Rd.tup ?_ | with_reducible refine Rd.lst ?_ | ((with_reducible show (List.length _ ≤ sizeLine ∧ ∀ p, _ = none → _)); refine ⟨Nat.le_of_ble_eq_true rfl, ?_⟩) | with_reducible refine Rd.isInt ?_ | with_reducible refine Rd.isBool ?_ | with_reducible refine Rd.mx2 ?_ | with_reducible refine Rd.mn2 ?_ | ((with_reducible show Rd.rAndM _ _ _ _); first | refine Rd.and1 ?_ | refine Rd.and48 ?_ | refine Rd.and32 ?_ | refine Rd.and64 ?_ | refine Rd.and65 ?_) | ((with_reducible refine Rd.iC ?hc ?_); (case hc => walk_at "side")) | ((with_reducible refine Rd.yes ?hc ?_); (case hc => omega)) | ((with_reducible refine Rd.no ?hc ?_); (case hc => omega)) | ((with_reducible refine Rd.noN ?hc ?_); (case hc => omega)) | ((with_reducible refine Rd.yesN ?hc ?_); (case hc => omega)) | ((with_reducible refine Rd.yesNN ?hc ?_); (case hc => omega)) | ((with_reducible refine Rd.noNN ?hc ?_); (case hc => omega)) | with_reducible refine iteT ?_ | with_reducible refine iteF ?_ | with_reducible refine Rd.iteNT ?_ | with_reducible refine Rd.iteNF ?_)
local macro_rules | `(tactic| walk_at "rd") => `(tactic| repeat (walk_at "rd1"))
local macro_rules | `(tactic| walk_at "rd1") => `(tactic| with_reducible refine u_isInt ?_)
local macro_rules | `(tactic| walk_at "rd1") => `(tactic| ((with_reducible show spNeed _ _ _ _ _ _); refine u_need (by omega) (by omega) ?_))
local macro_rules | `(tactic| walk_at "rd1") => `(tactic| ((with_reducible show spIsNum _ _ _ _); refine u_isNum (by omega) (by omega) ?_))
local macro_rules | `(tactic| walk_at "rd1") => `(tactic| first | with_reducible refine dget ?_ | with_reducible refine dput ?_)
local macro_rules | `(tactic| walk_at "rd1") => `(tactic| first | with_reducible refine Gx.sfld ?_ | with_reducible refine Gx.lg ?_ | with_reducible refine Gx.mg ?_ | with_reducible refine Gx.sme ?_)
def spDigits : Sp := fun vs H Q _ => ∃ n : Int, vs = [.int n] ∧ 0 ≤ n ∧ n < 281474976710656 ∧ ∀ H' q, Rd.Ex H H' → H' q = some (.lst ((ML.lsb n.toNat).reverse.map V.int)) → Q (.ref q) H'
theorem cal__law_digits (T : Txt K mg C_Linear) : C8.Cal P w K mg base 1 "_law_digits" spDigits [] := by
  obtain ⟨f, fd, F, b⟩ := T.d__law_digits
  refine C8.cal0 F b .nil sc__law_digits (fun vs H Q E h => ?_) (fun cdv A outer s H vs Q E hr h => ?_)
  · obtain ⟨n, rfl, _⟩ := h; rfl
  · obtain ⟨n, rfl, n0, n1, q⟩ := h
    have hlen : (ML.lsb n.toNat).length ≤ 48 := ML.lsb_len 48 _ (by omega)
    refine ⟨_, (pss_cons (ps_set (i := 1) sc__law_digits.nd rfl (.inl rfl) (pe_lst pa_nil))
      (pss_cons (ps_while PassesOwn.never (pt_cmpR op_gt (pv 0) pe_int (nomark _)) (pss_cons (ps_expr (pe_bm PySem.F.plainAttrs_list PySem.F.slot_list_append PySem.F.type_list_append mt_append (pv 1) (pa_cons (pe_op op_mod (pv 0) pe_int) pa_nil)))
      (pss_one (ps_set (i := 0) sc__law_digits.nd rfl (.inl rfl) (pe_op op_fdivW (pv 0) pe_int)))))
      (pss_one (ps_ret (pe_revL (pv 1)))))), ?_⟩
    walk_at "rd"
    intro p hp
    walk_at "rd"
    refine Rd.whl (fun m σ' H' => ∃ (r : Int) (pre : List Int), m = r.toNat ∧ σ' = [some (.int r), some (.ref p)] ∧ H' p = some (.lst (pre.map V.int)) ∧ Rd.Ex H H' ∧ 0 ≤ r ∧ pre ++ ML.lsb r.toNat = ML.lsb n.toNat)
      n.toNat ⟨n, [], rfl, rfl, upd_same, Rd.ex_new hp, n0, rfl⟩ ?_
    rintro m σ' H' ⟨r, pre, rfl, rfl, hl, x, r0, e⟩
    have lp : pre.length ≤ 48 := by
      have := congrArg List.length e
      rw [List.length_append] at this
      omega
    walk_at "rd"
    refine Rd.both (fun c => ?_) (fun c => ?_)
    · refine ⟨_, fun _ _ z => z, ?_⟩
      walk_at "rd"
      refine ⟨Rd.tyL hl, ?_⟩
      walk_at "rd"
      refine Rd.app hl (by rw [List.length_map]; omega) ?_
      walk_at "rd"
      refine ⟨(r / 2).toNat, by omega, r / 2, pre ++ [r % 2], rfl, rfl, ?_, Rd.ex_mut x hp, by omega, ?_⟩
      · rw [upd_same, List.map_append]; rfl
      · rw [← e, ML.lsb_pos (show 0 < r.toNat by omega), List.append_assoc]
        have e1 : ((r.toNat % 2 : Nat) : Int) = r % 2 := by omega
        have e2 : r.toNat / 2 = (r / 2).toNat := by omega
        rw [e1, e2]
        rfl
    · walk_at "rd"
      have r0' : r.toNat = 0 := by omega
      rw [r0', ML.lsb_zero, List.append_nil] at e
      refine ⟨p, _, rfl, Rd.sql hl, fun p2 hp2 => ?_⟩
      refine q _ p2 (x.trans (Rd.ex_new hp2)) ?_
      rw [upd_same, ← e, List.map_reverse]
def spLawMap : Sp := fun vs H Q _ => ∃ n : Int, vs = [.int n] ∧ 0 ≤ n ∧ n < 281474976710656 ∧ ∀ H' q, Rd.Ex H H' → H' q = some (.tup [.int (ML.m1 n.toNat), .int (ML.m2 n.toNat)]) → Q (.ref q) H'
theorem cal__law_map (T : Txt K mg C_Linear) : C8.Cal P w K mg base 2 "_law_map" spLawMap [] := by
  obtain ⟨f, fd, F, b⟩ := T.d__law_map
  refine C8.cal0 F b .nil sc__law_map (fun vs H Q E h => ?_) (fun cdv A outer s H vs Q E hr h => ?_)
  · obtain ⟨n, rfl, _⟩ := h; rfl
  · obtain ⟨n, rfl, n0, n1, q⟩ := h
    refine ⟨_, (pss_cons (ps_asg (pe_tup (pa_cons pe_int (pa_cons pe_int (pa_cons pe_int pa_nil)))) (pg_tup rfl (pgs_cons (pg_name (i := 1) sc__law_map.nd rfl (.inl rfl)) (pgs_cons (pg_name (i := 2) sc__law_map.nd rfl (.inl rfl)) (pgs_cons (pg_name (i := 3) sc__law_map.nd rfl (.inl rfl)) pgs_nil)))))
      (pss_cons (ps_for PassesOwn.never rfl (pi_list (C8.pe_c (cal__law_digits T) hr (by omega) (by rfl) (pa_cons (pv 0) pa_nil))) (pg_name (i := 4) sc__law_map.nd rfl (.inl rfl)) (pss_cons (ps_par (i := 1) (j := 2) rfl sc__law_map.nd rfl rfl (by decide) rfl rfl (pa_cons (pe_op op_mod (pe_op op_mul (pv 1) (pv 1)) (pv 3)) (pa_cons (pe_op op_mod (pe_op op_mul (pe_op op_add (pv 1) pe_int) (pv 2)) (pv 3)) pa_nil)) (by rfl))
      (pss_one (ps_if (pt_cmpR op_eq (pv 4) pe_int (nomark _)) (pss_one (ps_par (i := 1) (j := 2) rfl sc__law_map.nd rfl rfl (by decide) rfl rfl (pa_cons (pe_op op_mod (pe_op op_mul pe_int (pv 1)) (pv 3)) (pa_cons (pe_op op_mod (pe_op op_add (pe_op op_mul pe_int (pv 2)) pe_int) (pv 3)) pa_nil)) (by rfl))) pss_nil))))
      (pss_one (ps_ret (pe_tup (pa_cons (pv 1) (pa_cons (pv 2) pa_nil))))))), ?_⟩
    walk_at "rd"
    intro p0 hp0
    walk_at "rd"
    refine ⟨n, rfl, n0, n1, fun H1 p x1 hp => ?_⟩
    have x0 := (Rd.ex_new (H := H) (o := .tup [.int 1, .int 0, .int 281474976710656]) hp0).trans x1
    generalize hL : (ML.lsb n.toNat).reverse = L at hp
    have hv : ML.valD L = n.toNat := by rw [← hL]; exact ML.val_lsb 48 _ (by omega)
    have hb : ∀ d ∈ L, d = 0 ∨ d = 1 := fun d hd => ML.lsb_bit 48 n.toNat (by omega) d (by rw [← hL] at hd; exact List.mem_reverse.mp hd)
    refine ⟨p, rfl, ⟨_, Rd.sql hp⟩, for_list (K := K) (a := p) (xs := L.map V.int) (fun i σ' H' => ∃ dg, σ' = [some (.int n), some (.int (ML.m1 (ML.valD (L.take i)))), some (.int (ML.m2 (ML.valD (L.take i)))), some (.int 281474976710656), dg] ∧ H' = H1)
      ⟨none, rfl, rfl⟩ (fun i σ' H' _ hh => ?_) ?_ ?_⟩
    · obtain ⟨dg, _, rfl⟩ := hh
      exact Rd.sql hp
    · rintro i y σ' H' hi ⟨dg, rfl, rfl⟩
      rw [List.getElem?_map] at hi
      obtain ⟨z, hz, rfl⟩ : ∃ z, L[i]? = some z ∧ V.int z = y := by
        cases e : L[i]? with
        | none => rw [e] at hi; cases hi
        | some z => rw [e] at hi; exact ⟨z, rfl, Option.some.inj hi⟩
      have hzb := hb z (List.mem_of_getElem? hz)
      have step : ML.valD (L.take (i + 1)) = 2 * ML.valD (L.take i) + z.toNat := by
        rw [List.take_add_one, hz]
        exact ML.valD_snoc _ _
      have r1 := ML.m1_rng (ML.valD (L.take i))
      have r2 := ML.m2_rng (ML.valD (L.take i))
      walk_at "rd"
      refine ⟨_, _, rfl, ?_⟩
      rw [ML.dbl1, ML.dbl2]
      have r3 := ML.m1_rng (2 * ML.valD (L.take i))
      have r4 := ML.m2_rng (2 * ML.valD (L.take i))
      walk_at "rd"
      refine Rd.both (fun c => ?_) (fun c => ?_)
      · walk_at "rd"
        refine ⟨_, _, rfl, ?_⟩
        rw [ML.inc1, ML.inc2]
        walk_at "rd"
        refine ⟨some (.int z), ?_, rfl⟩
        rw [step, show z.toNat = 1 by omega]
        rfl
      · walk_at "rd"
        refine ⟨some (.int z), ?_, rfl⟩
        rw [step, show z.toNat = 0 by omega]
        rfl
    · rintro σ' H' ⟨dg, rfl, rfl⟩
      rw [List.length_map, List.take_length, hv]
      walk_at "rd"
      exact fun p2 hp2 => q _ p2 (x0.trans (Rd.ex_new hp2)) upd_same
def spLawMoved : Sp := fun vs H Q _ => ∃ x n : Int, vs = [.int x, .int n] ∧ 0 ≤ x ∧ x < 281474976710656 ∧ ∀ H', Rd.Ex H H' → Q (.int (ML.mv (n % 281474976710656).toNat x)) H'
theorem cal__law_moved (T : Txt K mg C_Linear) : C8.Cal P w K mg base 3 "_law_moved" spLawMoved [] := by
  obtain ⟨f, fd, F, b⟩ := T.d__law_moved
  refine C8.cal0 F b .nil sc__law_moved (fun vs H Q E h => ?_) (fun cdv A outer s H vs Q E hr h => ?_)
  · obtain ⟨x, n, rfl, _⟩ := h; rfl
  · obtain ⟨x, n, rfl, x0, x1, q⟩ := h
    refine ⟨_, (pss_cons (ps_asg (C8.pe_c (cal__law_map T) hr (by omega) (by rfl) (pa_cons (pe_op op_mod (pv 1) pe_int) pa_nil)) (pg_tup rfl (pgs_cons (pg_name (i := 2) sc__law_moved.nd rfl (.inl rfl)) (pgs_cons (pg_name (i := 3) sc__law_moved.nd rfl (.inl rfl)) pgs_nil))))
      (pss_one (ps_ret (pe_op op_mod (pe_op op_add (pe_op op_mul (pv 2) (pv 0)) (pv 3)) pe_int)))), ?_⟩
    walk_at "rd"
    refine ⟨_, rfl, by omega, by omega, fun H1 p e1 hp => ?_⟩
    have r1 := ML.m1_rng (n % 281474976710656).toNat
    have r2 := ML.m2_rng (n % 281474976710656).toNat
    refine Rd.gtup (Rd.sqt hp) rfl ?_
    walk_at "rd"
    rw [ML.mapped]
    exact q H1 e1
end
end Pf

set_option Elab.async false
set_option linter.all false
set_option maxRecDepth 100000
set_option maxHeartbeats 4000000
namespace Pf
open PySem PySem.Spec PyProof.Rows L2
section
variable {P : Program} {w : World} {K : PySem.W.Frag} {mg : Str → Option Value} {base : Heap} {C_Linear : Addr}
local macro_rules | `(tactic| walk_at "side") => `(tactic| first | ((with_reducible show L2.CMul _ _); first | exact Or.inl ⟨by omega, by omega⟩ | exact Or.inr ⟨by omega, by omega⟩) | ((with_reducible show L2.CPow _ _); exact ⟨by decide, by decide, by decide⟩) | ((with_reducible show L2.CMulW _ _); exact wide_mul (a := 96) (b := 96) (by omega) (by omega) (by decide) (by decide) (by decide)) | ((with_reducible show L2.CDivW _ _); exact wide_div (b := 96) (by omega) (by omega) (by decide) (by decide)) | (show (0 : Int) < _; omega) | (show (0 : Int) ≤ _; omega))
local macro_rules | `(tactic| walk_at "rd1") => `(tactic| first | with_reducible refine Rd.seq ?_ | with_reducible refine Rd.asg ?_ | with_reducible refine Rd.nm ?_ | with_reducible refine Rd.ret ?_ | with_reducible refine Rd.drop ?_ | with_reducible refine Rd.ifs ?_ | with_reducible refine Rd.par ?_ | with_reducible refine Rd.par3 ?_ | with_reducible refine Rd.next ?_ | with_reducible refine Rd.fr1 ?_ | with_reducible refine Rd.nxp ?_ | with_reducible refine Rd.rtp ?_ | ((with_reducible show tVar _ _ _ _); refine Rd.var rfl ?_) | with_reducible refine Rd.cst ?_ | with_reducible refine Rd.op ?_ | with_reducible refine Rd.un ?_ | with_reducible refine Rd.i0 ?_ | with_reducible refine Rd.ung ?_ | with_reducible refine Rd.eqI ?_ | with_reducible refine Rd.neI ?_ | with_reducible refine Rd.eqS ?_ | with_reducible refine Rd.neS ?_ | with_reducible refine Rd.test ?_ | with_reducible refine Rd.tstB ?_ | with_reducible refine Rd.isB ?_ | with_reducible refine Rd.not ?_ | with_reducible refine Rd.andT ?_ | with_reducible refine Rd.orT ?_ | with_reducible refine Rd.andV ?_ | with_reducible refine Rd.orV ?_ | with_reducible refine Rd.notV ?_ | with_reducible refine Rd.ifE ?_ | with_reducible refine Rd.chain ?_ | with_reducible refine Rd.nil ?_ | with_reducible refine Rd.cons ?_ | with_reducible refine Rd.call ?_ | with_reducible refine Rd.cb ?_ | with_reducible refine Rd.bm ?_ | with_reducible refine Rd.revL ?_ | with_reducible refine Rd.frl ?_ | with_reducible refine Rd.frt ?_ | with_reducible refine Rd.fre ?_ | with_reducible refine Rd.disp ?_ | with_reducible refine Rd.pnil ?_ | with_reducible refine Rd.pcons ?_ | with_reducible refine Rd.gcons ?_ | with_reducible refine Rd.gnil ?_ | with_reducible refine Rd.gsub ?_ | with_reducible refine Rd.setD ?_ | ((with_reducible show gTup _ _ _ _ _ (upd _ _ (HO.tup _)) _); refine Rd.tupNew rfl ?_) | with_reducible refine Rd.fld ?_ | with_reducible refine Rd.meth ?_ | with_reducible refine Rd.make ?_ | with_reducible refine Rd.prop ?_ | with_reducible refine Rd.tup ?_ | with_reducible refine Rd.lst ?_ | ((with_reducible show (List.length _ ≤ sizeLine ∧ ∀ p, _ = none → _)); refine ⟨Nat.le_of_ble_eq_true rfl, ?_⟩) | with_reducible refine Rd.isInt ?_ | with_reducible refine Rd.isBool ?_ | with_reducible refine Rd.mx2 ?_ | with_reducible refine Rd.mn2 ?_ | ((with_reducible show Rd.rAndM _ _ _ _); first | refine Rd.and1 ?_ | refine Rd.and48 ?_ | refine Rd.and32 ?_ | refine Rd.and64 ?_ | refine Rd.and65 ?_) | ((with_reducible refine Rd.iC ?hc ?_); (case hc => walk_at "side")) | ((with_reducible refine Rd.yes ?hc ?_); (case hc => omega)) | ((with_reducible refine Rd.no ?hc ?_); (case hc => omega)) | ((with_reducible refine Rd.noN ?hc ?_); (case hc => omega)) | ((with_reducible refine Rd.yesN ?hc ?_); (case hc => omega)) | ((with_reducible refine Rd.yesNN ?hc ?_); (case hc => omega)) | ((with_reducible refine Rd.noNN ?hc ?_); (case hc => omega)) | with_reducible refine iteT ?_ | with_reducible refine iteF ?_ | with_reducible refine Rd.iteNT ?_ | with_reducible refine Rd.iteNF ?_)
local macro_rules | `(tactic| walk_at "rd") => `(tactic| repeat (walk_at "rd1"))
local macro_rules | `(tactic| walk_at "rd1") => `(tactic| with_reducible refine u_isInt ?_)
local macro_rules | `(tactic| walk_at "rd1") => `(tactic| ((with_reducible show spNeed _ _ _ _ _ _); refine u_need (by omega) (by omega) ?_))
local macro_rules | `(tactic| walk_at "rd1") => `(tactic| ((with_reducible show spIsNum _ _ _ _); refine u_isNum (by omega) (by omega) ?_))
local macro_rules | `(tactic| walk_at "rd1") => `(tactic| first | with_reducible refine dget ?_ | with_reducible refine dput ?_)
local macro_rules | `(tactic| walk_at "rd1") => `(tactic| first | with_reducible refine Gx.sfld ?_ | with_reducible refine Gx.lg ?_ | with_reducible refine Gx.mg ?_ | with_reducible refine Gx.sme ?_)
theorem int_at {ns : List Int} {i : Nat} {y : V} (h : (ns.map V.int)[i]? = some y) : ∃ z, ns[i]? = some z ∧ y = .int z := by
  rw [List.getElem?_map] at h
  cases e : ns[i]? with
  | none => rw [e] at h; cases h
  | some z => rw [e] at h; exact ⟨z, rfl, (Option.some.inj h).symm⟩
def spBegun (K : PySem.W.Frag) : Sp := fun vs H Q _ => ∃ (a : Addr) (ns : List Int), vs = [.ref a] ∧ SqL K H a (ns.map V.int) ∧ ns.length ≤ 63 ∧ ∀ H' d g, Rd.Ex H H' → Draw H' d g → Q (.ref d) H'
theorem cal__law_begun (T : Txt K mg C_Linear) : C8.Cal P w K mg base 1 "_law_begun" (spBegun K) [] := by
  obtain ⟨f, fd, F, b⟩ := T.d__law_begun
  refine C8.cal0 F b .nil sc__law_begun (fun vs H Q E h => ?_) (fun cdv A outer s H vs Q E hr h => ?_)
  · obtain ⟨a, ns, rfl, _⟩ := h; rfl
  · obtain ⟨a, ns, rfl, hS, hl, q⟩ := h
    refine ⟨_, (pss_cons (ps_set (i := 1) sc__law_begun.nd rfl (.inl rfl) (pe_op op_add pe_int (pe_op op_mul pe_int (pe_callB Rd.call_lenQ (by rfl) T.b_len PySem.boot_len (pa_cons (pv 0) pa_nil)))))
      (pss_cons (ps_for PassesOwn.never rfl (pi_enum (by rfl) T.b_enumerate (pa_cons (pv 0) pa_nil)) (pg_tup rfl (pgs_cons (pg_name (i := 2) sc__law_begun.nd rfl (.inl rfl)) (pgs_cons (pg_name (i := 3) sc__law_begun.nd rfl (.inl rfl)) pgs_nil))) (pss_one (ps_set (i := 1) sc__law_begun.nd rfl (.inl rfl) (pe_op op_mod (pe_op op_add (pe_op op_add (pe_op op_mul (pv 1) pe_int) (pv 3)) (pe_op op_mul pe_int (pv 2))) pe_int))))
      (pss_one (ps_ret (pe_disp (pps_cons pe_str (pv 1) (pps_cons pe_str (pe_lc (own := [("_law_cell", 3)]) rfl sc__law_begun.nd (pi_list (pv 0)) (blkOk_by (N := ["_law_script", "_law_run", "_law_k", "_law_cell"]) (sc := C8.fnScope s__law_begun) (by decide +kernel)) (fun _ _ _ _ _ => (pg_name (i := 3) sc__law_begun.nd rfl (.inl rfl))) (fun _ _ _ _ _ => (pts_one (pt_cmpR op_ge (pv 3) (pe_op op_pow pe_int pe_int) (nomark _)))) (fun _ _ _ _ _ => (pv 3))) (pps_cons pe_str pe_int pps_nil))) rfl rfl (by simp) (by decide)))))), ?_⟩
    walk_at "rd"
    refine Rd.lenL hS ?_
    have hl' : ((ns.map V.int).length : Int) ≤ 63 := by rw [List.length_map]; omega
    have hl0 : (0 : Int) ≤ ((ns.map V.int).length : Int) := by omega
    walk_at "rd"
    refine ⟨a, _, rfl, hS, for_it (walk_enum (K := K) (a := a) (xs := ns.map V.int)) (fun i σ' H' => ∃ (r : Int) (y2 y3 : Option V), σ' = [some (.ref a), some (.int r), y2, y3] ∧ Rd.Ex H H' ∧ 0 ≤ r ∧ r < 2305843009213693951)
      ⟨_, none, none, rfl, Same.refl H, by omega, by omega⟩ (fun i σ' H' _ hh => ?_) ?_ ?_⟩
    · obtain ⟨_, _, _, _, e, _⟩ := hh
      exact Rd.ex_l e hS
    · rintro i x σ' H' H2 hi ⟨r, y2, y3, rfl, e, r0, r1⟩ ⟨t, x1, x2, rfl, nt, rfl, e1, e2⟩
      obtain ⟨z, hz, rfl⟩ := int_at e2
      cases e1
      walk_at "rd"
      exact ⟨_, _, _, rfl, e.trans (Rd.ex_new nt), by omega, by omega⟩
    · rintro σ' H' ⟨r, y2, y3, rfl, e, r0, r1⟩
      walk_at "rd"
      intro p hp
      walk_at "rd"
      have e1 : Rd.Ex H (upd H' p (.dK [])) := e.trans (Rd.ex_new hp)
      refine ⟨_, rfl, a, rfl, ⟨_, Rd.ex_l e1 hS⟩, fun D hD => lc_list (K := K) (a := a) (xs := ns.map V.int) (fun i H3 => ∃ ms : List Int, H3 D = some (.lst (ms.map V.int)) ∧ ms.length ≤ i ∧ Rd.Ex (upd H' p (.dK [])) H3)
        ⟨[], upd_same, Nat.le_refl _, Rd.ex_new hD⟩ (fun i H3 _ hh => ?_) ?_ ?_⟩
      · obtain ⟨_, _, _, x3⟩ := hh
        exact Rd.ex_l (e1.trans x3) hS
      · rintro i y H3 hi ⟨ms, hm, lm, x3⟩
        obtain ⟨z, hz, rfl⟩ := int_at hi
        have hi2 : i < 63 := by
          have := (List.getElem?_eq_some_iff.mp hz).1
          omega
        walk_at "rd"
        refine ⟨rfl, ?_⟩
        walk_at "rd"
        refine Rd.both (fun c => ?_) (fun c => ?_)
        · walk_at "rd"
          refine ⟨_, hm, by rw [List.length_map]; exact small1000 (by omega), ms ++ [z], ?_, by rw [List.length_append, List.length_singleton]; omega, Rd.ex_mut x3 hD⟩
          rw [upd_same, List.map_append]
          rfl
        · exact ⟨ms, hm, by omega, x3⟩
      · rintro H3 ⟨ms, hm, lm, x3⟩
        walk_at "rd"
        refine ⟨x3 _ _ upd_same, [(kRun, .int r), (kGreat, .ref D), (kTurn, .int 0)], rfl, by show 3 ≤ 15; decide, ?_⟩
        rw [Gx.merge3 n_rg n_rt n_gt]
        have npD : D ≠ p := fun z => by subst z; rw [upd_same] at hD; cases hD
        refine q _ p D ?_ ⟨r, 0, ms, upd_same, by rw [upd_ne npD]; exact hm, r0, r1⟩
        intro b o hb
        have nb : b ≠ p := ne_of_none (e _ _ hb) hp
        rw [upd_ne nb]
        exact x3 _ _ (e1 _ _ hb)
end
end Pf

set_option Elab.async false
set_option linter.all false
set_option maxRecDepth 100000
set_option maxHeartbeats 4000000
namespace Pf
open PySem PySem.Spec PyProof.Rows L2
section
variable {P : Program} {w : World} {K : PySem.W.Frag} {mg : Str → Option Value} {base : Heap} {C_Linear : Addr}
local macro_rules | `(tactic| walk_at "side") => `(tactic| first | ((with_reducible show L2.CMul _ _); first | exact Or.inl ⟨by omega, by omega⟩ | exact Or.inr ⟨by omega, by omega⟩) | ((with_reducible show L2.CPow _ _); exact ⟨by decide, by decide, by decide⟩) | ((with_reducible show L2.CMulW _ _); exact wide_mul (a := 96) (b := 96) (by omega) (by omega) (by decide) (by decide) (by decide)) | ((with_reducible show L2.CDivW _ _); exact wide_div (b := 96) (by omega) (by omega) (by decide) (by decide)) | (show (0 : Int) < _; omega) | (show (0 : Int) ≤ _; omega))
local macro_rules | `(tactic| walk_at "rd1") => `(tactic| first | with_reducible refine Rd.seq ?_ | with_reducible refine Rd.asg ?_ | with_reducible refine Rd.nm ?_ | with_reducible refine Rd.ret ?_ | with_reducible refine Rd.drop ?_ | with_reducible refine Rd.ifs ?_ | with_reducible refine Rd.par ?_ | with_reducible refine Rd.par3 ?_ | with_reducible refine Rd.next ?_ | with_reducible refine Rd.fr1 ?_ | with_reducible refine Rd.nxp ?_ | with_reducible refine Rd.rtp ?_ | ((with_reducible show tVar _ _ _ _); refine Rd.var rfl ?_) | with_reducible refine Rd.cst ?_ | with_reducible refine Rd.op ?_ | with_reducible refine Rd.un ?_ | with_reducible refine Rd.i0 ?_ | with_reducible refine Rd.ung ?_ | with_reducible refine Rd.eqI ?_ | with_reducible refine Rd.neI ?_ | with_reducible refine Rd.eqS ?_ | with_reducible refine Rd.neS ?_ | with_reducible refine Rd.test ?_ | with_reducible refine Rd.tstB ?_ | with_reducible refine Rd.isB ?_ | with_reducible refine Rd.not ?_ | with_reducible refine Rd.andT ?_ | with_reducible refine Rd.orT ?_ | with_reducible refine Rd.andV ?_ | with_reducible refine Rd.orV ?_ | with_reducible refine Rd.notV ?_ | with_reducible refine Rd.ifE ?_ | with_reducible refine Rd.chain ?_ | with_reducible refine Rd.nil ?_ | with_reducible refine Rd.cons ?_ | with_reducible refine Rd.call ?_ | with_reducible refine Rd.cb ?_ | with_reducible refine Rd.bm ?_ | with_reducible refine Rd.revL ?_ | with_reducible refine Rd.frl ?_ | with_reducible refine Rd.frt ?_ | with_reducible refine Rd.fre ?_ | with_reducible refine Rd.disp ?_ | with_reducible refine Rd.pnil ?_ | with_reducible refine Rd.pcons ?_ | with_reducible refine Rd.gcons ?_ | with_reducible refine Rd.gnil ?_ | with_reducible refine Rd.gsub ?_ | with_reducible refine Rd.setD ?_ | ((with_reducible show gTup _ _ _ _ _ (upd _ _ (HO.tup _)) _); refine Rd.tupNew rfl ?_) | with_reducible refine Rd.fld ?_ | with_reducible refine Rd.meth ?_ | with_reducible refine Rd.make ?_ | with_reducible refine Rd.prop ?_ | with_reducible refine Rd.tup ?_ | with_reducible refine Rd.lst ?_ | ((with_reducible show (List.length _ ≤ sizeLine ∧ ∀ p, _ = none → _)); refine ⟨Nat.le_of_ble_eq_true rfl, ?_⟩) | with_reducible refine Rd.isInt ?_ | with_reducible refine Rd.isBool ?_ | with_reducible refine Rd.mx2 ?_ | with_reducible refine Rd.mn2 ?_ | ((with_reducible show Rd.rAndM _ _ _ _); first | refine Rd.and1 ?_ | refine Rd.and48 ?_ | refine Rd.and32 ?_ | refine Rd.and64 ?_ | refine Rd.and65 ?_) | ((with_reducible refine Rd.iC ?hc ?_); (case hc => walk_at "side")) | ((with_reducible refine Rd.yes ?hc ?_); (case hc => omega)) | ((with_reducible refine Rd.no ?hc ?_); (case hc => omega)) | ((with_reducible refine Rd.noN ?hc ?_); (case hc => omega)) | ((with_reducible refine Rd.yesN ?hc ?_); (case hc => omega)) | ((with_reducible refine Rd.yesNN ?hc ?_); (case hc => omega)) | ((with_reducible refine Rd.noNN ?hc ?_); (case hc => omega)) | with_reducible refine iteT ?_ | with_reducible refine iteF ?_ | with_reducible refine Rd.iteNT ?_ | with_reducible refine Rd.iteNF ?_)
local macro_rules | `(tactic| walk_at "rd") => `(tactic| repeat (walk_at "rd1"))
local macro_rules | `(tactic| walk_at "rd1") => `(tactic| with_reducible refine u_isInt ?_)
local macro_rules | `(tactic| walk_at "rd1") => `(tactic| ((with_reducible show spNeed _ _ _ _ _ _); refine u_need (by omega) (by omega) ?_))
local macro_rules | `(tactic| walk_at "rd1") => `(tactic| ((with_reducible show spIsNum _ _ _ _); refine u_isNum (by omega) (by omega) ?_))
local macro_rules | `(tactic| walk_at "rd1") => `(tactic| first | with_reducible refine dget ?_ | with_reducible refine dput ?_)
local macro_rules | `(tactic| walk_at "rd1") => `(tactic| first | with_reducible refine Gx.sfld ?_ | with_reducible refine Gx.lg ?_ | with_reducible refine Gx.mg ?_ | with_reducible refine Gx.sme ?_)
theorem u_state {C : Addr} {H : Hp} {Q : VK} {E : XK} {p : Addr} {x : Int} (h : LinAt C H p x) (q : ∀ t H', H t = none → Rd.Ex H H' → H' t = some (.tup [.int x]) → LinAt C H' p x → Q (.ref t) H') : ∃ a dx fs, V.ref p = .ref a ∧ H a = some (.ins C dx fs) ∧ spState C (.ref a :: []) H Q E := by
  obtain ⟨dx, hp⟩ := id h
  exact ⟨p, dx, _, rfl, hp, p, x, rfl, h, fun t ht => q t _ ht (Rd.ex_new ht) upd_same (h.ex (Rd.ex_new ht))⟩
theorem u_op {C : Addr} {g : Int → Int} {H : Hp} {Q : VK} {p : Addr} {x n : Int} (h : LinAt C H p x) (hx : 0 ≤ x ∧ x < 281474976710656) (hn : 0 ≤ n ∧ n ≤ 18446744073709551616)
    (q : ∀ p' H', H p' = none → Rd.Ex H H' → LinAt C H' p' (ML.mv (g n % 281474976710656).toNat x) → LinAt C H' p x → Q (.ref p') H') : Gx.rOwn C (spAhead C g) (.ref p) (.int n) H Q := by
  obtain ⟨dx, hp⟩ := id h
  exact ⟨p, dx, _, n, rfl, rfl, hp, p, x, n, rfl, h, hx, hn, fun p' H' f e l => ⟨⟨p', rfl⟩, q p' H' f e l (h.ex e)⟩⟩
theorem u_same {C : Addr} {H : Hp} {Q : VK} {E : XK} {p o : Addr} {x y : Int} (h : LinAt C H p x) (h2 : LinAt C H o y) (q : Q (.bl (decide (x = y))) H) : spSame C (.ref p :: ([.ref o] ++ [])) H Q E := ⟨p, o, x, y, rfl, h, h2, q⟩
theorem u_jump {C : Addr} {g : Int → Int} {H : Hp} {Q : VK} {E : XK} {p : Addr} {x n : Int} (h : LinAt C H p x) (hx : 0 ≤ x ∧ x < 281474976710656) (hn : 0 ≤ n ∧ n ≤ 18446744073709551616)
    (q : ∀ H', ExP p H H' → LinAt C H' p (ML.mv (g n % 281474976710656).toNat x) → Q .non H') : spJump C g (.ref p :: ([.int n] ++ [])) H Q E := ⟨p, x, n, rfl, h, hx, hn, q⟩
theorem back_go (n : Int) {x : Int} (h0 : 0 ≤ x) (h1 : x < 281474976710656) : ML.mv ((0 - n) % 281474976710656).toNat (ML.mv (n % 281474976710656).toNat x) = x := by
  rw [ML.mv_add]
  have : ∃ k : Nat, (n % 281474976710656).toNat + ((0 - n) % 281474976710656).toNat = 281474976710656 * k := by
    by_cases hz : n % 281474976710656 = 0
    · exact ⟨0, by omega⟩
    · exact ⟨1, by omega⟩
  obtain ⟨k, hk⟩ := this
  rw [hk]
  exact ML.mv_period k h0 h1
theorem go_back (n : Int) {x : Int} (h0 : 0 ≤ x) (h1 : x < 281474976710656) : ML.mv (n % 281474976710656).toNat (ML.mv ((0 - n) % 281474976710656).toNat x) = x := by
  rw [ML.mv_add, Nat.add_comm, ← ML.mv_add]
  exact back_go n h0 h1
def spSmall : Sp := fun vs H Q _ => ∃ (x : Int) (n : Nat), vs = [.int x, .int n] ∧ (0 ≤ x ∧ x < 281474976710656) ∧ n < 120 ∧ ∀ H', Rd.Ex H H' → Q (.bl true) H'
theorem cal__law_small_right (T : Txt K mg C_Linear) : C8.Cal P w K mg base 8 "_law_small_right" spSmall [] := by
  obtain ⟨f, fd, F, b⟩ := T.d__law_small_right
  refine C8.cal0 F b .nil sc__law_small_right (fun vs H Q E h => ?_) (fun cdv A outer s H vs Q E hr h => ?_)
  · obtain ⟨x, n, rfl, _⟩ := h; rfl
  · obtain ⟨x, n, rfl, bx, hn, q⟩ := h
    have hu64 := hr.units
    refine ⟨_, (pss_cons (ps_par (i := 2) (j := 3) rfl sc__law_small_right.nd rfl rfl (by decide) rfl rfl (pa_cons (C8.pe_mk (mak_Linear T) hr (by omega) (by rfl) (pa_cons (pv 0) pa_nil)) (pa_cons (C8.pe_mk (mak_Linear T) hr (by omega) (by rfl) (pa_cons (pv 0) pa_nil)) pa_nil)) (by rfl))
      (pss_cons (ps_set (i := 4) sc__law_small_right.nd rfl (.inl rfl) (Gx.pe_listM (gmet_Linear_words T) hr (by omega) (pv 2) (pa_cons (pv 1) pa_nil) (by rfl) T.b_list))
      (pss_cons (ps_expr (C8.pe_mt (met_Linear_jump T) hr (by omega) (pv 3) (pa_cons (pv 1) pa_nil)))
      (pss_cons (ps_if (pt_not (pt_val (C8.pe_mt (met_Linear_same_state T) hr (by omega) (pv 3) (pa_cons (pv 2) pa_nil)))) (pss_one (ps_ret pe_bl)) pss_nil)
      (pss_cons (ps_expr (C8.pe_mt (met_Linear_back T) hr (by omega) (pv 3) (pa_cons (pv 1) pa_nil)))
      (pss_one (ps_ret (pe_and (pe_cmpR (op_eqD hu64) (Gx.pe_listM (gmet_Linear_words T) hr (by omega) (pv 3) (pa_cons (pv 1) pa_nil) (by rfl) T.b_list) (pv 4) (nomark _)) (pe_one (C8.pe_mt (met_Linear_same_state T) hr (by omega) (pv 3) (pa_cons (pv 2) pa_nil))))))))))), ?_⟩
    have em : ML.mv ((n : Int) % 281474976710656).toNat x = ML.mv n x := by rw [show ((n : Int) % 281474976710656).toNat = n by omega]
    have eb : ML.mv ((0 - (n : Int)) % 281474976710656).toNat (ML.mv n x) = x := by rw [← em]; exact back_go n bx.1 bx.2
    have r := ML.mv_rng n x
    walk_at "rd"
    refine u_mk (C := C_Linear) bx.1 bx.2 fun o1 H1 ho1 e1 l1 => ?_
    walk_at "rd"
    refine u_mk (C := C_Linear) bx.1 bx.2 fun o2 H2 ho2 e2 l2 => ?_
    walk_at "rd"
    refine ⟨_, _, rfl, ?_⟩
    have l1 := l1.ex e2
    have n21 : o2 ≠ o1 := Ne.symm (LinAt.ne_n (H := H1) (by assumption) ho2)
    have f2 : H o2 = none := e1.free ho2
    have e := e1.trans e2
    walk_at "rd"
    refine u_meth l1 (by decide +kernel) ?_
    walk_at "rd"
    refine ⟨o1, x, n, rfl, by omega, l1, bx, fun H3 m3 l3 => ?_⟩
    intro ls hls
    have e := ExP.ex e ho1 m3
    have l2 := m3.lin l2 n21
    obtain ⟨H4, hHx, e4, h4⟩ := Gx.newo (o := (HO.lst ((ws n x).map V.int))) hls
    rw [← hHx]
    clear hHx
    walk_at "rd"
    have l1 := l3.ex e4
    have l2 := l2.ex e4
    have e := e.trans e4
    refine u_meth l2 (by decide +kernel) ?_
    walk_at "rd"
    refine u_jump l2 bx ⟨by omega, by omega⟩ fun H5 m5 l5 => ?_
    rw [em] at l5
    have l1 := m5.lin l1 (Ne.symm n21)
    have h5 := m5 _ _ h4 (l2.ne_l h4)
    have e := ExP.ex e f2 m5
    walk_at "rd"
    refine u_meth l5 (by decide +kernel) ?_
    walk_at "rd"
    refine u_same l5 l1 ?_
    walk_at "rd"
    refine u_meth l5 (by decide +kernel) ?_
    walk_at "rd"
    refine u_jump l5 r ⟨by omega, by omega⟩ fun H6 m6 l6 => ?_
    rw [eb] at l6
    have l1 := m6.lin l1 (Ne.symm n21)
    have h6 := m6 _ _ h5 (l5.ne_l h5)
    have e := ExP.ex e f2 m6
    walk_at "rd"
    refine u_meth l6 (by decide +kernel) ?_
    walk_at "rd"
    refine ⟨o2, x, n, rfl, by omega, l6, bx, fun H7 m7 l7 => ?_⟩
    have l1 := m7.lin l1 (Ne.symm n21)
    have h7 := m7 _ _ h6 (l6.ne_l h6)
    have e := ExP.ex e f2 m7
    intro lt hlt
    obtain ⟨H8, hHx, e8, h8⟩ := Gx.newo (o := (HO.lst ((ws n x).map V.int))) hlt
    rw [← hHx]
    clear hHx
    walk_at "rd"
    refine Gx.eqL (Rd.sql h8) (Rd.sql (e8 _ _ h7)) ?_
    walk_at "rd"
    refine Rd.yes rfl ?_
    walk_at "rd"
    refine u_meth (l7.ex e8) (by decide +kernel) ?_
    walk_at "rd"
    refine u_same (l7.ex e8) (l1.ex e8) ?_
    walk_at "rd"
    rw [decide_eq_true rfl]
    exact q _ (e.trans e8)
end
end Pf

set_option Elab.async false
set_option linter.all false
set_option maxRecDepth 100000
set_option maxHeartbeats 4000000
namespace Pf
open PySem PySem.Spec PyProof.Rows L2
section
variable {P : Program} {w : World} {K : PySem.W.Frag} {mg : Str → Option Value} {base : Heap} {C_Linear : Addr}
local macro_rules | `(tactic| walk_at "side") => `(tactic| first | ((with_reducible show L2.CMul _ _); first | exact Or.inl ⟨by omega, by omega⟩ | exact Or.inr ⟨by omega, by omega⟩) | ((with_reducible show L2.CPow _ _); exact ⟨by decide, by decide, by decide⟩) | ((with_reducible show L2.CMulW _ _); exact wide_mul (a := 96) (b := 96) (by omega) (by omega) (by decide) (by decide) (by decide)) | ((with_reducible show L2.CDivW _ _); exact wide_div (b := 96) (by omega) (by omega) (by decide) (by decide)) | (show (0 : Int) < _; omega) | (show (0 : Int) ≤ _; omega))
local macro_rules | `(tactic| walk_at "rd1") => `(tactic| first | with_reducible refine Rd.seq ?_ | with_reducible refine Rd.asg ?_ | with_reducible refine Rd.nm ?_ | with_reducible refine Rd.ret ?_ | with_reducible refine Rd.drop ?_ | with_reducible refine Rd.ifs ?_ | with_reducible refine Rd.par ?_ | with_reducible refine Rd.par3 ?_ | with_reducible refine Rd.next ?_ | with_reducible refine Rd.fr1 ?_ | with_reducible refine Rd.nxp ?_ | with_reducible refine Rd.rtp ?_ | ((with_reducible show tVar _ _ _ _); refine Rd.var rfl ?_) | with_reducible refine Rd.cst ?_ | with_reducible refine Rd.op ?_ | with_reducible refine Rd.un ?_ | with_reducible refine Rd.i0 ?_ | with_reducible refine Rd.ung ?_ | with_reducible refine Rd.eqI ?_ | with_reducible refine Rd.neI ?_ | with_reducible refine Rd.eqS ?_ | with_reducible refine Rd.neS ?_ | with_reducible refine Rd.test ?_ | with_reducible refine Rd.tstB ?_ | with_reducible refine Rd.isB ?_ | with_reducible refine Rd.not ?_ | with_reducible refine Rd.andT ?_ | with_reducible refine Rd.orT ?_ | with_reducible refine Rd.andV ?_ | with_reducible refine Rd.orV ?_ | with_reducible refine Rd.notV ?_ | with_reducible refine Rd.ifE ?_ | with_reducible refine Rd.chain ?_ | with_reducible refine Rd.nil ?_ | with_reducible refine Rd.cons ?_ | with_reducible refine Rd.call ?_ | with_reducible refine Rd.cb ?_ | with_reducible refine Rd.bm ?_ | with_reducible refine Rd.revL ?_ | with_reducible refine Rd.frl ?_ | with_reducible refine Rd.frt ?_ | with_reducible refine Rd.fre ?_ | with_reducible refine Rd.disp ?_ | with_reducible refine Rd.pnil ?_ | with_reducible refine Rd.pcons ?_ | with_reducible refine Rd.gcons ?_ | with_reducible refine Rd.gnil ?_ | with_reducible refine Rd.gsub ?_ | with_reducible refine Rd.setD ?_ | ((with_reducible show gTup _ _ _ _ _ (upd _ _ (HO.tup _)) _); refine Rd.tupNew rfl ?_) | with_reducible refine Rd.fld ?_ | with_reducible refine Rd.meth ?_ | with_reducible refine Rd.make ?_ | with_reducible refine Rd.prop ?_ | with_reducible refine Rd.tup ?_ | with_reducible refine Rd.lst ?_ | ((with_reducible show (List.length _ ≤ sizeLine ∧ ∀ p, _ = none → _)); refine ⟨Nat.le_of_ble_eq_true rfl, ?_⟩) | with_reducible refine Rd.isInt ?_ | with_reducible refine Rd.isBool ?_ | with_reducible refine Rd.mx2 ?_ | with_reducible refine Rd.mn2 ?_ | ((with_reducible show Rd.rAndM _ _ _ _); first | refine Rd.and1 ?_ | refine Rd.and48 ?_ | refine Rd.and32 ?_ | refine Rd.and64 ?_ | refine Rd.and65 ?_) | ((with_reducible refine Rd.iC ?hc ?_); (case hc => walk_at "side")) | ((with_reducible refine Rd.yes ?hc ?_); (case hc => omega)) | ((with_reducible refine Rd.no ?hc ?_); (case hc => omega)) | ((with_reducible refine Rd.noN ?hc ?_); (case hc => omega)) | ((with_reducible refine Rd.yesN ?hc ?_); (case hc => omega)) | ((with_reducible refine Rd.yesNN ?hc ?_); (case hc => omega)) | ((with_reducible refine Rd.noNN ?hc ?_); (case hc => omega)) | with_reducible refine iteT ?_ | with_reducible refine iteF ?_ | with_reducible refine Rd.iteNT ?_ | with_reducible refine Rd.iteNF ?_)
local macro_rules | `(tactic| walk_at "rd") => `(tactic| repeat (walk_at "rd1"))
local macro_rules | `(tactic| walk_at "rd1") => `(tactic| with_reducible refine u_isInt ?_)
local macro_rules | `(tactic| walk_at "rd1") => `(tactic| ((with_reducible show spNeed _ _ _ _ _ _); refine u_need (by omega) (by omega) ?_))
local macro_rules | `(tactic| walk_at "rd1") => `(tactic| ((with_reducible show spIsNum _ _ _ _); refine u_isNum (by omega) (by omega) ?_))
local macro_rules | `(tactic| walk_at "rd1") => `(tactic| first | with_reducible refine dget ?_ | with_reducible refine dput ?_)
local macro_rules | `(tactic| walk_at "rd1") => `(tactic| first | with_reducible refine Gx.sfld ?_ | with_reducible refine Gx.lg ?_ | with_reducible refine Gx.mg ?_ | with_reducible refine Gx.sme ?_)
theorem nat600 {x : Int} (h0 : 0 ≤ x) (h1 : x < 18446744073709551616) : x.natAbs < 2 ^ 600 := Nat.lt_of_lt_of_le (show x.natAbs < 2 ^ 64 by omega) (Nat.pow_le_pow_right (by decide) (by decide))
def d1 (x : Int) : PyData := .tuple [.int x]
theorem ok1 {x : Int} (hx : x.natAbs < 2 ^ 600) : Gx.Okd (d1 x) := by
  refine Gx.okd ?_ ?_ ?_
  · simp only [d1, Gx.Sml, Gx.SmlAll]
    exact ⟨hx, trivial⟩
  · simp only [d1, PyData.depth, PyData.depthAll]; decide
  · simp only [d1, Gx.nodes, Gx.nodesAll]; decide
theorem dp1 {H : Hp} {a : Addr} {x : Int} (h : H a = some (.tup [.int x])) : Dp K H (.ref a) (d1 x) := .tup (Rd.sqt h) (.cons (.int x) .nil)
def d6 (x y z : Int) : PyData := .list [d1 x, d1 x, d1 x, d1 y, d1 y, d1 z]
theorem ok6 {x y z : Int} (hx : x.natAbs < 2 ^ 600) (hy : y.natAbs < 2 ^ 600) (hz : z.natAbs < 2 ^ 600) : Gx.Okd (d6 x y z) := by
  refine Gx.okd ?_ ?_ ?_
  · simp only [d6, d1, Gx.Sml, Gx.SmlAll]
    exact ⟨⟨hx, trivial⟩, ⟨hx, trivial⟩, ⟨hx, trivial⟩, ⟨hy, trivial⟩, ⟨hy, trivial⟩, ⟨hz, trivial⟩, trivial⟩
  · simp only [d6, d1, PyData.depth, PyData.depthAll]; decide
  · simp only [d6, d1, Gx.nodes, Gx.nodesAll]; decide
theorem dp6 {H : Hp} {p a b c d e f : Addr} {x y z : Int} (hp : H p = some (.lst [.ref a, .ref b, .ref c, .ref d, .ref e, .ref f])) (ha : H a = some (.tup [.int x])) (hb : H b = some (.tup [.int x])) (hc : H c = some (.tup [.int x]))
    (hd : H d = some (.tup [.int y])) (he : H e = some (.tup [.int y])) (hf : H f = some (.tup [.int z])) : Dp K H (.ref p) (d6 x y z) :=
  .lst (Rd.sql hp) (.cons (dp1 ha) (.cons (dp1 hb) (.cons (dp1 hc) (.cons (dp1 hd) (.cons (dp1 he) (.cons (dp1 hf) .nil))))))
theorem u_moved {H : Hp} {Q : VK} {E : XK} {x n : Int} (hx : 0 ≤ x ∧ x < 281474976710656) (q : ∀ H', Rd.Ex H H' → Q (.int (ML.mv (n % 281474976710656).toNat x)) H') : spLawMoved ([.int x, .int n] ++ []) H Q E := ⟨x, n, rfl, hx.1, hx.2, q⟩
theorem u_after {H : Hp} {Q : VK} {E : XK} {a : Addr} {x n : Int} (h : H a = some (.tup [.int x])) (hx : 0 ≤ x ∧ x < 281474976710656) (hn : 0 ≤ n ∧ n ≤ 18446744073709551616)
    (q : ∀ t H', H t = none → Rd.Ex H H' → H' t = some (.tup [.int (ML.mv (n % 281474976710656).toNat x)]) → Q (.ref t) H') : spAfter ([.ref a, .int n] ++ []) H Q E := ⟨a, x, n, rfl, h, hx, hn, q⟩
theorem u_cat {H : Hp} {Q : VK} {l b : Addr} {xs zs : List V} (h1 : H l = some (.lst xs)) (h2 : H b = some (.lst zs)) (hl : xs.length + zs.length ≤ 1000) (q : ∀ p H', H p = none → Rd.Ex H H' → H' p = some (.lst (xs ++ zs)) → Q (.ref p) H') : rCat (.ref l) (.ref b) H Q :=
  ⟨l, b, xs, zs, rfl, rfl, h1, h2, Nat.le_trans hl (Nat.le_of_ble_eq_true rfl), fun p hp => q p _ hp (Rd.ex_new hp) upd_same⟩
theorem u_rep {H : Hp} {Q : VK} {l : Addr} {k : Int} {xs : List V} (h1 : H l = some (.lst xs)) (hk : 0 ≤ k ∧ k < 100) (hl : xs.length ≤ 10) (q : ∀ p H', H p = none → Rd.Ex H H' → H' p = some (.lst (List.replicate k.toNat xs).flatten) → Q (.ref p) H') : rRep (.ref l) (.int k) H Q :=
  ⟨l, k, xs, rfl, rfl, h1, by omega, by omega, Nat.le_trans (Nat.mul_le_mul hl (show k.toNat ≤ 100 by omega)) (Nat.le_of_ble_eq_true rfl), fun p hp => q p _ hp (Rd.ex_new hp) upd_same⟩
def spWays : Sp := fun vs H Q _ => ∃ (x n : Int), vs = [.int x, .int n] ∧ (0 ≤ x ∧ x < 281474976710656) ∧ (0 ≤ n ∧ n ≤ 18446744073709551616) ∧ ∀ H', Rd.Ex H H' → Q (.bl true) H'
theorem cal__law_ways_right (T : Txt K mg C_Linear) : Gx.CalG P w K mg base 9 "_law_ways_right" spWays := by
  obtain ⟨f, fd, F, b⟩ := T.d__law_ways_right
  refine Gx.calG F b sc__law_ways_right (fun vs H Q E h => ?_) (fun cdv A outer s H vs Q gd hr h => ?_)
  · obtain ⟨x, n, rfl, _⟩ := h; rfl
  · obtain ⟨x, n, rfl, bx, bn, q⟩ := h
    have hu := hu_of hr
    have hu64 := hr.units
    refine ⟨_, (pss_cons (ps_par3 (i := 2) (j := 3) (l := 4) rfl sc__law_ways_right.nd rfl rfl rfl (by decide) (by decide) (by decide) rfl rfl rfl (pa_cons (C8.pe_mk (mak_Linear T) hr (by omega) (by rfl) (pa_cons (pv 0) pa_nil)) (pa_cons (pe_tup (pa_cons (C8.pe_c (cal__law_moved T) hr (by omega) (by rfl) (pa_cons (pv 0) (pa_cons (pv 1) pa_nil))) pa_nil)) (pa_cons (pe_tup (pa_cons (C8.pe_c (cal__law_moved T) hr (by omega) (by rfl) (pa_cons (pv 0) (pa_cons (pe_op op_sub pe_int (pv 1)) pa_nil))) pa_nil)) pa_nil))) (by rfl))
      (pss_cons (ps_set (i := 5) sc__law_ways_right.nd rfl (.inl rfl) (pe_lst (pa_cons (Gx.pe_propC (C8.pe_mt (met_Linear_ahead T) hr (by omega) (pv 2) (pa_cons (pv 1) pa_nil)) (prop_Linear_state T) hr (by omega) rfl) (pa_cons (Gx.pe_propC (pe_op (Gx.op_own (met_Linear___rshift__ T) hr (by omega) T.o_Linear_rshift rfl) (pv 2) (pv 1)) (prop_Linear_state T) hr (by omega) rfl) (pa_cons (Gx.pe_sm (smet_Linear_state_after T) hr (by omega) (C8.pe_gc (by rfl) T.k_Linear) (pa_cons (pe_tup (pa_cons (pv 0) pa_nil)) (pa_cons (pv 1) pa_nil))) pa_nil)))))
      (pss_cons (ps_set (i := 5) sc__law_ways_right.nd rfl (.inl rfl) (pe_op op_cat (pv 5) (pe_lst (pa_cons (Gx.pe_propC (C8.pe_mt (met_Linear_behind T) hr (by omega) (pv 2) (pa_cons (pv 1) pa_nil)) (prop_Linear_state T) hr (by omega) rfl) (pa_cons (Gx.pe_propC (pe_op (Gx.op_own (met_Linear___lshift__ T) hr (by omega) T.o_Linear_lshift rfl) (pv 2) (pv 1)) (prop_Linear_state T) hr (by omega) rfl) (pa_cons (Gx.pe_propC (pv 2) (prop_Linear_state T) hr (by omega) rfl) pa_nil))))))
      (pss_cons (ps_if (pt_cmpR op_ne (pe_callB (Gx.call_repr gd hu64) (by rfl) T.b_repr (by decide +kernel) (pa_cons (pv 5) pa_nil)) (pe_callB (Gx.call_repr gd hu64) (by rfl) T.b_repr (by decide +kernel) (pa_cons (pe_op op_cat (pe_op op_cat (pe_op op_rep (pe_lst (pa_cons (pv 3) pa_nil)) pe_int) (pe_op op_rep (pe_lst (pa_cons (pv 4) pa_nil)) pe_int)) (pe_lst (pa_cons (pe_tup (pa_cons (pv 0) pa_nil)) pa_nil))) pa_nil)) (nomark _)) (pss_one (ps_ret pe_bl)) pss_nil)
      (pss_cons (ps_for PassesOwn.never rfl (pi_tup (pe_tup (pa_cons (C8.pe_mt (met_Linear_ahead T) hr (by omega) (pv 2) (pa_cons pe_int pa_nil)) (pa_cons (C8.pe_mt (met_Linear_behind T) hr (by omega) (pv 2) (pa_cons pe_int pa_nil)) (pa_cons (pe_op (Gx.op_own (met_Linear___rshift__ T) hr (by omega) T.o_Linear_rshift rfl) (pv 2) pe_int) (pa_cons (pe_op (Gx.op_own (met_Linear___lshift__ T) hr (by omega) T.o_Linear_lshift rfl) (pv 2) pe_int) (pa_cons (C8.pe_mt0 (met_Linear_copy T) hr (by omega) (pv 2)) pa_nil))))))) (pg_name (i := 6) sc__law_ways_right.nd rfl (.inl rfl)) (pss_one (ps_expr (C8.pe_mt0 (met_Linear_next_word T) hr (by omega) (pv 6)))))
      (pss_cons (ps_if (PW.pt (pw_or (pt_cmpR op_ne (pe_callB (Gx.call_repr gd hu64) (by rfl) T.b_repr (by decide +kernel) (pa_cons (Gx.pe_propC (pv 2) (prop_Linear_state T) hr (by omega) rfl) pa_nil)) (pe_callB (Gx.call_repr gd hu64) (by rfl) T.b_repr (by decide +kernel) (pa_cons (pe_tup (pa_cons (pv 0) pa_nil)) pa_nil)) (nomark _)) (pw_or (pt_cmpR op_notN (C8.pe_mt (met_Linear_jump T) hr (by omega) (pv 2) (pa_cons (pv 1) pa_nil)) pe_non (nomark _)) (pw_or1 (pt_cmpR op_ne (pe_callB (Gx.call_repr gd hu64) (by rfl) T.b_repr (by decide +kernel) (pa_cons (Gx.pe_propC (pv 2) (prop_Linear_state T) hr (by omega) rfl) pa_nil)) (pe_callB (Gx.call_repr gd hu64) (by rfl) T.b_repr (by decide +kernel) (pa_cons (pv 3) pa_nil)) (nomark _)))))) (pss_one (ps_ret pe_bl)) pss_nil)
      (pss_cons (ps_if (PW.pt (pw_or (pt_cmpR op_notN (C8.pe_mt (met_Linear_back T) hr (by omega) (pv 2) (pa_cons (pv 1) pa_nil)) pe_non (nomark _)) (pw_or1 (pt_cmpR op_ne (pe_callB (Gx.call_repr gd hu64) (by rfl) T.b_repr (by decide +kernel) (pa_cons (Gx.pe_propC (pv 2) (prop_Linear_state T) hr (by omega) rfl) pa_nil)) (pe_callB (Gx.call_repr gd hu64) (by rfl) T.b_repr (by decide +kernel) (pa_cons (pe_tup (pa_cons (pv 0) pa_nil)) pa_nil)) (nomark _))))) (pss_one (ps_ret pe_bl)) pss_nil)
      (pss_cons (ps_expr (C8.pe_mt (met_Linear_back T) hr (by omega) (pv 2) (pa_cons (pv 1) pa_nil)))
      (pss_cons (ps_set (i := 7) sc__law_ways_right.nd rfl (.inl rfl) (C8.pe_mk (mak_Linear T) hr (by omega) (by rfl) (pa_cons (pv 0) pa_nil)))
      (pss_cons (ps_expr (C8.pe_mt (met_Linear_jump T) hr (by omega) (pv 7) (pa_cons (pe_op op_sub pe_int (pe_op op_mod (pv 1) pe_int)) pa_nil)))
      (pss_one (ps_ret (pe_and (pe_cmpR op_eq (pe_callB (Gx.call_repr gd hu64) (by rfl) T.b_repr (by decide +kernel) (pa_cons (Gx.pe_propC (pv 2) (prop_Linear_state T) hr (by omega) rfl) pa_nil)) (pe_callB (Gx.call_repr gd hu64) (by rfl) T.b_repr (by decide +kernel) (pa_cons (pv 4) pa_nil)) (nomark _)) (pe_one (C8.pe_mt (met_Linear_same_state T) hr (by omega) (pv 7) (pa_cons (pv 2) pa_nil)))))))))))))))), ?_⟩
    have r1 := ML.mv_rng (n % 281474976710656).toNat x
    have r2 := ML.mv_rng ((0 - n) % 281474976710656).toNat x
    have gb := back_go n bx.1 bx.2
    generalize hy : ML.mv (n % 281474976710656).toNat x = y at r1 gb
    generalize hz : ML.mv ((0 - n) % 281474976710656).toNat x = z at r2
    walk_at "rd"
    refine u_mk (C := C_Linear) bx.1 bx.2 fun so H1 hso e1 ls => ?_
    walk_at "rd"
    refine u_moved bx fun H2 e2 => ?_
    rw [hy]
    walk_at "rd"
    intro du hdu
    obtain ⟨H3, hHx, e3, h3⟩ := Gx.newo (o := (HO.tup [V.int y])) hdu
    rw [← hHx]
    clear hHx
    walk_at "rd"
    refine u_moved bx fun H4 e4 => ?_
    rw [hz]
    walk_at "rd"
    intro la hla
    obtain ⟨H5, hHx, e5, h5⟩ := Gx.newo (o := (HO.tup [V.int z])) hla
    rw [← hHx]
    clear hHx
    walk_at "rd"
    refine ⟨_, _, _, rfl, ?_⟩
    have ls := ls.ex (((e2.trans e3).trans e4).trans e5)
    have e := (((e1.trans e2).trans e3).trans e4).trans e5
    have hD := e5 _ _ (e4 _ _ h3)
    have hL := h5
    walk_at "rd"
    refine u_meth ls (by decide +kernel) ?_
    walk_at "rd"
    refine u_go ls bx bn fun o1 H6 ho1 e6 l6 => ?_
    rw [hy] at l6
    walk_at "rd"
    refine u_state l6 fun t1 H7 ht1 e7 h7 _ => ?_
    have E7 := e6.trans e7
    walk_at "rd"
    refine u_op (ls.ex E7) bx bn fun o2 H8 ho2 e8 l8 _ => ?_
    rw [hy] at l8
    walk_at "rd"
    refine u_state l8 fun t2 H9 ht2 e9 h9 _ => ?_
    have E9 := (E7.trans e8).trans e9
    walk_at "rd"
    refine ⟨rfl, ?_⟩
    walk_at "rd"
    intro t0 ht0
    obtain ⟨H10, hHx, e10, h10⟩ := Gx.newo (o := (HO.tup [V.int x])) ht0
    rw [← hHx]
    clear hHx
    walk_at "rd"
    refine u_after h10 bx bn fun t3 H11 ht3 e11 h11 => ?_
    rw [hy] at h11
    walk_at "rd"
    intro f1 hf1
    obtain ⟨H12, hHx, e12, h12⟩ := Gx.newo (o := (HO.lst [V.ref t1, V.ref t2, V.ref t3])) hf1
    rw [← hHx]
    clear hHx
    have E12 := ((E9.trans e10).trans e11).trans e12
    walk_at "rd"
    refine u_meth (ls.ex E12) (by decide +kernel) ?_
    walk_at "rd"
    refine u_go (ls.ex E12) bx bn fun o4 H13 ho4 e13 l13 => ?_
    rw [hz] at l13
    walk_at "rd"
    refine u_state l13 fun t4 H14 ht4 e14 h14 _ => ?_
    have E14 := (E12.trans e13).trans e14
    walk_at "rd"
    refine u_op (ls.ex E14) bx bn fun o5 H15 ho5 e15 l15 _ => ?_
    rw [hz] at l15
    walk_at "rd"
    refine u_state l15 fun t5 H16 ht5 e16 h16 _ => ?_
    have E16 := (E14.trans e15).trans e16
    walk_at "rd"
    refine u_state (ls.ex E16) fun t6 H17 ht6 e17 h17 _ => ?_
    walk_at "rd"
    intro f2 hf2
    obtain ⟨H18, hHx, e18, h18⟩ := Gx.newo (o := (HO.lst [V.ref t4, V.ref t5, V.ref t6])) hf2
    rw [← hHx]
    clear hHx
    walk_at "rd"
    have F12 := ((((e13.trans e14).trans e15).trans e16).trans e17).trans e18
    refine u_cat (F12 _ _ h12) h18 (Nat.le_of_ble_eq_true rfl) fun fo H19 hfo e19 h19 => ?_
    replace h19 : H19 fo = some (.lst [.ref t1, .ref t2, .ref t3, .ref t4, .ref t5, .ref t6]) := h19
    have G12 := F12.trans e19
    have g16 := (e17.trans e18).trans e19
    walk_at "rd"
    refine Gx.rpr (d6 y z x) (dp6 h19 (G12 _ _ (e12 _ _ (e11 _ _ (e10 _ _ (e9 _ _ (e8 _ _ h7)))))) (G12 _ _ (e12 _ _ (e11 _ _ (e10 _ _ h9)))) (G12 _ _ (e12 _ _ h11)) (g16 _ _ (e16 _ _ (e15 _ _ h14))) (g16 _ _ h16) (e19 _ _ (e18 _ _ h17))) (ok6 (nat600 r1.1 (by omega)) (nat600 r2.1 (by omega)) (nat600 bx.1 (by omega))) ?_
    have E19 := ((E16.trans e17).trans e18).trans e19
    have hD := E19 _ _ hD
    have hL := E19 _ _ hL
    have ls := ls.ex E19
    have e := e.trans E19
    clear g16 G12 F12 E16 E14 E12 E9 E7
    walk_at "rd"
    intro q1 hq1
    obtain ⟨J1, hHx, j1, k1⟩ := Gx.newo (o := (HO.lst [V.ref du])) hq1
    rw [← hHx]
    clear hHx
    walk_at "rd"
    refine u_rep k1 (by decide) (Nat.le_of_ble_eq_true rfl) fun q2 J2 hq2 j2 k2 => ?_
    replace k2 : J2 q2 = some (.lst [.ref du, .ref du, .ref du]) := k2
    walk_at "rd"
    intro q3 hq3
    obtain ⟨J3, hHx, j3, k3⟩ := Gx.newo (o := (HO.lst [V.ref la])) hq3
    rw [← hHx]
    clear hHx
    walk_at "rd"
    refine u_rep k3 (by decide) (Nat.le_of_ble_eq_true rfl) fun q4 J4 hq4 j4 k4 => ?_
    replace k4 : J4 q4 = some (.lst [.ref la, .ref la]) := k4
    walk_at "rd"
    refine u_cat (j4 _ _ (j3 _ _ k2)) k4 (Nat.le_of_ble_eq_true rfl) fun q5 J5 hq5 j5 k5 => ?_
    replace k5 : J5 q5 = some (.lst [.ref du, .ref du, .ref du, .ref la, .ref la]) := k5
    walk_at "rd"
    intro tx htx
    obtain ⟨J6, hHx, j6, k6⟩ := Gx.newo (o := (HO.tup [V.int x])) htx
    rw [← hHx]
    clear hHx
    walk_at "rd"
    intro q7 hq7
    obtain ⟨J7, hHx, j7, k7⟩ := Gx.newo (o := (HO.lst [V.ref tx])) hq7
    rw [← hHx]
    clear hHx
    walk_at "rd"
    refine u_cat (j7 _ _ (j6 _ _ k5)) k7 (Nat.le_of_ble_eq_true rfl) fun q8 J8 hq8 j8 k8 => ?_
    replace k8 : J8 q8 = some (.lst [.ref du, .ref du, .ref du, .ref la, .ref la, .ref tx]) := k8
    have F8 := ((((((j1.trans j2).trans j3).trans j4).trans j5).trans j6).trans j7).trans j8
    have hD := F8 _ _ hD
    have hL := F8 _ _ hL
    have ls := ls.ex F8
    have e := e.trans F8
    walk_at "rd"
    refine Gx.rpr (d6 y z x) (dp6 k8 hD hD hD hL hL (j8 _ _ (j7 _ _ k6))) (ok6 (nat600 r1.1 (by omega)) (nat600 r2.1 (by omega)) (nat600 bx.1 (by omega))) ?_
    walk_at "rd"
    refine Rd.noN rfl ?_
    walk_at "rd"
    refine u_meth ls (by decide +kernel) ?_
    walk_at "rd"
    refine u_go ls bx ⟨by decide, by decide⟩ fun a1 Z1 ha1 z1 m1 => ?_
    walk_at "rd"
    refine u_meth (ls.ex z1) (by decide +kernel) ?_
    walk_at "rd"
    refine u_go (ls.ex z1) bx ⟨by decide, by decide⟩ fun a2 Z2 ha2 z2 m2 => ?_
    have y2 := z1.trans z2
    walk_at "rd"
    refine u_op (ls.ex y2) bx ⟨by decide, by decide⟩ fun a3 Z3 ha3 z3 m3 _ => ?_
    have y3 := y2.trans z3
    walk_at "rd"
    refine u_op (ls.ex y3) bx ⟨by decide, by decide⟩ fun a4 Z4 ha4 z4 m4 _ => ?_
    have y4 := y3.trans z4
    walk_at "rd"
    refine u_meth (ls.ex y4) (by decide +kernel) ?_
    refine ⟨so, x, rfl, ls.ex y4, bx, fun a5 Z5 ha5 z5 m5 => ?_⟩
    have y5 := y4.trans z5
    walk_at "rd"
    intro tt htt
    obtain ⟨Z6, hHx, z6, n6⟩ := Gx.newo (o := (HO.tup [V.ref a1, V.ref a2, V.ref a3, V.ref a4, V.ref a5])) htt
    rw [← hHx]
    clear hHx
    have y6 := y5.trans z6
    have hnone : ∀ o ∈ [a1, a2, a3, a4, a5], J8 o = none := by
      intro o ho
      simp only [List.mem_cons, List.not_mem_nil, or_false] at ho
      rcases ho with rfl | rfl | rfl | rfl | rfl
      · exact ha1
      · exact z1.free ha2
      · exact y2.free ha3
      · exact y3.free ha4
      · exact y4.free ha5
    have hall : ∀ o ∈ [a1, a2, a3, a4, a5], ∃ v, (0 ≤ v ∧ v < 281474976710656) ∧ LinAt C_Linear Z6 o v := by
      intro o ho
      simp only [List.mem_cons, List.not_mem_nil, or_false] at ho
      rcases ho with rfl | rfl | rfl | rfl | rfl
      · exact ⟨_, ML.mv_rng _ _, m1.ex ((((z2.trans z3).trans z4).trans z5).trans z6)⟩
      · exact ⟨_, ML.mv_rng _ _, m2.ex (((z3.trans z4).trans z5).trans z6)⟩
      · exact ⟨_, ML.mv_rng _ _, m3.ex ((z4.trans z5).trans z6)⟩
      · exact ⟨_, ML.mv_rng _ _, m4.ex (z5.trans z6)⟩
      · exact ⟨_, bx, m5.ex z6⟩
    generalize hos : [a1, a2, a3, a4, a5] = os at hnone hall
    have eos : [V.ref a1, V.ref a2, V.ref a3, V.ref a4, V.ref a5] = os.map V.ref := by subst hos; rfl
    rw [eos] at n6
    refine ⟨tt, rfl, ⟨_, Rd.sqt n6⟩, for_tup (xs := os.map V.ref) (fun i σ' H' => ∃ y, σ' = [some (.int x), some (.int n), some (.ref so), some (.ref du), some (.ref la), some (.ref fo), y, none] ∧ H' tt = some (.tup (os.map V.ref)) ∧ Rd.Ex J8 H' ∧ ∀ o ∈ os, ∃ v, (0 ≤ v ∧ v < 281474976710656) ∧ LinAt C_Linear H' o v)
      ⟨none, rfl, n6, y6, hall⟩ ?_ ?_ ?_⟩
    · rintro i σ' H' hi ⟨y, rfl, ht, _⟩
      exact Rd.sqt ht
    · rintro i xx σ' H' hx ⟨y', rfl, ht, eJ, hall'⟩
      obtain ⟨o, ho, rfl⟩ := List.mem_map.mp (List.mem_of_getElem? hx)
      obtain ⟨v, hv, lo⟩ := hall' o ho
      walk_at "rd"
      refine u_meth lo (by decide +kernel) ?_
      refine ⟨o, v, rfl, lo, hv, fun H'' m l => ?_⟩
      walk_at "rd"
      refine ⟨_, rfl, m _ _ ht (lo.ne_t ht), ExP.ex eJ (hnone o ho) m, fun o' ho' => ?_⟩
      by_cases h : o' = o
      · subst h
        exact ⟨_, ML.mv_rng _ _, l⟩
      · obtain ⟨v', hv', lo'⟩ := hall' o' ho'
        exact ⟨v', hv', m.lin lo' h⟩
    · rintro σ' HA ⟨y', rfl, ht, eJ, _⟩
      have hD := eJ _ _ hD
      have hL := eJ _ _ hL
      have ls := ls.ex eJ
      have e := e.trans eJ
      walk_at "rd"
      refine u_state ls fun s1 HB hs1 b1 c1 ls => ?_
      walk_at "rd"
      refine Gx.rpr (d1 x) (dp1 c1) (ok1 (nat600 bx.1 (by omega))) ?_
      walk_at "rd"
      intro s2 hs2
      obtain ⟨HC, hHx, b2, c2⟩ := Gx.newo (o := (HO.tup [V.int x])) hs2
      rw [← hHx]
      clear hHx
      walk_at "rd"
      refine Gx.rpr (d1 x) (dp1 c2) (ok1 (nat600 bx.1 (by omega))) ?_
      walk_at "rd"
      refine Rd.noN rfl ?_
      have ls := ls.ex b2
      have hD := b2 _ _ (b1 _ _ hD)
      have hL := b2 _ _ (b1 _ _ hL)
      have e := (e.trans b1).trans b2
      walk_at "rd"
      refine u_meth ls (by decide +kernel) ?_
      walk_at "rd"
      refine u_jump ls bx bn fun HD m3' l3 => ?_
      rw [hy] at l3
      have hD := m3' _ _ hD (ls.ne_t hD)
      have hL := m3' _ _ hL (ls.ne_t hL)
      have e := ExP.ex e hso m3'
      walk_at "rd"
      refine ⟨rfl, ?_⟩
      walk_at "rd"
      refine Rd.noN rfl ?_
      walk_at "rd"
      refine u_state l3 fun s4 HE hs4 b4 c4 l3 => ?_
      walk_at "rd"
      refine Gx.rpr (d1 y) (dp1 c4) (ok1 (nat600 r1.1 (by omega))) ?_
      have hD := b4 _ _ hD
      have hL := b4 _ _ hL
      have e := e.trans b4
      walk_at "rd"
      refine Gx.rpr (d1 y) (dp1 hD) (ok1 (nat600 r1.1 (by omega))) ?_
      walk_at "rd"
      refine Rd.noN rfl ?_
      walk_at "rd"
      refine u_meth l3 (by decide +kernel) ?_
      walk_at "rd"
      refine u_jump l3 r1 bn fun HF m5' l5 => ?_
      rw [gb] at l5
      have hL := m5' _ _ hL (l3.ne_t hL)
      have e := ExP.ex e hso m5'
      walk_at "rd"
      refine ⟨rfl, ?_⟩
      walk_at "rd"
      refine Rd.noN rfl ?_
      walk_at "rd"
      refine u_state l5 fun s6 HG hs6 b6 c6 l5 => ?_
      walk_at "rd"
      refine Gx.rpr (d1 x) (dp1 c6) (ok1 (nat600 bx.1 (by omega))) ?_
      walk_at "rd"
      intro s7 hs7
      obtain ⟨HI, hHx, b7, c7⟩ := Gx.newo (o := (HO.tup [V.int x])) hs7
      rw [← hHx]
      clear hHx
      walk_at "rd"
      refine Gx.rpr (d1 x) (dp1 c7) (ok1 (nat600 bx.1 (by omega))) ?_
      walk_at "rd"
      refine Rd.noN rfl ?_
      have l5 := l5.ex b7
      have hL := b7 _ _ (b6 _ _ hL)
      have e := (e.trans b6).trans b7
      walk_at "rd"
      refine u_meth l5 (by decide +kernel) ?_
      walk_at "rd"
      refine u_jump l5 bx bn fun HJ m8 l8 => ?_
      rw [hz] at l8
      have hL := m8 _ _ hL (l5.ne_t hL)
      have e := ExP.ex e hso m8
      walk_at "rd"
      refine u_mk (C := C_Linear) bx.1 bx.2 fun fa HK hfa b9 l9 => ?_
      have l8 := l8.ex b9
      have hL := b9 _ _ hL
      have ffa := e.free hfa
      have nfa : so ≠ fa := fun h => by
        obtain ⟨dx, l8'⟩ := id (show LinAt C_Linear HJ so z by assumption)
        rw [h, hfa] at l8'
        cases l8'
      have e := e.trans b9
      walk_at "rd"
      refine u_meth l9 (by decide +kernel) ?_
      walk_at "rd"
      refine u_jump l9 bx ⟨by omega, by omega⟩ fun HL m10 l10 => ?_
      rw [show ((281474976710656 - n % 281474976710656) % 281474976710656).toNat = ((0 - n) % 281474976710656).toNat by omega, hz] at l10
      have l8 := m10.lin l8 nfa
      have hL := m10 _ _ hL (l9.ne_t hL)
      have e := ExP.ex e ffa m10
      walk_at "rd"
      refine u_state l8 fun s11 HM hs11 b11 c11 l8 => ?_
      walk_at "rd"
      refine Gx.rpr (d1 z) (dp1 c11) (ok1 (nat600 r2.1 (by omega))) ?_
      walk_at "rd"
      refine Gx.rpr (d1 z) (dp1 (b11 _ _ hL)) (ok1 (nat600 r2.1 (by omega))) ?_
      walk_at "rd"
      refine Rd.yes rfl ?_
      walk_at "rd"
      refine u_meth (l10.ex b11) (by decide +kernel) ?_
      walk_at "rd"
      refine u_same (l10.ex b11) l8 ?_
      walk_at "rd"
      rw [decide_eq_true rfl]
      exact q _ (e.trans b11)
end
end Pf

set_option Elab.async false
set_option linter.all false
set_option maxRecDepth 100000
set_option maxHeartbeats 4000000
namespace Pf
open PySem PySem.Spec PyProof.Rows L2
section
variable {P : Program} {w : World} {K : PySem.W.Frag} {mg : Str → Option Value} {base : Heap} {C_Linear : Addr}
local macro_rules | `(tactic| walk_at "side") => `(tactic| first | ((with_reducible show L2.CMul _ _); first | exact Or.inl ⟨by omega, by omega⟩ | exact Or.inr ⟨by omega, by omega⟩) | ((with_reducible show L2.CPow _ _); exact ⟨by decide, by decide, by decide⟩) | ((with_reducible show L2.CMulW _ _); exact wide_mul (a := 96) (b := 96) (by omega) (by omega) (by decide) (by decide) (by decide)) | ((with_reducible show L2.CDivW _ _); exact wide_div (b := 96) (by omega) (by omega) (by decide) (by decide)) | (show (0 : Int) < _; omega) | (show (0 : Int) ≤ _; omega))
local macro_rules | `(tactic| walk_at "rd1") => `(tactic| first | with_reducible refine Rd.seq ?_ | with_reducible refine Rd.asg ?_ | with_reducible refine Rd.nm ?_ | with_reducible refine Rd.ret ?_ | with_reducible refine Rd.drop ?_ | with_reducible refine Rd.ifs ?_ | with_reducible refine Rd.par ?_ | with_reducible refine Rd.par3 ?_ | with_reducible refine Rd.next ?_ | with_reducible refine Rd.fr1 ?_ | with_reducible refine Rd.nxp ?_ | with_reducible refine Rd.rtp ?_ | ((with_reducible show tVar _ _ _ _); refine Rd.var rfl ?_) | with_reducible refine Rd.cst ?_ | with_reducible refine Rd.op ?_ | with_reducible refine Rd.un ?_ | with_reducible refine Rd.i0 ?_ | with_reducible refine Rd.ung ?_ | with_reducible refine Rd.eqI ?_ | with_reducible refine Rd.neI ?_ | with_reducible refine Rd.eqS ?_ | with_reducible refine Rd.neS ?_ | with_reducible refine Rd.test ?_ | with_reducible refine Rd.tstB ?_ | with_reducible refine Rd.isB ?_ | with_reducible refine Rd.not ?_ | with_reducible refine Rd.andT ?_ | with_reducible refine Rd.orT ?_ | with_reducible refine Rd.andV ?_ | with_reducible refine Rd.orV ?_ | with_reducible refine Rd.notV ?_ | with_reducible refine Rd.ifE ?_ | with_reducible refine Rd.chain ?_ | with_reducible refine Rd.nil ?_ | with_reducible refine Rd.cons ?_ | with_reducible refine Rd.call ?_ | with_reducible refine Rd.cb ?_ | with_reducible refine Rd.bm ?_ | with_reducible refine Rd.revL ?_ | with_reducible refine Rd.frl ?_ | with_reducible refine Rd.frt ?_ | with_reducible refine Rd.fre ?_ | with_reducible refine Rd.disp ?_ | with_reducible refine Rd.pnil ?_ | with_reducible refine Rd.pcons ?_ | with_reducible refine Rd.gcons ?_ | with_reducible refine Rd.gnil ?_ | with_reducible refine Rd.gsub ?_ | with_reducible refine Rd.setD ?_ | ((with_reducible show gTup _ _ _ _ _ (upd _ _ (HO.tup _)) _); refine Rd.tupNew rfl ?_) | with_reducible refine Rd.fld ?_ | with_reducible refine Rd.meth ?_ | with_reducible refine Rd.make ?_ | with_reducible refine Rd.prop ?_ | with_reducible refine Rd.tup ?_ | with_reducible refine Rd.lst ?_ | ((with_reducible show (List.length _ ≤ sizeLine ∧ ∀ p, _ = none → _)); refine ⟨Nat.le_of_ble_eq_true rfl, ?_⟩) | with_reducible refine Rd.isInt ?_ | with_reducible refine Rd.isBool ?_ | with_reducible refine Rd.mx2 ?_ | with_reducible refine Rd.mn2 ?_ | ((with_reducible show Rd.rAndM _ _ _ _); first | refine Rd.and1 ?_ | refine Rd.and48 ?_ | refine Rd.and32 ?_ | refine Rd.and64 ?_ | refine Rd.and65 ?_) | ((with_reducible refine Rd.iC ?hc ?_); (case hc => walk_at "side")) | ((with_reducible refine Rd.yes ?hc ?_); (case hc => omega)) | ((with_reducible refine Rd.no ?hc ?_); (case hc => omega)) | ((with_reducible refine Rd.noN ?hc ?_); (case hc => omega)) | ((with_reducible refine Rd.yesN ?hc ?_); (case hc => omega)) | ((with_reducible refine Rd.yesNN ?hc ?_); (case hc => omega)) | ((with_reducible refine Rd.noNN ?hc ?_); (case hc => omega)) | with_reducible refine iteT ?_ | with_reducible refine iteF ?_ | with_reducible refine Rd.iteNT ?_ | with_reducible refine Rd.iteNF ?_)
local macro_rules | `(tactic| walk_at "rd") => `(tactic| repeat (walk_at "rd1"))
local macro_rules | `(tactic| walk_at "rd1") => `(tactic| with_reducible refine u_isInt ?_)
local macro_rules | `(tactic| walk_at "rd1") => `(tactic| ((with_reducible show spNeed _ _ _ _ _ _); refine u_need (by omega) (by omega) ?_))
local macro_rules | `(tactic| walk_at "rd1") => `(tactic| ((with_reducible show spIsNum _ _ _ _); refine u_isNum (by omega) (by omega) ?_))
local macro_rules | `(tactic| walk_at "rd1") => `(tactic| first | with_reducible refine dget ?_ | with_reducible refine dput ?_)
local macro_rules | `(tactic| walk_at "rd1") => `(tactic| first | with_reducible refine Gx.sfld ?_ | with_reducible refine Gx.lg ?_ | with_reducible refine Gx.mg ?_ | with_reducible refine Gx.sme ?_)
theorem u_pick {hi : Int} {H : Hp} {Q : VK} {E : XK} {d g : Addr} (D : Draw H d g) (q : ∀ (H' : Hp) (v : Int), 0 ≤ v → v ≤ hi → Draw H' d g → ExB d g H H' → Q (.int v) H') : spPick hi ([.ref d] ++ []) H Q E := ⟨d, g, rfl, D, q⟩
theorem mvz_add (a b x : Int) : ML.mv (b % 281474976710656).toNat (ML.mv (a % 281474976710656).toNat x) = ML.mv ((a + b) % 281474976710656).toNat x := by
  rw [ML.mv_add, ← ML.mv_mod]
  congr 1
  omega
def spLaw (K : PySem.W.Frag) : Sp := fun vs H Q _ => ∃ (a : Addr) (ns : List Int), vs = [.ref a] ∧ SqL K H a (ns.map V.int) ∧ ns.length ≤ 63 ∧ ∀ H', Q (.bl true) H'
theorem fn_law (T : Txt K mg C_Linear) {f : Addr} {fd : FuncData} (F : C8.Def K mg "law" s_law f fd) : Gx.FnG P w K mg base 11 f fd ["_law_script"] (spLaw K) := by
  refine Gx.fnG_of F.fn sc_law (fun vs H Q E h => ?_) (fun cdv A outer s H vs Q gd hr h => ?_)
  · obtain ⟨a, ns, rfl, _⟩ := h; rfl
  · obtain ⟨a, ns, rfl, hS, hl, q⟩ := h
    have hu := hu_of hr
    have hu64 := hr.units
    refine ⟨_, (pss_cons (ps_set (i := 1) sc_law.nd rfl (.inl rfl) (C8.pe_c (cal__law_begun T) hr (by omega) (by rfl) (pa_cons (pv 0) pa_nil)))
      (pss_cons (ps_for PassesOwn.never rfl (pi_range1 rfl T.b_range (pa_cons (pe_op op_add pe_int (pe_callB (Rd.call_mn2 rfl) (by rfl) T.b_min (by decide +kernel) (pa_cons pe_int (pa_cons (pe_op op_fdivW (pe_callB Rd.call_lenQ (by rfl) T.b_len PySem.boot_len (pa_cons (pv 0) pa_nil)) pe_int) pa_nil)))) pa_nil)) (pg_name (i := 2) sc_law.nd rfl (.inl rfl)) (pss_cons (ps_par3 (i := 3) (j := 4) (l := 5) rfl sc_law.nd rfl rfl rfl (by decide) (by decide) (by decide) rfl rfl rfl (pa_cons (C8.pe_c (cal__law_x T) hr (by omega) (by rfl) (pa_cons (pv 1) pa_nil)) (pa_cons (C8.pe_c (cal__law_steps T) hr (by omega) (by rfl) (pa_cons (pv 1) pa_nil)) (pa_cons (C8.pe_c (cal__law_steps T) hr (by omega) (by rfl) (pa_cons (pv 1) pa_nil)) pa_nil))) (by rfl))
      (pss_cons (ps_if (PW.pt (pw_or (pt_not (pt_val (Gx.pe_g (cal__law_ways_right T) gd hr (by omega) (by rfl) (pa_cons (pv 3) (pa_cons (pv 4) pa_nil))))) (pw_or1 (pt_not (pt_val (C8.pe_c (cal__law_small_right T) hr (by omega) (by rfl) (pa_cons (pv 3) (pa_cons (C8.pe_c (cal__law_next T) hr (by omega) (by rfl) (pa_cons (pv 1) (pa_cons pe_int pa_nil))) pa_nil)))))))) (pss_one (ps_ret pe_bl)) pss_nil)
      (pss_cons (ps_par (i := 6) (j := 7) rfl sc_law.nd rfl rfl (by decide) rfl rfl (pa_cons (C8.pe_mk (mak_Linear T) hr (by omega) (by rfl) (pa_cons (pv 3) pa_nil)) (pa_cons (C8.pe_mk (mak_Linear T) hr (by omega) (by rfl) (pa_cons (pv 3) pa_nil)) pa_nil)) (by rfl))
      (pss_cons (ps_expr (C8.pe_mt (met_Linear_jump T) hr (by omega) (pv 6) (pa_cons (pv 4) pa_nil)))
      (pss_cons (ps_expr (C8.pe_mt (met_Linear_jump T) hr (by omega) (pv 6) (pa_cons (pv 5) pa_nil)))
      (pss_cons (ps_expr (C8.pe_mt (met_Linear_jump T) hr (by omega) (pv 7) (pa_cons (pe_op op_mod (pe_op op_add (pv 4) (pv 5)) pe_int) pa_nil)))
      (pss_cons (ps_set (i := 8) sc_law.nd rfl (.inl rfl) (pe_op (Gx.op_own (met_Linear___lshift__ T) hr (by omega) T.o_Linear_lshift rfl) (pe_op (Gx.op_own (met_Linear___rshift__ T) hr (by omega) T.o_Linear_rshift rfl) (C8.pe_mk (mak_Linear T) hr (by omega) (by rfl) (pa_cons (pv 3) pa_nil)) (pv 4)) (pv 5)))
      (pss_one (ps_if (PW.pt (pw_or (pt_not (pt_val (C8.pe_mt (met_Linear_same_state T) hr (by omega) (pv 6) (pa_cons (pv 7) pa_nil)))) (pw_or1 (pt_not (pt_val (C8.pe_mt (met_Linear_same_state T) hr (by omega) (pv 8) (pa_cons (C8.pe_mt (met_Linear_ahead T) hr (by omega) (C8.pe_mt (met_Linear_behind T) hr (by omega) (C8.pe_mk (mak_Linear T) hr (by omega) (by rfl) (pa_cons (pv 3) pa_nil)) (pa_cons (pv 5) pa_nil)) (pa_cons (pv 4) pa_nil)) pa_nil))))))) (pss_one (ps_ret pe_bl)) pss_nil))))))))))
      (pss_one (ps_ret pe_bl)))), ?_⟩
    walk_at "rd"
    refine ⟨a, ns, rfl, hS, hl, fun H1 d g e1 D1 => ?_⟩
    walk_at "rd"
    refine Rd.lenL (Rd.ex_l e1 hS) ?_
    have hl' : ((ns.map V.int).length : Int) ≤ 63 := by rw [List.length_map]; omega
    walk_at "rd"
    refine Rd.frN (n := (4 + (if ((ns.map V.int).length : Int) / 3 < 6 then ((ns.map V.int).length : Int) / 3 else 6)).toNat) (by split <;> omega) (by split <;> omega)
      (fun i σ' H' => ∃ y2 y3 y4 y5 y6 y7 y8, σ' = [some (.ref a), some (.ref d), y2, y3, y4, y5, y6, y7, y8] ∧ Draw H' d g) ⟨none, none, none, none, none, none, none, rfl, D1⟩ ?_ ?_
    · rintro i σ' H' hi ⟨y2, y3, y4, y5, y6, y7, y8, rfl, D2⟩
      walk_at "rd"
      refine u_pick D2 fun H3 x x0 x1 D3 _ => ?_
      walk_at "rd"
      refine u_pick D3 fun H4 m m0 m1 D4 _ => ?_
      walk_at "rd"
      refine u_pick D4 fun H5 n n0 n1 D5 _ => ?_
      walk_at "rd"
      refine ⟨_, _, _, rfl, ?_⟩
      have bx : 0 ≤ x ∧ x < 281474976710656 := ⟨x0, by omega⟩
      walk_at "rd"
      refine ⟨x, m, rfl, bx, ⟨m0, m1⟩, fun H6 e6 => ?_⟩
      have D6 := D5.ex e6
      walk_at "rd"
      refine u_next (by decide) (by decide) D6 fun H7 v v0 v1 D7 _ => ?_
      walk_at "rd"
      obtain ⟨v', rfl⟩ : ∃ v' : Nat, v = (v' : Int) := ⟨v.toNat, by omega⟩
      refine ⟨x, v', rfl, bx, by omega, fun H8 e8 => ?_⟩
      have D8 := D7.ex e8
      walk_at "rd"
      refine u_mk (C := C_Linear) bx.1 bx.2 fun o1 H9 ho1 e9 l1 => ?_
      walk_at "rd"
      refine u_mk (C := C_Linear) bx.1 bx.2 fun o2 H10 ho2 e10 l2 => ?_
      have n12 : o1 ≠ o2 := l1.ne_n ho2
      have l1 := l1.ex e10
      have e := e9.trans e10
      have f2 := e9.free ho2
      walk_at "rd"
      refine ⟨_, _, rfl, ?_⟩
      walk_at "rd"
      refine u_meth l1 (by decide +kernel) ?_
      walk_at "rd"
      refine u_jump l1 bx ⟨m0, m1⟩ fun H11 j11 l11 => ?_
      have e := ExP.ex e ho1 j11
      have l2 := j11.lin l2 (Ne.symm n12)
      walk_at "rd"
      refine u_meth l11 (by decide +kernel) ?_
      walk_at "rd"
      refine u_jump l11 (ML.mv_rng _ _) ⟨n0, n1⟩ fun H12 j12 l12 => ?_
      rw [mvz_add] at l12
      have e := ExP.ex e ho1 j12
      have l2 := j12.lin l2 (Ne.symm n12)
      walk_at "rd"
      refine u_meth l2 (by decide +kernel) ?_
      walk_at "rd"
      refine u_jump l2 bx ⟨by omega, by omega⟩ fun H13 j13 l13 => ?_
      rw [show ((m + n) % 281474976710656 % 281474976710656).toNat = ((m + n) % 281474976710656).toNat by omega] at l13
      have e := ExP.ex e f2 j13
      have l12 := j13.lin l12 n12
      walk_at "rd"
      refine u_mk (C := C_Linear) bx.1 bx.2 fun o3 H14 ho3 e14 l14 => ?_
      walk_at "rd"
      refine u_op l14 bx ⟨m0, m1⟩ fun o4 H15 ho4 e15 l15 _ => ?_
      walk_at "rd"
      refine u_op l15 (ML.mv_rng _ _) ⟨n0, n1⟩ fun o5 H16 ho5 e16 l16 _ => ?_
      rw [mvz_add] at l16
      have k16 := (e14.trans e15).trans e16
      have l1 := l12.ex k16
      have l2 := l13.ex k16
      have e := e.trans k16
      walk_at "rd"
      refine u_meth l1 (by decide +kernel) ?_
      walk_at "rd"
      refine u_same l1 l2 ?_
      walk_at "rd"
      refine u_meth l16 (by decide +kernel) ?_
      walk_at "rd"
      refine u_mk (C := C_Linear) bx.1 bx.2 fun o6 H17 ho6 e17 l17 => ?_
      walk_at "rd"
      refine u_meth l17 (by decide +kernel) ?_
      walk_at "rd"
      refine u_go l17 bx ⟨n0, n1⟩ fun o7 H18 ho7 e18 l18 => ?_
      walk_at "rd"
      refine u_meth l18 (by decide +kernel) ?_
      walk_at "rd"
      refine u_go l18 (ML.mv_rng _ _) ⟨m0, m1⟩ fun o8 H19 ho8 e19 l19 => ?_
      rw [mvz_add] at l19
      have k19 := (e17.trans e18).trans e19
      walk_at "rd"
      refine u_same (l16.ex k19) l19 ?_
      rw [show m + (0 - n) = 0 - n + m by omega]
      walk_at "rd"
      exact ⟨_, _, _, _, _, _, _, rfl, D8.ex (e.trans k19)⟩
    · rintro σ' H' ⟨y2, y3, y4, y5, y6, y7, y8, rfl, D2⟩
      walk_at "rd"
      exact q H'
end
theorem law_mk {l : PySem.W.OpenLaw} {w : World} {K : PySem.W.Frag} {mg : Str → Option Value} {fa C_Linear : Addr} {h : Heap} (hmg : mg "law" = some (.ref fa)) (T : Txt K mg C_Linear) : Gx.LawG l w K 11 "_law_script" mg fa h := by
  obtain ⟨f, fd, F, b, hb⟩ := T.d_law
  have e := hmg.symm.trans F.mgf
  cases e
  exact ⟨fd, [], spLaw K, fun p hp => (nomatch hp), fun p hp => (nomatch hp), fun p hp => (nomatch hp), hb, fun H a ns hl _ _ hS => ⟨a, ns, rfl, hS, hl, fun _ => rfl⟩, fun base _ _ _ => fn_law T F⟩
end Pf

set_option Elab.async false
set_option linter.all false
set_option maxRecDepth 100000
set_option maxHeartbeats 4000000
namespace Pf
open PySem PySem.Spec PyProof.Rows L2
set_option maxHeartbeats 4000000 in
theorem txt_mk {K : PySem.W.Frag} {h : Heap} {mg : Str → Option Value} {f_is_integer f_need_steps f_need_many f_s2_is_number f_s2_need_start f_s2_need_state f_s2_joined f_s2_step_map f_s2_mapped f_s2_moved f_Linear___init__ f_Linear_next_word f_Linear_words f_Linear_state f_Linear_jump f_Linear_back f_Linear_ahead f_Linear_behind f_Linear___rshift__ f_Linear___lshift__ f_Linear_copy f_Linear_same_state f_Linear_state_after f__law_begun f__law_next f__law_x f__law_steps f__law_digits f__law_map f__law_moved f__law_ways_right f__law_small_right f_law p_Linear_state p_Linear_state_after C_Linear : Addr} {od_is_integer an_is_integer od_need_steps an_need_steps od_need_many an_need_many od_s2_is_number an_s2_is_number od_s2_need_start an_s2_need_start od_s2_need_state an_s2_need_state od_s2_joined an_s2_joined od_s2_step_map an_s2_step_map od_s2_mapped an_s2_mapped od_s2_moved an_s2_moved od_Linear___init__ an_Linear___init__ od_Linear_next_word an_Linear_next_word od_Linear_words an_Linear_words od_Linear_state an_Linear_state od_Linear_jump an_Linear_jump od_Linear_back an_Linear_back od_Linear_ahead an_Linear_ahead od_Linear_behind an_Linear_behind od_Linear___rshift__ an_Linear___rshift__ od_Linear___lshift__ an_Linear___lshift__ od_Linear_copy an_Linear_copy od_Linear_same_state an_Linear_same_state od_Linear_state_after an_Linear_state_after od__law_begun an__law_begun od__law_next an__law_next od__law_x an__law_x od__law_steps an__law_steps od__law_digits an__law_digits od__law_map an__law_map od__law_moved an__law_moved od__law_ways_right an__law_ways_right od__law_small_right an__law_small_right od_law an_law : Option Addr} {sl_is_integer sl_need_steps sl_need_many sl_s2_is_number sl_s2_need_start sl_s2_need_state sl_s2_joined sl_s2_step_map sl_s2_mapped sl_s2_moved sl_Linear___init__ sl_Linear_next_word sl_Linear_words sl_Linear_state sl_Linear_jump sl_Linear_back sl_Linear_ahead sl_Linear_behind sl_Linear___rshift__ sl_Linear___lshift__ sl_Linear_copy sl_Linear_same_state sl_Linear_state_after sl__law_begun sl__law_next sl__law_x sl__law_steps sl__law_digits sl__law_map sl__law_moved sl__law_ways_right sl__law_small_right sl_law : Array (Option Value)} {oc_is_integer kV_is_integer dc_is_integer pm_is_integer cd_is_integer ct_is_integer oc_need_steps kV_need_steps dc_need_steps pm_need_steps cd_need_steps ct_need_steps oc_need_many kV_need_many dc_need_many pm_need_many cd_need_many ct_need_many oc_s2_is_number kV_s2_is_number dc_s2_is_number pm_s2_is_number cd_s2_is_number ct_s2_is_number oc_s2_need_start kV_s2_need_start dc_s2_need_start pm_s2_need_start cd_s2_need_start ct_s2_need_start oc_s2_need_state kV_s2_need_state dc_s2_need_state pm_s2_need_state cd_s2_need_state ct_s2_need_state oc_s2_joined kV_s2_joined dc_s2_joined pm_s2_joined cd_s2_joined ct_s2_joined oc_s2_step_map kV_s2_step_map dc_s2_step_map pm_s2_step_map cd_s2_step_map ct_s2_step_map oc_s2_mapped kV_s2_mapped dc_s2_mapped pm_s2_mapped cd_s2_mapped ct_s2_mapped oc_s2_moved kV_s2_moved dc_s2_moved pm_s2_moved cd_s2_moved ct_s2_moved oc_Linear___init__ kV_Linear___init__ dc_Linear___init__ pm_Linear___init__ cd_Linear___init__ ct_Linear___init__ oc_Linear_next_word kV_Linear_next_word dc_Linear_next_word pm_Linear_next_word cd_Linear_next_word ct_Linear_next_word oc_Linear_words kV_Linear_words dc_Linear_words pm_Linear_words cd_Linear_words ct_Linear_words oc_Linear_state kV_Linear_state dc_Linear_state pm_Linear_state cd_Linear_state ct_Linear_state oc_Linear_jump kV_Linear_jump dc_Linear_jump pm_Linear_jump cd_Linear_jump ct_Linear_jump oc_Linear_back kV_Linear_back dc_Linear_back pm_Linear_back cd_Linear_back ct_Linear_back oc_Linear_ahead kV_Linear_ahead dc_Linear_ahead pm_Linear_ahead cd_Linear_ahead ct_Linear_ahead oc_Linear_behind kV_Linear_behind dc_Linear_behind pm_Linear_behind cd_Linear_behind ct_Linear_behind oc_Linear___rshift__ kV_Linear___rshift__ dc_Linear___rshift__ pm_Linear___rshift__ cd_Linear___rshift__ ct_Linear___rshift__ oc_Linear___lshift__ kV_Linear___lshift__ dc_Linear___lshift__ pm_Linear___lshift__ cd_Linear___lshift__ ct_Linear___lshift__ oc_Linear_copy kV_Linear_copy dc_Linear_copy pm_Linear_copy cd_Linear_copy ct_Linear_copy oc_Linear_same_state kV_Linear_same_state dc_Linear_same_state pm_Linear_same_state cd_Linear_same_state ct_Linear_same_state oc_Linear_state_after kV_Linear_state_after dc_Linear_state_after pm_Linear_state_after cd_Linear_state_after ct_Linear_state_after oc__law_begun kV__law_begun dc__law_begun pm__law_begun cd__law_begun ct__law_begun oc__law_next kV__law_next dc__law_next pm__law_next cd__law_next ct__law_next oc__law_x kV__law_x dc__law_x pm__law_x cd__law_x ct__law_x oc__law_steps kV__law_steps dc__law_steps pm__law_steps cd__law_steps ct__law_steps oc__law_digits kV__law_digits dc__law_digits pm__law_digits cd__law_digits ct__law_digits oc__law_map kV__law_map dc__law_map pm__law_map cd__law_map ct__law_map oc__law_moved kV__law_moved dc__law_moved pm__law_moved cd__law_moved ct__law_moved oc__law_ways_right kV__law_ways_right dc__law_ways_right pm__law_ways_right cd__law_ways_right ct__law_ways_right oc__law_small_right kV__law_small_right dc__law_small_right pm__law_small_right cd__law_small_right ct__law_small_right oc_law kV_law dc_law pm_law cd_law ct_law : Value} {rs_Linear_state rs_Linear_state_after : List Value} {tk_MOST_STEPS tk_MOST_WORDS tk_MODULUS tk_MULTIPLIER tk_ADDEND tk_LOW_WORD : Tok} {fo_Linear_rshift ro_Linear_rshift fo_Linear_lshift ro_Linear_lshift : Option Value} (X : K.In h) (G : h.Ns mainGlobals mg)
    (a_is_integer : PySem.W.nsIn K mainGlobals "is_integer" = some (some (.ref f_is_integer)))
    (l_is_integer : K.lookup f_is_integer = some ⟨oc_is_integer, od_is_integer, .func (PySem.W.fnOf "is_integer" "is_integer" (C8.fnArgs s_is_integer) (C8.fnBody s_is_integer) (C8.fnScope s_is_integer) .none kV_is_integer dc_is_integer pm_is_integer an_is_integer cd_is_integer ct_is_integer), sl_is_integer⟩)
    (c_is_integer : PySem.W.codeIn K cd_is_integer "is_integer" = true)
    (k_is_integer : PySem.W.keepIn K (.ref f_is_integer) = true)
    (a_need_steps : PySem.W.nsIn K mainGlobals "need_steps" = some (some (.ref f_need_steps)))
    (l_need_steps : K.lookup f_need_steps = some ⟨oc_need_steps, od_need_steps, .func (PySem.W.fnOf "need_steps" "need_steps" (C8.fnArgs s_need_steps) (C8.fnBody s_need_steps) (C8.fnScope s_need_steps) .none kV_need_steps dc_need_steps pm_need_steps an_need_steps cd_need_steps ct_need_steps), sl_need_steps⟩)
    (c_need_steps : PySem.W.codeIn K cd_need_steps "need_steps" = true)
    (k_need_steps : PySem.W.keepIn K (.ref f_need_steps) = true)
    (a_need_many : PySem.W.nsIn K mainGlobals "need_many" = some (some (.ref f_need_many)))
    (l_need_many : K.lookup f_need_many = some ⟨oc_need_many, od_need_many, .func (PySem.W.fnOf "need_many" "need_many" (C8.fnArgs s_need_many) (C8.fnBody s_need_many) (C8.fnScope s_need_many) .none kV_need_many dc_need_many pm_need_many an_need_many cd_need_many ct_need_many), sl_need_many⟩)
    (c_need_many : PySem.W.codeIn K cd_need_many "need_many" = true)
    (k_need_many : PySem.W.keepIn K (.ref f_need_many) = true)
    (a_s2_is_number : PySem.W.nsIn K mainGlobals "s2_is_number" = some (some (.ref f_s2_is_number)))
    (l_s2_is_number : K.lookup f_s2_is_number = some ⟨oc_s2_is_number, od_s2_is_number, .func (PySem.W.fnOf "s2_is_number" "s2_is_number" (C8.fnArgs s_s2_is_number) (C8.fnBody s_s2_is_number) (C8.fnScope s_s2_is_number) .none kV_s2_is_number dc_s2_is_number pm_s2_is_number an_s2_is_number cd_s2_is_number ct_s2_is_number), sl_s2_is_number⟩)
    (c_s2_is_number : PySem.W.codeIn K cd_s2_is_number "s2_is_number" = true)
    (k_s2_is_number : PySem.W.keepIn K (.ref f_s2_is_number) = true)
    (a_s2_need_start : PySem.W.nsIn K mainGlobals "s2_need_start" = some (some (.ref f_s2_need_start)))
    (l_s2_need_start : K.lookup f_s2_need_start = some ⟨oc_s2_need_start, od_s2_need_start, .func (PySem.W.fnOf "s2_need_start" "s2_need_start" (C8.fnArgs s_s2_need_start) (C8.fnBody s_s2_need_start) (C8.fnScope s_s2_need_start) .none kV_s2_need_start dc_s2_need_start pm_s2_need_start an_s2_need_start cd_s2_need_start ct_s2_need_start), sl_s2_need_start⟩)
    (c_s2_need_start : PySem.W.codeIn K cd_s2_need_start "s2_need_start" = true)
    (k_s2_need_start : PySem.W.keepIn K (.ref f_s2_need_start) = true)
    (a_s2_need_state : PySem.W.nsIn K mainGlobals "s2_need_state" = some (some (.ref f_s2_need_state)))
    (l_s2_need_state : K.lookup f_s2_need_state = some ⟨oc_s2_need_state, od_s2_need_state, .func (PySem.W.fnOf "s2_need_state" "s2_need_state" (C8.fnArgs s_s2_need_state) (C8.fnBody s_s2_need_state) (C8.fnScope s_s2_need_state) .none kV_s2_need_state dc_s2_need_state pm_s2_need_state an_s2_need_state cd_s2_need_state ct_s2_need_state), sl_s2_need_state⟩)
    (c_s2_need_state : PySem.W.codeIn K cd_s2_need_state "s2_need_state" = true)
    (k_s2_need_state : PySem.W.keepIn K (.ref f_s2_need_state) = true)
    (a_s2_joined : PySem.W.nsIn K mainGlobals "s2_joined" = some (some (.ref f_s2_joined)))
    (l_s2_joined : K.lookup f_s2_joined = some ⟨oc_s2_joined, od_s2_joined, .func (PySem.W.fnOf "s2_joined" "s2_joined" (C8.fnArgs s_s2_joined) (C8.fnBody s_s2_joined) (C8.fnScope s_s2_joined) .none kV_s2_joined dc_s2_joined pm_s2_joined an_s2_joined cd_s2_joined ct_s2_joined), sl_s2_joined⟩)
    (c_s2_joined : PySem.W.codeIn K cd_s2_joined "s2_joined" = true)
    (k_s2_joined : PySem.W.keepIn K (.ref f_s2_joined) = true)
    (a_s2_step_map : PySem.W.nsIn K mainGlobals "s2_step_map" = some (some (.ref f_s2_step_map)))
    (l_s2_step_map : K.lookup f_s2_step_map = some ⟨oc_s2_step_map, od_s2_step_map, .func (PySem.W.fnOf "s2_step_map" "s2_step_map" (C8.fnArgs s_s2_step_map) (C8.fnBody s_s2_step_map) (C8.fnScope s_s2_step_map) .none kV_s2_step_map dc_s2_step_map pm_s2_step_map an_s2_step_map cd_s2_step_map ct_s2_step_map), sl_s2_step_map⟩)
    (c_s2_step_map : PySem.W.codeIn K cd_s2_step_map "s2_step_map" = true)
    (k_s2_step_map : PySem.W.keepIn K (.ref f_s2_step_map) = true)
    (a_s2_mapped : PySem.W.nsIn K mainGlobals "s2_mapped" = some (some (.ref f_s2_mapped)))
    (l_s2_mapped : K.lookup f_s2_mapped = some ⟨oc_s2_mapped, od_s2_mapped, .func (PySem.W.fnOf "s2_mapped" "s2_mapped" (C8.fnArgs s_s2_mapped) (C8.fnBody s_s2_mapped) (C8.fnScope s_s2_mapped) .none kV_s2_mapped dc_s2_mapped pm_s2_mapped an_s2_mapped cd_s2_mapped ct_s2_mapped), sl_s2_mapped⟩)
    (c_s2_mapped : PySem.W.codeIn K cd_s2_mapped "s2_mapped" = true)
    (k_s2_mapped : PySem.W.keepIn K (.ref f_s2_mapped) = true)
    (a_s2_moved : PySem.W.nsIn K mainGlobals "s2_moved" = some (some (.ref f_s2_moved)))
    (l_s2_moved : K.lookup f_s2_moved = some ⟨oc_s2_moved, od_s2_moved, .func (PySem.W.fnOf "s2_moved" "s2_moved" (C8.fnArgs s_s2_moved) (C8.fnBody s_s2_moved) (C8.fnScope s_s2_moved) .none kV_s2_moved dc_s2_moved pm_s2_moved an_s2_moved cd_s2_moved ct_s2_moved), sl_s2_moved⟩)
    (c_s2_moved : PySem.W.codeIn K cd_s2_moved "s2_moved" = true)
    (k_s2_moved : PySem.W.keepIn K (.ref f_s2_moved) = true)
    (a_Linear___init__ : PySem.W.findIn K (.ref C_Linear) "__init__" = some (some (.ref f_Linear___init__)))
    (i_Linear___init__ : PySem.W.isFn K (.ref f_Linear___init__) = true)
    (l_Linear___init__ : K.lookup f_Linear___init__ = some ⟨oc_Linear___init__, od_Linear___init__, .func (PySem.W.fnOf "__init__" "Linear.__init__" (C8.fnArgs s_Linear___init__) (C8.fnBody s_Linear___init__) (C8.fnScope s_Linear___init__) .none kV_Linear___init__ dc_Linear___init__ pm_Linear___init__ an_Linear___init__ cd_Linear___init__ ct_Linear___init__), sl_Linear___init__⟩)
    (c_Linear___init__ : PySem.W.codeIn K cd_Linear___init__ "Linear.__init__" = true)
    (k_Linear___init__ : PySem.W.keepIn K (.ref f_Linear___init__) = true)
    (mk_Linear___init__ : PySem.W.makesIn K C_Linear = true)
    (kc_Linear___init__ : PySem.W.keepIn K (.ref C_Linear) = true)
    (a_Linear_next_word : PySem.W.findIn K (.ref C_Linear) "next_word" = some (some (.ref f_Linear_next_word)))
    (i_Linear_next_word : PySem.W.isFn K (.ref f_Linear_next_word) = true)
    (l_Linear_next_word : K.lookup f_Linear_next_word = some ⟨oc_Linear_next_word, od_Linear_next_word, .func (PySem.W.fnOf "next_word" "Linear.next_word" (C8.fnArgs s_Linear_next_word) (C8.fnBody s_Linear_next_word) (C8.fnScope s_Linear_next_word) .none kV_Linear_next_word dc_Linear_next_word pm_Linear_next_word an_Linear_next_word cd_Linear_next_word ct_Linear_next_word), sl_Linear_next_word⟩)
    (c_Linear_next_word : PySem.W.codeIn K cd_Linear_next_word "Linear.next_word" = true)
    (k_Linear_next_word : PySem.W.keepIn K (.ref f_Linear_next_word) = true)
    (a_Linear_words : PySem.W.findIn K (.ref C_Linear) "words" = some (some (.ref f_Linear_words)))
    (i_Linear_words : PySem.W.isFn K (.ref f_Linear_words) = true)
    (l_Linear_words : K.lookup f_Linear_words = some ⟨oc_Linear_words, od_Linear_words, .func (PySem.W.fnOf "words" "Linear.words" (C8.fnArgs s_Linear_words) (C8.fnBody s_Linear_words) (C8.fnScope s_Linear_words) .none kV_Linear_words dc_Linear_words pm_Linear_words an_Linear_words cd_Linear_words ct_Linear_words), sl_Linear_words⟩)
    (c_Linear_words : PySem.W.codeIn K cd_Linear_words "Linear.words" = true)
    (k_Linear_words : PySem.W.keepIn K (.ref f_Linear_words) = true)
    (a_Linear_state : PySem.W.findIn K (.ref C_Linear) "state" = some (some (.ref p_Linear_state)))
    (g_Linear_state : PySem.W.specialIn K (.ref p_Linear_state) "__get__" = some (some (.builtin "property.__get__")))
    (t_Linear_state : PySem.W.takesIn K (.ref p_Linear_state) = some true)
    (r_Linear_state : PySem.W.recIn K p_Linear_state "property" = some (.ref f_Linear_state :: rs_Linear_state))
    (l_Linear_state : K.lookup f_Linear_state = some ⟨oc_Linear_state, od_Linear_state, .func (PySem.W.fnOf "state" "Linear.state" (C8.fnArgs s_Linear_state) (C8.fnBody s_Linear_state) (C8.fnScope s_Linear_state) .none kV_Linear_state dc_Linear_state pm_Linear_state an_Linear_state cd_Linear_state ct_Linear_state), sl_Linear_state⟩)
    (c_Linear_state : PySem.W.codeIn K cd_Linear_state "Linear.state" = true)
    (k_Linear_state : PySem.W.keepIn K (.ref f_Linear_state) = true)
    (a_Linear_jump : PySem.W.findIn K (.ref C_Linear) "jump" = some (some (.ref f_Linear_jump)))
    (i_Linear_jump : PySem.W.isFn K (.ref f_Linear_jump) = true)
    (l_Linear_jump : K.lookup f_Linear_jump = some ⟨oc_Linear_jump, od_Linear_jump, .func (PySem.W.fnOf "jump" "Linear.jump" (C8.fnArgs s_Linear_jump) (C8.fnBody s_Linear_jump) (C8.fnScope s_Linear_jump) .none kV_Linear_jump dc_Linear_jump pm_Linear_jump an_Linear_jump cd_Linear_jump ct_Linear_jump), sl_Linear_jump⟩)
    (c_Linear_jump : PySem.W.codeIn K cd_Linear_jump "Linear.jump" = true)
    (k_Linear_jump : PySem.W.keepIn K (.ref f_Linear_jump) = true)
    (a_Linear_back : PySem.W.findIn K (.ref C_Linear) "back" = some (some (.ref f_Linear_back)))
    (i_Linear_back : PySem.W.isFn K (.ref f_Linear_back) = true)
    (l_Linear_back : K.lookup f_Linear_back = some ⟨oc_Linear_back, od_Linear_back, .func (PySem.W.fnOf "back" "Linear.back" (C8.fnArgs s_Linear_back) (C8.fnBody s_Linear_back) (C8.fnScope s_Linear_back) .none kV_Linear_back dc_Linear_back pm_Linear_back an_Linear_back cd_Linear_back ct_Linear_back), sl_Linear_back⟩)
    (c_Linear_back : PySem.W.codeIn K cd_Linear_back "Linear.back" = true)
    (k_Linear_back : PySem.W.keepIn K (.ref f_Linear_back) = true)
    (a_Linear_ahead : PySem.W.findIn K (.ref C_Linear) "ahead" = some (some (.ref f_Linear_ahead)))
    (i_Linear_ahead : PySem.W.isFn K (.ref f_Linear_ahead) = true)
    (l_Linear_ahead : K.lookup f_Linear_ahead = some ⟨oc_Linear_ahead, od_Linear_ahead, .func (PySem.W.fnOf "ahead" "Linear.ahead" (C8.fnArgs s_Linear_ahead) (C8.fnBody s_Linear_ahead) (C8.fnScope s_Linear_ahead) .none kV_Linear_ahead dc_Linear_ahead pm_Linear_ahead an_Linear_ahead cd_Linear_ahead ct_Linear_ahead), sl_Linear_ahead⟩)
    (c_Linear_ahead : PySem.W.codeIn K cd_Linear_ahead "Linear.ahead" = true)
    (k_Linear_ahead : PySem.W.keepIn K (.ref f_Linear_ahead) = true)
    (a_Linear_behind : PySem.W.findIn K (.ref C_Linear) "behind" = some (some (.ref f_Linear_behind)))
    (i_Linear_behind : PySem.W.isFn K (.ref f_Linear_behind) = true)
    (l_Linear_behind : K.lookup f_Linear_behind = some ⟨oc_Linear_behind, od_Linear_behind, .func (PySem.W.fnOf "behind" "Linear.behind" (C8.fnArgs s_Linear_behind) (C8.fnBody s_Linear_behind) (C8.fnScope s_Linear_behind) .none kV_Linear_behind dc_Linear_behind pm_Linear_behind an_Linear_behind cd_Linear_behind ct_Linear_behind), sl_Linear_behind⟩)
    (c_Linear_behind : PySem.W.codeIn K cd_Linear_behind "Linear.behind" = true)
    (k_Linear_behind : PySem.W.keepIn K (.ref f_Linear_behind) = true)
    (a_Linear___rshift__ : PySem.W.findIn K (.ref C_Linear) "__rshift__" = some (some (.ref f_Linear___rshift__)))
    (i_Linear___rshift__ : PySem.W.isFn K (.ref f_Linear___rshift__) = true)
    (l_Linear___rshift__ : K.lookup f_Linear___rshift__ = some ⟨oc_Linear___rshift__, od_Linear___rshift__, .func (PySem.W.fnOf "__rshift__" "Linear.__rshift__" (C8.fnArgs s_Linear___rshift__) (C8.fnBody s_Linear___rshift__) (C8.fnScope s_Linear___rshift__) .none kV_Linear___rshift__ dc_Linear___rshift__ pm_Linear___rshift__ an_Linear___rshift__ cd_Linear___rshift__ ct_Linear___rshift__), sl_Linear___rshift__⟩)
    (c_Linear___rshift__ : PySem.W.codeIn K cd_Linear___rshift__ "Linear.__rshift__" = true)
    (k_Linear___rshift__ : PySem.W.keepIn K (.ref f_Linear___rshift__) = true)
    (a_Linear___lshift__ : PySem.W.findIn K (.ref C_Linear) "__lshift__" = some (some (.ref f_Linear___lshift__)))
    (i_Linear___lshift__ : PySem.W.isFn K (.ref f_Linear___lshift__) = true)
    (l_Linear___lshift__ : K.lookup f_Linear___lshift__ = some ⟨oc_Linear___lshift__, od_Linear___lshift__, .func (PySem.W.fnOf "__lshift__" "Linear.__lshift__" (C8.fnArgs s_Linear___lshift__) (C8.fnBody s_Linear___lshift__) (C8.fnScope s_Linear___lshift__) .none kV_Linear___lshift__ dc_Linear___lshift__ pm_Linear___lshift__ an_Linear___lshift__ cd_Linear___lshift__ ct_Linear___lshift__), sl_Linear___lshift__⟩)
    (c_Linear___lshift__ : PySem.W.codeIn K cd_Linear___lshift__ "Linear.__lshift__" = true)
    (k_Linear___lshift__ : PySem.W.keepIn K (.ref f_Linear___lshift__) = true)
    (a_Linear_copy : PySem.W.findIn K (.ref C_Linear) "copy" = some (some (.ref f_Linear_copy)))
    (i_Linear_copy : PySem.W.isFn K (.ref f_Linear_copy) = true)
    (l_Linear_copy : K.lookup f_Linear_copy = some ⟨oc_Linear_copy, od_Linear_copy, .func (PySem.W.fnOf "copy" "Linear.copy" (C8.fnArgs s_Linear_copy) (C8.fnBody s_Linear_copy) (C8.fnScope s_Linear_copy) .none kV_Linear_copy dc_Linear_copy pm_Linear_copy an_Linear_copy cd_Linear_copy ct_Linear_copy), sl_Linear_copy⟩)
    (c_Linear_copy : PySem.W.codeIn K cd_Linear_copy "Linear.copy" = true)
    (k_Linear_copy : PySem.W.keepIn K (.ref f_Linear_copy) = true)
    (a_Linear_same_state : PySem.W.findIn K (.ref C_Linear) "same_state" = some (some (.ref f_Linear_same_state)))
    (i_Linear_same_state : PySem.W.isFn K (.ref f_Linear_same_state) = true)
    (l_Linear_same_state : K.lookup f_Linear_same_state = some ⟨oc_Linear_same_state, od_Linear_same_state, .func (PySem.W.fnOf "same_state" "Linear.same_state" (C8.fnArgs s_Linear_same_state) (C8.fnBody s_Linear_same_state) (C8.fnScope s_Linear_same_state) .none kV_Linear_same_state dc_Linear_same_state pm_Linear_same_state an_Linear_same_state cd_Linear_same_state ct_Linear_same_state), sl_Linear_same_state⟩)
    (c_Linear_same_state : PySem.W.codeIn K cd_Linear_same_state "Linear.same_state" = true)
    (k_Linear_same_state : PySem.W.keepIn K (.ref f_Linear_same_state) = true)
    (rd_Linear_state_after : PySem.W.readsIn K C_Linear (.type "type") = true)
    (ga_Linear_state_after : PySem.W.specialIn K (.ref C_Linear) "__getattribute__" = some (some (.builtin "type.__getattribute__")))
    (a_Linear_state_after : PySem.W.findCls K (.ref C_Linear) (.type "type") "state_after" = some (.get (.builtin "staticmethod.__get__") (.ref p_Linear_state_after) .none (.ref C_Linear)))
    (r_Linear_state_after : PySem.W.recIn K p_Linear_state_after "staticmethod" = some (.ref f_Linear_state_after :: rs_Linear_state_after))
    (l_Linear_state_after : K.lookup f_Linear_state_after = some ⟨oc_Linear_state_after, od_Linear_state_after, .func (PySem.W.fnOf "state_after" "Linear.state_after" (C8.fnArgs s_Linear_state_after) (C8.fnBody s_Linear_state_after) (C8.fnScope s_Linear_state_after) .none kV_Linear_state_after dc_Linear_state_after pm_Linear_state_after an_Linear_state_after cd_Linear_state_after ct_Linear_state_after), sl_Linear_state_after⟩)
    (c_Linear_state_after : PySem.W.codeIn K cd_Linear_state_after "Linear.state_after" = true)
    (k_Linear_state_after : PySem.W.keepIn K (.ref f_Linear_state_after) = true)
    (a__law_begun : PySem.W.nsIn K mainGlobals "_law_begun" = some (some (.ref f__law_begun)))
    (l__law_begun : K.lookup f__law_begun = some ⟨oc__law_begun, od__law_begun, .func (PySem.W.fnOf "_law_begun" "_law_begun" (C8.fnArgs s__law_begun) (C8.fnBody s__law_begun) (C8.fnScope s__law_begun) .none kV__law_begun dc__law_begun pm__law_begun an__law_begun cd__law_begun ct__law_begun), sl__law_begun⟩)
    (c__law_begun : PySem.W.codeIn K cd__law_begun "_law_begun" = true)
    (k__law_begun : PySem.W.keepIn K (.ref f__law_begun) = true)
    (a__law_next : PySem.W.nsIn K mainGlobals "_law_next" = some (some (.ref f__law_next)))
    (l__law_next : K.lookup f__law_next = some ⟨oc__law_next, od__law_next, .func (PySem.W.fnOf "_law_next" "_law_next" (C8.fnArgs s__law_next) (C8.fnBody s__law_next) (C8.fnScope s__law_next) .none kV__law_next dc__law_next pm__law_next an__law_next cd__law_next ct__law_next), sl__law_next⟩)
    (c__law_next : PySem.W.codeIn K cd__law_next "_law_next" = true)
    (k__law_next : PySem.W.keepIn K (.ref f__law_next) = true)
    (a__law_x : PySem.W.nsIn K mainGlobals "_law_x" = some (some (.ref f__law_x)))
    (l__law_x : K.lookup f__law_x = some ⟨oc__law_x, od__law_x, .func (PySem.W.fnOf "_law_x" "_law_x" (C8.fnArgs s__law_x) (C8.fnBody s__law_x) (C8.fnScope s__law_x) .none kV__law_x dc__law_x pm__law_x an__law_x cd__law_x ct__law_x), sl__law_x⟩)
    (c__law_x : PySem.W.codeIn K cd__law_x "_law_x" = true)
    (k__law_x : PySem.W.keepIn K (.ref f__law_x) = true)
    (a__law_steps : PySem.W.nsIn K mainGlobals "_law_steps" = some (some (.ref f__law_steps)))
    (l__law_steps : K.lookup f__law_steps = some ⟨oc__law_steps, od__law_steps, .func (PySem.W.fnOf "_law_steps" "_law_steps" (C8.fnArgs s__law_steps) (C8.fnBody s__law_steps) (C8.fnScope s__law_steps) .none kV__law_steps dc__law_steps pm__law_steps an__law_steps cd__law_steps ct__law_steps), sl__law_steps⟩)
    (c__law_steps : PySem.W.codeIn K cd__law_steps "_law_steps" = true)
    (k__law_steps : PySem.W.keepIn K (.ref f__law_steps) = true)
    (a__law_digits : PySem.W.nsIn K mainGlobals "_law_digits" = some (some (.ref f__law_digits)))
    (l__law_digits : K.lookup f__law_digits = some ⟨oc__law_digits, od__law_digits, .func (PySem.W.fnOf "_law_digits" "_law_digits" (C8.fnArgs s__law_digits) (C8.fnBody s__law_digits) (C8.fnScope s__law_digits) .none kV__law_digits dc__law_digits pm__law_digits an__law_digits cd__law_digits ct__law_digits), sl__law_digits⟩)
    (c__law_digits : PySem.W.codeIn K cd__law_digits "_law_digits" = true)
    (k__law_digits : PySem.W.keepIn K (.ref f__law_digits) = true)
    (a__law_map : PySem.W.nsIn K mainGlobals "_law_map" = some (some (.ref f__law_map)))
    (l__law_map : K.lookup f__law_map = some ⟨oc__law_map, od__law_map, .func (PySem.W.fnOf "_law_map" "_law_map" (C8.fnArgs s__law_map) (C8.fnBody s__law_map) (C8.fnScope s__law_map) .none kV__law_map dc__law_map pm__law_map an__law_map cd__law_map ct__law_map), sl__law_map⟩)
    (c__law_map : PySem.W.codeIn K cd__law_map "_law_map" = true)
    (k__law_map : PySem.W.keepIn K (.ref f__law_map) = true)
    (a__law_moved : PySem.W.nsIn K mainGlobals "_law_moved" = some (some (.ref f__law_moved)))
    (l__law_moved : K.lookup f__law_moved = some ⟨oc__law_moved, od__law_moved, .func (PySem.W.fnOf "_law_moved" "_law_moved" (C8.fnArgs s__law_moved) (C8.fnBody s__law_moved) (C8.fnScope s__law_moved) .none kV__law_moved dc__law_moved pm__law_moved an__law_moved cd__law_moved ct__law_moved), sl__law_moved⟩)
    (c__law_moved : PySem.W.codeIn K cd__law_moved "_law_moved" = true)
    (k__law_moved : PySem.W.keepIn K (.ref f__law_moved) = true)
    (a__law_ways_right : PySem.W.nsIn K mainGlobals "_law_ways_right" = some (some (.ref f__law_ways_right)))
    (l__law_ways_right : K.lookup f__law_ways_right = some ⟨oc__law_ways_right, od__law_ways_right, .func (PySem.W.fnOf "_law_ways_right" "_law_ways_right" (C8.fnArgs s__law_ways_right) (C8.fnBody s__law_ways_right) (C8.fnScope s__law_ways_right) .none kV__law_ways_right dc__law_ways_right pm__law_ways_right an__law_ways_right cd__law_ways_right ct__law_ways_right), sl__law_ways_right⟩)
    (c__law_ways_right : PySem.W.codeIn K cd__law_ways_right "_law_ways_right" = true)
    (k__law_ways_right : PySem.W.keepIn K (.ref f__law_ways_right) = true)
    (a__law_small_right : PySem.W.nsIn K mainGlobals "_law_small_right" = some (some (.ref f__law_small_right)))
    (l__law_small_right : K.lookup f__law_small_right = some ⟨oc__law_small_right, od__law_small_right, .func (PySem.W.fnOf "_law_small_right" "_law_small_right" (C8.fnArgs s__law_small_right) (C8.fnBody s__law_small_right) (C8.fnScope s__law_small_right) .none kV__law_small_right dc__law_small_right pm__law_small_right an__law_small_right cd__law_small_right ct__law_small_right), sl__law_small_right⟩)
    (c__law_small_right : PySem.W.codeIn K cd__law_small_right "_law_small_right" = true)
    (k__law_small_right : PySem.W.keepIn K (.ref f__law_small_right) = true)
    (a_law : PySem.W.nsIn K mainGlobals "law" = some (some (.ref f_law)))
    (l_law : K.lookup f_law = some ⟨oc_law, od_law, .func (PySem.W.fnOf "law" "law" (C8.fnArgs s_law) (C8.fnBody s_law) (C8.fnScope s_law) .none kV_law dc_law pm_law an_law cd_law ct_law), sl_law⟩)
    (c_law : PySem.W.codeIn K cd_law "law" = true)
    (k_law : PySem.W.keepIn K (.ref f_law) = true)
    (e_MOST_STEPS : PySem.W.nsIn K mainGlobals "MOST_STEPS" = some (some (.int 18446744073709551616 tk_MOST_STEPS)))
    (e_MOST_WORDS : PySem.W.nsIn K mainGlobals "MOST_WORDS" = some (some (.int 1000000 tk_MOST_WORDS)))
    (e_MODULUS : PySem.W.nsIn K mainGlobals "MODULUS" = some (some (.int 281474976710656 tk_MODULUS)))
    (e_MULTIPLIER : PySem.W.nsIn K mainGlobals "MULTIPLIER" = some (some (.int 205891132094649 tk_MULTIPLIER)))
    (e_ADDEND : PySem.W.nsIn K mainGlobals "ADDEND" = some (some (.int 11 tk_ADDEND)))
    (e_LOW_WORD : PySem.W.nsIn K mainGlobals "LOW_WORD" = some (some (.int 65536 tk_LOW_WORD)))
    (q_Linear : PySem.W.nsIn K mainGlobals "Linear" = some (some (.ref C_Linear)))
    (pg_Linear : PySem.W.plainGet K C_Linear Str.empty = true)
    (hd_Linear : PySem.W.hasDictIn K C_Linear = true)
    (po_Linear : PySem.W.plainOver K C_Linear = true)
    (sa_Linear : PySem.W.findIn K (.ref C_Linear) "__setattr__" = some (some (.builtin "object.__setattr__")))
    (ha_Linear : PySem.W.findIn K (.ref C_Linear) "__class__" = some (some (.builtin "object.__class__")))
    (hn_Linear : PySem.W.specialIn K (.builtin "object.__class__") "__get__" = some (some (.builtin "getset_descriptor.__get__")))
    (ht_Linear : PySem.W.takesIn K (.builtin "object.__class__") = some true)
    (hm_Linear : PySem.W.mroIn K C_Linear (.type "object") = some true)
    (na_Linear_s2_x : PySem.W.findIn K (.ref C_Linear) "s2_x" = some none)
    (sf_Linear_rshift : PySem.W.selfFirst K C_Linear = true)
    (rr_Linear_rshift : PySem.W.findIn K (.ref C_Linear) (PySem.dunderR "rshift") = some none)
    (la_Linear_rshift : PySem.W.findIn K (.type "int") (PySem.dunder "rshift") = some fo_Linear_rshift)
    (lr_Linear_rshift : PySem.W.findIn K (.type "int") (PySem.dunderR "rshift") = some ro_Linear_rshift)
    (sb_Linear_rshift : PySem.W.subIn K (.type "int") (.ref C_Linear) = some false)
    (sf_Linear_lshift : PySem.W.selfFirst K C_Linear = true)
    (rr_Linear_lshift : PySem.W.findIn K (.ref C_Linear) (PySem.dunderR "lshift") = some none)
    (la_Linear_lshift : PySem.W.findIn K (.type "int") (PySem.dunder "lshift") = some fo_Linear_lshift)
    (lr_Linear_lshift : PySem.W.findIn K (.type "int") (PySem.dunderR "lshift") = some ro_Linear_lshift)
    (sb_Linear_lshift : PySem.W.subIn K (.type "int") (.ref C_Linear) = some false)
    (z_isinstance : PySem.W.nsIn K mainGlobals "isinstance" = some none)
    (z_int : PySem.W.nsIn K mainGlobals "int" = some none)
    (z_bool : PySem.W.nsIn K mainGlobals "bool" = some none)
    (z_tuple : PySem.W.nsIn K mainGlobals "tuple" = some none)
    (z_list : PySem.W.nsIn K mainGlobals "list" = some none)
    (z_range : PySem.W.nsIn K mainGlobals "range" = some none)
    (z_enumerate : PySem.W.nsIn K mainGlobals "enumerate" = some none)
    (z_len : PySem.W.nsIn K mainGlobals "len" = some none)
    (z_max : PySem.W.nsIn K mainGlobals "max" = some none)
    (z_min : PySem.W.nsIn K mainGlobals "min" = some none)
    (z_repr : PySem.W.nsIn K mainGlobals "repr" = some none)
    : Txt K mg C_Linear :=
  { d_is_integer := ⟨f_is_integer, _, ⟨⟨⟨oc_is_integer, od_is_integer, .none, kV_is_integer, dc_is_integer, pm_is_integer, an_is_integer, cd_is_integer, ct_is_integer, sl_is_integer, rfl, l_is_integer, c_is_integer⟩⟩, PySem.W.mg_of X G a_is_integer, k_is_integer⟩, C8.Fun.binds (x := "is_integer") (qual := "is_integer") (st := s_is_integer) (f := f_is_integer) ⟨⟨oc_is_integer, od_is_integer, .none, kV_is_integer, dc_is_integer, pm_is_integer, an_is_integer, cd_is_integer, ct_is_integer, sl_is_integer, rfl, l_is_integer, c_is_integer⟩⟩ rfl (fun _ _ _ _ _ _ us hl => match us, hl with | [_], _ => rfl)⟩,
    d_need_steps := ⟨f_need_steps, _, ⟨⟨⟨oc_need_steps, od_need_steps, .none, kV_need_steps, dc_need_steps, pm_need_steps, an_need_steps, cd_need_steps, ct_need_steps, sl_need_steps, rfl, l_need_steps, c_need_steps⟩⟩, PySem.W.mg_of X G a_need_steps, k_need_steps⟩, C8.Fun.binds (x := "need_steps") (qual := "need_steps") (st := s_need_steps) (f := f_need_steps) ⟨⟨oc_need_steps, od_need_steps, .none, kV_need_steps, dc_need_steps, pm_need_steps, an_need_steps, cd_need_steps, ct_need_steps, sl_need_steps, rfl, l_need_steps, c_need_steps⟩⟩ rfl (fun _ _ _ _ _ _ us hl => match us, hl with | [_], _ => rfl)⟩,
    d_need_many := ⟨f_need_many, _, ⟨⟨⟨oc_need_many, od_need_many, .none, kV_need_many, dc_need_many, pm_need_many, an_need_many, cd_need_many, ct_need_many, sl_need_many, rfl, l_need_many, c_need_many⟩⟩, PySem.W.mg_of X G a_need_many, k_need_many⟩, C8.Fun.binds (x := "need_many") (qual := "need_many") (st := s_need_many) (f := f_need_many) ⟨⟨oc_need_many, od_need_many, .none, kV_need_many, dc_need_many, pm_need_many, an_need_many, cd_need_many, ct_need_many, sl_need_many, rfl, l_need_many, c_need_many⟩⟩ rfl (fun _ _ _ _ _ _ us hl => match us, hl with | [_], _ => rfl)⟩,
    d_s2_is_number := ⟨f_s2_is_number, _, ⟨⟨⟨oc_s2_is_number, od_s2_is_number, .none, kV_s2_is_number, dc_s2_is_number, pm_s2_is_number, an_s2_is_number, cd_s2_is_number, ct_s2_is_number, sl_s2_is_number, rfl, l_s2_is_number, c_s2_is_number⟩⟩, PySem.W.mg_of X G a_s2_is_number, k_s2_is_number⟩, C8.Fun.binds (x := "s2_is_number") (qual := "s2_is_number") (st := s_s2_is_number) (f := f_s2_is_number) ⟨⟨oc_s2_is_number, od_s2_is_number, .none, kV_s2_is_number, dc_s2_is_number, pm_s2_is_number, an_s2_is_number, cd_s2_is_number, ct_s2_is_number, sl_s2_is_number, rfl, l_s2_is_number, c_s2_is_number⟩⟩ rfl (fun _ _ _ _ _ _ us hl => match us, hl with | [_], _ => rfl)⟩,
    d_s2_need_start := ⟨f_s2_need_start, _, ⟨⟨⟨oc_s2_need_start, od_s2_need_start, .none, kV_s2_need_start, dc_s2_need_start, pm_s2_need_start, an_s2_need_start, cd_s2_need_start, ct_s2_need_start, sl_s2_need_start, rfl, l_s2_need_start, c_s2_need_start⟩⟩, PySem.W.mg_of X G a_s2_need_start, k_s2_need_start⟩, C8.Fun.binds (x := "s2_need_start") (qual := "s2_need_start") (st := s_s2_need_start) (f := f_s2_need_start) ⟨⟨oc_s2_need_start, od_s2_need_start, .none, kV_s2_need_start, dc_s2_need_start, pm_s2_need_start, an_s2_need_start, cd_s2_need_start, ct_s2_need_start, sl_s2_need_start, rfl, l_s2_need_start, c_s2_need_start⟩⟩ rfl (fun _ _ _ _ _ _ us hl => match us, hl with | [_], _ => rfl)⟩,
    d_s2_need_state := ⟨f_s2_need_state, _, ⟨⟨⟨oc_s2_need_state, od_s2_need_state, .none, kV_s2_need_state, dc_s2_need_state, pm_s2_need_state, an_s2_need_state, cd_s2_need_state, ct_s2_need_state, sl_s2_need_state, rfl, l_s2_need_state, c_s2_need_state⟩⟩, PySem.W.mg_of X G a_s2_need_state, k_s2_need_state⟩, C8.Fun.binds (x := "s2_need_state") (qual := "s2_need_state") (st := s_s2_need_state) (f := f_s2_need_state) ⟨⟨oc_s2_need_state, od_s2_need_state, .none, kV_s2_need_state, dc_s2_need_state, pm_s2_need_state, an_s2_need_state, cd_s2_need_state, ct_s2_need_state, sl_s2_need_state, rfl, l_s2_need_state, c_s2_need_state⟩⟩ rfl (fun _ _ _ _ _ _ us hl => match us, hl with | [_], _ => rfl)⟩,
    d_s2_joined := ⟨f_s2_joined, _, ⟨⟨⟨oc_s2_joined, od_s2_joined, .none, kV_s2_joined, dc_s2_joined, pm_s2_joined, an_s2_joined, cd_s2_joined, ct_s2_joined, sl_s2_joined, rfl, l_s2_joined, c_s2_joined⟩⟩, PySem.W.mg_of X G a_s2_joined, k_s2_joined⟩, C8.Fun.binds (x := "s2_joined") (qual := "s2_joined") (st := s_s2_joined) (f := f_s2_joined) ⟨⟨oc_s2_joined, od_s2_joined, .none, kV_s2_joined, dc_s2_joined, pm_s2_joined, an_s2_joined, cd_s2_joined, ct_s2_joined, sl_s2_joined, rfl, l_s2_joined, c_s2_joined⟩⟩ rfl (fun _ _ _ _ _ _ us hl => match us, hl with | [_, _], _ => rfl)⟩,
    d_s2_step_map := ⟨f_s2_step_map, _, ⟨⟨⟨oc_s2_step_map, od_s2_step_map, .none, kV_s2_step_map, dc_s2_step_map, pm_s2_step_map, an_s2_step_map, cd_s2_step_map, ct_s2_step_map, sl_s2_step_map, rfl, l_s2_step_map, c_s2_step_map⟩⟩, PySem.W.mg_of X G a_s2_step_map, k_s2_step_map⟩, C8.Fun.binds (x := "s2_step_map") (qual := "s2_step_map") (st := s_s2_step_map) (f := f_s2_step_map) ⟨⟨oc_s2_step_map, od_s2_step_map, .none, kV_s2_step_map, dc_s2_step_map, pm_s2_step_map, an_s2_step_map, cd_s2_step_map, ct_s2_step_map, sl_s2_step_map, rfl, l_s2_step_map, c_s2_step_map⟩⟩ rfl (fun _ _ _ _ _ _ us hl => match us, hl with | [_], _ => rfl)⟩,
    d_s2_mapped := ⟨f_s2_mapped, _, ⟨⟨⟨oc_s2_mapped, od_s2_mapped, .none, kV_s2_mapped, dc_s2_mapped, pm_s2_mapped, an_s2_mapped, cd_s2_mapped, ct_s2_mapped, sl_s2_mapped, rfl, l_s2_mapped, c_s2_mapped⟩⟩, PySem.W.mg_of X G a_s2_mapped, k_s2_mapped⟩, C8.Fun.binds (x := "s2_mapped") (qual := "s2_mapped") (st := s_s2_mapped) (f := f_s2_mapped) ⟨⟨oc_s2_mapped, od_s2_mapped, .none, kV_s2_mapped, dc_s2_mapped, pm_s2_mapped, an_s2_mapped, cd_s2_mapped, ct_s2_mapped, sl_s2_mapped, rfl, l_s2_mapped, c_s2_mapped⟩⟩ rfl (fun _ _ _ _ _ _ us hl => match us, hl with | [_, _], _ => rfl)⟩,
    d_s2_moved := ⟨f_s2_moved, _, ⟨⟨⟨oc_s2_moved, od_s2_moved, .none, kV_s2_moved, dc_s2_moved, pm_s2_moved, an_s2_moved, cd_s2_moved, ct_s2_moved, sl_s2_moved, rfl, l_s2_moved, c_s2_moved⟩⟩, PySem.W.mg_of X G a_s2_moved, k_s2_moved⟩, C8.Fun.binds (x := "s2_moved") (qual := "s2_moved") (st := s_s2_moved) (f := f_s2_moved) ⟨⟨oc_s2_moved, od_s2_moved, .none, kV_s2_moved, dc_s2_moved, pm_s2_moved, an_s2_moved, cd_s2_moved, ct_s2_moved, sl_s2_moved, rfl, l_s2_moved, c_s2_moved⟩⟩ rfl (fun _ _ _ _ _ _ us hl => match us, hl with | [_, _], _ => rfl)⟩,
    d_Linear___init__ := ⟨f_Linear___init__, _, ⟨mk_Linear___init__, a_Linear___init__, i_Linear___init__, kc_Linear___init__⟩, ⟨⟨oc_Linear___init__, od_Linear___init__, .none, kV_Linear___init__, dc_Linear___init__, pm_Linear___init__, an_Linear___init__, cd_Linear___init__, ct_Linear___init__, sl_Linear___init__, rfl, l_Linear___init__, c_Linear___init__⟩⟩, C8.Fun.binds (x := "__init__") (qual := "Linear.__init__") (st := s_Linear___init__) (f := f_Linear___init__) ⟨⟨oc_Linear___init__, od_Linear___init__, .none, kV_Linear___init__, dc_Linear___init__, pm_Linear___init__, an_Linear___init__, cd_Linear___init__, ct_Linear___init__, sl_Linear___init__, rfl, l_Linear___init__, c_Linear___init__⟩⟩ rfl (fun _ _ _ _ _ _ us hl => match us, hl with | [_, _], _ => rfl)⟩,
    d_Linear_next_word := ⟨f_Linear_next_word, _, ⟨a_Linear_next_word, i_Linear_next_word, k_Linear_next_word⟩, ⟨⟨oc_Linear_next_word, od_Linear_next_word, .none, kV_Linear_next_word, dc_Linear_next_word, pm_Linear_next_word, an_Linear_next_word, cd_Linear_next_word, ct_Linear_next_word, sl_Linear_next_word, rfl, l_Linear_next_word, c_Linear_next_word⟩⟩, C8.Fun.binds (x := "next_word") (qual := "Linear.next_word") (st := s_Linear_next_word) (f := f_Linear_next_word) ⟨⟨oc_Linear_next_word, od_Linear_next_word, .none, kV_Linear_next_word, dc_Linear_next_word, pm_Linear_next_word, an_Linear_next_word, cd_Linear_next_word, ct_Linear_next_word, sl_Linear_next_word, rfl, l_Linear_next_word, c_Linear_next_word⟩⟩ rfl (fun _ _ _ _ _ _ us hl => match us, hl with | [_], _ => rfl)⟩,
    d_Linear_words := ⟨f_Linear_words, _, ⟨a_Linear_words, i_Linear_words, k_Linear_words⟩, ⟨⟨oc_Linear_words, od_Linear_words, .none, kV_Linear_words, dc_Linear_words, pm_Linear_words, an_Linear_words, cd_Linear_words, ct_Linear_words, sl_Linear_words, rfl, l_Linear_words, c_Linear_words⟩⟩, C8.Fun.binds (x := "words") (qual := "Linear.words") (st := s_Linear_words) (f := f_Linear_words) ⟨⟨oc_Linear_words, od_Linear_words, .none, kV_Linear_words, dc_Linear_words, pm_Linear_words, an_Linear_words, cd_Linear_words, ct_Linear_words, sl_Linear_words, rfl, l_Linear_words, c_Linear_words⟩⟩ rfl (fun _ _ _ _ _ _ us hl => match us, hl with | [_, _], _ => rfl)⟩,
    d_Linear_state := ⟨p_Linear_state, f_Linear_state, _, ⟨a_Linear_state, g_Linear_state, t_Linear_state, _, r_Linear_state⟩, ⟨⟨oc_Linear_state, od_Linear_state, .none, kV_Linear_state, dc_Linear_state, pm_Linear_state, an_Linear_state, cd_Linear_state, ct_Linear_state, sl_Linear_state, rfl, l_Linear_state, c_Linear_state⟩⟩, C8.Fun.binds (x := "state") (qual := "Linear.state") (st := s_Linear_state) (f := f_Linear_state) ⟨⟨oc_Linear_state, od_Linear_state, .none, kV_Linear_state, dc_Linear_state, pm_Linear_state, an_Linear_state, cd_Linear_state, ct_Linear_state, sl_Linear_state, rfl, l_Linear_state, c_Linear_state⟩⟩ rfl (fun _ _ _ _ _ _ us hl => match us, hl with | [_], _ => rfl)⟩,
    d_Linear_jump := ⟨f_Linear_jump, _, ⟨a_Linear_jump, i_Linear_jump, k_Linear_jump⟩, ⟨⟨oc_Linear_jump, od_Linear_jump, .none, kV_Linear_jump, dc_Linear_jump, pm_Linear_jump, an_Linear_jump, cd_Linear_jump, ct_Linear_jump, sl_Linear_jump, rfl, l_Linear_jump, c_Linear_jump⟩⟩, C8.Fun.binds (x := "jump") (qual := "Linear.jump") (st := s_Linear_jump) (f := f_Linear_jump) ⟨⟨oc_Linear_jump, od_Linear_jump, .none, kV_Linear_jump, dc_Linear_jump, pm_Linear_jump, an_Linear_jump, cd_Linear_jump, ct_Linear_jump, sl_Linear_jump, rfl, l_Linear_jump, c_Linear_jump⟩⟩ rfl (fun _ _ _ _ _ _ us hl => match us, hl with | [_, _], _ => rfl)⟩,
    d_Linear_back := ⟨f_Linear_back, _, ⟨a_Linear_back, i_Linear_back, k_Linear_back⟩, ⟨⟨oc_Linear_back, od_Linear_back, .none, kV_Linear_back, dc_Linear_back, pm_Linear_back, an_Linear_back, cd_Linear_back, ct_Linear_back, sl_Linear_back, rfl, l_Linear_back, c_Linear_back⟩⟩, C8.Fun.binds (x := "back") (qual := "Linear.back") (st := s_Linear_back) (f := f_Linear_back) ⟨⟨oc_Linear_back, od_Linear_back, .none, kV_Linear_back, dc_Linear_back, pm_Linear_back, an_Linear_back, cd_Linear_back, ct_Linear_back, sl_Linear_back, rfl, l_Linear_back, c_Linear_back⟩⟩ rfl (fun _ _ _ _ _ _ us hl => match us, hl with | [_, _], _ => rfl)⟩,
    d_Linear_ahead := ⟨f_Linear_ahead, _, ⟨a_Linear_ahead, i_Linear_ahead, k_Linear_ahead⟩, ⟨⟨oc_Linear_ahead, od_Linear_ahead, .none, kV_Linear_ahead, dc_Linear_ahead, pm_Linear_ahead, an_Linear_ahead, cd_Linear_ahead, ct_Linear_ahead, sl_Linear_ahead, rfl, l_Linear_ahead, c_Linear_ahead⟩⟩, C8.Fun.binds (x := "ahead") (qual := "Linear.ahead") (st := s_Linear_ahead) (f := f_Linear_ahead) ⟨⟨oc_Linear_ahead, od_Linear_ahead, .none, kV_Linear_ahead, dc_Linear_ahead, pm_Linear_ahead, an_Linear_ahead, cd_Linear_ahead, ct_Linear_ahead, sl_Linear_ahead, rfl, l_Linear_ahead, c_Linear_ahead⟩⟩ rfl (fun _ _ _ _ _ _ us hl => match us, hl with | [_, _], _ => rfl)⟩,
    d_Linear_behind := ⟨f_Linear_behind, _, ⟨a_Linear_behind, i_Linear_behind, k_Linear_behind⟩, ⟨⟨oc_Linear_behind, od_Linear_behind, .none, kV_Linear_behind, dc_Linear_behind, pm_Linear_behind, an_Linear_behind, cd_Linear_behind, ct_Linear_behind, sl_Linear_behind, rfl, l_Linear_behind, c_Linear_behind⟩⟩, C8.Fun.binds (x := "behind") (qual := "Linear.behind") (st := s_Linear_behind) (f := f_Linear_behind) ⟨⟨oc_Linear_behind, od_Linear_behind, .none, kV_Linear_behind, dc_Linear_behind, pm_Linear_behind, an_Linear_behind, cd_Linear_behind, ct_Linear_behind, sl_Linear_behind, rfl, l_Linear_behind, c_Linear_behind⟩⟩ rfl (fun _ _ _ _ _ _ us hl => match us, hl with | [_, _], _ => rfl)⟩,
    d_Linear___rshift__ := ⟨f_Linear___rshift__, _, ⟨a_Linear___rshift__, i_Linear___rshift__, k_Linear___rshift__⟩, ⟨⟨oc_Linear___rshift__, od_Linear___rshift__, .none, kV_Linear___rshift__, dc_Linear___rshift__, pm_Linear___rshift__, an_Linear___rshift__, cd_Linear___rshift__, ct_Linear___rshift__, sl_Linear___rshift__, rfl, l_Linear___rshift__, c_Linear___rshift__⟩⟩, C8.Fun.binds (x := "__rshift__") (qual := "Linear.__rshift__") (st := s_Linear___rshift__) (f := f_Linear___rshift__) ⟨⟨oc_Linear___rshift__, od_Linear___rshift__, .none, kV_Linear___rshift__, dc_Linear___rshift__, pm_Linear___rshift__, an_Linear___rshift__, cd_Linear___rshift__, ct_Linear___rshift__, sl_Linear___rshift__, rfl, l_Linear___rshift__, c_Linear___rshift__⟩⟩ rfl (fun _ _ _ _ _ _ us hl => match us, hl with | [_, _], _ => rfl)⟩,
    d_Linear___lshift__ := ⟨f_Linear___lshift__, _, ⟨a_Linear___lshift__, i_Linear___lshift__, k_Linear___lshift__⟩, ⟨⟨oc_Linear___lshift__, od_Linear___lshift__, .none, kV_Linear___lshift__, dc_Linear___lshift__, pm_Linear___lshift__, an_Linear___lshift__, cd_Linear___lshift__, ct_Linear___lshift__, sl_Linear___lshift__, rfl, l_Linear___lshift__, c_Linear___lshift__⟩⟩, C8.Fun.binds (x := "__lshift__") (qual := "Linear.__lshift__") (st := s_Linear___lshift__) (f := f_Linear___lshift__) ⟨⟨oc_Linear___lshift__, od_Linear___lshift__, .none, kV_Linear___lshift__, dc_Linear___lshift__, pm_Linear___lshift__, an_Linear___lshift__, cd_Linear___lshift__, ct_Linear___lshift__, sl_Linear___lshift__, rfl, l_Linear___lshift__, c_Linear___lshift__⟩⟩ rfl (fun _ _ _ _ _ _ us hl => match us, hl with | [_, _], _ => rfl)⟩,
    d_Linear_copy := ⟨f_Linear_copy, _, ⟨a_Linear_copy, i_Linear_copy, k_Linear_copy⟩, ⟨⟨oc_Linear_copy, od_Linear_copy, .none, kV_Linear_copy, dc_Linear_copy, pm_Linear_copy, an_Linear_copy, cd_Linear_copy, ct_Linear_copy, sl_Linear_copy, rfl, l_Linear_copy, c_Linear_copy⟩⟩, C8.Fun.binds (x := "copy") (qual := "Linear.copy") (st := s_Linear_copy) (f := f_Linear_copy) ⟨⟨oc_Linear_copy, od_Linear_copy, .none, kV_Linear_copy, dc_Linear_copy, pm_Linear_copy, an_Linear_copy, cd_Linear_copy, ct_Linear_copy, sl_Linear_copy, rfl, l_Linear_copy, c_Linear_copy⟩⟩ rfl (fun _ _ _ _ _ _ us hl => match us, hl with | [_], _ => rfl)⟩,
    d_Linear_same_state := ⟨f_Linear_same_state, _, ⟨a_Linear_same_state, i_Linear_same_state, k_Linear_same_state⟩, ⟨⟨oc_Linear_same_state, od_Linear_same_state, .none, kV_Linear_same_state, dc_Linear_same_state, pm_Linear_same_state, an_Linear_same_state, cd_Linear_same_state, ct_Linear_same_state, sl_Linear_same_state, rfl, l_Linear_same_state, c_Linear_same_state⟩⟩, C8.Fun.binds (x := "same_state") (qual := "Linear.same_state") (st := s_Linear_same_state) (f := f_Linear_same_state) ⟨⟨oc_Linear_same_state, od_Linear_same_state, .none, kV_Linear_same_state, dc_Linear_same_state, pm_Linear_same_state, an_Linear_same_state, cd_Linear_same_state, ct_Linear_same_state, sl_Linear_same_state, rfl, l_Linear_same_state, c_Linear_same_state⟩⟩ rfl (fun _ _ _ _ _ _ us hl => match us, hl with | [_, _], _ => rfl)⟩,
    d_Linear_state_after := ⟨f_Linear_state_after, _, ⟨_, p_Linear_state_after, _, ⟨rd_Linear_state_after, ga_Linear_state_after⟩, a_Linear_state_after, r_Linear_state_after, k_Linear_state_after⟩, ⟨⟨oc_Linear_state_after, od_Linear_state_after, .none, kV_Linear_state_after, dc_Linear_state_after, pm_Linear_state_after, an_Linear_state_after, cd_Linear_state_after, ct_Linear_state_after, sl_Linear_state_after, rfl, l_Linear_state_after, c_Linear_state_after⟩⟩, C8.Fun.binds (x := "state_after") (qual := "Linear.state_after") (st := s_Linear_state_after) (f := f_Linear_state_after) ⟨⟨oc_Linear_state_after, od_Linear_state_after, .none, kV_Linear_state_after, dc_Linear_state_after, pm_Linear_state_after, an_Linear_state_after, cd_Linear_state_after, ct_Linear_state_after, sl_Linear_state_after, rfl, l_Linear_state_after, c_Linear_state_after⟩⟩ rfl (fun _ _ _ _ _ _ us hl => match us, hl with | [_, _], _ => rfl)⟩,
    d__law_begun := ⟨f__law_begun, _, ⟨⟨⟨oc__law_begun, od__law_begun, .none, kV__law_begun, dc__law_begun, pm__law_begun, an__law_begun, cd__law_begun, ct__law_begun, sl__law_begun, rfl, l__law_begun, c__law_begun⟩⟩, PySem.W.mg_of X G a__law_begun, k__law_begun⟩, C8.Fun.binds (x := "_law_begun") (qual := "_law_begun") (st := s__law_begun) (f := f__law_begun) ⟨⟨oc__law_begun, od__law_begun, .none, kV__law_begun, dc__law_begun, pm__law_begun, an__law_begun, cd__law_begun, ct__law_begun, sl__law_begun, rfl, l__law_begun, c__law_begun⟩⟩ rfl (fun _ _ _ _ _ _ us hl => match us, hl with | [_], _ => rfl)⟩,
    d__law_next := ⟨f__law_next, _, ⟨⟨⟨oc__law_next, od__law_next, .none, kV__law_next, dc__law_next, pm__law_next, an__law_next, cd__law_next, ct__law_next, sl__law_next, rfl, l__law_next, c__law_next⟩⟩, PySem.W.mg_of X G a__law_next, k__law_next⟩, C8.Fun.binds (x := "_law_next") (qual := "_law_next") (st := s__law_next) (f := f__law_next) ⟨⟨oc__law_next, od__law_next, .none, kV__law_next, dc__law_next, pm__law_next, an__law_next, cd__law_next, ct__law_next, sl__law_next, rfl, l__law_next, c__law_next⟩⟩ rfl (fun _ _ _ _ _ _ us hl => match us, hl with | [_, _], _ => rfl)⟩,
    d__law_x := ⟨f__law_x, _, ⟨⟨⟨oc__law_x, od__law_x, .none, kV__law_x, dc__law_x, pm__law_x, an__law_x, cd__law_x, ct__law_x, sl__law_x, rfl, l__law_x, c__law_x⟩⟩, PySem.W.mg_of X G a__law_x, k__law_x⟩, C8.Fun.binds (x := "_law_x") (qual := "_law_x") (st := s__law_x) (f := f__law_x) ⟨⟨oc__law_x, od__law_x, .none, kV__law_x, dc__law_x, pm__law_x, an__law_x, cd__law_x, ct__law_x, sl__law_x, rfl, l__law_x, c__law_x⟩⟩ rfl (fun _ _ _ _ _ _ us hl => match us, hl with | [_], _ => rfl)⟩,
    d__law_steps := ⟨f__law_steps, _, ⟨⟨⟨oc__law_steps, od__law_steps, .none, kV__law_steps, dc__law_steps, pm__law_steps, an__law_steps, cd__law_steps, ct__law_steps, sl__law_steps, rfl, l__law_steps, c__law_steps⟩⟩, PySem.W.mg_of X G a__law_steps, k__law_steps⟩, C8.Fun.binds (x := "_law_steps") (qual := "_law_steps") (st := s__law_steps) (f := f__law_steps) ⟨⟨oc__law_steps, od__law_steps, .none, kV__law_steps, dc__law_steps, pm__law_steps, an__law_steps, cd__law_steps, ct__law_steps, sl__law_steps, rfl, l__law_steps, c__law_steps⟩⟩ rfl (fun _ _ _ _ _ _ us hl => match us, hl with | [_], _ => rfl)⟩,
    d__law_digits := ⟨f__law_digits, _, ⟨⟨⟨oc__law_digits, od__law_digits, .none, kV__law_digits, dc__law_digits, pm__law_digits, an__law_digits, cd__law_digits, ct__law_digits, sl__law_digits, rfl, l__law_digits, c__law_digits⟩⟩, PySem.W.mg_of X G a__law_digits, k__law_digits⟩, C8.Fun.binds (x := "_law_digits") (qual := "_law_digits") (st := s__law_digits) (f := f__law_digits) ⟨⟨oc__law_digits, od__law_digits, .none, kV__law_digits, dc__law_digits, pm__law_digits, an__law_digits, cd__law_digits, ct__law_digits, sl__law_digits, rfl, l__law_digits, c__law_digits⟩⟩ rfl (fun _ _ _ _ _ _ us hl => match us, hl with | [_], _ => rfl)⟩,
    d__law_map := ⟨f__law_map, _, ⟨⟨⟨oc__law_map, od__law_map, .none, kV__law_map, dc__law_map, pm__law_map, an__law_map, cd__law_map, ct__law_map, sl__law_map, rfl, l__law_map, c__law_map⟩⟩, PySem.W.mg_of X G a__law_map, k__law_map⟩, C8.Fun.binds (x := "_law_map") (qual := "_law_map") (st := s__law_map) (f := f__law_map) ⟨⟨oc__law_map, od__law_map, .none, kV__law_map, dc__law_map, pm__law_map, an__law_map, cd__law_map, ct__law_map, sl__law_map, rfl, l__law_map, c__law_map⟩⟩ rfl (fun _ _ _ _ _ _ us hl => match us, hl with | [_], _ => rfl)⟩,
    d__law_moved := ⟨f__law_moved, _, ⟨⟨⟨oc__law_moved, od__law_moved, .none, kV__law_moved, dc__law_moved, pm__law_moved, an__law_moved, cd__law_moved, ct__law_moved, sl__law_moved, rfl, l__law_moved, c__law_moved⟩⟩, PySem.W.mg_of X G a__law_moved, k__law_moved⟩, C8.Fun.binds (x := "_law_moved") (qual := "_law_moved") (st := s__law_moved) (f := f__law_moved) ⟨⟨oc__law_moved, od__law_moved, .none, kV__law_moved, dc__law_moved, pm__law_moved, an__law_moved, cd__law_moved, ct__law_moved, sl__law_moved, rfl, l__law_moved, c__law_moved⟩⟩ rfl (fun _ _ _ _ _ _ us hl => match us, hl with | [_, _], _ => rfl)⟩,
    d__law_ways_right := ⟨f__law_ways_right, _, ⟨⟨⟨oc__law_ways_right, od__law_ways_right, .none, kV__law_ways_right, dc__law_ways_right, pm__law_ways_right, an__law_ways_right, cd__law_ways_right, ct__law_ways_right, sl__law_ways_right, rfl, l__law_ways_right, c__law_ways_right⟩⟩, PySem.W.mg_of X G a__law_ways_right, k__law_ways_right⟩, C8.Fun.binds (x := "_law_ways_right") (qual := "_law_ways_right") (st := s__law_ways_right) (f := f__law_ways_right) ⟨⟨oc__law_ways_right, od__law_ways_right, .none, kV__law_ways_right, dc__law_ways_right, pm__law_ways_right, an__law_ways_right, cd__law_ways_right, ct__law_ways_right, sl__law_ways_right, rfl, l__law_ways_right, c__law_ways_right⟩⟩ rfl (fun _ _ _ _ _ _ us hl => match us, hl with | [_, _], _ => rfl)⟩,
    d__law_small_right := ⟨f__law_small_right, _, ⟨⟨⟨oc__law_small_right, od__law_small_right, .none, kV__law_small_right, dc__law_small_right, pm__law_small_right, an__law_small_right, cd__law_small_right, ct__law_small_right, sl__law_small_right, rfl, l__law_small_right, c__law_small_right⟩⟩, PySem.W.mg_of X G a__law_small_right, k__law_small_right⟩, C8.Fun.binds (x := "_law_small_right") (qual := "_law_small_right") (st := s__law_small_right) (f := f__law_small_right) ⟨⟨oc__law_small_right, od__law_small_right, .none, kV__law_small_right, dc__law_small_right, pm__law_small_right, an__law_small_right, cd__law_small_right, ct__law_small_right, sl__law_small_right, rfl, l__law_small_right, c__law_small_right⟩⟩ rfl (fun _ _ _ _ _ _ us hl => match us, hl with | [_, _], _ => rfl)⟩,
    d_law := ⟨f_law, _, ⟨⟨⟨oc_law, od_law, .none, kV_law, dc_law, pm_law, an_law, cd_law, ct_law, sl_law, rfl, l_law, c_law⟩⟩, PySem.W.mg_of X G a_law, k_law⟩, C8.Fun.binds (x := "law") (qual := "law") (st := s_law) (f := f_law) ⟨⟨oc_law, od_law, .none, kV_law, dc_law, pm_law, an_law, cd_law, ct_law, sl_law, rfl, l_law, c_law⟩⟩ rfl (fun _ _ _ _ _ _ us hl => match us, hl with | [_], _ => rfl), fun s v => .of_eq rfl⟩,
    c_MOST_STEPS := ⟨_, PySem.W.mg_of X G e_MOST_STEPS, _, rfl⟩,
    c_MOST_WORDS := ⟨_, PySem.W.mg_of X G e_MOST_WORDS, _, rfl⟩,
    c_MODULUS := ⟨_, PySem.W.mg_of X G e_MODULUS, _, rfl⟩,
    c_MULTIPLIER := ⟨_, PySem.W.mg_of X G e_MULTIPLIER, _, rfl⟩,
    c_ADDEND := ⟨_, PySem.W.mg_of X G e_ADDEND, _, rfl⟩,
    c_LOW_WORD := ⟨_, PySem.W.mg_of X G e_LOW_WORD, _, rfl⟩,
    k_Linear := ⟨_, PySem.W.mg_of X G q_Linear, rfl⟩,
    cl_Linear := ⟨pg_Linear, hd_Linear, po_Linear, sa_Linear⟩,
    is_Linear := ⟨⟨pg_Linear, hd_Linear, po_Linear, sa_Linear⟩, ha_Linear, hn_Linear, ht_Linear, hm_Linear, Rd.kit_self K C_Linear⟩,
    n_Linear_s2_x := na_Linear_s2_x,
    o_Linear_rshift := ⟨sf_Linear_rshift, rr_Linear_rshift, ⟨_, la_Linear_rshift⟩, ⟨_, lr_Linear_rshift⟩, sb_Linear_rshift⟩,
    o_Linear_lshift := ⟨sf_Linear_lshift, rr_Linear_lshift, ⟨_, la_Linear_lshift⟩, ⟨_, lr_Linear_lshift⟩, sb_Linear_lshift⟩,
    b_isinstance := PySem.W.mg_none_of X G z_isinstance,
    b_int := PySem.W.mg_none_of X G z_int,
    b_bool := PySem.W.mg_none_of X G z_bool,
    b_tuple := PySem.W.mg_none_of X G z_tuple,
    b_list := PySem.W.mg_none_of X G z_list,
    b_range := PySem.W.mg_none_of X G z_range,
    b_enumerate := PySem.W.mg_none_of X G z_enumerate,
    b_len := PySem.W.mg_none_of X G z_len,
    b_max := PySem.W.mg_none_of X G z_max,
    b_min := PySem.W.mg_none_of X G z_min,
    b_repr := PySem.W.mg_none_of X G z_repr }
end Pf
open PySem PySem.W PyProof.Rows
set_option maxRecDepth 100000 in
set_option maxHeartbeats 0 in
theorem PySem.Challenge.cw_drawstate_k11_whole_jumps_and_ways_back_holds : PySem.Challenge.rw_drawstate_k11_whole_jumps_and_ways_back.Holds := by
  w_on; o_law; k_head; (case hw => w_witness2)
  k_fill
  refine Gx.walkG (l := PySem.Challenge.rw_drawstate_k11_whole_jumps_and_ways_back) (k := 11) (x := "_law_script") rfl rfl ⟨rfl, by decide, by decide⟩ (fun w h Y => PySem.W.kIn_of Y) ?F
  case F =>
    intro w mg fa h Y KX G hmg
    refine' Pf.law_mk hmg (Pf.txt_mk KX G ?a_is_integer ?l_is_integer ?c_is_integer ?k_is_integer ?a_need_steps ?l_need_steps ?c_need_steps ?k_need_steps ?a_need_many ?l_need_many ?c_need_many ?k_need_many ?a_s2_is_number ?l_s2_is_number ?c_s2_is_number ?k_s2_is_number ?a_s2_need_start ?l_s2_need_start ?c_s2_need_start ?k_s2_need_start ?a_s2_need_state ?l_s2_need_state ?c_s2_need_state ?k_s2_need_state ?a_s2_joined ?l_s2_joined ?c_s2_joined ?k_s2_joined ?a_s2_step_map ?l_s2_step_map ?c_s2_step_map ?k_s2_step_map ?a_s2_mapped ?l_s2_mapped ?c_s2_mapped ?k_s2_mapped ?a_s2_moved ?l_s2_moved ?c_s2_moved ?k_s2_moved ?a_Linear___init__ ?i_Linear___init__ ?l_Linear___init__ ?c_Linear___init__ ?k_Linear___init__ ?mk_Linear___init__ ?kc_Linear___init__ ?a_Linear_next_word ?i_Linear_next_word ?l_Linear_next_word ?c_Linear_next_word ?k_Linear_next_word ?a_Linear_words ?i_Linear_words ?l_Linear_words ?c_Linear_words ?k_Linear_words ?a_Linear_state ?g_Linear_state ?t_Linear_state ?r_Linear_state ?l_Linear_state ?c_Linear_state ?k_Linear_state ?a_Linear_jump ?i_Linear_jump ?l_Linear_jump ?c_Linear_jump ?k_Linear_jump ?a_Linear_back ?i_Linear_back ?l_Linear_back ?c_Linear_back ?k_Linear_back ?a_Linear_ahead ?i_Linear_ahead ?l_Linear_ahead ?c_Linear_ahead ?k_Linear_ahead ?a_Linear_behind ?i_Linear_behind ?l_Linear_behind ?c_Linear_behind ?k_Linear_behind ?a_Linear___rshift__ ?i_Linear___rshift__ ?l_Linear___rshift__ ?c_Linear___rshift__ ?k_Linear___rshift__ ?a_Linear___lshift__ ?i_Linear___lshift__ ?l_Linear___lshift__ ?c_Linear___lshift__ ?k_Linear___lshift__ ?a_Linear_copy ?i_Linear_copy ?l_Linear_copy ?c_Linear_copy ?k_Linear_copy ?a_Linear_same_state ?i_Linear_same_state ?l_Linear_same_state ?c_Linear_same_state ?k_Linear_same_state ?rd_Linear_state_after ?ga_Linear_state_after ?a_Linear_state_after ?r_Linear_state_after ?l_Linear_state_after ?c_Linear_state_after ?k_Linear_state_after ?a__law_begun ?l__law_begun ?c__law_begun ?k__law_begun ?a__law_next ?l__law_next ?c__law_next ?k__law_next ?a__law_x ?l__law_x ?c__law_x ?k__law_x ?a__law_steps ?l__law_steps ?c__law_steps ?k__law_steps ?a__law_digits ?l__law_digits ?c__law_digits ?k__law_digits ?a__law_map ?l__law_map ?c__law_map ?k__law_map ?a__law_moved ?l__law_moved ?c__law_moved ?k__law_moved ?a__law_ways_right ?l__law_ways_right ?c__law_ways_right ?k__law_ways_right ?a__law_small_right ?l__law_small_right ?c__law_small_right ?k__law_small_right ?a_law ?l_law ?c_law ?k_law ?e_MOST_STEPS ?e_MOST_WORDS ?e_MODULUS ?e_MULTIPLIER ?e_ADDEND ?e_LOW_WORD ?q_Linear ?pg_Linear ?hd_Linear ?po_Linear ?sa_Linear ?ha_Linear ?hn_Linear ?ht_Linear ?hm_Linear ?na_Linear_s2_x ?sf_Linear_rshift ?rr_Linear_rshift ?la_Linear_rshift ?lr_Linear_rshift ?sb_Linear_rshift ?sf_Linear_lshift ?rr_Linear_lshift ?la_Linear_lshift ?lr_Linear_lshift ?sb_Linear_lshift ?z_isinstance ?z_int ?z_bool ?z_tuple ?z_list ?z_range ?z_enumerate ?z_len ?z_max ?z_min ?z_repr)
    (case q_Linear => k_is)
    (case a_is_integer => k_is)
    (case l_is_integer => k_is)
    (case c_is_integer => k_is)
    (case k_is_integer => k_is)
    (case a_need_steps => k_is)
    (case l_need_steps => k_is)
    (case c_need_steps => k_is)
    (case k_need_steps => k_is)
    (case a_need_many => k_is)
    (case l_need_many => k_is)
    (case c_need_many => k_is)
    (case k_need_many => k_is)
    (case a_s2_is_number => k_is)
    (case l_s2_is_number => k_is)
    (case c_s2_is_number => k_is)
    (case k_s2_is_number => k_is)
    (case a_s2_need_start => k_is)
    (case l_s2_need_start => k_is)
    (case c_s2_need_start => k_is)
    (case k_s2_need_start => k_is)
    (case a_s2_need_state => k_is)
    (case l_s2_need_state => k_is)
    (case c_s2_need_state => k_is)
    (case k_s2_need_state => k_is)
    (case a_s2_joined => k_is)
    (case l_s2_joined => k_is)
    (case c_s2_joined => k_is)
    (case k_s2_joined => k_is)
    (case a_s2_step_map => k_is)
    (case l_s2_step_map => k_is)
    (case c_s2_step_map => k_is)
    (case k_s2_step_map => k_is)
    (case a_s2_mapped => k_is)
    (case l_s2_mapped => k_is)
    (case c_s2_mapped => k_is)
    (case k_s2_mapped => k_is)
    (case a_s2_moved => k_is)
    (case l_s2_moved => k_is)
    (case c_s2_moved => k_is)
    (case k_s2_moved => k_is)
    (case a_Linear___init__ => k_is)
    (case i_Linear___init__ => k_is)
    (case l_Linear___init__ => k_is)
    (case c_Linear___init__ => k_is)
    (case k_Linear___init__ => k_is)
    (case mk_Linear___init__ => k_is)
    (case kc_Linear___init__ => k_is)
    (case a_Linear_next_word => k_is)
    (case i_Linear_next_word => k_is)
    (case l_Linear_next_word => k_is)
    (case c_Linear_next_word => k_is)
    (case k_Linear_next_word => k_is)
    (case a_Linear_words => k_is)
    (case i_Linear_words => k_is)
    (case l_Linear_words => k_is)
    (case c_Linear_words => k_is)
    (case k_Linear_words => k_is)
    (case a_Linear_state => k_is)
    (case g_Linear_state => k_is)
    (case t_Linear_state => k_is)
    (case r_Linear_state => k_is)
    (case l_Linear_state => k_is)
    (case c_Linear_state => k_is)
    (case k_Linear_state => k_is)
    (case a_Linear_jump => k_is)
    (case i_Linear_jump => k_is)
    (case l_Linear_jump => k_is)
    (case c_Linear_jump => k_is)
    (case k_Linear_jump => k_is)
    (case a_Linear_back => k_is)
    (case i_Linear_back => k_is)
    (case l_Linear_back => k_is)
    (case c_Linear_back => k_is)
    (case k_Linear_back => k_is)
    (case a_Linear_ahead => k_is)
    (case i_Linear_ahead => k_is)
    (case l_Linear_ahead => k_is)
    (case c_Linear_ahead => k_is)
    (case k_Linear_ahead => k_is)
    (case a_Linear_behind => k_is)
    (case i_Linear_behind => k_is)
    (case l_Linear_behind => k_is)
    (case c_Linear_behind => k_is)
    (case k_Linear_behind => k_is)
    (case a_Linear___rshift__ => k_is)
    (case i_Linear___rshift__ => k_is)
    (case l_Linear___rshift__ => k_is)
    (case c_Linear___rshift__ => k_is)
    (case k_Linear___rshift__ => k_is)
    (case a_Linear___lshift__ => k_is)
    (case i_Linear___lshift__ => k_is)
    (case l_Linear___lshift__ => k_is)
    (case c_Linear___lshift__ => k_is)
    (case k_Linear___lshift__ => k_is)
    (case a_Linear_copy => k_is)
    (case i_Linear_copy => k_is)
    (case l_Linear_copy => k_is)
    (case c_Linear_copy => k_is)
    (case k_Linear_copy => k_is)
    (case a_Linear_same_state => k_is)
    (case i_Linear_same_state => k_is)
    (case l_Linear_same_state => k_is)
    (case c_Linear_same_state => k_is)
    (case k_Linear_same_state => k_is)
    (case rd_Linear_state_after => k_is)
    (case ga_Linear_state_after => k_is)
    (case a_Linear_state_after => k_is)
    (case r_Linear_state_after => k_is)
    (case l_Linear_state_after => k_is)
    (case c_Linear_state_after => k_is)
    (case k_Linear_state_after => k_is)
    (case a__law_begun => k_is)
    (case l__law_begun => k_is)
    (case c__law_begun => k_is)
    (case k__law_begun => k_is)
    (case a__law_next => k_is)
    (case l__law_next => k_is)
    (case c__law_next => k_is)
    (case k__law_next => k_is)
    (case a__law_x => k_is)
    (case l__law_x => k_is)
    (case c__law_x => k_is)
    (case k__law_x => k_is)
    (case a__law_steps => k_is)
    (case l__law_steps => k_is)
    (case c__law_steps => k_is)
    (case k__law_steps => k_is)
    (case a__law_digits => k_is)
    (case l__law_digits => k_is)
    (case c__law_digits => k_is)
    (case k__law_digits => k_is)
    (case a__law_map => k_is)
    (case l__law_map => k_is)
    (case c__law_map => k_is)
    (case k__law_map => k_is)
    (case a__law_moved => k_is)
    (case l__law_moved => k_is)
    (case c__law_moved => k_is)
    (case k__law_moved => k_is)
    (case a__law_ways_right => k_is)
    (case l__law_ways_right => k_is)
    (case c__law_ways_right => k_is)
    (case k__law_ways_right => k_is)
    (case a__law_small_right => k_is)
    (case l__law_small_right => k_is)
    (case c__law_small_right => k_is)
    (case k__law_small_right => k_is)
    (case a_law => k_is)
    (case l_law => k_is)
    (case c_law => k_is)
    (case k_law => k_is)
    (case e_MOST_STEPS => k_is)
    (case e_MOST_WORDS => k_is)
    (case e_MODULUS => k_is)
    (case e_MULTIPLIER => k_is)
    (case e_ADDEND => k_is)
    (case e_LOW_WORD => k_is)
    (case pg_Linear => k_is)
    (case hd_Linear => k_is)
    (case po_Linear => k_is)
    (case sa_Linear => k_is)
    (case ha_Linear => k_is)
    (case hn_Linear => k_is)
    (case ht_Linear => k_is)
    (case hm_Linear => k_is)
    (case na_Linear_s2_x => k_is)
    (case sf_Linear_rshift => k_is)
    (case rr_Linear_rshift => k_is)
    (case la_Linear_rshift => k_is)
    (case lr_Linear_rshift => k_is)
    (case sb_Linear_rshift => k_is)
    (case sf_Linear_lshift => k_is)
    (case rr_Linear_lshift => k_is)
    (case la_Linear_lshift => k_is)
    (case lr_Linear_lshift => k_is)
    (case sb_Linear_lshift => k_is)
    (case z_isinstance => k_is)
    (case z_int => k_is)
    (case z_bool => k_is)
    (case z_tuple => k_is)
    (case z_list => k_is)
    (case z_range => k_is)
    (case z_enumerate => k_is)
    (case z_len => k_is)
    (case z_max => k_is)
    (case z_min => k_is)
    (case z_repr => k_is)
#print axioms PySem.Challenge.cw_drawstate_k11_whole_jumps_and_ways_back_holds
