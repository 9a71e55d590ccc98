import PyProof.Rows.All
import Wide.All
import OpenK.AllK
import Wide.FinOn
import HandS.ForMost
import HandS.ForExc
import PyProof.ReprRoads
import HandS.RaiseMore
import PyProof.ReprLen
import HandS.ExcInit
import HandS.ExcField
import HandS.TryMany
import KE.KExcSuper
import HandS.Codes
import HandS.Walk
import HandS.IsInst
import HandS.Conv
import HandS.TupSets
import HandS.TupLen
import HandS.SetKeys
import HandS.Style
import KE.GoesEnum
import KE.KRevSl
import PyProof.SliceStr2
import PyProof.DictMoreH
import HandS.TupLe
import HandS.Defaults
import KE.RegKSuper
import PySem.Challenge.RW_wordsaid_k82_powers_and_classes
set_option Elab.async false
set_option linter.all false
set_option maxRecDepth 100000
set_option maxHeartbeats 4200000
/-! defs that may show values (repr): their promise is kept where nothing is being shown around the call -/
namespace Ws
open PySem PySem.Spec PyProof.Rows L2

/-- as FnOk, around which no repr runs -/
structure FnG (P : Program) (w : World) (K : PySem.W.Frag) (mg : Str → Option Value) (base : Heap) (CX : CXT)
    (k : Nat) (f : Addr) (fd : FuncData) (ps : List Str) (sp : Sp) : Prop where
  len : ∀ vs H Q E, sp vs H Q E →
      vs.length = ps.length
  run : ∀ (A : Around) (outer : List Env) (s : Shared) (H : Hp) (args : Args) (us : List Value) (vs : List V)
    (Q : VK) (E : XK), Room k A → A.guards = some [] → Env0 P w K mg base A outer s H →
    BindsTo s fd args (ps.zip us) → Vals vs us → sp vs H Q E →
    codeAny (model P w) A (.call (.ref f) args)
        (CR CX outer P w H s Q E) s

theorem FnG.of {P : Program} {w : World} {K : PySem.W.Frag} {mg : Str → Option Value} {base : Heap} {CX : CXT}
    {k : Nat} {f : Addr} {fd : FuncData} {ps : List Str} {sp : Sp} (F : FnOk P w K mg base CX k f fd ps sp) :
    FnG P w K mg base CX k f fd ps sp :=
  ⟨F.len, fun A outer s H args us vs Q E hr _ e0 hb r h => F.run A outer s H args us vs Q E hr e0 hb r h⟩

section
variable {P : Program} {w : World} {K : PySem.W.Frag} {mg : Str → Option Value} {base : Heap}

/-- the rule for a def, by its body -/
theorem okG {x qual : Str} {st : Stmt} {f : Addr} {fd : FuncData} {N ps : List Str} {k : Nat} {sp : Sp}
    (F : Fun K x qual st f fd) (S : FnScope N ps (defScope st)) (len : ∀ vs H Q E, sp vs H Q E → vs.length = ps.length)
    (hbody : ∀ (cdv : Value) (A : Around) (outer : List Env) (s : Shared) (H : Hp) (vs : List V) (Q : VK) (E : XK),
      Room k (A.deeper (envOfC qual (defScope st) s.heap.objs.size f cdv)) → A.guards = some [] → sp vs H Q E →
      ∃ t, PSs (cxOf CX0 P w K mg base N qual (defScope st) f cdv A outer s H E).nox (defBody st) t ∧
        t { nx := fun _ H' => Q .non H', rt := Q } (start N vs) H) :
    FnG P w K mg base CX0 (k + 1) f fd ps sp := by
  obtain ⟨oc, od, kV, doc, pm, an, cdv, ct, osl, rfl, lk, hco⟩ := F.ex
  refine ⟨len, fun A outer s H args us vs Q E hr hg e0 hb r hsp => ?_⟩
  have hl := len _ _ _ _ hsp
  have stays : ∀ b o, base.get? b = some o → s.heap.get? b = some o := fun b o e => (e0.bs b o e).1
  have kin0 : K.In s.heap := e0.mod.kin.keeps stays
  have lim : s.heap.NoLimit := e0.mod.nolimit.keeps stays
  have hkind : ∀ y ∈ ps.zip us, (defScope st).names.lookup y.1 = some .local ∨
      ((defScope st).names.lookup y.1 = some .cell ∧
        ((cellsFrom (s.heap.objs.size + 1) (defScope st).names []).lookup y.1).isSome = true) := by
    rintro ⟨n, v⟩ hy
    rcases
      S.par n (List.of_mem_zip hy).1 with q | q
    · exact .inl q
    · exact
        .inr ⟨q, PySem.W.cellsFrom_some _ _ _ (.inl q)⟩
  have core : ∀ s1, InCallC s s.heap.objs.size (bindL (envOfC qual (defScope st) s.heap.objs.size f cdv).kindOf (ps.zip us) fun _ => none)
      (cellsFrom (s.heap.objs.size + 1) (defScope st).names [])
      (bindC (envOfC qual (defScope st) s.heap.objs.size f cdv).kindOf (ps.zip us) fun _ => none) s1 →
      wpAny (model P w) (A.deeper (envOfC qual (defScope st) s.heap.objs.size f cdv))
        (execs (defBody st) (envOfC qual (defScope st) s.heap.objs.size f cdv))
        (SP (cxOf CX0 P w K mg base N qual (defScope st) f cdv A outer s H E) [] { nx := fun _ H' => Q .non H', rt := Q })
        (cxOf CX0 P w K mg base N qual (defScope st) f cdv A outer s H E).xe s1 := by
    intro s1 x
    obtain ⟨t, ht, hq⟩ := hbody cdv A outer s H vs Q E (hr.deeper _) hg hsp
    exact ht.nox.run [] s1 (start N vs) H _ (inv_start S hr.hd e0 hl r x) hq
  refine codeAny_call_function hr.depth (kin0 _ _ lk) rfl S.co S.gen rfl (PySem.W.codeRec_of kin0 hco) (hb _ _ _ _ ?_)
  refine
    wpAny_newFunctionEnv_cells S.kind hkind fun env he s1 x => ?_
  subst he
  refine ⟨lim.keeps x.toInCall.keep, codeAny_func (wpAny_mono (core s1 x) (fun fl s' hs => ?_) fun e s' hs => hs)⟩
  cases fl with
  | ret u =>
    obtain ⟨v, σ', H', J, rvv, q⟩ := hs
    exact ⟨v, H', J.os, J.bare, J.base, J.hok, rvv, q⟩
  | next =>
    obtain ⟨σ', H', J, q⟩ := hs
    exact ⟨V.non, H', J.os, J.bare, J.base, J.hok, rfl, q⟩
  | brk => exact hs.elim fun _ h => h.elim fun _ h => h.2.elim
  | cont => exact hs.elim fun _ h => h.elim fun _ h => h.2.elim
end

section
variable {X : Cx} {k : Nat} {f : Addr} {fd : FuncData} {ps : List Str} {sp : Sp} {x : Str} {p pos : Pos} {e : Expr}
  {es : List Expr} {t : TA}
/-- a call of such a def, no defaults -/
theorem pe_callG (F : FnG X.prog X.w X.K X.mg X.base CX0 k f fd ps sp) (hr : Room k X.A) (hgd : X.A.guards = some [])
    (hg : Gl X x) (hm : X.mg x = some (.ref f)) (hk : PySem.W.keepIn X.K (.ref f) = true) (hb : Binds X.K fd ps [])
    (ha : PA X (e :: es) t) (hdb : (x == ("__debug__" : Str)) = false := by decide)
    (he : starEach (e :: es) X.env = (false, eval e X.env) :: starEach es X.env := by rfl)
    (hpl : (backTo pos (starEach es X.env)).any (·.1) = false := by rfl) :
    PE X (.Call (.Name x p) (e :: es) [] pos) (fun σ H Q => t σ H fun vs H1 => sp vs H1 Q E0) := by
  refine ⟨fun pz s σ H Q I h => wpAny_Call_Name_kw (ld_glob I hg hm ?_ hdb)⟩
  refine PySem.W.callWith_K (h₀ := X.base) I.ok.mod.kin hk ?_ he hpl
  refine thn (ha.run pos pz s σ H _ I h) fun us s1 ⟨vs, H1, iA, r, q⟩ => ⟨iA.kIn, ?_⟩
  have hl : us.length = ps.length := by rw [← r.length]; exact F.len _ _ _ _ q
  have hb1 : BindsTo s1 fd ⟨us, []⟩ (ps.zip us) := by
    have z := hb s1 us iA.kIn (by rw [List.append_nil]; exact hl)
    rw [List.append_nil] at z
    exact z
  refine wpAny_call (codeAny_mono (F.run X.A X.stack s1 H1 ⟨us, []⟩ us vs Q E0 hr hgd iA.env0 hb1 r q) fun r s' hq => ?_)
  cases r with
  | error e => exact hq.elim
  | ok fl =>
    cases fl with
    | ret u => exact iA.after hq
    | next => exact hq.elim
    | brk => exact hq.elim
    | cont => exact hq.elim
end

/-- what is shown of data that stands in the heap -/
structure Shw (d : PyData) : Prop where
  ok : d.showable = true
  nd : d.hasDict = false
  dp : d.depth ≤ 60
  sh : d.leavesShort 13 = true
  wt : d.weight ≤ 2 ^ 20
theorem Shw.len {d : PyData} (s : Shw d) : d.shown.length ≤ sizeLine := PyData.shown_fits (B := 13) (by decide) (by decide) s.sh s.wt
def rRepr (K : PySem.W.Frag) : List V → Hp → VK → Prop := fun xs H Q => ∃ (x : V) (d : PyData),
  xs = [x] ∧ Dp K H x d ∧ Shw d ∧ Q (.str d.shown) H
theorem cr_repr {X : Cx} (hg : X.A.guards = some []) (hu : X.A.units + 64 < cLine) : CallR X (.builtin "repr") (rRepr X.K) := by
  intro pz s σ H xs us Q I r h
  obtain ⟨x, d, rfl, hd, hs, q⟩ := h
  have hz := hs.len
  cases r with
  | cons r1 r2 =>
    cases r2
    have byRef : ∀ a, x = .ref a → wpAny (model X.prog X.w) X.A (call (.builtin "repr") [.ref a]) (EP X pz σ Q) X.xe s := by
      rintro a rfl
      obtain ⟨as, hr⟩ := Dp.reads I d _ _ hd rfl
      have hdp := hs.dp
      refine repr_of_reads' hr hs.ok (PyData.noDict_hsm hs.nd) hg (by omega) (fun _ _ e => e) (fun h' u tk hk => ?_) hz
      exact ⟨.str d.shown, H, I.kept (t' := tk) hk, ⟨u, rfl⟩, q⟩
    cases hd with
    | non =>
      cases r1
      exact PySem.P.repr_of_none ⟨.str _, H, I.tok _, ⟨_, rfl⟩, q⟩
    | bl b =>
      cases r1
      exact PySem.P.repr_of_bool ⟨.str _, H, I.tok _, ⟨_, rfl⟩, q⟩
    | int i =>
      obtain ⟨t, rfl⟩ := r1
      have hi : i.natAbs.log2 < 1920 := by simpa [PyData.showable] using hs.ok
      exact PySem.P.repr_of_int hi ⟨.str _, H, I.tok _, ⟨_, rfl⟩, q⟩
    | str x =>
      obtain ⟨t, rfl⟩ := r1
      exact PySem.P.repr_of_str ⟨.str _, H, I.tok _, ⟨_, rfl⟩, q⟩ hz
    | lst h1 h2 =>
      cases r1
      exact byRef _ rfl
    | tup h1 h2 =>
      cases r1
      exact byRef _ rfl

/-! ### the law, called by its caller: nothing is shown around it -/
theorem law_callG {P : Program} {w : World} {K : PySem.W.Frag} {mg mb : Str → Option Value} {k : Nat} {fa a : Addr}
    {fd : FuncData} {x : Str} {sp : Sp} {s1 : Shared} {vs : List Value} {ns : List Int}
    (kin0 : K.In s1.heap) (hns : s1.heap.Ns mainGlobals mg) (hb : s1.heap.Ns builtinsNs mb)
    (hbb : ∀ x : Str, x ≠ "__name__" → mb x = bootBuiltins x) (hlim : s1.heap.NoLimit) (hg : s1.gens = #[])
    (ha : s1.heap.get? a = some { cls := .type "list", data := .seq vs.toArray }) (hi : IntsAre vs ns)
    (hl : ns.length ≤ sizeLine) (hr : Room k callerA)
    (F : ∀ base : Heap, K.In base → base.Ns mainGlobals mg → FnG P w K mg base CX0 k fa fd [x] sp)
    (hbind : ∀ (s : Shared) (u : Value), BindsTo s fd ⟨[u], []⟩ [(x, u)])
    (hsp : ∀ H : Hp, Only H → SqL K H a (ns.map V.int) → sp [.ref a] H (fun v _ => v = .bl true) E0) :
    codeAny (model P w) callerA (.call (.ref fa) ⟨[.ref a], []⟩)
      (fun r s' => r = .ok (.ret (.bool true)) ∧ OldK s1.heap s'.heap ∧ s'.os = s1.os ∧ AllBare s'.gens) s1 := by
  have rvv := vals_ints hi
  have lenV := hi.length
  -- whatever part of the script is told, the rest of the heap serves as the base
  have go : ∀ H : Hp, Only H → SqL K H a (ns.map V.int) → HOk P w H s1.heap → (∀ b, H b ≠ none → b = a ∧ K.lookup a = none) →
      codeAny (model P w) callerA (.call (.ref fa) ⟨[.ref a], []⟩)
        (fun r s' => r = .ok (.ret (.bool true)) ∧ OldK s1.heap s'.heap ∧ s'.os = s1.os ∧ AllBare s'.gens) s1 := by
    intro H hO hS hok hA
    have notDict : ∀ {b : Addr} {o : Obj} {es : Array DictEntry} {ep : Nat}, s1.heap.get? b = some o →
        o.data = .dict es ep → H b = none := by
      intro b o es ep e d
      refine Classical.byContradiction fun q => ?_
      rw [(hA b q).1, ha] at e
      cases e
      have d' :
        Data.seq vs.toArray _ = Data.dict es ep := d
      cases d'
    have ns1 : ∀ {b : Addr} {m : Str → Option Value}, s1.heap.Ns b m → (hidT s1.heap H).Ns b m := by
      rintro b m ⟨o, es, ep, e, d, r⟩
      exact ⟨o, es, ep, hidT_get e (notDict e d), d, r⟩
    have kin1 : K.In (hidT s1.heap H) := by
      intro b o e
      refine hidT_get (kin0 b o e) (Classical.byContradiction fun q => ?_)
      have z := hA b q
      rw [z.1, z.2] at e
      cases e
    have md : Mod K mg (hidT s1.heap H) := by
      obtain ⟨mc, l1, l2⟩ := hlim
      exact ⟨kin1, ns1 hns, ⟨mb, ns1 hb, hbb⟩, ⟨mc, ns1 l1, l2⟩⟩
    have e0 : Env0 P w K mg (hidT s1.heap H) callerA [] s1 H :=
      { frames := rfl, mod := md, bs := fun b o e => of_hidT e, bsz := Nat.le_of_eq (hidT_size _ _), funs := trivial,
        frf := fun b q => absurd (show b ∈ ([] : List Addr) from q) List.not_mem_nil, hok := hok, bare := .of_eq hg }
    refine codeAny_mono ((F _ kin1 (ns1 hns)).run callerA [] s1 H ⟨[.ref a], []⟩ [.ref a] [.ref a] _ _ hr rfl e0
      (hbind s1 (.ref a)) (.cons rfl .nil) (hsp H hO hS)) fun r s' h => ?_
    cases r with
    | error e => exact h.elim
    | ok fl =>
      cases fl with
      | next => exact h.elim
      | brk => exact h.elim
      | cont => exact h.elim
      | ret u =>
        obtain ⟨v, H', os, bar, unn, hok', r', q⟩ := h
        subst q
        cases r'
        refine ⟨rfl, OldK.of_keep fun b o e => ?_, os, bar⟩
        rcases hO b with q | ⟨ob, xs, q⟩
        · exact unn.keep b o e q (fun z => absurd (show b ∈ ([] : List Addr) from z) List.not_mem_nil) List.not_mem_nil
        · have q1 := (hok b _ q).1
          have q2 := (hok' b _ (unn.frzs b ob _ q)).1
          rw [e] at q1
          cases q1
          exact q2
  cases hk : K.lookup a with
  | some o =>
    have e := kin0 a o hk
    rw [ha] at e
    cases e
    refine go (fun _ => none) (fun _ => .inl rfl) (.inr ?_) (fun b u z => ?_) (fun b z => absurd rfl z)
    · exact ⟨_, vs.toArray, _, hk, rfl, rfl, rfl, by rw [List.size_toArray, lenV]; exact hl, by simpa using rvv⟩
    · have z' : (none : Option HO) = some u := z
      cases z'
  | none =>
    let o : Obj := { cls := .type "list", data := .seq vs.toArray }
    let H1 : Hp := fun b => if b = a then some (.frz o (.lst (ns.map V.int))) else none
    have at1 : H1 a = some (.frz o (.lst (ns.map V.int))) := if_pos rfl
    have off : ∀ {b}, b ≠ a → H1 b = none := fun h => if_neg h
    refine go H1 (fun b => ?_) (.inl (.inr ⟨o, at1⟩)) (fun b u z => ?_) fun b z => ?_
    · by_cases q : b = a
      · exact .inr ⟨o, _, by rw [q]; exact at1⟩
      · exact .inl (off q)
    · by_cases q : b = a
      · subst q
        rw [at1] at z
        cases z
        exact ⟨ha, by rw [List.length_map]; exact hl, vs, _, rvv, ha⟩
      · rw [off q] at z
        cases z
    · exact ⟨Classical.byContradiction fun q => z (off q), hk⟩

theorem walkG {l : PySem.W.OpenLaw} {n k : Nat} {q : Program} {loose : List Str} {XP : (Str → Option Value) → Heap → Prop}
    {YP : World → Heap → Prop} {d : DefRec} {K : Params → PySem.W.Frag} {sp : PySem.W.Frag → Sp} {x : Str}
    (hn : l.most = some n)
        (hn2 : n ≤ sizeLine) (hdf : d.params.defaults = []) (hr : Room k callerA)
    (hY : ∀ (w : World) (h : Heap), YP w h → (K w.params).In h)
    (F : ∀ (w : World) (mg : Str → Option Value) (fa : Addr) (h : Heap), (K w.params).In h → h.Ns mainGlobals mg →
      mg d.name = some (.ref fa) → ∃ fd : FuncData, (∀ (s : Shared) (u : Value), BindsTo s fd ⟨[u], []⟩ [(x, u)]) ∧
        ∀ base : Heap, (K w.params).In base → base.Ns mainGlobals mg →
          FnG l.prog w (K w.params) mg base CX0 k fa fd [x] (sp (K w.params)))
    (hsp : ∀ (K : PySem.W.Frag) (H : Hp) (a : Addr) (ns : List Int), ns.length ≤ n → Only H →
      SqL K H a (ns.map V.int) → sp K [.ref a] H (fun v _ => v = .bl true) E0) :
    PySem.W.WalkO q loose XP YP l.row.toRowW d [] (fun f vs => PySem.call f vs) :=
        by
  refine Att.attach_call hn hdf fun w s0 s1 mg mb fa o pm cd doc a vs ns G Y ho hd hco hmg hobj hints hlen hg => ?_
  have kin0 := hY w _ Y
  obtain ⟨fd, hb, hfn⟩ := F w mg fa _ kin0 G.T.g hmg
  exact law_callG kin0 G.T.g G.T.b G.T.builtins G.T.nolimit hg hobj hints (Nat.le_trans hlen hn2) hr hfn hb
    (fun H hO hS => hsp _ H a ns hlen hO hS)
end Ws

/-! exceptions of one's own whose __init__ begins with super().__init__(..), over several classes -/
namespace Ws
open PySem PySem.Spec PyProof.Rows L2

abbrev veI : String := "ValueError.__init__"

/-- the built-in __init__, bound to the new exception, called -/
theorem call_mw {prog : Program} {w : World} {A : Around} {E : Value → Shared → Prop} {h : Heap} {g : Array GenState}
    {d : Drawn} {t : Nat} {os : OsState} {nm q : Str} {C N : Addr} {bs bm : List Value} {hdct : Bool} {sn : List Str}
    {sub : List Value} {ab : Bool} {col : Option Bool} {dd : Option Addr} {k0 k1 k2 k3 k5 : Option Value}
    {u e t0 : Addr} {rest : List Value} {Q : Value → Shared → Prop}
    (hC : h.get? C = some (excClassObj nm q C N bs bm hdct sn sub ab col dd k0 k1 k2 k3 k5 "ValueError.__new__"))
    (he : h.get? e = some (HandSPX.excO C t0)) (hu : h.get? u = some (PySem.W.kxs_mw veI e)) (hrest : rest.length ≤ sizeLine)
    (hq : ∀ h' t1, (∀ b o, b ≠ e → h.get? b = some o → h'.get? b = some o) → h'.get? e = some (HandSPX.excO C t1) →
      Q .none ⟨h', g, d, t, os⟩) :
    wpAny (model prog w) A (call (.ref u) rest) Q E ⟨h,
        g, d, t, os⟩ := by
  refine
    wpAny_call (codeAny_of_tree ?_)
  show
    wpAny _ A.in1 (callAny (.ref u) ⟨rest, []⟩) _ _ _
  simp only [callAny]
  refine
    wpAny_bind (wpAny_load hu ?_)
  simp only [PySem.W.kxs_mw, show (Value.type "method-wrapper" == Value.type "method" ||
    Value.type "method-wrapper" == Value.type "builtin_function_or_method" ||
    Value.type "method-wrapper" == Value.type "method-wrapper") = true by decide, if_true]
  refine
    PySem.W.KFB.if_so (by decide) ?_
  refine wpAny_bind (PySem.W.check_bound_init F.excBase_ValueError.toExcCallFacts hC he rfl ?_)
  refine
    wpAny_bind (wpAny_pure (wpAny_pure ?_))
  refine ⟨Code.quiet_builtin _ (by decide +kernel), codeAny_builtin F.excBase_ValueError.initEntry ?_⟩
  rw [Around.under_plainId F.excBase_ValueError.init.plain _]
  wp_walk
  refine
    hq _ h.objs.size (fun b o hb ho => ?_) ?_
  · rw
      [Heap.get?_update_other _ _ (Ne.symm hb)]
    exact
      Heap.get?_push_of_some _ ho
  · rw
      [Heap.get?_update_self _ (Heap.get?_push_of_some _ he) rfl]
    rfl

/-- a method of the class at D that closes over __class__ alone -/
structure SFun (P : Program) (K : PySem.W.Frag) (x qual : Str) (st : Stmt) (D f : Addr) (fd : FuncData) : Prop where
  ex : ∃ (oc : Value) (od : Option Addr) (dV kV doc pm : Value) (an : Option Addr) (cda : Addr) (ct : Value)
    (osl : Array (Option Value)) (cc : Addr) (ccl : Value) (cdd : Option Addr) (vs : Array Value) (ccs : Array (Option Value))
    (file : Str) (tf : Tok) (cl : Value) (cld : Option Addr) (csl : Array (Option Value)) (cdD : ClassData) (ar : Arg),
    fd = PySem.W.fnX x qual (defArgs st) (defBody st) (defScope st) [("__class__", cc)] dV kV doc pm an (.ref cda) ct ∧
    K.lookup f = some ⟨oc, od, .func fd, osl⟩ ∧ PySem.W.codeIn K (.ref cda) qual = true ∧
    K.lookup cda = some ⟨ccl, cdd, .fields vs, ccs⟩ ∧ vs[2]? = some (.str file tf) ∧ ((P.main.file : Str) == file) = true ∧
    K.lookup cc = some ⟨cl, cld, .cell (some (.ref D)), csl⟩ ∧ PySem.W.clsIn K D = some cdD ∧
    ((defArgs st).posonlyargs ++ (defArgs st).args).head? = some ar ∧ ar.arg = "self"
  top : (P.main.scope.names.lookup ("super" : Str)).isSome = false
  kp :
      PySem.W.keepIn K (.ref f) = true
  fn : PySem.W.fnIn K f = true
  ty : PySem.W.typeIn K (.ref f) = some (.type "function")

structure SScope (N ps : List Str) (sc : Scope) : Prop where
  kind : sc.kind = .function
  co : sc.isCoroutine = false
  gen : sc.isGenerator = false
  nd : N.Nodup
  pre : N.take ps.length = ps
  par : ∀ x ∈ ps,
      sc.names.lookup x = some .local
  nocell : ∀ y ∈ sc.names,
      y.2 ≠ .cell
  free : ∀ y ∈ sc.names, y.2 = .free → y.1 = "__class__"
  cls : sc.names.lookup ("__class__" : Str) = some .free
  sup : sc.names.lookup ("super" : Str) = some .globalImplicit
  self : ps.head? = some "self"

/-- the class at C, from the class at D on: whose __init__ comes next -/
structure Sup (K : PySem.W.Frag) (C D : Addr) (to : Value) : Prop where
  sub : PySem.W.mroIn K C (.ref D) = some true
  ve : PySem.W.subIn K (.ref C) (.type "ValueError") = some true
  ini : PySem.W.ks_superIn K C D "__init__" = some (some to)
  tp : PySem.W.nsIn K cStatics "thirdparty.any" = some none

theorem rev_lookup {x : Str} {u : Value} : ∀ {ps : List Str} {us : List Value} {i : Nat}, ps.Nodup → ps[i]? = some x →
    us[i]? = some u → (ps.zip us).reverse.lookup x = some u
  | [], _, _, _, h, _ => by cases h
  | _ :: _, [], _, _, _, h => by cases h
  | p :: ps, v :: us, 0, nd, h1, h2 => by
    simp only [List.getElem?_cons_zero, Option.some.injEq] at h1 h2
    subst h1 h2
    have no : (ps.zip us).reverse.lookup p = none := by
      cases e : (ps.zip us).reverse.lookup p with
      | none => rfl
      | some y =>
        have z := List.mem_reverse.mp (PySem.mem_of_lookup e)
        exact absurd (List.of_mem_zip z).1 (List.nodup_cons.mp nd).1
    simp [List.lookup_append, no]
  | p :: ps, v :: us, i + 1, nd, h1, h2 => by
    have z := rev_lookup (List.nodup_cons.mp nd).2 (by simpa using h1) (by simpa using h2)
    simp [List.lookup_append, z]

/-- where such a method's body runs -/
def cxS (P : Program) (w : World) (K : PySem.W.Frag) (mg : Str → Option Value) (base : Heap) (N : List Str) (qual : Str)
    (scope : Scope) (f : Addr) (cd : Value) (cc : Addr) (A : Around) (outer : List Env) (s : Shared) (H : Hp) : Cx where
  prog := P
  w := w
  K := K
  mg := mg
  base := base
  A := A.deeper (PySem.W.envX qual scope s.heap.objs.size f cd [("__class__", cc)])
  N := N
  s_0 := s
  H_0 := H
  env := PySem.W.envX qual scope s.heap.objs.size f cd [("__class__", cc)]
  outer := outer
  stack := PySem.W.envX qual scope s.heap.objs.size f cd [("__class__", cc)] :: outer
  ex := []
  calm := true
  fn := fun x => x != "__class__"
  pn := []
  xe := fun _ _ => False

theorem one_cell {cc c : Addr} {x : Str} (h : [(("__class__" : Str), cc)].lookup x = some c) : x = "__class__" ∧ c = cc := by
  have z := PySem.mem_of_lookup h
  simp only [List.mem_singleton, Prod.mk.injEq] at z
  exact z

theorem inv_startS {P : Program} {w : World} {K : PySem.W.Frag} {mg : Str → Option Value} {base : Heap} {N ps : List Str}
    {qual : Str} {scope : Scope} {f : Addr} {cd : Value} {cc D : Addr} {A : Around} {outer : List Env} {s : Shared} {H : Hp}
    {us : List Value} {vs : List V} {h1 : Heap} {tk : Nat} {cl : Value} {cld : Option Addr} {csl : Array (Option Value)}
    (S : SScope N ps scope) (hd : A.handled = none) (e0 : Env0 P w K mg base A outer s H) (hl : vs.length = ps.length)
    (r : Vals vs us) (hcc : K.lookup cc = some ⟨cl, cld, .cell (some (.ref D)), csl⟩)
    (hns : h1.Ns s.heap.objs.size (fun x => (ps.zip us).reverse.lookup x))
    (hk : ∀ b o, s.heap.get? b = some o → h1.get? b = some o) :
    Inv (cxS P w K mg base N qual scope f cd cc A outer s H) [] (L2.start N vs) H { s with heap := h1, toks := tk } := by
  have hpn : ps.length ≤ N.length := by have := congrArg List.length S.pre; rw [List.length_take] at this; omega
  have noA : ∀ b : Addr, b ∉ (cxS P w K mg base N qual scope f cd cc A outer s H).ex :=
    fun b z => absurd (show b ∈ ([] : List Addr) from z) List.not_mem_nil
  have kin0 : K.In s.heap := e0.mod.kin.keeps fun b o e => (e0.bs b o e).1
  have cellAt : h1.IsCell cc (some (.ref D)) := ⟨_, hk _ _ (kin0 _ _ hcc), rfl⟩
  have ok : (cxS P w K mg base N qual scope f cd cc A outer s H).Ok :=
    { mod := e0.mod, kind := S.kind, glob := rfl, blt := rfl, above := Nat.le_refl _,
      inj := fun x y c hx hy => by rw [(one_cell hx).1, (one_cell hy).1],
      has := fun x hx => by
        have hx' : scope.names.lookup x = some .cell ∨ scope.names.lookup x = some .free := hx
        rcases hx' with q | q
        · exact absurd rfl (S.nocell _ (PySem.mem_of_lookup q))
        · have e := S.free _ (PySem.mem_of_lookup q) rfl
          have e' : x = "__class__" := e
          subst e'
          exact ⟨cc, rfl⟩,
      cab := fun x c hf hc => by
        have e := (one_cell hc).1
        subst e
        have hf' : (("__class__" : Str) != "__class__") = true := hf
        exact absurd hf' (by decide),
      hd := fun _ => hd, frames := Around.frames_deeper e0.frames, stk := .inr ⟨rfl, rfl⟩, exf := fun b z => absurd z (noA b),
      bs := e0.bs, bsz := e0.bsz, noex := fun b _ _ => noA b, exfs := fun b z => absurd z (noA b), funs := e0.funs, frf := e0.frf }
  refine ⟨ok, rfl, e0.bare, Un.kept hk, ⟨_, hns, fun i y v g1 g2 g3 => ?_⟩, fun y c h => ⟨_, (one_cell h).2 ▸ cellAt⟩,
    e0.hok.fresh (Nat.le_refl _), fun y c h => ?_, fun p hp => absurd (show p ∈ ([] : List (Addr × Obj)) from hp) List.not_mem_nil,
    e0.hok.kept hk, ?_⟩
  · have hi :
      i < vs.length := by
      unfold L2.start at g2
      by_cases hi : i < vs.length
      · exact hi
      · rw [List.getElem?_append_right (by simpa using hi), List.getElem?_replicate] at g2
        split at g2 <;> cases g2
    have ha :
      vs[i]? = some v := by
      unfold L2.start at g2
      rw [List.getElem?_append_left (by simpa using hi), List.getElem?_map] at g2
      cases e : vs[i]? with
      | none => rw [e] at g2; cases g2
      | some a => rw [e] at g2; cases g2; rfl
    obtain ⟨u, hu, rvv⟩ := r.get ha
    have hp :
      ps[i]? = some y := by
      rw [← S.pre, List.getElem?_take_of_lt (by omega)]; exact g1
    have ndp : ps.Nodup := by rw [← S.pre]; exact S.nd.sublist (List.take_sublist _ _)
    exact ⟨u, rvv, .inl ⟨S.par y (List.mem_of_getElem? hp), rev_lookup ndp hp hu⟩⟩
  · obtain ⟨_, rfl⟩ := one_cell h
    cases q : H c with
    | none => rfl
    | some o =>
      have z := (e0.bs c _ (e0.mod.kin _ _ hcc)).2
      rw [q] at z
      cases z
  · unfold L2.start
    show _ = N.length
    rw
      [List.length_append, List.length_map, List.length_replicate]
    omega

theorem pin_new {X : Cx} {σ : L2.St} {H : Hp} {g : Array GenState} {d : Drawn} {t t' : Nat} {os : OsState} {h : Heap} {o : Obj}
    (I : Inv X [] σ H ⟨h, g, d, t, os⟩) (hc : ∀ v, o.data ≠ .cell v) (hf : o.isFreed = false) :
    Inv X [(h.objs.size, o)] σ H ⟨h.push o, g, d, t', os⟩ := by
  have J : Inv X [] σ H ⟨h.push o, g, d, t', os⟩ := I.kept (t' := t') fun b u e => Heap.get?_push_of_some _ e
  refine J.pins_of fun p hp => ?_
  · obtain rfl := List.mem_singleton.mp hp
    exact ⟨Heap.get?_push_size _ hf, I.hok.fresh (Nat.le_refl _), Nat.ne_of_gt I.lt, I.nofs (Nat.le_refl _), hc⟩

/-- the state between: where super() stands -/
theorem at_super {X : Cx} {σ : L2.St} {H : Hp} {s : Shared} {C D a : Addr} {cdD : ClassData} {E : Value → Shared → Prop} {A : Around}
    {Q : Value → Shared → Prop} {to : Value}
    (I : Inv X [] σ H s) (ea : H a = some (exo a C none)) (hD : PySem.W.clsIn X.K D = some cdD) (T : Sup X.K C D to)
    (hq : ∀ h' t1, Inv X [] σ H { s with heap := h' } → h'.get? s.heap.objs.size = some { cls := .type "super", dict := none, data := .fields #[.ref D, .ref a, .ref C], slots := #[] } →
      h'.get? a = some (HandSPX.excO C t1) → Q (.ref s.heap.objs.size) { s with heap := h' }) :
    wpAny (model X.prog X.w) A (isType (.ref D)) (fun b s1 => b = true ∧ wpAny (model X.prog X.w) A (call (.type "super") [.ref D, .ref a]) Q E s1) E s := by
  obtain ⟨oD, hD1, hD2⟩ : ∃ oD, s.heap.get? D = some oD ∧ oD.data = .cls cdD := by
    unfold PySem.W.clsIn at hD
    split at hD
    · rename_i c d cd' sl ho
      cases hD
      exact ⟨_, I.kIn _ _ ho, rfl⟩
    · cases hD
  obtain ⟨t1, hx⟩ := exo_at I.hok ea
  obtain ⟨hh, g, d, t, os⟩ := s
  refine
    ks_wpAny_isType_cls hD1 hD2 ⟨rfl, ?_⟩
  have hnc : ∀ c, (HandSPX.excO C t1).data ≠ .cls c := fun c e => by cases e
  refine ks_wpAny_call_super (ox := HandSPX.excO C t1) hD1 hD2 hx rfl hnc (PySem.W.looks_mroIn I.kIn T.sub) fun h' e k => ?_
  exact hq h' t1 (I.kept (t' := t) k) e (k _ _ hx)

section
variable {P : Program} {w : World} {K : PySem.W.Frag} {mg : Str → Option Value} {base : Heap}

/-- what is wanted of super().__init__(..): the built-in one | a def of one's own -/
def tSup (P : Program) (w : World) (K : PySem.W.Frag) (mg : Str → Option Value) (base : Heap) (k : Nat) (a C : Addr) (to : Value)
    (ta : TA) (σ : L2.St) (H : Hp) (kn : Hp → Prop) : Prop :=
  (to = .builtin veI ∧ OexC K C ∧ ta σ H fun ws H1 => H1 a = some (exo a C none) ∧ ws.length ≤ 1000 ∧ kn H1) ∨
    (∃ (f2 : Addr) (fd2 : FuncData) (ps2 : List Str) (sp2 : Sp), to = .ref f2 ∧ FnOk P w K mg base CX0 k f2 fd2 ps2 sp2 ∧
      Binds K fd2 ps2 [] ∧ PySem.W.fnIn K f2 = true ∧ PySem.W.typeIn K (.ref f2) = some (.type "function") ∧
      ta σ H fun ws H1 => sp2 (.ref a :: ws) H1 (fun v H2 => v = .non ∧ kn H2) E0)

theorem okSup {x qual : Str} {st : Stmt} {D f : Addr} {fd : FuncData} {N ps : List Str} {k : Nat} {sp : Sp}
    {p0 p1 p2 p3 p4 : Pos} {e : Expr} {es : List Expr} {rest : List Stmt} {pl : Sem Bool}
    (F : SFun P K x qual st D f fd) (S : SScope N ps (defScope st)) (len : ∀ vs H Q E, sp vs H Q E → vs.length = ps.length)
    (hst : defBody st = .Expr (.Call (.Attribute (.Call (.Name "super" p0) [] [] p1) "__init__" p2) (e :: es) [] p3) p4 :: rest)
    (hm : mg "super" = none)
    (hev : ∀ env : Env, eval (.Call (.Attribute (.Call (.Name "super" p0) [] [] p1) "__init__" p2) (e :: es) [] p3) env = (do
      let ov ← attributeBase (.Call (.Name "super" p0) [] [] p1) "__init__" env (eval (.Call (.Name "super" p0) [] [] p1) env)
      standAt p2.atName
      let (f,
          first) ← holding [ov] (getMethod ov "__init__" pl)
      callWith p3 f first (backTo p3 (starEach (e :: es) env)) []))
    (he : ∀ env : Env, starEach (e :: es) env = (false, eval e env) :: starEach es env)
    (hpn : ∀ env : Env, (backTo p3 (starEach es env)).any (·.1) = false)
    (hsw : ∀ env : Env, swapsWith (.Call (.Attribute (.Call (.Name "super" p0) [] [] p1) "__init__" p2) (e :: es) [] p3) none p4.line env = pure false)
    (hbody : ∀ (cd : Value) (cc : Addr) (A : Around) (outer : List Env) (s : Shared) (H : Hp) (vs : List V) (Q : VK) (E : XK),
      sp vs H Q E → ∃ (a C : Addr) (vt : List V) (to : Value) (ta : TA) (u : TS), vs = .ref a :: vt ∧ H a = some (exo a C none) ∧
        Sup K C D to ∧
        PA (cxS P w K mg base N qual (defScope st) f cd cc A outer s H) (e :: es) ta ∧
        PSs (cxS P w K mg base N qual (defScope st) f cd cc A outer s H) rest u ∧
        tSup P w K mg base k a C to ta (L2.start N vs) H (fun H1 => u { nx := fun _ H' => Q .non H', rt := Q } (L2.start N vs) H1)) :
    FnOk P w K mg base CX0 (k + 1) f fd ps sp := by
  obtain ⟨oc, od, dV, kV, doc, pm, an, cda, ct, osl, cc, ccl, cdd, vs2, ccs, file, tf, cl, cld, csl, cdD, ar, rfl, lk, hco, lkc, hvs2, hfile, hcc, hD, har, hself⟩ := F.ex
  refine
    ⟨len, fun A outer s H args us vs Q E hr e0 hb r hsp => ?_⟩
  have hl := len _ _ _ _ hsp
  have stays : ∀ b o, base.get? b = some o → s.heap.get? b = some o := fun b o e => (e0.bs b o e).1
  have kin0 : K.In s.heap := e0.mod.kin.keeps stays
  have lim : s.heap.NoLimit := e0.mod.nolimit.keeps stays
  obtain ⟨a, C, vt, to, ta, u, rfl, ea, T, pa, pss, hq⟩ := hbody (.ref cda) cc A outer s H vs Q E hsp
  refine PySem.ks_codeAny_call_defAt (body := defBody st) (binds := ps.zip us) hr.depth (kin0 _ _ lk) rfl lim (PySem.W.codeRec_of kin0 hco) rfl hb S.nocell
    (fun y hy => S.par y.1 (List.of_mem_zip (show (y.1, y.2) ∈ ps.zip us from hy)).1) (fun h1 hns hk => ?_) S.co S.gen S.kind
  have I : Inv (cxS P w K mg base N qual (defScope st) f (.ref cda) cc A outer s H) [] (L2.start N (.ref a :: vt)) H
      { s with heap := h1, toks := s.toks + (ps.zip us).length } := inv_startS S hr.hd e0 hl r hcc hns hk
  rw [hst]
  let X := cxS P w K mg base N qual (defScope st) f (.ref cda) cc A outer s H
  -- what stands behind the first statement
  have restRun : ∀ s1 H1, Inv X [] (L2.start N (.ref a :: vt)) H1 s1 → u { nx := fun _ H' => Q .non H', rt := Q } (L2.start N (.ref a :: vt)) H1 →
      wpAny (model P w) X.A (execs rest X.env) (fun fl s' => CR CX0 outer P w H s Q E (.ok (.ret (match fl with | .ret v => v | _ => .none))) s')
        (fun _ _ => False) s1 := by
    intro s1 H1 iA q1
    refine thn (pss.run [] s1 _ H1 _ iA q1) fun fl s' hs => ?_
    cases fl with
    | ret u =>
      obtain ⟨v, σ', H', J, rvv, q⟩ := hs
      exact ⟨v, H', J.os, J.bare, J.base, J.hok, rvv, q⟩
    | next =>
      obtain ⟨σ', H', J, q⟩ := hs
      exact ⟨V.non, H', J.os, J.bare, J.base, J.hok, rfl, q⟩
    | brk => exact hs.elim fun _ h => h.elim fun _ h => h.2.elim
    | cont => exact hs.elim fun _ h => h.elim fun _ h => h.2.elim
  refine ks_wpAt_mono (Q := fun fl s' => CR CX0 outer P w H s Q E (.ok (.ret (match fl with | .ret v => v | _ => .none))) s') (E := fun _ _ => False) ?_ (fun _ _ z => z) fun _ _ z => z.elim
  refine ks_wpAt_execs_cons (ks_wpAt_Expr_any (ks_wpAt_MethodCall (pl := pl) (PySem.ks_wpAt_super_base S.sup S.cls (by decide) rfl (hk _ _ (kin0 _ _ lk)) rfl har rfl (hk _ _ (kin0 _ _ lkc)) rfl hvs2 hfile F.top ?_) (hev _)) (by simp [interactive, PySem.callEnv, PySem.newEnv, S.kind]) (hsw _))
  -- the loads
  show wpAny (model P w) X.A (loadName X.env "super") _ _ _
  obtain ⟨mb, hb1, hb2⟩ := I.mod.blt
  refine PySem.W.ks_loadName_global S.kind S.sup (Calls.loadGlobal_builtin (I.mod.glob.keeps I.bk) hm (hb1.keeps I.bk) ((hb2 _ (by decide +kernel)).trans (show bootBuiltins "super" = some (.type "super") by decide +kernel)) ⟨rfl, ?_⟩)
  have hcell : h1.IsCell cc (some (.ref D)) := ⟨_, hk _ _ (kin0 _ _ hcc), rfl⟩
  show wpAny (model P w) X.A (loadName X.env "__class__") _ _ _
  refine wpAny_loadName_free S.kind S.cls rfl hcell ?_
  show wpAny (model P w) X.A (loadName X.env ar.arg) _ _ _
  rw [hself]
  obtain ⟨u0, ur, rfl⟩ : ∃ u0 ur, us = u0 :: ur := by
    cases r with
    | cons _ _ => exact ⟨_, _, rfl⟩
  obtain ⟨pr, rfl⟩ : ∃ pr, ps = ("self" : Str) :: pr := by
    have z := S.self
    cases ps with
    | nil => cases z
    | cons p pr =>
      have z' : some p = some "self" := z
      exact ⟨pr, by rw [Option.some.inj z']⟩
  have eu0 : u0 = Value.ref a := by
    cases r with
    | cons r1 _ => exact r1
  subst eu0
  have ndp : (("self" : Str) :: pr).Nodup := by rw [← S.pre]; exact S.nd.sublist (List.take_sublist _ _)
  refine wpAny_loadName_local S.kind (S.par "self" List.mem_cons_self) hns (rev_lookup (i := 0) ndp rfl rfl) ?_
  refine at_super (X := X) I ea hD T fun h2 t1 iB hso hx2 => ?_
  have hno := PySem.W.looks_opaque (M := model P w) (C := C) iB.kIn T.tp
  have T' := T.ini
  unfold PySem.W.ks_superIn at T'
  cases hcl : PySem.W.clsIn K C with
  | none => rw [hcl] at T'; cases T'
  | some cdC =>
    rw [hcl] at T'
    have hmro : PySem.W.Looks (model P w) h2 (mroOf (.ref C)) cdC.mro :=
      fun A Q E s k q => wpAny_bind ((PySem.W.looks_clsIn iB.kIn hcl) A _ E s k (wpAny_pure q))
    have inst : PySem.W.InstAt h2 a (HandSPX.excO C t1) C none := ⟨hx2, rfl, rfl, trivial⟩
    have hxC : a ≠ C := PySem.W.ks_ne iB.kIn inst hcl
    rcases hq with ⟨rfl, oex, hq⟩ | ⟨f2, fd2, ps2, sp2, rfl, F2, b2, hfn2, hty2, hq⟩
    · -- the built-in one
      refine PySem.W.kxs_getMethod PySem.W.kxs_ValueError hso hno hmro rfl iB.kIn T' (inst.type.andThen (PySem.W.looks_subIn iB.kIn T.ve)) hxC (by decide) ?_
      have iC := pin_new (t' := s.toks + (((("self" : Str) :: pr).zip (.ref a :: ur)).length) + 1) iB (o := PySem.W.kxs_mw veI a) (fun v z => by cases z) rfl
      show wpAny (model P w) X.A (callWith p3 (.ref h2.objs.size) [] (backTo p3 (starEach (e :: es) X.env)) []) _ _ _
      have hrun := pa.run p3 _ _ _ H _ iC hq
      change wpAny (model P w) X.A (spliced (backTo p3 (starEach (e :: es) X.env))) _ _ _ at hrun
      rw [he] at hrun ⊢
      refine PySem.W.kxs_callWith (i := veI) (x := a) (by show (false || (backTo p3 (starEach es X.env)).any (·.1)) = false; rw [hpn]; rfl) (Calls.evalArgs_plain (thn hrun fun ws s4 h4 => ?_))
      obtain ⟨wv, H1, I4, rw4, ea1, hz, q4⟩ := h4
      have pin4 := (I4.pin _ (List.mem_append_right _ (List.mem_singleton.mpr rfl))).1
      refine ⟨pin4, ?_⟩
      obtain ⟨t4, hx4⟩ := exo_at I4.hok ea1
      obtain ⟨nm, qq, N', bs, bm, sn, sub, ab, col, dd, k0, k1, k2, k3, k5, hC, hbm⟩ := oex.cls
      obtain ⟨hp, g4, d4, tk4, os4⟩ := s4
      refine call_mw (I4.kIn _ _ hC) hx4 pin4 (by show ws.length ≤ sizeLine; rw [← rw4.length, sizeLine_eq]; omega) fun h' t2 k hx => ?_
      have J0 : Inv X [] (L2.start N (.ref a :: vt)) H1 ⟨hp, g4, d4, tk4, os4⟩ := I4.pins_of fun p hp => absurd hp List.not_mem_nil
      have J := J0.write (t' := tk4) (x := a) (e := a) (o := exo a C none) (by rw [ea1]; exact True.intro) (.inl rfl) k ⟨_, hx⟩ (exo_ok hx)
      have eu : upd H1 a (exo a C none) = H1 := by
        funext b
        by_cases hb : b = a
        · rw [hb, upd_same, ea1]
        · rw [upd_ne hb]
      rw [eu] at J
      exact wpAt_of_wpAny (restRun _ _ J q4)
    · -- a def of one's own
      obtain ⟨of, hof, hofc⟩ : ∃ of, h2.get? f2 = some of ∧ of.cls = .type "function" := by
        have ht' : (K.lookup f2).map (·.cls) = some (.type "function") := hty2
        cases z : K.lookup f2 with
        | none =>
          rw [z] at ht'; cases ht'
        | some of => rw [z] at ht'; exact ⟨of, iB.kIn _ _ z, Option.some.inj ht'⟩
      refine PySem.ks_wpAny_getMethod_super hso hno hmro rfl iB.kIn T' hof hofc hxC (by decide) ?_
      have iC := pin_new (t' := s.toks + (((("self" : Str) :: pr).zip (.ref a :: ur)).length) + 1) iB (o := PySem.W.methodObj (.ref f2) (.ref a)) (fun v z => by cases z) rfl
      show wpAny (model P w) X.A (callWith p3 (.ref h2.objs.size) [] (backTo p3 (starEach (e :: es) X.env)) []) _ _ _
      have hrun := pa.run p3 _ _ _ H _ iC hq
      change wpAny (model P w) X.A (spliced (backTo p3 (starEach (e :: es) X.env))) _ _ _ at hrun
      rw [he] at hrun ⊢
      refine PySem.W.callWith_of (by show ((false || (backTo p3 (starEach es X.env)).any (·.1)) || false) = false; rw [hpn]; rfl) (PySem.W.keeps_M (self := .ref a) hfn2) (Calls.evalArgs_plain (thn hrun fun ws s4 h4 => ?_))
      obtain ⟨wv, H1, I4, rw4, q4⟩ := h4
      have pin4 := (I4.pin _ (List.mem_append_right _ (List.mem_singleton.mpr rfl))).1
      refine ⟨⟨pin4, I4.kIn⟩, ?_⟩
      show wpAny (model P w) X.A (call (.ref h2.objs.size) ws) _ _ _
      refine wpAny_call (PySem.W.method_call pin4 ?_)
      have J0 : Inv X [] (L2.start N (.ref a :: vt)) H1 s4 := I4.pins_of fun p hp => absurd hp List.not_mem_nil
      have r2 : Vals (.ref a :: wv) (.ref a :: ws) := .cons rfl rw4
      have hl2 : (Value.ref a :: ws).length = ps2.length := by rw [← r2.length]; exact F2.len _ _ _ _ q4
      have hb2' : BindsTo s4 fd2 ⟨.ref a :: ws, []⟩ (ps2.zip (.ref a :: ws)) := by
        have z := b2 s4 (.ref a :: ws) J0.kIn (by rw [List.append_nil]; exact hl2)
        rw [List.append_nil] at z
        exact z
      refine codeAny_mono (F2.run X.A X.stack s4 H1 _ (.ref a :: ws) (.ref a :: wv) _ _ (hr.deeper _) J0.env0 hb2' r2 q4) fun r5 s5 hq5 => ?_
      cases r5 with
      | error er => exact hq5.elim
      | ok fl =>
        cases fl with
        | ret uu =>
          obtain ⟨v, H2, I5, _, hv, q5⟩ := J0.after hq5
          exact wpAt_of_wpAny (restRun _ _ I5 q5)
        | next => exact hq5.elim
        | brk => exact hq5.elim
        | cont => exact hq5.elim
end
end Ws

/-! words kept by k (plain mathematics) -/
namespace Ws

/-- two words are kept by k -/
def kept : Nat → List Nat → List Nat → Prop
  | 0, _, _ => True
  | k + 1, v, w => (∀ a c b, v = a ++ c :: b → ∃ a' b', w = a' ++ c :: b' ∧ kept k a a' ∧ kept k b b') ∧
      (∀ a c b, w = a ++ c :: b → ∃ a' b', v = a' ++ c :: b' ∧ kept k a a' ∧ kept k b b')

theorem kept_refl : ∀ (k : Nat) (v : List Nat), kept k v v
  | 0, _ => trivial
  | k + 1, v => ⟨fun a c b e => ⟨a, b, e, kept_refl k a, kept_refl k b⟩, fun a c b e => ⟨a, b, e, kept_refl k a, kept_refl k b⟩⟩

theorem kept_symm : ∀ {k : Nat} {v w : List Nat}, kept k v w → kept k w v
  | 0, _, _, _ => trivial
  | _ + 1, _, _, h => ⟨h.2, h.1⟩

theorem kept_comm {k : Nat} {v w : List Nat} : kept k v w ↔ kept k w v := ⟨kept_symm, kept_symm⟩

theorem kept_trans : ∀ {k : Nat} {u v w : List Nat}, kept k u v → kept k v w → kept k u w
  | 0, _, _, _, _, _ => trivial
  | k + 1, u, v, w, h, g => by
    refine ⟨fun a c b e => ?_, fun a c b e => ?_⟩
    · obtain ⟨a1, b1, e1, p1, q1⟩ := h.1 a c b e
      obtain ⟨a2, b2, e2, p2, q2⟩ := g.1 a1 c b1 e1
      exact ⟨a2, b2, e2, kept_trans p1 p2, kept_trans q1 q2⟩
    · obtain ⟨a1, b1, e1, p1, q1⟩ := g.2 a c b e
      obtain ⟨a2, b2, e2, p2, q2⟩ := h.2 a1 c b1 e1
      exact ⟨a2, b2, e2, kept_trans p1 p2, kept_trans q1 q2⟩

theorem kept_less : ∀ {k : Nat} {v w : List Nat}, kept (k + 1) v w → kept k v w
  | 0, _, _, _ => trivial
  | k + 1, v, w, h => by
    refine ⟨fun a c b e => ?_, fun a c b e => ?_⟩
    · obtain ⟨a', b', e', p, q⟩ := h.1 a c b e
      exact ⟨a', b', e', kept_less p, kept_less q⟩
    · obtain ⟨a', b', e', p, q⟩ := h.2 a c b e
      exact ⟨a', b', e', kept_less p, kept_less q⟩

theorem kept_mono {j k : Nat} {v w : List Nat} (h : j ≤ k) (x : kept k v w) : kept j v w := by
  induction k with
  | zero => have : j = 0 := by omega
            subst this; exact x
  | succ k ih =>
    by_cases e : j = k + 1
    · subst e; exact x
    · exact ih (by omega) (kept_less x)

/-- a part of joined words -/
theorem split_append {v u a b : List Nat} {c : Nat} (e : v ++ u = a ++ c :: b) :
    (∃ b1, v = a ++ c :: b1 ∧ b = b1 ++ u) ∨ (∃ a1, a = v ++ a1 ∧ u = a1 ++ c :: b) := by
  rcases List.append_eq_append_iff.mp e with ⟨a1, e1, e2⟩ | ⟨a1, e1, e2⟩
  · exact .inr ⟨a1, e1, e2⟩
  · cases a1 with
    | nil =>
      refine .inr ⟨[], ?_, ?_⟩
      · simp at e1; simp [e1]
      · simpa using e2.symm
    | cons x a1 =>
      simp only [List.cons_append, List.cons.injEq] at e2
      obtain ⟨rfl, e2⟩ := e2
      exact .inl ⟨a1, e1, e2⟩

theorem kept_append : ∀ {k : Nat} {v w x y : List Nat}, kept k v w → kept k x y → kept k (v ++ x) (w ++ y)
  | 0, _, _, _, _, _, _ => trivial
  | k + 1, v, w, x, y, h, g => by
    have half : ∀ {v w x y : List Nat}, kept (k + 1) v w → kept (k + 1) x y → ∀ a c b, v ++ x = a ++ c :: b →
        ∃ a' b', w ++ y = a' ++ c :: b' ∧ kept k a a' ∧ kept k b b' := by
      intro v w x y h g a c b e
      rcases split_append e with ⟨b1, e1, e2⟩ | ⟨a1, e1, e2⟩
      · obtain ⟨a', b', e', p, q⟩ := h.1 a c b1 e1
        refine ⟨a', b' ++ y, by rw [e']; simp, p, ?_⟩
        rw [e2]
        exact kept_append q (kept_less g)
      · obtain ⟨a', b', e', p, q⟩ := g.1 a1 c b e2
        refine ⟨w ++ a', b', by rw [e']; simp, ?_, q⟩
        rw [e1]
        exact kept_append (kept_less h) p
    exact ⟨half h g, half (kept_symm h) (kept_symm g)⟩

theorem kept_rev : ∀ {k : Nat} {v w : List Nat}, kept k v w → kept k v.reverse w.reverse
  | 0, _, _, _ => trivial
  | k + 1, v, w, h => by
    have half : ∀ {v w : List Nat}, kept (k + 1) v w → ∀ a c b, v.reverse = a ++ c :: b →
        ∃ a' b', w.reverse = a' ++ c :: b' ∧ kept k a a' ∧ kept k b b' := by
      intro v w h a c b e
      have e1 : v = b.reverse ++ c :: a.reverse := by
        have := congrArg List.reverse e
        simpa using this
      obtain ⟨a', b', e', p, q⟩ := h.1 _ _ _ e1
      refine ⟨b'.reverse, a'.reverse, by rw [e']; simp, ?_, ?_⟩
      · have := kept_rev q
        simpa using this
      · have := kept_rev p
        simpa using this
    exact ⟨half h, half (kept_symm h)⟩

theorem kept_rev_iff {k : Nat} {v w : List Nat} : kept k v.reverse w.reverse ↔ kept k v w :=
  ⟨fun h => by have := kept_rev h; simpa using this, kept_rev⟩

theorem kept_nil {k : Nat} {w : List Nat} (h : kept (k + 1) [] w) : w = [] := by
  cases w with
  | nil => rfl
  | cons c w =>
    obtain ⟨a', b', e, _⟩ := h.2 [] c w rfl
    simp at e

/-- kept by more rounds than letters: the same word -/
theorem kept_eq : ∀ {v w : List Nat}, kept (v.length + 1) v w → v = w
  | [], w, h => (kept_nil h).symm
  | c :: v, w, h => by
    obtain ⟨a', b', e, p, q⟩ := h.1 [] c v rfl
    have e1 : a' = [] := kept_nil (k := v.length) p
    subst e1
    rw [e, kept_eq q]
    rfl

/-! ### by places -/
theorem kept_at {k : Nat} {v w : List Nat} :
    (∀ a c b, v = a ++ c :: b → ∃ a' b', w = a' ++ c :: b' ∧ kept k a a' ∧ kept k b b') ↔
      ∀ i, (hi : i < v.length) → ∃ j, ∃ (hj : j < w.length), w[j] = v[i] ∧ kept k (v.take i) (w.take j) ∧ kept k (v.drop (i + 1)) (w.drop (j + 1)) := by
  constructor
  · intro h i hi
    have e : v = v.take i ++ v[i] :: v.drop (i + 1) := by simp
    obtain ⟨a', b', e', p, q⟩ := h _ _ _ e
    have la : a'.length < w.length := by rw [e']; simp
    refine ⟨a'.length, la, ?_, ?_, ?_⟩
    · simp only [e', List.getElem_append_right (Nat.le_refl _), Nat.sub_self, List.getElem_cons_zero]
    · rw [e']; simpa using p
    · rw [e']
      have : (a' ++ v[i] :: b').drop (a'.length + 1) = b' := by
        rw [List.drop_append]; simp
      rw [this]; exact q
  · intro h a c b e
    have la : a.length < v.length := by rw [e]; simp
    obtain ⟨j, hj, ec, p, q⟩ := h a.length la
    have ec2 : v[a.length] = c := by
      simp only [e, List.getElem_append_right (Nat.le_refl _), Nat.sub_self, List.getElem_cons_zero]
    have ta : v.take a.length = a := by rw [e]; simp
    have db : v.drop (a.length + 1) = b := by
      rw [e, List.drop_append]; simp
    rw [ta] at p
    rw [db] at q
    refine ⟨w.take j, w.drop (j + 1), ?_, p, q⟩
    rw [← ec2, ← ec]
    simp

/-- by places, once: what one word's places ask -/
def halfAt (k : Nat) (v w : List Nat) : Prop :=
  ∀ i, (hi : i < v.length) → ∃ j, ∃ (hj : j < w.length), w[j] = v[i] ∧ kept k (v.take i) (w.take j) ∧ kept k (v.drop (i + 1)) (w.drop (j + 1))
theorem kept_succ {k : Nat} {v w : List Nat} : kept (k + 1) v w ↔ halfAt k v w ∧ halfAt k w v := by
  unfold halfAt
  rw [← kept_at, ← kept_at]
  rfl
end Ws

namespace Ws
open PySem PySem.Spec PyProof.Rows L2
abbrev S := SX.S

/-! ### defs of the module that may be called by their names -/
structure Def (K : PySem.W.Frag) (mg : Str → Option Value) (x : Str) (st : Stmt) (f : Addr) (fd : FuncData) (ps : List Str) : Prop where
  fn : L2.Fun K x x st f fd
  mgf : mg x = some (.ref f)
  b : Binds K fd ps []
structure Cal (P : Program) (w : World) (K : PySem.W.Frag) (mg : Str → Option Value) (base : Heap) (k : Nat) (x : Str) (sp : Sp) : Prop where
  ex : ∃ (f : Addr) (fd : FuncData) (ps : List Str), FnOk P w K mg base CX0 k f fd ps sp ∧ mg x = some (.ref f) ∧
    PySem.W.keepIn K (.ref f) = true ∧ Binds K fd ps []
/-- .. that may raise -/
structure CalX (P : Program) (w : World) (K : PySem.W.Frag) (mg : Str → Option Value) (base : Heap) (k : Nat) (x : Str) (sp : Sp) : Prop where
  ex : ∃ (f : Addr) (fd : FuncData) (ps : List Str), FnOk P w K mg base (L2.CX P w) k f fd ps sp ∧ mg x = some (.ref f) ∧
    PySem.W.keepIn K (.ref f) = true ∧ Binds K fd ps []
/-- .. that may show values -/
structure CalG (P : Program) (w : World) (K : PySem.W.Frag) (mg : Str → Option Value) (base : Heap) (k : Nat) (x : Str) (sp : Sp) : Prop where
  ex : ∃ (f : Addr) (fd : FuncData) (ps : List Str), FnG P w K mg base CX0 k f fd ps sp ∧ mg x = some (.ref f) ∧
    PySem.W.keepIn K (.ref f) = true ∧ Binds K fd ps []
section
variable {P : Program} {w : World} {K : PySem.W.Frag} {mg : Str → Option Value} {base : Heap} {k : Nat} {x : Str} {sp : Sp}
  {st : Stmt} {f : Addr} {fd : FuncData} {ps : List Str}
theorem Def.cal (D : Def K mg x st f fd ps) (F : FnOk P w K mg base CX0 k f fd ps sp) : Cal P w K mg base k x sp := ⟨f, fd, ps, F, D.mgf, D.fn.kp, D.b⟩
theorem Def.calX (D : Def K mg x st f fd ps) (F : FnOk P w K mg base (L2.CX P w) k f fd ps sp) : CalX P w K mg base k x sp := ⟨f, fd, ps, F, D.mgf, D.fn.kp, D.b⟩
theorem Def.calG (D : Def K mg x st f fd ps) (F : FnG P w K mg base CX0 k f fd ps sp) : CalG P w K mg base k x sp := ⟨f, fd, ps, F, D.mgf, D.fn.kp, D.b⟩
end
section
variable {X : Cx} {k j : Nat} {x : Str} {sp : Sp} {p pos : Pos} {e : Expr} {es : List Expr} {t : TA}
theorem pe_c (c : Cal X.prog X.w X.K X.mg X.base k x sp) (hr : Room j X.A) (hk : k ≤ j) (hg : Gl X x) (ha : PA X (e :: es) t)
    (hdb : (x == ("__debug__" : Str)) = false := by decide)
        (he : starEach (e :: es) X.env = (false, eval e X.env) :: starEach es X.env := by rfl)
    (hpl : (backTo pos (starEach es X.env)).any (·.1) = false := by rfl) : PE X (.Call (.Name x p) (e :: es) [] pos) (tCall sp [] E0 t) := by
  obtain ⟨f, fd, ps, F, hm, kp, b⟩ := c.ex
  exact pe_call F (hr.mono hk) hg hm kp b .nil pass0 ha hdb he hpl
/-- of one that may raise, where it does not -/
theorem pe_cX (c : CalX X.prog X.w X.K X.mg X.base k x sp) (hr : Room j X.A) (hk : k ≤ j) (hg : Gl X x) (ha : PA X (e :: es) t)
    (hdb : (x == ("__debug__" : Str)) = false := by decide)
        (he : starEach (e :: es) X.env = (false, eval e X.env) :: starEach es X.env := by rfl)
    (hpl : (backTo pos (starEach es X.env)).any (·.1) = false := by rfl) : PE X (.Call (.Name x p) (e :: es) [] pos) (tCall sp [] E0 t) := by
  obtain ⟨f, fd, ps, F, hm, kp, b⟩ := c.ex
  exact pe_call F (hr.mono hk) hg hm kp b .nil passL ha hdb he hpl
/-- .. where it may, in a def that may -/
theorem pe_cE {E : XK} (c : CalX X.prog X.w X.K X.mg X.base k x sp) (hx : Passes (L2.CX X.prog X.w) X E) (hr : Room j X.A) (hk : k ≤ j) (hg : Gl X x) (ha : PA X (e :: es) t)
    (hdb : (x == ("__debug__" : Str)) = false := by decide)
        (he : starEach (e :: es) X.env = (false, eval e X.env) :: starEach es X.env := by rfl)
    (hpl : (backTo pos (starEach es X.env)).any (·.1) = false := by rfl) : PE X (.Call (.Name x p) (e :: es) [] pos) (tCall sp [] E t) := by
  obtain ⟨f, fd, ps, F, hm, kp, b⟩ := c.ex
  exact pe_call F (hr.mono hk) hg hm kp b .nil hx ha hdb he hpl
/-- .. at a call in a try -/
theorem pe_cS {W : WX} (c : CalX X.prog X.w X.K X.mg X.base k x sp) (tk : Takes X W) (hr : Room j X.A) (hk : k ≤ j) (hg : Gl X x) (ha : PA X (e :: es) t)
    (hdb : (x == ("__debug__" : Str)) = false := by decide)
        (he : starEach (e :: es) X.env = (false, eval e X.env) :: starEach es X.env := by rfl)
    (hpl : (backTo pos (starEach es X.env)).any (·.1) = false := by rfl) : PE X (.Call (.Name x p) (e :: es) [] pos) (tCallS sp (WE W) t) := by
  obtain ⟨f, fd, ps, F, hm, kp, b⟩ := c.ex
  exact pe_callS F (hr.mono hk) hg hm kp b (fun σ => passAt tk σ) ha hdb he hpl
theorem pe_cG (c : CalG X.prog X.w X.K X.mg X.base k x sp) (hr : Room j X.A) (hk : k ≤ j) (hgd : X.A.guards = some []) (hg : Gl X x) (ha : PA X (e :: es) t)
    (hdb : (x == ("__debug__" : Str)) = false := by decide)
        (he : starEach (e :: es) X.env = (false, eval e X.env) :: starEach es X.env := by rfl)
    (hpl : (backTo pos (starEach es X.env)).any (·.1) = false := by rfl) : PE X (.Call (.Name x p) (e :: es) [] pos) (fun σ H Q => t σ H fun vs H1 => sp vs H1 Q E0) := by
  obtain ⟨f, fd, ps, F, hm, kp, b⟩ := c.ex
  exact pe_callG ⟨F.len, fun A outer s H args us vs Q E hr => F.run A outer s H args us vs Q E (hr.mono hk)⟩ hr hgd hg hm kp b ha hdb he hpl
end
/-- a value called as a text: the comparisons of the hand layer, as values and tests, of two ifs -/
theorem iteD {c A B : Prop} {d : Bool} [Decidable c] (hd : d = decide c) (h1 : c → A) (h2 : ¬ c → B) : if d = true then A else B := by
  subst hd
  by_cases h : c
  · rw [decide_eq_true h]; exact iteT (h1 h)
  · rw [decide_eq_false h]; exact iteF (h2 h)
theorem iteV {A B : Prop} {x y : V} (h1 : x = y → A) (h2 : x ≠ y → B) : if decide (x = y) = true then A else B := by
  by_cases h : x = y
  · rw [decide_eq_true h]; exact iteT (h1 h)
  · rw [decide_eq_false h]; exact iteF (h2 h)
theorem iteB {A B : Prop} {d : Bool} (h1 : d = true → A) (h2 : d = false → B) : if d = true then A else B := by
  cases d with
  | true => exact iteT (h1 rfl)
  | false => exact iteF (h2 rfl)

/-! ### heaps that grow; the object at p may change -/
def Ext (p : Addr) (H H' : Hp) : Prop := ∀ b o, b ≠ p → H b = some o → H' b = some o
theorem Ext.refl {p : Addr} (H : Hp) : Ext p H H := fun _ _ _ h => h
theorem Ext.trans {p : Addr} {H H1 H2 : Hp} (a : Ext p H H1) (b : Ext p H1 H2) : Ext p H H2 := fun c o n h => b c o n (a c o n h)
theorem Ext.of {p : Addr} {H H' : Hp} (s : Same H H') : Ext p H H' := fun b o _ h => s b o h
theorem Ext.upd {p : Addr} {H : Hp} {o : HO} : Ext p H (upd H p o) := fun b u n h => by rw [upd_ne n]; exact h
theorem Ext.new {p l : Addr} {H : Hp} {o : HO} (h : H l = none) : Ext p H (L2.upd H l o) := fun b u _ e => by rw [upd_ne (ne_of_none e h)]; exact e
theorem Same.new {l : Addr} {H : Hp} {o : HO} (h : H l = none) : Same H (upd H l o) := fun b u e => by rw [upd_ne (ne_of_none e h)]; exact e
theorem Ext.seq {p : Addr} {K : PySem.W.Frag} {H H' : Hp} {a : Addr} {xs : List V} (e : Ext p H H') (n : a ≠ p) (h : SqL K H a xs) : SqL K H' a xs := by
  rcases
    h with (h | ⟨o, h⟩) | h
  · exact .inl (.inl (e _ _ n h))
  · exact .inl (.inr ⟨o, e _ _ n h⟩)
  · exact .inr h
theorem Same.seqT {K : PySem.W.Frag} {H H' : Hp} {a : Addr} {xs : List V} (e : Same H H') (h : SqT K H a xs) : SqT K H' a xs := by
  rcases
    h with (h | ⟨o, h⟩) | h
  · exact .inl (.inl (e _ _ h))
  · exact
      .inl (.inr ⟨o, e _ _ h⟩)
  · exact .inr h
end Ws

/-! rules that the hand layer lacks: text[::-1], zip of two texts, setdefault with a tuple key -/
namespace Ws
open PySem PySem.Spec PyProof.Rows L2

/-! ### text[::-1] -/
theorem strAll (n : Nat) : Builtin.Str.strSliceIndices none none (-1) n = (List.range n).reverse := by
  unfold
    Builtin.Str.strSliceIndices
  show sliceRange ((n : Int) - 1) (-1) (-1) = _
  rw [PySem.W.krv_sliceRange, PySem.W.krv_range]
theorem strRev (z : Str) : ((Builtin.Str.strSliceIndices none none (-1) z.length).filterMap (z.cps[·]?)).toArray = z.cps.toList.reverse.toArray := by
  rw [strAll, List.filterMap_reverse]
  exact congrArg (fun l => (List.reverse l).toArray) (PySem.W.krv_all z.cps)
def tRevS (te : TE) : TE := fun σ H Q => te σ H fun x HA => ∃ l : List Nat, x = .str (S l) ∧ l.length ≤ sizeLine ∧ Q (.str (S l.reverse)) HA
theorem pe_revS {X : Cx} {e : Expr} {te : TE} {k : Nat} {p1 p2 p3 pos : Pos} (he : PE X e te) :
    PE X (.Subscript e (.Slice none none (some (.UnaryOp .USub (.Constant (.int 1) k p1) p2)) p3) pos) (tRevS te) := by
  refine ⟨fun pz s σ H Q I h => ?_⟩
  refine Subscript_ (thn (he.run pz s σ H _ I h) fun v sA ⟨x, HA, iA, r1, q1⟩ => ?_)
  obtain ⟨z, rfl, hz, q⟩ := q1
  obtain ⟨t, rfl⟩ := r1
  have hst :
    PO X (some (.UnaryOp .USub (.Constant (.int 1) k p1) p2)) (tPart (tUn (rU fun i => .int (-i)) (tC (.int 1)))) := po_some (pe_un un_neg pe_int)
  refine wpAny_Slice (thn (po_none.run pz sA σ HA (fun o HB => o = none ∧ HB = HA) iA ⟨rfl, rfl⟩) fun vl sB ⟨l, HB, iB, pl, el, e2⟩ => ?_)
  subst el e2
  refine thn (po_none.run pz sB σ HB (fun o HC => o = none ∧ HC = HB) iB ⟨rfl, rfl⟩) fun vu sC ⟨u, HC, iC, pu, eu, e3⟩ => ?_
  subst eu e3
  refine thn (hst.run pz sC σ HC (fun o HD => o = some (-1) ∧ HD = HC) iC ⟨1, rfl, -1, rfl, rfl, rfl⟩) fun vs sD ⟨o, HD, iD, ps, eo, e4⟩ => ?_
  subst eo e4
  have iE : Inv X pz σ HD { sD with heap := sD.heap.push { cls := .type "slice", data := .fields #[vl, vu, vs] } } := iD.kept (t' := sD.toks) fun b ob q => Heap.get?_push_of_some _ q
  cases pl
  cases pu
  cases ps with
  | int i ti =>
    refine tail_any (ops := [.str (S z) t, .ref sD.heap.objs.size]) (typeIs_str _ _ _) F.slot_str_getitem.lookup ?_ (by with_unfolding_all rfl)
    refine wpAny_getItem_str_slice (l := none) (u := none) (st := some (-1, ti)) ⟨_, Heap.get?_push_size _ rfl, rfl, rfl⟩ rfl ?_
    show Made.post (Made.str ⟨((Builtin.Str.strSliceIndices none none (-1) (S z).length).filterMap ((S z).cps[·]?)).toArray⟩) (EP X pz σ Q) _
    rw [strRev]
    have ez : (S z).cps.toList.reverse = z.reverse := by simp [S, SX.S]
    rw [ez]
    exact ⟨by show (z.reverse.toArray).size ≤ sizeLine; simpa using hz, .str (S z.reverse), HD, iE.tok _, ⟨_, rfl⟩, q⟩

/-! ### zip of two texts -/
def Itzs (x y : Str) : It := ⟨fun i _ => i < min x.cps.size y.cps.size,
  fun i H v H' => ∃ (T : Addr) (c d : Nat), v = .ref T ∧ H T = none ∧ H' = upd H T (.tup [.str ⟨#[c]⟩, .str ⟨#[d]⟩]) ∧ x.cps[i]? = some c ∧ y.cps[i]? = some d,
  fun i _ => min x.cps.size y.cps.size ≤ i⟩
theorem drawsStr {prog : Program} {w : World} {A : Around} (hh : A.handled = none) (it : Addr) (x : Str) (t : Tok) :
    Draws prog w A it [it] x.cps.size (fun i v => ∃ c u, x.cps[i]? = some c ∧ v = .str ⟨#[c]⟩ u)
        (fun i h => h.IsStrIter it (strIterType x) x t i) := by
  unfold strIterType
  by_cases ha : x.cps.all (· < 128) = true
  · rw [if_pos ha]; exact Draws.strAscii hh it x t
  · rw [if_neg ha]; exact Draws.strWide hh it x t
theorem turn_zipS {P : Program} {w : World} {K : PySem.W.Frag} {elts : List Expr} {kk : Nat} {tpos : Pos} {x y : Str} {t1 t2 : Tok} {z TI TO i1 i2 : Addr}
    (D : ZipSep2 z TI TO i1 i2 [i1] [i2]) : Turn P w K (.Tuple elts kk tpos) (Itzs x y) [z, TI, TO, i1, i2] z
      (fun i h => i ≤ min x.cps.size y.cps.size ∧ IsZip h z TI TO .none ∧ IsTupOf2 h TI (.ref i1) (.ref i2) ∧ (∃ a b, IsTupOf2 h TO a b) ∧
        h.IsStrIter i1 (strIterType x) x t1 i ∧ h.IsStrIter i2 (strIterType y) y t2 i) where
  mem := by simp
  obj := fun i h st c hc => by
    obtain ⟨_, hz, hTI, ⟨a, b, hTO⟩, ⟨o1, e1, _, d1⟩, ⟨o2, e2, _, d2⟩⟩ := st
    have eZ : c = z ∨ c = TI ∨ c = TO ∨ c = i1 ∨ c = i2 := by simpa using hc
    rcases eZ with q | q | q | q | q
    · rw [q]
      exact ⟨_, hz, fun v q => nomatch q⟩
    · rw [q]
      exact ⟨_, hTI, fun v q => nomatch q⟩
    · rw [q]
      exact ⟨_, hTO, fun v q => nomatch q⟩
    · rw [q]
      exact ⟨o1, e1, fun v q => by rw [d1] at q; cases q⟩
    · rw [q]
      exact ⟨o2, e2, fun v q => by rw [d2] at q; cases q⟩
  keep := fun i h h' st k => by
    obtain ⟨hi, hz, hTI, ⟨a, b, hTO⟩, ⟨o1, e1, r1⟩, ⟨o2, e2, r2⟩⟩ := st
    exact ⟨hi, k z (by simp) _ hz, k TI (by simp) _ hTI, ⟨a, b, k TO (by simp) _ hTO⟩, ⟨o1, k i1 (by simp) _ e1, r1⟩, ⟨o2, k i2 (by simp) _ e2, r2⟩⟩
  item := by
    intro X hP hw hK hc i pz s σ H E I hf st hg
    subst hP hw hK
    obtain ⟨_, hz, hTI, ⟨a, b, hTO⟩, h1, h2⟩ := st
    have hg' : i < min x.cps.size y.cps.size := hg
    have g1 : i < x.cps.size := by omega
    have g2 : i < y.cps.size := by omega
    have hh : X.A.in1.handled = none := I.ok.hd hc
    have zlt : z < s.heap.objs.size := Heap.lt_size hz
    refine wpAny_pyNext_zipD2_item D (drawsStr hh i1 x t1) (drawsStr hh i2 y t2) hz hTI hTO h1 h2 g1 g2 fun v1 v2 h' tk p1 p2 hz' hTO' st1 st2 hT hsz hk => ?_
    obtain ⟨c, u, hcx, rfl⟩ := p1
    obtain ⟨d, u2, hdy, rfl⟩ := p2
    refine ⟨_, rfl, wpAny_letOwnedTupleGo_zip (s := { s with heap := h', toks := tk }) hz' fun h'' z'' sb => ?_⟩
    have hT2 : h''.get? s.heap.objs.size = some { cls := .type "tuple", data := .seq #[.str ⟨#[c]⟩ u, .str ⟨#[d]⟩ u2] } := (sb.2 _ (Nat.ne_of_gt zlt)).trans hT
    have new : ObjOk X.prog X.w (upd H s.heap.objs.size (.tup [.str ⟨#[c]⟩, .str ⟨#[d]⟩])) h'' s.heap.objs.size (.tup [.str ⟨#[c]⟩, .str ⟨#[d]⟩]) :=
      ⟨by show 2 ≤ sizeLine; decide, [.str ⟨#[c]⟩ u, .str ⟨#[d]⟩ u2], .cons ⟨_, rfl⟩ (.cons ⟨_, rfl⟩ .nil), ⟨_, hT2, rfl, _, rfl⟩⟩
    have iA : Inv X pz σ (upd H s.heap.objs.size (.tup [.str ⟨#[c]⟩, .str ⟨#[d]⟩])) { s with heap := h'', toks := tk } :=
      I.turnedNew (t' := tk) (ch := [z, TI, TO, i1, i2]) (fun c o hb q => (sb.2 c (fun q' => hb (by simp [q']))).trans (hk c o (fun q' => hb (by simp [q'])) (fun q' => hb (by simp [q'])) (fun q' => hb (by simp [q'])) (fun q' => hb (by simp [q'])) q)) hf (Nat.le_refl _) new
    have nTz : TI ≠ z := D.TIz
    refine ⟨.ref s.heap.objs.size, _, iA, rfl, ⟨_, c, d, rfl, I.hok.fresh (Nat.le_refl _), rfl, hcx, hdy⟩, ⟨by omega, z'', ?_, ⟨_, _, (sb.2 _ D.TOz).trans hTO'⟩, ?_, ?_⟩, fun c hcm => ?_⟩
    · exact
        (sb.2 _ D.TIz).trans (hk _ _ D.TIz D.TITO D.TIi1 D.TIi2 hTI)
    · obtain ⟨o, e, r⟩ := st1
      exact ⟨o, (sb.2 _ D.zi1.symm).trans e, r⟩
    · obtain ⟨o, e, r⟩ := st2
      exact ⟨o, (sb.2 _ D.zi2.symm).trans e, r⟩
    · have hlt :
        c < s.heap.objs.size := by
        have eZ : c = z ∨ c = TI ∨ c = TO ∨ c = i1 ∨ c = i2 := by simpa using hcm
        rcases eZ with q | q | q | q | q
        · rw [q]; exact zlt
        · rw [q]
          exact Heap.lt_size hTI
        · rw [q]
          exact Heap.lt_size hTO
        · rw [q]
          obtain ⟨_, e1, _⟩ := h1; exact Heap.lt_size e1
        · rw [q]
          obtain ⟨_, e2, _⟩ := h2; exact Heap.lt_size e2
      rw
        [upd_ne (Nat.ne_of_lt hlt)]
      exact (hf c hcm).1
  done := by
    intro X hP hw hK hc i pz s σ H E I hf st hg
    subst hP hw hK
    obtain ⟨hi, hz, hTI, ⟨a, b, hTO⟩, h1, h2⟩ := st
    have hg' : min x.cps.size y.cps.size ≤ i := hg
    have hh : X.A.in1.handled = none := I.ok.hd hc
    exact wpAny_pyNext_zipD2_end D (drawsStr hh i1 x t1) (drawsStr hh i2 y t2) hz hTI hTO h1 h2 (by omega) (by omega) (by omega) fun h' tk hk => ⟨rfl, I.turnedL (t' := tk) (ch := [z, TI, TO, i1, i2]) (fun c o hb q =>
      hk c o (fun q' => hb (by simp [q']))
          (fun q' => hb (by simp [q'])) (fun q' => hb (by simp [q'])) (fun q' => hb (by simp [q'])) q) hf⟩
  self := fun A i s Q E st h => wpAny_pyIter_zip st.2.1 h
def iZipS (ta : TA) : TI := fun σ H R => ta σ H fun vs HA => ∃ x y, vs = [.str x, .str y] ∧ R (Itzs x y) HA
theorem pi_zipS {X : Cx} {e e2 : Expr} {ta : TA} {p pos tpos : Pos} {elts : List Expr} {kk : Nat} (hg : Gl X "zip") (hm : X.mg "zip" = none) (ha : PA X [e, e2] ta)
    (hs : starEach [e, e2] X.env = (false, eval e X.env) :: starEach [e2] X.env := by rfl)
        (hpl : (backTo pos (starEach [e2] X.env)).any (·.1) = false := by rfl) :
    PI X (.Tuple elts kk tpos) (.Call (.Name "zip" p) [e, e2] [] pos) (iZipS ta) := by
  refine ⟨fun pz s σ H R I h => ?_⟩
  refine Call_ (ld_blt I hg hm PyProof.Rows.boot_zip (PyProof.Rows.callWith_type1 (thn (ha.run pos pz s σ H _ I h) fun us sA ⟨vs, HA, iA, r1, q1⟩ => ?_) hs hpl))
  obtain ⟨x, y, rfl, q⟩ := q1
  cases r1 with
  | cons r rr =>
    cases rr with
    | cons r' rr =>
      cases rr
      obtain ⟨t, rfl⟩ := r
      obtain ⟨t', rfl⟩ := r'
      refine zip_begins2 (begins_text x t) (begins_text y t') trivial trivial fun h' hz hTI hTO g1 g2 hsz hk => wpAny_pyIter_zip hz ?_
      have iB : Inv X pz σ HA { sA with heap := h' } := iA.kept (t' := sA.toks) hk
      refine ⟨sA.heap.objs.size + 4, [sA.heap.objs.size + 4, sA.heap.objs.size + 2, sA.heap.objs.size + 3, sA.heap.objs.size, sA.heap.objs.size + 1], _, _, HA, rfl, iB,
        turn_zipS (zip_sep2 (fp1 := []) (fp2 := []) (fun _ z => nomatch z) fun _ z => nomatch z), ⟨Nat.zero_le _, hz, hTI, ⟨_, _, hTO⟩, ⟨_, g1, rfl, rfl⟩, ⟨_, g2, rfl, rfl⟩⟩, fun c hcm => ?_, q⟩
      have eZ : c = sA.heap.objs.size + 4 ∨ c = sA.heap.objs.size + 2 ∨ c = sA.heap.objs.size + 3 ∨ c = sA.heap.objs.size ∨ c = sA.heap.objs.size + 1 := by simpa using hcm
      have lo : sA.heap.objs.size ≤ c := by
        rcases eZ with z | z | z | z | z
        · rw [z]
          exact Nat.le_add_right _ _
        · rw [z]
          exact Nat.le_add_right _ _
        · rw [z]
          exact Nat.le_add_right _ _
        · rw [z]; exact Nat.le_refl _
        · rw [z]
          exact Nat.le_add_right _ _
      exact iA.fpOk lo (iA.hok.fresh lo)
theorem walk_zipS {x y : Str} : Walk (Itzs x y) (min x.cps.size y.cps.size) (fun _ => True)
    (fun i H v H' => ∃ (T : Addr) (c d : Nat), v = .ref T ∧ H T = none ∧ H' = upd H T (.tup [.str ⟨#[c]⟩, .str ⟨#[d]⟩]) ∧ x.cps[i]? = some c ∧ y.cps[i]? = some d) :=
  ⟨fun i H h _ => h, fun H _ => Nat.le_refl _, fun i H x H' _ _ y => y⟩

/-! ### d.setdefault(k, v), k a tuple -/
def tDSetdT (td ty tx : TE) : TE := fun σ H Q => td σ H fun x HA => ∃ a, x = .ref a ∧ IsD HA a ∧ ty σ HA fun y HB => tx σ HB fun z HC =>
  ∃ (kvs : List (List Key × V)) (k : List Key) (b : Addr), HC a = some (.dT kvs) ∧ y = .ref b ∧ HC b = some (.tup (k.map kV)) ∧ kvs.length < sizeLine ∧
    (∀ v, valV kvs k = some v → Q v HC) ∧ (valV kvs k = none → Q z (upd HC a (.dT (putK kvs k z))))
theorem dt_new {P : Program} {w : World} {H : Hp} {h' : Heap} {a : Addr} {kvs : List (List Key × V)} {xs : List (List Key × Addr × Value)} (z : kvs.length ≤ sizeLine) (hd : (a == sysModules) = false)
    (rel : KT (upd H a (.dT kvs)) kvs xs) (dd : h'.DictOfH (tupleKind (mixKind P w)) a xs) : ObjOk P w (upd H a (.dT kvs)) h' a (.dT kvs) := by
  obtain ⟨o, es, ep, h1, h2, h3, h4, _, h5⟩ := dd
  exact ⟨z, hd, xs, rel, o, es, ep, h1, h2, h3, h4, h5⟩
theorem pe_dsetdT {X : Cx} {o e f : Expr} {td ty tx : TE} {apos cpos : Pos} (hu : X.A.units + 1 < cLine) (ho : PE X o td) (he : PE X e ty) (hf : PE X f tx) (m : M2 X o "setdefault" apos e f cpos) :
    PE X (.Call (.Attribute o "setdefault" apos) [e, f] [] cpos) (tDSetdT td ty tx) := by
  refine ⟨fun pz s σ H Q I h => ?_⟩
  refine wpAny_Call_method m.base m.few m.line PySem.F.plainAttrs_dict PySem.F.slot_dict_setdefault PySem.F.type_dict_setdefault (thn (ho.run pz s σ H _ I h) fun u sA ⟨x, HA, iA, rx, a, ex, d, q1⟩ => ?_)
  subst ex
  obtain rfl : u = Value.ref a := rx
  obtain ⟨t1, t2, _⟩ := isD_at iA d
  refine ⟨t1, t2, ?_⟩
  rw [m.trees]
  refine Calls.callWith_builtin rfl (Calls.evalArgs_plain (Calls.spliced_cons (thn (he.run pz sA σ HA _ iA q1) fun iv sB ⟨y, HB, iB, ry, q2⟩ =>
    Calls.spliced_cons (thn (hf.run pz sB σ HB _ iB q2) fun fv sC ⟨z, HC, iC, rz, kvs, k, b, ea, ey, eb, hl, q3, q4⟩ => Calls.spliced_nil ?_))))
  subst ey
  cases ry
  obtain ⟨z0, hd, xs, rel, dd⟩ := dt_of iC.hok ea
  have hz : xs.length ≤ sizeLine := by
    rw [← rel.length]
    exact z0
  refine call_setdefault_heap (knd := tupleKind (mixKind X.prog X.w)) (tupleKind_room_in1 hu) (key_of iC.hok eb) hd dd (fun p hp => ?_) (fun hn h' dd' hs => ?_) hz
  · have q := rel.val k
    rw [hp] at q
    cases q0 : valV kvs k with
    | none => rw [q0] at q; exact (show False from q).elim
    | some v0 =>
      rw [q0] at q
      exact ⟨v0, HC, iC.tok _, q, q3 v0 q0⟩
  · have q := rel.val k
    rw [hn] at q
    cases q0 : valV kvs k with
    | some v0 => rw [q0] at q; exact (show False from q).elim
    | none =>
      have hl2 : (putK kvs k z).length ≤ sizeLine := by
        have := length_putK kvs k z
        omega
      have he' : ∃ q, h'.get? a = some q := let ⟨q, _, _, hq, _⟩ := dd'; ⟨q, hq⟩
      have nt : ∀ c ys, HC c = some (.tup ys) → upd HC a (.dT (putK kvs k z)) c = some (.tup ys) := fun c ys e => by
        rw [upd_ne (ne_of e ea fun z => by cases z)]
        exact e
      exact ⟨z, _, d_write iC (by rw [ea]; exact True.intro) hs he' (dt_new hl2 hd ((rel.put k eb rz).keeps nt) dd'), rz, q4 q0⟩
end Ws

/-! comprehensions whose parts make new things alone -/
namespace Ws
open PySem PySem.Spec PyProof.Rows L2
theorem ext_same {D : Addr} {H1 H : Hp} (h : H1 D = none) (e : Ext D H1 H) : Same H1 H := fun b o x => e b o (ne_of_none x h) x
section
variable {J : It} {n : Nat} {G : Hp → Prop} {Y : Nat → Hp → V → Hp → Prop} {g : TG} {te : TE} {tt : TT} {vs : List Nat} {σ : L2.St} {H1 : Hp} {D : Addr} {Qd : Hp → Prop}
/-- the items told by R, turn by turn -/
theorem lcR (w : Walk J n G Y) (hD : H1 D = none) (hn : n < sizeLine) (R : Nat → V → Hp → Prop)
    (hR : ∀ i v H H', Ext D H H' → (∃ xs, H D = some (.lst xs)) → R i v H → R i v H') (hG : ∀ H, Same H1 H → G H)
    (hs : ∀ i x H H', i < n → Same H1 H → (∃ xs, H D = some (.lst xs)) → Y i H x H' → ∀ Q : VK, (∀ v H2, Same H H2 → R i v H2 → Q v H2) →
      g x (wipe σ vs) H' fun σ2 H2 => wipe σ2 vs = wipe σ vs ∧ te σ2 H2 Q)
    (hd : ∀ ys H, Same H1 H → H D = some (.lst ys) → ys.length = n → (∀ i v, ys[i]? = some v → R i v H) → Qd H) :
    ∃ W : Nat → Nat → Hp → Prop, (∃ m, W 0 m (upd H1 D (.lst []))) ∧
        ∀ i m H, W i m H →
      (J.stop i H ∧ Qd H) ∨ (J.go i H ∧ ∃ Nx : Hp → Prop, (∀ H', Nx H' → ∃ m', m' < m ∧ W (i + 1) m' H') ∧ ∀ x H', J.yld i H x H' →
        g x (wipe σ vs) H' fun σ2 H2 => wipe σ2 vs = wipe σ vs ∧ tYes σ2 H2 fun b H3 =>
          if b = true then te σ2 H3 fun y H4 => ∃ acc, H4 D = some (.lst acc) ∧
              acc.length < sizeLine ∧ Nx (upd H4 D (.lst (acc ++ [y]))) else Nx H3) := by
  refine ⟨fun i m H => m = n - i ∧ i ≤ n ∧ Same H1 H ∧ ∃ ys, H D = some (.lst ys) ∧ ys.length = i ∧ ∀ j v, ys[j]? = some v → R j v H,
    ⟨n, by simp, Nat.zero_le _, Same.new hD, [], upd_same, rfl, fun j v h => by simp at h⟩, ?_⟩
  rintro i m H ⟨rfl, hi, s1, ys, hy, hl, hr⟩
  by_cases hlt : i < n
  · refine .inr ⟨w.goes i H hlt (hG H s1), fun H' => i + 1 ≤ n ∧ Same H1 H' ∧ ∃ ys, H' D = some (.lst ys) ∧ ys.length = i + 1 ∧ ∀ j v, ys[j]? = some v → R j v H',
      fun H' p => ⟨n - (i + 1), by omega, rfl, p⟩, fun x H' y => ?_⟩
    refine hs i x H H' hlt s1 ⟨ys, hy⟩ (w.yields i H x H' hlt (hG H s1) y) _ (fun v H2 s2 r2 => ?_)
    refine ⟨ys, s2 _ _ hy, by omega, hlt, ?_, ys ++ [v], upd_same, by simp [hl], fun j u hj => ?_⟩
    · intro b o e
      rw [upd_ne (ne_of_none e hD)]
      exact s2 _ _ (s1 _ _ e)
    · have hx : ∃ xs, H2 D = some (.lst xs) := ⟨ys, s2 _ _ hy⟩
      by_cases hj2 : j < ys.length
      · rw [List.getElem?_append_left hj2] at hj
        refine hR j u H2 _ Ext.upd hx (hR j u H H2 (Ext.of s2) ⟨ys, hy⟩ (hr j u hj))
      · rw [List.getElem?_append_right (by omega)] at hj
        have ej : j = i := by
          have := List.getElem?_eq_some_iff.mp hj
          obtain ⟨h1, _⟩ := this
          simp at h1
          omega
        subst ej
        rw [hl] at hj
        simp at hj
        subst hj
        exact hR j v H2 _ Ext.upd hx r2
  · have e : i = n := by omega
    subst e
    exact .inl ⟨w.stops H (hG H s1), hd ys H s1 hy hl hr⟩
/-- the items by a function of the turn -/
theorem lcP (w : Walk J n G Y) (hD : H1 D = none) (hn : n < sizeLine) (f : Nat → V) (hG : ∀ H, Same H1 H → G H)
    (hs : ∀ i x H H', i < n → Same H1 H → Y i H x H' → ∀ Q : VK, (∀ H2, Same H H2 → Q (f i) H2) →
      g x (wipe σ vs) H' fun σ2 H2 => wipe σ2 vs = wipe σ vs ∧ te σ2 H2 Q)
    (hd : ∀ H, Same H1 H → H D = some (.lst ((List.range n).map f)) → Qd H) :
    ∃ W : Nat → Nat → Hp → Prop, (∃ m, W 0 m (upd H1 D (.lst []))) ∧
        ∀ i m H, W i m H →
      (J.stop i H ∧ Qd H) ∨ (J.go i H ∧ ∃ Nx : Hp → Prop, (∀ H', Nx H' → ∃ m', m' < m ∧ W (i + 1) m' H') ∧ ∀ x H', J.yld i H x H' →
        g x (wipe σ vs) H' fun σ2 H2 => wipe σ2 vs = wipe σ vs ∧ tYes σ2 H2 fun b H3 =>
          if b = true then te σ2 H3 fun y H4 => ∃ acc, H4 D = some (.lst acc) ∧ acc.length < sizeLine ∧ Nx (upd H4 D (.lst (acc ++ [y]))) else Nx H3) :=
  lcR w hD hn (fun i v _ => v = f i) (fun _ _ _ _ _ _ h => h) hG (fun i x H H' hi s _ y Q q => hs i x H H' hi s y Q fun H2 s2 => q _ _ s2 rfl)
    fun ys H s e hl hr => hd H s (by
      have : ys = (List.range n).map f := by
        apply List.ext_getElem?
        intro i
        by_cases hi : i < n
        · have hy : ys[i]? = some ys[i] := List.getElem?_eq_getElem (by omega)
          rw [hy, hr i _ hy]
          simp [hi]
        · rw [List.getElem?_eq_none (by omega), List.getElem?_eq_none (by simp; omega)]
      rw [← this]; exact e)
/-- with a test -/
theorem lcF (w : Walk J n G Y) (hD : H1 D = none) (hn : n < sizeLine) (p : Nat → Bool) (f : Nat → V) (hG : ∀ H, Same H1 H → G H)
    (hs : ∀ i x H H', i < n → Same H1 H → Y i H x H' → ∀ (Q : VK) (Qn : Hp → Prop), (p i = true → ∀ H2, Same H H2 → Q (f i) H2) → (p i = false → ∀ H2, Same H H2 → Qn H2) →
      g x (wipe σ vs) H' fun σ2 H2 => wipe σ2 vs = wipe σ vs ∧ tt σ2 H2 fun b H3 => if b = true then te σ2 H3 Q else Qn H3)
    (hd : ∀ H, Same H1 H → H D = some (.lst (((List.range n).filter p).map f)) → Qd H) :
    ∃ W : Nat → Nat → Hp → Prop, (∃ m, W 0 m (upd H1 D (.lst []))) ∧
        ∀ i m H, W i m H →
      (J.stop i H ∧ Qd H) ∨ (J.go i H ∧ ∃ Nx : Hp → Prop, (∀ H', Nx H' → ∃ m', m' < m ∧ W (i + 1) m' H') ∧ ∀ x H', J.yld i H x H' →
        g x (wipe σ vs) H' fun σ2 H2 => wipe σ2 vs = wipe σ vs ∧ tt σ2 H2 fun b H3 =>
          if b = true then te σ2 H3 fun y H4 => ∃ acc, H4 D = some (.lst acc) ∧
              acc.length < sizeLine ∧ Nx (upd H4 D (.lst (acc ++ [y]))) else Nx H3) := by
  have len : ∀ i, ((List.range i).filter p).length ≤ i := fun i => by
    have := List.length_filter_le p (List.range i)
    simpa using this
  refine ⟨fun i m H => m = n - i ∧ i ≤ n ∧ Same H1 H ∧ H D = some (.lst (((List.range i).filter p).map f)),
    ⟨n, by simp, Nat.zero_le _, Same.new hD, upd_same⟩, ?_⟩
  rintro i m H ⟨rfl, hi, s1, hy⟩
  by_cases hlt : i < n
  · refine .inr ⟨w.goes i H hlt (hG H s1), fun H' => i + 1 ≤ n ∧ Same H1 H' ∧ H' D = some (.lst (((List.range (i + 1)).filter p).map f)),
      fun H' p => ⟨n - (i + 1), by omega, rfl, p⟩, fun x H' y => ?_⟩
    refine hs i x H H' hlt s1 (w.yields i H x H' hlt (hG H s1) y) _ _ (fun hp H2 s2 => ?_) (fun hp H2 s2 => ?_)
    · refine ⟨_, s2 _ _ hy, ?_, hlt, ?_, ?_⟩
      · rw [List.length_map]; have := len i; omega
      · intro b o e
        rw [upd_ne (ne_of_none e hD)]
        exact s2 _ _ (s1 _ _ e)
      · rw [upd_same, List.range_succ, List.filter_append, List.map_append]
        simp [hp]
    · refine ⟨hlt, s1.trans s2, ?_⟩
      rw [s2 _ _ hy, List.range_succ, List.filter_append, List.map_append]
      simp [hp]
  · have e : i = n := by omega
    subst e
    exact .inl ⟨w.stops H (hG H s1), hd H s1 hy⟩
end
end Ws

/-! texts of code lists: lengths, signs -/
namespace Ws
open PySem PySem.Spec PyProof.Rows L2
theorem take_in {L l : List Nat} (h : ∀ c ∈ l, c ∈ L) (n : Nat) : ∀ c ∈ l.take n, c ∈ L := fun c hc => h c (List.mem_of_mem_take hc)
theorem drop_in {L l : List Nat} (h : ∀ c ∈ l, c ∈ L) (n : Nat) : ∀ c ∈ l.drop n, c ∈ L := fun c hc => h c (List.mem_of_mem_drop hc)
theorem app_in {L a b : List Nat} (h : ∀ c ∈ a, c ∈ L) (g : ∀ c ∈ b, c ∈ L) : ∀ c ∈ a ++ b, c ∈ L := fun c hc => (List.mem_append.mp hc).elim (h c) (g c)
theorem S_app_len {a b : List Nat} {n : Nat} (h : a.length + b.length ≤ n) (hn : n ≤ 100000) : (S a).length + (S b).length ≤ sizeLine := by rw [SX.S_len, SX.S_len, sizeLine_eq]; omega
theorem S_le {a : List Nat} (h : a.length ≤ 100000) : (S a).length ≤ sizeLine := by rw [SX.S_len, sizeLine_eq]; omega
theorem S_at {L : List Nat} {u : Int} (h0 : 0 ≤ u) (h1 : u < (L.length : Int)) : ∃ c, c ∈ L ∧ atI (S L).cps.toList u = some c := by
  have hu : u.toNat < L.length := by omega
  refine ⟨L[u.toNat], List.getElem_mem hu, ?_⟩
  have z := atI_nat (xs := L) (j := u.toNat) (v := L[u.toNat]) (by simp [hu])
  rw [Int.toNat_of_nonneg h0] at z
  simpa [S, SX.S] using z
end Ws

/-! a text times an int -/
namespace Ws
open PySem PySem.Spec PyProof.Rows L2
theorem rep_foldl (l : List Nat) : ∀ (n : Nat) (acc : List Nat), (List.replicate n l.toArray).foldl (· ++ ·) acc.toArray = (acc ++ (List.replicate n l).flatten).toArray
  | 0, acc => by simp
  | n + 1, acc => by
    rw [List.replicate_succ, List.foldl_cons]
    have e : acc.toArray ++ l.toArray = (acc ++ l).toArray := by simp
    rw [e, rep_foldl l n (acc ++ l), List.replicate_succ, List.flatten_cons, List.append_assoc]
def rMulS : R2 := fun x y H Q => ∃ (l : List Nat) (n : Nat), x = .str (S l) ∧ y = .int n ∧ n ≤ 1000 ∧ l.length ≤ 1000 ∧ Q (.str (S (List.replicate n l).flatten)) H
theorem rep_len (l : List Nat) (n : Nat) : (List.replicate n l).flatten.length = n * l.length := by
  induction n with
  | zero => simp
  | succ n ih => rw [List.replicate_succ, List.flatten_cons, List.length_append, ih, Nat.succ_mul, Nat.add_comm]
theorem op_mulS {X : Cx} : OpR X (binaryOp .Mult) rMulS := by
  intro pins
  intro s σ H x y v u Q I rx ry h
  obtain ⟨l, n, rfl, rfl, hn, hl, q⟩ := h
  obtain ⟨t, rfl⟩ := rx
  obtain ⟨t', rfl⟩ := ry
  have hm : n * l.length ≤ 1000 * 1000 := Nat.mul_le_mul hn hl
  have hlen : (S l).length = l.length := SX.S_len l
  have hn2 : ((n : Nat) : Int) < 2 ^ 63 := by omega
  have hn3 : ¬ ((n : Nat) : Int) < -(2 ^ 63 : Int) := by omega
  refine P.mul_str (x := S l) (by rw [decide_eq_false hn3, decide_eq_false (by omega)]; rfl) (fun h1 _ => ?_) (fun _ _ => ?_) ?_
  · rw [hlen]
    have h3 : 0 < ((n : Nat) : Int) := by omega
    have h4 : ((l.length : Nat) : Int) ≤ (2 ^ 63 - 1) / ((n : Nat) : Int) := by
      refine (Int.le_ediv_iff_mul_le h3).mpr ?_
      have : ((l.length : Nat) : Int) * ((n : Nat) : Int) = ((n * l.length : Nat) : Int) := by rw [Nat.mul_comm, Int.natCast_mul]
      rw [this]
      omega
    omega
  · rw [hlen]
    have e : l.length * (((n : Nat) : Int)).toNat = n * l.length := by rw [Int.toNat_natCast, Nat.mul_comm]
    rw [e]
    show decide _ = false
    rw [decide_eq_false_iff_not, sizeLine_eq]
    omega
  · by_cases h0 : ((n : Nat) : Int) < 1
    · rw [if_pos h0]
      have en : n = 0 := by omega
      subst en
      exact ⟨by decide, .str (S []), H, I.tok _, ⟨_, rfl⟩, q⟩
    · rw [if_neg h0]
      cases h1 : (((n : Nat) : Int) == 1 || (S l).length == 0) with
      | true =>
        rw [if_pos rfl]
        have e : (List.replicate n l).flatten = l := by
          rcases Bool.or_eq_true_iff.mp h1 with h2 | h2
          · have : n = 1 := by
              have := eq_of_beq h2
              omega
            subst this
            simp
          · have h2 := eq_of_beq h2
            rw [hlen] at h2
            have : l = [] := List.length_eq_zero_iff.mp h2
            subst this
            simp
        rw [e] at q
        exact ⟨.str (S l), H, I, ⟨_, rfl⟩, q⟩
      | false =>
        rw [if_neg (by decide)]
        have e : (List.replicate (((n : Nat) : Int)).toNat (S l).cps).foldl (· ++ ·) #[] = ((List.replicate n l).flatten).toArray := by
          have := rep_foldl l n []
          rw [List.nil_append] at this
          exact this
        rw [e]
        refine ⟨?_, .str (S (List.replicate n l).flatten), H, I.tok _, ⟨_, rfl⟩, q⟩
        show (S (List.replicate n l).flatten).length ≤ sizeLine
        rw [SX.S_len, rep_len, sizeLine_eq]
        omega

end Ws

/-! the law's draws -/
namespace Ws
open PySem PySem.Spec PyProof.Rows L2
def top (i : Nat) : Stmt := PySem.Challenge.pw_wordsaid_k82_powers_and_classes.main.body.getD i (.Pass ⟨0, 0, 0, 0⟩)

/-- names that are built in -/
structure Bl (mg : Str → Option Value) : Prop where
  len : mg "len" = none
  abs : mg "abs" = none
  int : mg "int" = none
  list : mg "list" = none
  range : mg "range" = none
  repr : mg "repr" = none
  isinstance : mg "isinstance" = none
  str : mg "str" = none
  all : mg "all" = none
  any : mg "any" = none
  zip : mg "zip" = none
  tuple : mg "tuple" = none
  ord : mg "ord" = none
  sorted : mg "sorted" = none
  set : mg "set" = none

/-- the deck at p -/
def DeckAt (K : PySem.W.Frag) (H : Hp) (p : Addr) : Prop := ∃ (d0 d1 d2 d4 : Int) (q : Addr) (ns : List Int),
  H p = some (.lst [.int d0, .int d1, .int d2, .ref q, .int d4]) ∧ q ≠ p ∧ SqL K H q (ns.map V.int) ∧ 0 ≤ d1 ∧ ns.length ≤ 63
theorem DeckAt.same {K : PySem.W.Frag} {H H' : Hp} {p : Addr} (d : DeckAt K H p) (s : Same H H') : DeckAt K H' p := by
  obtain ⟨d0, d1, d2, d4, q, ns, e, n, h, r⟩ := d
  exact ⟨d0, d1, d2, d4, q, ns, s _ _ e, n, s.seq h, r⟩
theorem DeckAt.some {K : PySem.W.Frag} {H : Hp} {p : Addr} (d : DeckAt K H p) : ∃ xs, H p = some (.lst xs) := by
  obtain ⟨d0, d1, d2, d4, q, ns, e, _⟩ := d
  exact ⟨_, e⟩
theorem DeckAt.ne {K : PySem.W.Frag} {H : Hp} {p l : Addr} (d : DeckAt K H p) (h : H l = none) : p ≠ l := by
  obtain ⟨xs, e⟩ := d.some
  exact ne_of_none e h

def spDeck (K : PySem.W.Frag) : Sp := fun vs H Q _ => ∃ (a : Addr) (ns : List Int), vs = [.ref a] ∧ SqL K H a (ns.map V.int) ∧ ns.length ≤ 63 ∧
  ∀ p H', Same H H' → H p = none → DeckAt K H' p → Q (.ref p) H'
def spDraw (K : PySem.W.Frag) : Sp := fun vs H Q _ => ∃ (p : Addr) (b : Int), vs = [.ref p, .int b] ∧ DeckAt K H p ∧ 0 < b ∧ b < 1073741824 ∧
  ∀ v H', 0 ≤ v → v < b → Ext p H H' → DeckAt K H' p → Q (.int v) H'

section
variable {P : Program} {w : World} {K : PySem.W.Frag} {mg : Str → Option Value} {base : Heap} {f : Addr} {fd : FuncData}
abbrev s_deck : Stmt := (top 21)
theorem sc_deck : FnScope ["script", "seed", "cell"] ["script"] (defScope s_deck) := ⟨rfl, rfl, rfl, by decide +kernel, rfl, by decide +kernel, by decide +kernel⟩
theorem ok_deck (T : Bl mg) (D : Def K mg "_law_deck" s_deck f fd ["script"]) : Cal P w K mg base 1 "_law_deck" (spDeck K) := by
  refine D.cal (D.fn.ok sc_deck (fun vs H Q E h => ?_) (fun cdv A outer s H vs Q E hr h => ?_))
  · obtain ⟨a, ns, rfl, _⟩ := h
    rfl
  · obtain ⟨a, ns, rfl, hS, hl, k⟩ := h
    have nd := sc_deck.nd
    refine ⟨_, (pss_cons (ps_set (i := 1) nd rfl (.inl rfl) pe_int)
      (pss_cons (ps_for PassesOwn.never rfl (pi_list (pv 0)) (pg_name (i := 2) nd rfl (.inl rfl))
        (pss_one (ps_set (i := 1) nd rfl (.inl rfl) (pe_op op_mod (pe_callTy call_int1 (by rfl) T.int (by decide +kernel) (pa_cons (pe_op op_add (pe_op op_mul (pv 1) pe_int) (pv 2)) pa_nil)) pe_int))))
      (pss_one (ps_ret (pe_lst (pa_cons pe_int (pa_cons pe_int (pa_cons (pv 1) (pa_cons (pe_callTy call_list_of (by rfl) T.list (by decide +kernel) (pa_cons (pv 0) pa_nil)) (pa_cons pe_int pa_nil)))))))))), ?_⟩
    refine ⟨_, rfl, a, rfl, ⟨_, hS⟩, for_list (K := K) (a := a) (xs := ns.map V.int) (fun i σ H' => H' = H ∧ ∃ (z : Int) (v : Option V), σ = [some (.ref a), some (.int z), v])
      ⟨rfl, 7, none, rfl⟩ (fun i σ H' _ q => q.1 ▸ hS) ?_ ?_⟩
    · rintro i y σ H' hi ⟨rfl, z, v, rfl⟩
      obtain ⟨u, rfl⟩ : ∃ u, y = V.int u := by
        obtain ⟨u, _, e⟩ := List.mem_map.mp (List.mem_of_getElem? hi)
        exact ⟨u, e.symm⟩
      exact ⟨_, rfl, _, _, rfl, rfl, .inr ⟨by decide, by decide⟩, _, rfl, _, _, rfl, rfl, .inl ⟨_, rfl, _, _, rfl, rfl, (by show (0 : Int) < 2147483647; decide), rfl, _, _, rfl⟩⟩
    · rintro σ H' ⟨rfl, z, v, rfl⟩
      refine ⟨_, rfl, _, rfl, a, _, rfl, .inl hS, fun l hl0 => ⟨by show 5 ≤ sizeLine; decide, fun p hp => ?_⟩⟩
      have npl : l ≠ p := fun e => by rw [e, ] at hl0; rw [← e, upd_same] at hp; cases hp
      have hp0 : H' p = none := by rw [upd_ne npl.symm] at hp; exact hp
      refine k p _ ((Same.new hl0).trans (Same.new hp)) hp0 ⟨0, 0, z, 0, l, ns, upd_same, npl, SqL.of ?_, Int.le_refl _, hl⟩
      rw [upd_ne npl, upd_same]

abbrev s_draw : Stmt := (top 22)
theorem sc_draw : FnScope ["deck", "bound", "number", "value"] ["deck", "bound"] (defScope s_draw) := ⟨rfl, rfl, rfl, by decide +kernel, rfl, by decide +kernel, by decide +kernel⟩
theorem ok_draw (T : Bl mg) (D : Def K mg "_law_draw" s_draw f fd ["deck", "bound"]) : Cal P w K mg base 1 "_law_draw" (spDraw K) := by
  refine D.cal (D.fn.ok sc_draw (fun vs H Q E h => ?_) (fun cdv A outer s H vs Q E hr h => ?_))
  · obtain ⟨p, b, rfl, _⟩ := h
    rfl
  · obtain ⟨p, b, rfl, ⟨d0, d1, d2, d4, q, ns, e, nq, hS, h1, hl⟩, hb0, hb1, k⟩ := h
    have nd := sc_draw.nd
    refine ⟨_, (C8.pss_cut (ps_if (PW.pt (pw_and (pt_cmpR op_eq (pe_ix ix_list (pv 0) pe_int (fun _ _ => rfl)) pe_int (nomark _)) (pw_and1 (pt_cmpR op_lt (pe_ix ix_list (pv 0) pe_int (fun _ _ => rfl)) (pe_callB call_len_seq (by rfl) T.len PySem.boot_len (pa_cons (pe_ix ix_list (pv 0) pe_int (fun _ _ => rfl)) pa_nil)) (nomark _)))))
        (pss_cons (ps_asg (pe_callB call_abs (by rfl) T.abs (by decide +kernel) (pa_cons (pe_ix ix_list (pe_ix ix_list (pv 0) pe_int (fun _ _ => rfl)) (pe_ix ix_list (pv 0) pe_int (fun _ _ => rfl)) (fun _ _ => rfl)) pa_nil)) (pg_sub (pv 0) pe_int set_list))
        (pss_one (ps_asg (pe_op op_add (pe_ix ix_list (pv 0) pe_int (fun _ _ => rfl)) pe_int) (pg_sub (pv 0) pe_int set_list))))
        (pss_one (ps_if (pt_cmpR op_eq (pe_ix ix_list (pv 0) pe_int (fun _ _ => rfl)) pe_int (nomark _))
          (pss_cons (ps_asg (pe_op op_add (pe_ix ix_list (pv 0) pe_int (fun _ _ => rfl)) pe_int) (pg_sub (pv 0) pe_int set_list))
          (pss_cons (ps_set (i := 2) nd rfl (.inl rfl) (pe_op op_mod (pe_callTy call_int1 (by rfl) T.int (by decide +kernel) (pa_cons (pe_op op_add (pe_op op_add (pe_op op_mul (pe_ix ix_list (pv 0) pe_int (fun _ _ => rfl)) pe_int) (pe_op op_mul (pe_ix ix_list (pv 0) pe_int (fun _ _ => rfl)) pe_int)) pe_int) pa_nil)) pe_int))
          (pss_cons (ps_set (i := 2) nd rfl (.inl rfl) (pe_op op_mod (pe_callTy call_int1 (by rfl) T.int (by decide +kernel) (pa_cons (pe_op op_add (pe_op op_add (pe_op op_mul (pv 2) (pv 2)) (pe_op op_mul pe_int (pe_ix ix_list (pv 0) pe_int (fun _ _ => rfl)))) pe_int) pa_nil)) pe_int))
          (pss_cons (ps_set (i := 2) nd rfl (.inl rfl) (pe_op op_mod (pe_callTy call_int1 (by rfl) T.int (by decide +kernel) (pa_cons (pe_op op_add (pe_op op_add (pe_op op_mul (pv 2) (pv 2)) (pe_op op_mul pe_int (pe_ix ix_list (pv 0) pe_int (fun _ _ => rfl)))) (pe_ix ix_list (pv 0) pe_int (fun _ _ => rfl))) pa_nil)) pe_int))
          (pss_one (ps_asg (pe_op op_fdiv (pv 2) pe_int) (pg_sub (pv 0) pe_int set_list)))))))
          pss_nil)))
      (pss_cons (ps_set (i := 3) nd rfl (.inl rfl) (pe_op op_mod (pe_callTy call_int1 (by rfl) T.int (by decide +kernel) (pa_cons (pe_ix ix_list (pv 0) pe_int (fun _ _ => rfl)) pa_nil)) (pv 1)))
      (pss_cons (ps_asg (pe_op op_fdiv (pe_ix ix_list (pv 0) pe_int (fun _ _ => rfl)) (pv 1)) (pg_sub (pv 0) pe_int set_list))
      (pss_one (ps_ret (pv 3)))))), ?_⟩
    refine ⟨fun σ' H' => ∃ (e0 e1 e4 : Int) (z : Option V), σ' = [some (.ref p), some (.int b), z, none] ∧ H' = upd H p (.lst [.int e0, .int e1, .int d2, .ref q, .int e4]) ∧ 0 ≤ e1, ?_, ?_⟩
    · -- the first statement
      have same : H = upd H p (.lst [.int d0, .int d1, .int d2, .ref q, .int d4]) := by
        funext c
        by_cases hc : c = p
        · rw [hc, upd_same, e]
        · rw [upd_ne hc]
      refine ⟨_, rfl, p, _, _, _, rfl, rfl, SqL.of e, rfl, rfl, _, rfl, ?_⟩
      refine iteV (fun h0 => ?_) (fun h0 => ?_)
      · obtain rfl : d0 = 0 := V.int.inj h0
        refine ⟨_, rfl, p, _, _, _, rfl, rfl, SqL.of e, rfl, _, rfl, p, _, _, _, rfl, rfl, SqL.of e, rfl, q, _, rfl, .inl hS, _, _, rfl, rfl, _, rfl, ?_⟩
        refine iteD rfl (fun hlt => ?_) (fun hlt => ?_)
        · have hlt' : d1.toNat < ns.length := by
            rw [List.length_map] at hlt
            omega
          have hat : atI (ns.map V.int) d1 = some (V.int ns[d1.toNat]) := by
            have z := atI_nat (xs := ns.map V.int) (j := d1.toNat) (v := V.int ns[d1.toNat]) (by rw [List.getElem?_map, List.getElem?_eq_getElem hlt']; rfl)
            rw [Int.toNat_of_nonneg h1] at z
            exact z
          refine ⟨_, rfl, p, _, _, _, rfl, rfl, SqL.of e, rfl, _, rfl, p, _, _, _, rfl, rfl, SqL.of e, rfl, q, _, _, _, rfl, rfl, hS, hat, _, rfl, _, rfl, p, _, _, 0, rfl, rfl, e, rfl, ?_⟩
          refine ⟨_, rfl, p, _, _, _, rfl, rfl, SqL.of upd_same, rfl, _, _, rfl, rfl, _, rfl, p, _, _, 1, rfl, rfl, upd_same, rfl, ?_⟩
          rw [upd_upd]
          exact ⟨_, _, _, none, rfl, rfl, by omega⟩
        · refine ⟨_, rfl, p, _, _, _, rfl, rfl, SqL.of e, rfl, rfl, _, rfl, ?_⟩
          refine iteV (fun _ => ?_) (fun h => absurd rfl h)
          refine ⟨_, rfl, p, _, _, _, rfl, rfl, SqL.of e, rfl, _, _, rfl, rfl, _, rfl, p, _, _, 4, rfl, rfl, e, rfl, ?_⟩
          have e' : upd H p (.lst [.int 0, .int d1, .int d2, .ref q, .int (d4 + 1)]) p = some (.lst [.int 0, .int d1, .int d2, .ref q, .int (d4 + 1)]) := upd_same
          have bnd : ∀ x m : Int, 0 < m → m < 2147483648 → -(2 ^ 64) < x % m ∧ x % m < 2 ^ 64 := fun x m h0 h1 => by
            have a1 := Int.emod_nonneg x (show m ≠ 0 by omega)
            have a2 := Int.emod_lt_of_pos x h0
            omega
          refine ⟨_, rfl, p, _, _, _, rfl, rfl, SqL.of e', rfl, _, _, rfl, rfl, .inr ⟨by decide, by decide⟩, _, rfl, p, _, _, _, rfl, rfl, SqL.of e', rfl, _, _, rfl, rfl, .inr ⟨by decide, by decide⟩, _, _, rfl, rfl, _, _, rfl, rfl, .inl ⟨_, rfl, _, _, rfl, rfl, (by show (0 : Int) < 2147483647; decide), ?_⟩⟩
          refine ⟨_, rfl, _, rfl, _, _, rfl, rfl, .inl (bnd _ _ (by decide) (by decide)), _, rfl, p, _, _, _, rfl, rfl, SqL.of e', rfl, _, _, rfl, rfl, .inl ⟨by decide, by decide⟩, _, _, rfl, rfl, _, _, rfl, rfl, .inl ⟨_, rfl, _, _, rfl, rfl, (by show (0 : Int) < 998244353; decide), ?_⟩⟩
          refine ⟨_, rfl, _, rfl, _, _, rfl, rfl, .inl (bnd _ _ (by decide) (by decide)), _, rfl, p, _, _, _, rfl, rfl, SqL.of e', rfl, _, _, rfl, rfl, .inl ⟨by decide, by decide⟩, _, _, rfl, rfl, _, rfl, p, _, _, _, rfl, rfl, SqL.of e', rfl, _, _, rfl, rfl, .inl ⟨_, rfl, _, _, rfl, rfl, (by show (0 : Int) < 2147483629; decide), ?_⟩⟩
          refine ⟨_, rfl, _, _, rfl, rfl, ⟨by decide, by decide⟩, _, rfl, p, _, _, 0, rfl, rfl, e', rfl, ?_⟩
          rw [upd_upd]
          exact ⟨_, _, _, _, rfl, rfl, h1⟩
      · refine ⟨_, rfl, p, _, _, _, rfl, rfl, SqL.of e, rfl, rfl, _, rfl, ?_⟩
        refine iteV (fun h => absurd h h0) (fun _ => ?_)
        exact ⟨d0, d1, d4, none, rfl, same, h1⟩
    · rintro σ' H' ⟨e0, e1, e4, z, rfl, rfl, he1⟩
      have hp : upd H p (.lst [.int e0, .int e1, .int d2, .ref q, .int e4]) p = some (.lst [.int e0, .int e1, .int d2, .ref q, .int e4]) := upd_same
      refine ⟨_, rfl, p, _, _, _, rfl, rfl, SqL.of hp, rfl, .inl ⟨_, rfl, _, rfl, _, _, rfl, rfl, hb0, ?_⟩⟩
      refine ⟨_, rfl, p, _, _, _, rfl, rfl, SqL.of hp, rfl, _, rfl, _, _, rfl, rfl, ⟨hb0, hb1⟩, _, rfl, p, _, _, _, rfl, rfl, hp, rfl, _, rfl, ?_⟩
      rw [upd_upd]
      refine k _ _ (Int.emod_nonneg _ (by omega)) (Int.emod_lt_of_pos _ hb0) Ext.upd ⟨e0 / b, e1, d2, e4, q, ns, upd_same, nq, ?_, he1, hl⟩
      exact Ext.upd.seq nq hS

/-! ### shown alike -/
def spIs (K : PySem.W.Frag) : Sp := fun vs H Q _ => ∃ x y d, vs = [x, y] ∧ Dp K H x d ∧ Dp K H y d ∧ Shw d ∧ Q (.bl true) H
abbrev s_is : Stmt := (top 23)
theorem sc_is : FnScope ["value", "due"] ["value", "due"] (defScope s_is) := ⟨rfl, rfl, rfl, by decide +kernel, rfl, by decide +kernel, by decide +kernel⟩
theorem ok_is (T : Bl mg) (D : Def K mg "_law_is" s_is f fd ["value", "due"]) : CalG P w K mg base 1 "_law_is" (spIs K) := by
  refine D.calG (okG D.fn sc_is (fun vs H Q E h => ?_) (fun cdv A outer s H vs Q E hr hg h => ?_))
  · obtain ⟨x, y, d, rfl, _⟩ := h
    rfl
  · obtain ⟨x, y, d, rfl, dx, dy, hs, k⟩ := h
    refine ⟨_, (pss_one (ps_ret (pe_cmpR op_eq (pe_callB (cr_repr hg hr.units) (by rfl) T.repr (by decide +kernel) (pa_cons (pv 0) pa_nil)) (pe_callB (cr_repr hg hr.units) (by rfl) T.repr (by decide +kernel) (pa_cons (pv 1) pa_nil)) (nomark _)))), ?_⟩
    refine ⟨_, rfl, x, d, rfl, dx, hs, _, rfl, y, d, rfl, dy, hs, rfl, ?_⟩
    rw [decide_eq_true rfl]
    exact k

/-! ### the letters, a word -/
theorem st_a : (Str.ofString "a") = S [97] := by decide +kernel
theorem st_ab : (Str.ofString "ab") = S [97, 98] := by decide +kernel
theorem st_abc : (Str.ofString "abc") = S [97, 98, 99] := by decide +kernel
theorem st_bd : (Str.ofString "bd") = S [98, 100] := by decide +kernel
theorem st_nil : (Str.ofString "") = S [] := by decide +kernel
/-- the letters that are drawn -/
def Lets : List (List Nat) := [[97], [97, 98], [97, 98, 99], [98, 100]]
theorem lets_len {L : List Nat} (h : L ∈ Lets) : 0 < L.length ∧ L.length ≤ 3 := by
  simp only [Lets, List.mem_cons, List.not_mem_nil, or_false] at h
  rcases h with rfl | rfl | rfl | rfl <;> exact ⟨by decide, by decide⟩
def spLetters (K : PySem.W.Frag) : Sp := fun vs H Q _ => ∃ p, vs = [.ref p] ∧ DeckAt K H p ∧ ∀ L H', L ∈ Lets → Ext p H H' → DeckAt K H' p → Q (.str (S L)) H'
abbrev s_letters : Stmt := (top 24)
theorem sc_letters : FnScope ["deck"] ["deck"] (defScope s_letters) := ⟨rfl, rfl, rfl, by decide +kernel, rfl, by decide +kernel, by decide +kernel⟩
theorem ok_letters (T : Bl mg) (D : Def K mg "_law_letters" s_letters f fd ["deck"]) (c_draw : Cal P w K mg base 1 "_law_draw" (spDraw K)) : Cal P w K mg base 2 "_law_letters" (spLetters K) := by
  refine D.cal (D.fn.ok sc_letters (fun vs H Q E h => ?_) (fun cdv A outer s H vs Q E hr h => ?_))
  · obtain ⟨p, rfl, _⟩ := h
    rfl
  · obtain ⟨p, rfl, d, k⟩ := h
    refine ⟨_, (pss_one (ps_ret (pe_ix ix_list (pe_lst (pa_cons pe_str (pa_cons pe_str (pa_cons pe_str (pa_cons pe_str (pa_cons pe_str pa_nil)))))) (pe_c c_draw hr (by decide) rfl (pa_cons (pv 0) (pa_cons pe_int pa_nil))) (fun _ _ => rfl)))), ?_⟩
    refine ⟨by show 5 ≤ sizeLine; decide, fun l hl => ⟨_, rfl, p, 5, rfl, d.same (Same.new hl), by decide, by decide, fun v H' h0 h1 e d' => ?_⟩⟩
    have npl := d.ne hl
    have hl' := e _ _ npl.symm upd_same
    have hv : v = 0 ∨ v = 1 ∨ v = 2 ∨ v = 3 ∨ v = 4 := by omega
    have ee : Ext p H H' := (Ext.of (Same.new hl)).trans e
    rcases hv with rfl | rfl | rfl | rfl | rfl
    · refine ⟨l, _, _, _, rfl, rfl, SqL.of hl', rfl, ?_⟩
      rw [st_a]; exact k _ _ (by simp [Lets]) ee d'
    · refine ⟨l, _, _, _, rfl, rfl, SqL.of hl', rfl, ?_⟩
      rw [st_ab]; exact k _ _ (by simp [Lets]) ee d'
    · refine ⟨l, _, _, _, rfl, rfl, SqL.of hl', rfl, ?_⟩
      rw [st_ab]; exact k _ _ (by simp [Lets]) ee d'
    · refine ⟨l, _, _, _, rfl, rfl, SqL.of hl', rfl, ?_⟩
      rw [st_abc]; exact k _ _ (by simp [Lets]) ee d'
    · refine ⟨l, _, _, _, rfl, rfl, SqL.of hl', rfl, ?_⟩
      rw [st_bd]; exact k _ _ (by simp [Lets]) ee d'

def spWord (K : PySem.W.Frag) : Sp := fun vs H Q _ => ∃ (p : Addr) (L : List Nat) (m : Nat), vs = [.ref p, .str (S L), .int m] ∧ DeckAt K H p ∧ L ≠ [] ∧ L.length ≤ 1000 ∧ m ≤ 1000 ∧
  ∀ l H', (∀ c ∈ l, c ∈ L) → l.length ≤ m → Ext p H H' → DeckAt K H' p → Q (.str (S l)) H'
abbrev s_word : Stmt := (top 25)
theorem sc_word : FnScope ["deck", "letters", "most", "made", "turn"] ["deck", "letters", "most"] (defScope s_word) := ⟨rfl, rfl, rfl, by decide +kernel, rfl, by decide +kernel, by decide +kernel⟩
theorem ok_word (T : Bl mg) (D : Def K mg "_law_word" s_word f fd ["deck", "letters", "most"]) (c_draw : Cal P w K mg base 1 "_law_draw" (spDraw K)) : Cal P w K mg base 2 "_law_word" (spWord K) := by
  refine D.cal (D.fn.ok sc_word (fun vs H Q E h => ?_) (fun cdv A outer s H vs Q E hr h => ?_))
  · obtain ⟨p, L, m, rfl, _⟩ := h
    rfl
  · obtain ⟨p, L, m, rfl, d, hL, hL2, hm, k⟩ := h
    have nd := sc_word.nd
    have lp : 0 < L.length := List.length_pos_iff.mpr hL
    refine ⟨_, (pss_cons (ps_set (i := 3) nd rfl (.inl rfl) pe_str)
      (pss_cons (ps_for PassesOwn.never rfl (pi_range1 (by rfl) T.range (pa_cons (pe_c c_draw hr (by decide) rfl (pa_cons (pv 0) (pa_cons (pe_op op_add (pv 2) pe_int) pa_nil))) pa_nil)) (pg_name (i := 4) nd rfl (.inl rfl))
        (pss_one (ps_set (i := 3) nd rfl (.inl rfl) (pe_op op_add_str (pv 3) (pe_ix ix_str (pv 1) (pe_c c_draw hr (by decide) rfl (pa_cons (pv 0) (pa_cons (pe_callB call_len_str (by rfl) T.len PySem.boot_len (pa_cons (pv 1) pa_nil)) pa_nil))) (fun _ _ => rfl))))))
      (pss_one (ps_ret (pv 3))))), ?_⟩
    refine ⟨_, rfl, _, rfl, _, _, rfl, rfl, p, _, rfl, d, by omega, by omega, fun v H1 h0 h1 e1 d1 => ?_⟩
    refine ⟨v, rfl, by omega, by omega, ?_⟩
    refine for_range (lo := 0) (n := v.toNat) (fun i σ H' => ∃ (l : List Nat) (z : Option V), σ = [some (.ref p), some (.str (S L)), some (.int m), some (.str (S l)), z] ∧ (∀ c ∈ l, c ∈ L) ∧ l.length = i ∧ Ext p H H' ∧ DeckAt K H' p)
      ⟨[], none, by rw [st_nil]; rfl, by simp, rfl, e1, d1⟩ ?_ ?_
    · rintro i σ H' hi ⟨l, z, rfl, hc, hl, e, d⟩
      have hz : (S L).length ≤ sizeLine := by rw [SX.S_len, sizeLine_eq]; omega
      refine ⟨_, rfl, _, rfl, _, rfl, _, rfl, _, rfl, hz, p, _, rfl, d, by rw [SX.S_len]; omega, by rw [SX.S_len]; omega, fun u H2 u0 u1 e2 d2 => ?_⟩
      rw [SX.S_len] at u1
      have hu : u.toNat < L.length := by omega
      have hat : atI (S L).cps.toList u = some L[u.toNat] := by
        have z := atI_nat (xs := L) (j := u.toNat) (v := L[u.toNat]) (by simp [hu])
        rw [Int.toNat_of_nonneg u0] at z
        simpa [S, SX.S] using z
      refine ⟨_, _, _, rfl, rfl, hz, hat, _, _, rfl, rfl, ?_, l ++ [L[u.toNat]], some (V.int (0 + (i : Int))), ?_, ?_, ?_, e.trans e2, d2⟩
      · have : (S [L[u.toNat]]).length = 1 := by rw [SX.S_len]; rfl
        show (S l).length + (S [L[u.toNat]]).length ≤ sizeLine
        rw [SX.S_len, this, sizeLine_eq]; omega
      · show [some (.ref p), some (.str (S L)), some (.int m), some (.str (S l ++ S [L[u.toNat]])), some (V.int (0 + (i : Int)))] = _
        rw [SX.S_cat]
      · intro c hcm
        rcases List.mem_append.mp hcm with q | q
        · exact hc c q
        · rw [List.mem_singleton.mp q]
          exact List.getElem_mem hu
      · rw [List.length_append, hl]; rfl
    · rintro σ H' ⟨l, z, rfl, hc, hl, e, d⟩
      exact ⟨_, rfl, k l H' hc (by omega) e d⟩
end
end Ws

/-! the program's errors -/
namespace Ws
open PySem PySem.Spec PyProof.Rows L2
/-- behind the class's own __init__ -/
def excH (H : Hp) (a dx C : Addr) (wd pl : V) : Hp := upd (upd (upd H dx (exd dx [("word", wd)])) a (exo a C (some dx))) dx (exd dx [("place", pl), ("word", wd)])
def spWE (K : PySem.W.Frag) (CW : Addr) : Sp := fun vs H Q _ => ∃ (a C : Addr) (wd pl : V), vs = [.ref a, wd, pl] ∧ H a = some (exo a C none) ∧ OexC K C ∧ Sup K C CW (.builtin veI) ∧
  PySem.W.findIn K (.ref C) "word" = some none ∧ PySem.W.findIn K (.ref C) "place" = some none ∧ ∀ dx, H dx = none → dx ≠ a → Q .non (excH H a dx C wd pl)
def spEr (C : Addr) (nm : Str) : Sp := fun vs H Q _ => ∃ (a : Addr) (pl : V), vs = [.ref a, pl] ∧ H a = some (exo a C none) ∧ ∀ dx, H dx = none → dx ≠ a → Q .non (excH H a dx C (.str nm) pl)
/-- the class nm, at C, below WordError at CW -/
structure ErC (P : Program) (w : World) (K : PySem.W.Frag) (mg : Str → Option Value) (base : Heap) (nm : Str) (C : Addr) : Prop where
  oex : OexC K C
  np : PySem.W.findIn K (.ref C) "place" = some none
  mgC : mg nm = some (.ref C)
  xf : XfC K C
  ini : ∃ (fI : Addr) (fd : FuncData), PySem.W.findIn K (.ref C) "__init__" = some (some (.ref fI)) ∧ PySem.W.typeIn K (.ref fI) = some (.type "function") ∧
    FnOk P w K mg base CX0 2 fI fd ["self", "place"] (spEr C nm) ∧ Binds K fd ["self", "place"] []
section
variable {P : Program} {w : World} {K : PySem.W.Frag} {mg : Str → Option Value} {base : Heap} {f fW C CW : Addr} {fd fdW : FuncData}
abbrev s_WordError : Stmt := (inClass (top 1) 0)
theorem ss_WordError : SScope ["self", "word", "place"] ["self", "word", "place"] (defScope s_WordError) :=
  ⟨rfl, rfl, rfl, by decide +kernel, rfl, by decide +kernel, by decide +kernel, by decide +kernel, by decide +kernel, by decide +kernel, rfl⟩
theorem ok_WordError (F : SFun P K "__init__" "WordError.__init__" s_WordError CW f fd) (hm : mg "super" = none) : FnOk P w K mg base CX0 1 f fd ["self", "word", "place"] (spWE K CW) := by
  refine okSup (k := 0) F ss_WordError (fun vs H Q E h => ?_) rfl hm (fun _ => rfl) (fun _ => rfl) (fun _ => rfl) (fun _ => rfl) (fun cd cc A outer s H vs Q E h => ?_)
  · obtain ⟨a, C, wd, pl, rfl, _⟩ := h
    rfl
  · obtain ⟨a, C, wd, pl, rfl, ea, oex, T, nw, np, k⟩ := h
    refine ⟨a, C, [wd, pl], _, _, _, rfl, ea, T, pa_cons (pv 1) pa_nil, pss_cons (ps_ost (pv 0) (pv 1)) (pss_one (ps_ost (pv 0) (pv 2))), ?_⟩
    refine .inl ⟨rfl, oex, _, rfl, ea, by simp, ?_⟩
    refine ⟨_, rfl, _, rfl, a, C, rfl, oex, nw, .inl ⟨ea, fun dx hd hne => ?_⟩⟩
    refine ⟨_, rfl, _, rfl, a, C, rfl, oex, np, .inr ⟨dx, _, upd_same, ?_, by show 1 ≤ 900; decide, k dx hd hne⟩⟩
    rw [upd_ne hne, upd_same]
theorem ok_Er {nm : Str} {st : Stmt} {p0 p1 p2 p3 p4 p5 p6 : Pos} {j : Nat} {pl : Sem Bool} {q : Str} (F : SFun P K "__init__" q st C f fd) (S : SScope ["self", "place"] ["self", "place"] (defScope st)) (hm : mg "super" = none)
    (hst : defBody st = [.Expr (.Call (.Attribute (.Call (.Name "super" p0) [] [] p1) "__init__" p2) [.Constant (.str nm) j p5, .Name "place" p6] [] p3) p4])
    (hev : ∀ env : Env, eval (.Call (.Attribute (.Call (.Name "super" p0) [] [] p1) "__init__" p2) [.Constant (.str nm) j p5, .Name "place" p6] [] p3) env = (do
      let ov ← attributeBase (.Call (.Name "super" p0) [] [] p1) "__init__" env (eval (.Call (.Name "super" p0) [] [] p1) env)
      standAt p2.atName
      let (f,
          first) ← holding [ov] (getMethod ov "__init__" pl)
      callWith p3 f first (backTo p3 (starEach [.Constant (.str nm) j p5, .Name "place" p6] env)) []))
    (hsw : ∀ env : Env, swapsWith (.Call (.Attribute (.Call (.Name "super" p0) [] [] p1) "__init__" p2) [.Constant (.str nm) j p5, .Name "place" p6] [] p3) none p4.line env = pure false)
    (FW : FnOk P w K mg base CX0 1 fW fdW ["self", "word", "place"] (spWE K CW)) (bW : Binds K fdW ["self", "word", "place"] []) (hfn : PySem.W.fnIn K fW = true) (hty : PySem.W.typeIn K (.ref fW) = some (.type "function"))
    (oex : OexC K C) (T1 : Sup K C C (.ref fW)) (T2 : Sup K C CW (.builtin veI)) (nw : PySem.W.findIn K (.ref C) "word" = some none) (np : PySem.W.findIn K (.ref C) "place" = some none) :
    FnOk P w K mg base CX0 2 f fd ["self", "place"] (spEr C nm) := by
  refine okSup (k := 1) F S (fun vs H Q E h => ?_) hst hm hev (fun _ => rfl) (fun _ => rfl) hsw (fun cd cc A outer s H vs Q E h => ?_)
  · obtain ⟨a, pl, rfl, _⟩ := h
    rfl
  · obtain ⟨a, pl, rfl, ea, k⟩ := h
    refine ⟨a, C, [pl], _, _, _, rfl, ea, T1, pa_cons pe_str (pa_cons (pe_var (i := 1) rfl (.inl (S.par "place" (by decide)))) pa_nil), pss_nil, ?_⟩
    refine .inr ⟨fW, fdW, _, _, rfl, FW, bW, hfn, hty, _, rfl, a, C, _, _, rfl, ea, oex, T2, nw, np, fun dx hd hne => ⟨rfl, k dx hd hne⟩⟩

/-- raise X(e): what stands behind the class's __init__ -/
theorem er_mk {C : Addr} {nm : Str} {pl : V} {H1 : Hp} {Q : XK} (k : ∀ (d : Addr) (H' : Hp), Same H1 H' → H1 d = none → H' d = some (.xd [("place", pl), ("word", .str nm)]) → Q (.ref C) (some d) H') :
    [pl].length ≤ 1000 ∧ ∀ a, H1 a = none → spEr C nm (.ref a :: ([pl] ++ [])) (upd H1 a (exo a C none))
      (fun v H2 => v = .non ∧ ∃ (d : Addr) (fs : List (Str × V)), H2 a = some (exo a C (some d)) ∧ H2 d = some (exd d fs) ∧ H1 d = none ∧ Q (.ref C) (some d) (upd (del H2 a) d (.xd fs))) (fun _ _ _ => False) := by
  refine ⟨by simp, fun a ha => ⟨a, pl, rfl, upd_same, fun dx hd hne => ⟨rfl, dx, [("place", pl), ("word", .str nm)], ?_, ?_, ?_, ?_⟩⟩⟩
  · show excH _ _ _ _ _ _ a = _
    unfold excH
    rw [upd_ne (Ne.symm hne), upd_same]
  · show excH _ _ _ _ _ _ dx = _
    unfold excH
    rw [upd_same]
  · rwa [upd_ne hne] at hd
  · refine k dx _ (fun b o e => ?_) (by rwa [upd_ne hne] at hd) upd_same
    have ba : b ≠ a := fun z => by rw [z, ha] at e; cases e
    have bd : b ≠ dx := fun z => by rw [z, ← upd_ne hne (H := H1) (o := exo a C none), hd] at e; cases e
    rw [upd_ne bd, del_ne ba]
    show excH _ _ _ _ _ _ b = _
    unfold excH
    rw [upd_ne bd, upd_ne ba, upd_ne bd, upd_ne ba, e]
end
end Ws

/-! letters and words looked at -/
namespace Ws
open PySem PySem.Spec PyProof.Rows L2
/-- x is the text of o, or no text at all -/
def TxtOr (K : PySem.W.Frag) (H : Hp) (x : V) (o : Option (List Nat)) : Prop :=
  (∃ l, o = some l ∧ x = .str (S l) ∧ l.length ≤ 1000) ∨ (o = none ∧ ∃ t, TyX K H x t ∧ PySem.W.kitOne K t (.type "str") = some false)
def TxtO (K : PySem.W.Frag) (H : Hp) (x : V) (o : Option (List Nat)) : Prop := ∀ H', Same H H' → TxtOr K H' x o
theorem TxtO.same {K : PySem.W.Frag} {H H' : Hp} {x : V} {o : Option (List Nat)} (t : TxtO K H x o) (s : Same H H') : TxtO K H' x o := fun H2 s2 => t H2 (s.trans s2)
theorem TxtO.now {K : PySem.W.Frag} {H : Hp} {x : V} {o : Option (List Nat)} (t : TxtO K H x o) : TxtOr K H x o := t H (fun _ _ h => h)
theorem txt_str {K : PySem.W.Frag} {H : Hp} {l : List Nat} (h : l.length ≤ 1000) : TxtO K H (.str (S l)) (some l) := fun _ _ => .inl ⟨l, rfl, rfl, h⟩
theorem txt_non {K : PySem.W.Frag} {H : Hp} : TxtO K H .non none := fun _ _ => .inr ⟨rfl, _, .base .non, kit_ty (by decide +kernel)⟩
theorem txt_int {K : PySem.W.Frag} {H : Hp} {i : Int} : TxtO K H (.int i) none := fun _ _ => .inr ⟨rfl, _, .base (.int i), kit_ty (by decide +kernel)⟩
theorem txt_lst {K : PySem.W.Frag} {H : Hp} {a : Addr} {xs : List V} (h : H a = some (.lst xs)) : TxtO K H (.ref a) none := fun _ s => .inr ⟨rfl, _, .base (.lst (s _ _ h)), kit_ty (by decide +kernel)⟩
def small : Str := "abcdefghijklmnopqrstuvwxyz"
def letOk : Option (List Nat) → Bool
  | none => false
  | some l => decide (1 ≤ l.length) && decide (l.length ≤ 3) && ((List.range l.length).all fun i => decide (l.getD i 0 ∈ small.cps.toList)) &&
    ((List.range (l.length - 1)).all fun i => decide (l.getD i 0 < l.getD (i + 1) 0))
def wordOk (L : List Nat) : Option (List Nat) → Bool
  | none => false
  | some l => decide (l.length ≤ 60) && ((List.range l.length).all fun i => decide (l.getD i 0 ∈ L))
theorem wordOk_iff {L l : List Nat} : wordOk L (some l) = true ↔ l.length ≤ 60 ∧ ∀ c ∈ l, c ∈ L := by
  simp only [wordOk, Bool.and_eq_true, decide_eq_true_eq, List.all_eq_true, List.mem_range]
  constructor
  · rintro ⟨h, k⟩
    refine ⟨h, fun c hc => ?_⟩
    obtain ⟨i, hi, rfl⟩ := List.mem_iff_getElem.mp hc
    have := k i hi
    rwa [List.getD_eq_getElem?_getD, List.getElem?_eq_getElem hi] at this
  · rintro ⟨h, k⟩
    refine ⟨h, fun i hi => ?_⟩
    rw
      [List.getD_eq_getElem?_getD, List.getElem?_eq_getElem hi]
    exact k _ (List.getElem_mem hi)
structure Gs (mg : Str → Option Value) : Prop where
  small : ∃ t, mg "SMALL" = some (.str small t)
  lm : ∃ t, mg "LETTERS_MOST" = some (.int 3 t)
  wm : ∃ t, mg "WORD_MOST" = some (.int 60 t)
def spIsL (K : PySem.W.Frag) : Sp := fun vs H Q _ => ∃ x o, vs = [x] ∧ TxtO K H x o ∧ ∀ H', Same H H' → Q (.bl (letOk o)) H'
def spIsW (K : PySem.W.Frag) : Sp := fun vs H Q _ => ∃ L x o, vs = [.str (S L), x] ∧ TxtO K H x o ∧ ∀ H', Same H H' → Q (.bl (wordOk L o)) H'
theorem refl_same (H : Hp) : Same H H := fun _ _ h => h
theorem all_map {n : Nat} {f : Nat → Bool} : ((List.range n).map f).all id = (List.range n).all f := by rw [List.all_map]; rfl
theorem walk_S {l : List Nat} : Walk (Its (S l)) l.length (fun _ => True) (fun i H v H' => H' = H ∧ ∃ c, l[i]? = some c ∧ v = .str (S [c])) :=
  ⟨fun i H hi _ => by show i < (S l).cps.size; simpa using hi, fun H _ => by show (S l).cps.size ≤ l.length; simp, fun i H v H' _ _ y => by
    obtain ⟨e, c, hc, hv⟩ := y
    exact ⟨e, c, by simpa using hc, hv⟩⟩
theorem walk_zS {l m : List Nat} : Walk (Itzs (S l) (S m)) (min l.length m.length) (fun _ => True)
    (fun i H v H' => ∃ (T : Addr) (c d : Nat), v = .ref T ∧ H T = none ∧ H' = upd H T (.tup [.str (S [c]), .str (S [d])]) ∧ l[i]? = some c ∧ m[i]? = some d) :=
  ⟨fun i H hi _ => by show i < min (S l).cps.size (S m).cps.size; simpa using hi, fun H _ => by show min (S l).cps.size (S m).cps.size ≤ _; simp, fun i H v H' _ _ y => by
    obtain ⟨T, c, d, e1, e2, e3, hc, hd⟩ := y
    exact ⟨T, c, d, e1, e2, e3, by simpa using hc, by simpa using hd⟩⟩
theorem getD_of {l : List Nat} {i c : Nat} (h : l[i]? = some c) : l.getD i 0 = c := by rw [List.getD_eq_getElem?_getD, h]; rfl
theorem bl_map {n : Nat} {p : Nat → Bool} : ((List.range n).map p).map V.bl = (List.range n).map fun i => V.bl (p i) := by rw [List.map_map]; rfl
section
variable {P : Program} {w : World} {K : PySem.W.Frag} {mg : Str → Option Value} {base : Heap} {f : Addr} {fd : FuncData}
abbrev s_is_letters : Stmt := (top 8)
abbrev N_is_letters : List Str := ["value", "sign", "one", "two"]
theorem sc_is_letters : FnScope N_is_letters ["value"] (defScope s_is_letters) := ⟨rfl, rfl, rfl, by decide +kernel, rfl, by decide +kernel, by decide +kernel⟩
theorem ok_is_letters (T : Bl mg) (G : Gs mg) (D : Def K mg "is_letters" s_is_letters f fd ["value"]) : Cal P w K mg base 1 "is_letters" (spIsL K) := by
  refine D.cal (D.fn.ok sc_is_letters (fun vs H Q E h => ?_) (fun cdv A outer s H vs Q E hr h => ?_))
  · obtain ⟨x, o, rfl, _⟩ := h
    rfl
  · obtain ⟨x, o, rfl, tx, k⟩ := h
    have nd := sc_is_letters.nd
    obtain ⟨t1, g1⟩ := G.small
    obtain ⟨t2, g2⟩ := G.lm
    refine ⟨_, (pss_cons (ps_if (PW.pt (pw_or (pt_not (pt_val (pe_callB call_isi (by rfl) T.isinstance (by decide +kernel) (pa_cons (pv 0) (pa_cons (pe_bltn (v := .ty "str") rfl T.str (by decide +kernel) rfl) pa_nil))))) (pw_or1 (pt_not (pt_chain op_le op_le pe_int (pe_callB call_len_str (by rfl) T.len PySem.boot_len (pa_cons (pv 0) pa_nil)) (pe_glob (v := .int 3) rfl g2 ⟨_, rfl⟩))))))
      (pss_one (ps_ret pe_bl))
      pss_nil)
      (pss_one (ps_ret (pe_and (pe_callB (cr_all rfl) (by rfl) T.all (by decide +kernel) (pa_cons (pe_lc (own := [("sign", 1)]) rfl nd (pi_str (pv 0)) (blkOk_by (N := N_is_letters) rfl) (fun _ _ _ _ _ => (pg_name (i := 1) nd rfl (.inl rfl))) (fun _ _ _ _ _ => pts_nil) (fun _ _ _ _ _ => (pe_cmpR op_in_sign (pv 1) (pe_glob (v := .str small) rfl g1 ⟨_, rfl⟩) (by with_unfolding_all rfl)))) pa_nil))
        (pe_one (pe_callB (cr_all rfl) (by rfl) T.all (by decide +kernel) (pa_cons (pe_lc (own := [("one", 2), ("two", 3)]) (g := gTup K 2 (gCons (gName 2) (gCons (gName 3) gNil))) rfl nd (pi_zipS (by rfl) T.zip (pa_cons (pv 0) (pa_cons (pe_slice C8.sl_txt (pv 0) (po_some pe_int) po_none) pa_nil))) (blkOk_by (N := N_is_letters) rfl) (fun _ _ _ _ _ => (pg_tup (n := 2) rfl (pgs_cons (pg_name (i := 2) nd rfl (.inl rfl) (.inr rfl)) (pgs_cons (pg_name (i := 3) nd rfl (.inl rfl) (.inr rfl)) pgs_nil)))) (fun _ _ _ _ _ => pts_nil) (fun _ _ _ _ _ => (pe_cmpR op_lt_str (pv 2) (pv 3) (nomark _)))) pa_nil))))))), ?_⟩
    rcases tx.now with ⟨l, rfl, rfl, hl⟩ | ⟨rfl, t, ty, kit⟩
    · have hz : (S l).length ≤ sizeLine := by rw [SX.S_len, sizeLine_eq]; omega
      refine ⟨_, rfl, _, .ty "str", _, _, true, rfl, .ty "str", .base (.str _), kit_ty (by decide +kernel), _, rfl, iteF ?_⟩
      refine ⟨_, rfl, _, rfl, hz, _, _, rfl, rfl, _, rfl, ?_⟩
      rw [SX.S_len]
      refine iteD rfl (fun h1 => ?_) (fun h1 => ?_)
      · refine ⟨_, _, rfl, rfl, _, rfl, ?_⟩
        refine iteB (fun h2 => ?_) (fun h2 => ?_)
        · have e : letOk (some l) = false := by
            have : ¬ ((l.length : Int) ≤ 3) := by simpa using h2
            have : ¬ l.length ≤ 3 := by omega
            simp [letOk, this]
          rw [← e]
          exact k _ (refl_same _)
        · have h3 : l.length ≤ 3 := by
            have : ((l.length : Int) ≤ 3) := by simpa using h2
            omega
          refine ⟨_, rfl, _, rfl, fun D hD => lcP walk_S hD (by rw [sizeLine_eq]; omega) (fun i => .bl (decide (l.getD i 0 ∈ small.cps.toList))) (fun _ _ => True.intro) (fun i x H0 H' hi s y Q q => ?_) (fun H1 s1 e1 => ?_)⟩
          · obtain ⟨rfl, c, hc, rfl⟩ := y
            rw [getD_of hc] at q
            exact ⟨rfl, _, rfl, c, small, rfl, rfl, q _ (refl_same _)⟩
          · refine ⟨D, (List.range l.length).map fun i => decide (l.getD i 0 ∈ small.cps.toList), rfl, SqL.of (by rw [bl_map]; exact e1), _, rfl, ?_⟩
            rw [all_map]
            refine iteB (fun h4 => ?_) (fun h4 => ?_)
            · refine ⟨_, rfl, _, rfl, 1, rfl, _, rfl, hz, _, _, rfl, ?_⟩
              rw [SX.slice_from (by decide)]
              have en : min l.length (l.drop (1 : Int).toNat).length = l.length - 1 := by
                show min l.length (l.drop 1).length = _
                rw [List.length_drop]; omega
              intro D2 hD2
              refine lcP (walk_zS (l := l) (m := l.drop (1 : Int).toNat)) hD2 (by rw [en, sizeLine_eq]; omega) (fun i => .bl (decide (l.getD i 0 < l.getD (i + 1) 0))) (fun _ _ => True.intro) (fun i x H0 H' hi s y Q q => ?_) (fun H2 s2 e2 => ?_)
              · obtain ⟨Tp, c, d, rfl, hT, rfl, hc, hd⟩ := y
                have hd' : l[i + 1]? = some d := by
                  have : (l.drop 1)[i]? = some d := hd
                  rw [List.getElem?_drop] at this
                  rwa [Nat.add_comm] at this
                rw [getD_of hc, getD_of hd'] at q
                refine ⟨Tp, _, rfl, .inl (.inl upd_same), rfl, _, _, rfl, _, _, rfl, rfl, rfl, _, rfl, _, rfl, _, _, rfl, rfl, ?_⟩
                have e : decide (c < d) = decide ((S [c]).cps.toList < (S [d]).cps.toList) := by
                  refine decide_eq_decide.mpr ?_
                  show c < d ↔ List.Lex (· < ·) [c] [d]
                  refine ⟨fun h => .rel h, fun h => ?_⟩
                  cases h with
                  | rel h => exact h
                  | cons h => cases h
                rw [← e]
                exact q _ (Same.new hT)
              · refine ⟨D2, (List.range (l.length - 1)).map fun i => decide (l.getD i 0 < l.getD (i + 1) 0), rfl, SqL.of (by rw [bl_map, ← en]; exact e2), ?_⟩
                rw [all_map]
                have e : letOk (some l) = (List.range (l.length - 1)).all fun i => decide (l.getD i 0 < l.getD (i + 1) 0) := by
                  have z1 : 1 ≤ l.length := by omega
                  simp only [letOk, h4, z1, h3, decide_true, Bool.true_and]
                rw [← e]
                exact k _ (s1.trans s2)
            · have e : letOk (some l) = false := by
                simp only [letOk, h4, Bool.and_false, Bool.false_and]
              rw [← e]
              exact k _ s1
      · have e : letOk (some l) = false := by
          have : ¬ (1 ≤ l.length) := by omega
          simp [letOk, this]
        refine ⟨_, rfl, ?_⟩
        refine iteT ?_
        show Q (.bl false) H
        rw [← e]
        exact k _ (refl_same _)
    · refine ⟨_, rfl, _, .ty "str", _, _, false, rfl, .ty "str", ty, kit, _, rfl, iteT ?_⟩
      exact k _ (refl_same _)
abbrev s_check_letters : Stmt := (top 9)
theorem sc_check_letters : FnScope ["letters"] ["letters"] (defScope s_check_letters) := ⟨rfl, rfl, rfl, by decide +kernel, rfl, by decide +kernel, by decide +kernel⟩
/-- the object d tells the fault -/
def Fault (CL CW : Addr) (H : Hp) (bad : Option (Bool × V)) (E : XK) : Prop := ∀ b u, bad = some (b, u) → ∀ d H', Same H H' → H' d = some (.xd [("place", u), ("word", .str (if b = true then "BadWord" else "BadLetters"))]) → E (.ref (if b = true then CW else CL)) (some d) H'
theorem Fault.same {CL CW : Addr} {H H1 : Hp} {bad : Option (Bool × V)} {E : XK} (f : Fault CL CW H bad E) (s : Same H H1) : Fault CL CW H1 bad E := fun b u e d H' s' => f b u e d H' (s.trans s')
def spChkL (K : PySem.W.Frag) (CL CW : Addr) : Sp := fun vs H Q E => ∃ x o, vs = [x] ∧ TxtO K H x o ∧ (letOk o = true → ∀ H', Same H H' → Q .non H') ∧ Fault CL CW H (if letOk o = true then none else some (false, x)) E
theorem ok_check_letters {CL CW : Addr} (D : Def K mg "check_letters" s_check_letters f fd ["letters"]) (EL : ErC P w K mg base "BadLetters" CL) (c_is : Cal P w K mg base 1 "is_letters" (spIsL K)) :
    CalX P w K mg base 5 "check_letters" (spChkL K CL CW) := by
  refine D.calX (D.fn.okX sc_check_letters (fun vs H Q E h => ?_) (fun cdv A outer s H vs Q E hr h => ?_))
  · obtain ⟨x, o, rfl, _⟩ := h
    rfl
  · obtain ⟨x, o, rfl, tx, k, kf⟩ := h
    have nd := sc_check_letters.nd
    obtain ⟨fI, fdI, i1, i2, FI, bI⟩ := EL.ini
    refine ⟨_, (pss_one (ps_if (pt_not (pt_val (pe_c c_is hr (by decide) rfl (pa_cons (pv 0) pa_nil))))
      (pss_one (ps_raise rfl (takes_of rfl rfl rfl rfl) (pmk_oex EL.oex i1 i2 FI (hr.mono (by decide)) bI .nil pass0 rfl EL.mgC (pa_cons (pv 0) pa_nil))))
      pss_nil)), ?_⟩
    refine ⟨_, rfl, x, o, rfl, tx, fun H1 s1 => ⟨_, rfl, ?_⟩⟩
    refine iteB (fun h => ?_) (fun h => ?_)
    · have h : letOk o = false := by simpa using h
      refine ⟨_, rfl, er_mk fun d H' s2 hd e => ?_⟩
      refine kf false x (by rw [h]; rfl) d H' (s1.trans s2) e
    · have h : letOk o = true := by simpa using h
      exact k h _ s1

abbrev s_is_word : Stmt := (top 10)
abbrev N_is_word : List Str := ["letters", "value", "sign"]
theorem sc_is_word : FnScope N_is_word ["letters", "value"] (defScope s_is_word) := ⟨rfl, rfl, rfl, by decide +kernel, rfl, by decide +kernel, by decide +kernel⟩
theorem ok_is_word (T : Bl mg) (G : Gs mg) (D : Def K mg "is_word" s_is_word f fd ["letters", "value"]) : Cal P w K mg base 1 "is_word" (spIsW K) := by
  refine D.cal (D.fn.ok sc_is_word (fun vs H Q E h => ?_) (fun cdv A outer s H vs Q E hr h => ?_))
  · obtain ⟨L, x, o, rfl, _⟩ := h
    rfl
  · obtain ⟨L, x, o, rfl, tx, k⟩ := h
    have nd := sc_is_word.nd
    obtain ⟨t2, g2⟩ := G.wm
    refine ⟨_, (pss_one (ps_ret (pe_and (pe_callB call_isi (by rfl) T.isinstance (by decide +kernel) (pa_cons (pv 1) (pa_cons (pe_bltn (v := .ty "str") rfl T.str (by decide +kernel) rfl) pa_nil)))
      (pe_and (pe_cmpR op_le (pe_callB call_len_str (by rfl) T.len PySem.boot_len (pa_cons (pv 1) pa_nil)) (pe_glob (v := .int 60) rfl g2 ⟨_, rfl⟩) (nomark _))
      (pe_one (pe_callB (cr_all rfl) (by rfl) T.all (by decide +kernel) (pa_cons (pe_lc (own := [("sign", 2)]) rfl nd (pi_str (pv 1)) (blkOk_by (N := N_is_word) rfl) (fun _ _ _ _ _ => (pg_name (i := 2) nd rfl (.inl rfl))) (fun _ _ _ _ _ => pts_nil) (fun _ _ _ _ _ => (pe_cmpR op_in_sign (pv 2) (pv 0) (by with_unfolding_all rfl)))) pa_nil))))))), ?_⟩
    rcases tx.now with ⟨l, rfl, rfl, hl⟩ | ⟨rfl, t, ty, kit⟩
    · have hz : (S l).length ≤ sizeLine := by rw [SX.S_len, sizeLine_eq]; omega
      refine ⟨_, rfl, _, .ty "str", _, _, true, rfl, .ty "str", .base (.str _), kit_ty (by decide +kernel), _, rfl, iteT ?_⟩
      refine ⟨_, rfl, _, rfl, hz, _, _, rfl, rfl, _, rfl, ?_⟩
      rw [SX.S_len]
      refine iteD rfl (fun h1 => ?_) (fun h1 => ?_)
      · refine ⟨_, rfl, _, rfl, fun D hD => lcP walk_S hD (by rw [sizeLine_eq]; omega) (fun i => .bl (decide (l.getD i 0 ∈ L))) (fun _ _ => True.intro) (fun i x H0 H' hi s y Q q => ?_) (fun H1 s1 e1 => ?_)⟩
        · obtain ⟨rfl, c, hc, rfl⟩ := y
          rw [getD_of hc] at q
          refine ⟨rfl, _, rfl, _, rfl, c, S L, rfl, rfl, ?_⟩
          have e : (S L).cps.toList = L := rfl
          rw [e]
          exact q _ (refl_same _)
        · refine ⟨D, (List.range l.length).map fun i => decide (l.getD i 0 ∈ L), rfl, SqL.of (by rw [bl_map]; exact e1), ?_⟩
          rw [all_map]
          have e : wordOk L (some l) = (List.range l.length).all fun i => decide (l.getD i 0 ∈ L) := by
            have z1 : l.length ≤ 60 := by omega
            simp only [wordOk, z1, decide_true, Bool.true_and]
          rw [← e]
          exact k _ s1
      · have e : wordOk L (some l) = false := by
          have : ¬ (l.length ≤ 60) := by omega
          simp [wordOk, this]
        show Q (.bl false) H
        rw [← e]
        exact k _ (refl_same _)
    · refine ⟨_, rfl, _, .ty "str", _, _, false, rfl, .ty "str", ty, kit, _, rfl, iteF ?_⟩
      exact k _ (refl_same _)

abbrev s_check_game_words : Stmt := (top 14)
abbrev N_check_game_words : List Str := ["letters", "words", "w"]
theorem sc_check_game_words : FnScope N_check_game_words ["letters", "words"] (defScope s_check_game_words) := ⟨rfl, rfl, rfl, by decide +kernel, rfl, by decide +kernel, by decide +kernel⟩
/-- the fault of letters and words -/
def badOf (lt : V) (o : Option (List Nat)) (xs : List (V × Option (List Nat))) : Option (Bool × V) :=
  if letOk o = true then (xs.find? fun p => !wordOk (o.getD []) p.2).map fun p => (true, p.1) else some (false, lt)
def spChk (K : PySem.W.Frag) (CL CW : Addr) : Sp := fun vs H Q E => ∃ lt o p xs, vs = [lt, .ref p] ∧ SqL K H p (xs.map Prod.fst) ∧ xs.length ≤ 1000 ∧ TxtO K H lt o ∧ (∀ q ∈ xs, TxtO K H q.1 q.2) ∧
  (badOf lt o xs = none → ∀ H', Same H H' → Q .non H') ∧ Fault CL CW H (badOf lt o xs) E
theorem ok_check_game_words {CL CW : Addr} (D : Def K mg "check_game_words" s_check_game_words f fd ["letters", "words"]) (EW : ErC P w K mg base "BadWord" CW) (c_chk : CalX P w K mg base 5 "check_letters" (spChkL K CL CW)) (c_is : Cal P w K mg base 1 "is_word" (spIsW K)) :
    CalX P w K mg base 6 "check_game_words" (spChk K CL CW) := by
  refine D.calX (D.fn.okX sc_check_game_words (fun vs H Q E h => ?_) (fun cdv A outer s H vs Q E hr h => ?_))
  · obtain ⟨lt, o, p, xs, rfl, _⟩ := h
    rfl
  · obtain ⟨lt, o, p, xs, rfl, hS, hxl, tl, tx, k, kf⟩ := h
    have nd := sc_check_game_words.nd
    obtain ⟨fI, fdI, i1, i2, FI, bI⟩ := EW.ini
    refine ⟨_, (pss_cons (ps_expr (pe_cE c_chk (passes_call (takes_of rfl rfl rfl rfl) (fun _ _ _ _ h => h)) hr (by decide) rfl (pa_cons (pv 0) pa_nil)))
      (pss_one (ps_for (passes_of rfl) rfl (pi_list (pv 1)) (pg_name (i := 2) nd rfl (.inl rfl))
      (pss_one (ps_if (pt_not (pt_val (pe_c c_is hr (by decide) rfl (pa_cons (pv 0) (pa_cons (pv 2) pa_nil)))))
      (pss_one (ps_raise rfl (takes_of rfl rfl rfl rfl) (pmk_oex EW.oex i1 i2 FI (hr.mono (by decide)) bI .nil pass0 rfl EW.mgC (pa_cons (pv 2) pa_nil))))
      pss_nil))))), ?_⟩
    refine ⟨_, rfl, lt, o, rfl, tl, fun hl H1 s1 => ?_, fun b u e d H' s' e' => ?_⟩
    · obtain ⟨L, rfl, rfl⟩ : ∃ L, o = some L ∧ lt = .str (S L) := by
        rcases tl.now with ⟨L, rfl, rfl, _⟩ | ⟨rfl, _⟩
        · exact ⟨L, rfl, rfl⟩
        · cases hl
      refine ⟨_, rfl, p, rfl, ⟨_, s1.seq hS⟩, for_list (K := K) (a := p) (xs := xs.map Prod.fst) (fun i σ H' => Same H H' ∧ (∀ j, j < i → ∀ q, xs[j]? = some q → wordOk L q.2 = true) ∧ ∃ z, σ = [some (.str (S L)), some (.ref p), z])
        ⟨s1, fun j hj => absurd hj (Nat.not_lt_zero _), none, rfl⟩ (fun i σ H' _ q => q.1.seq hS) ?_ ?_⟩
      · rintro i y σ H' hi ⟨s2, hw, z, rfl⟩
        rw [List.getElem?_map] at hi
        obtain ⟨q, hq, rfl⟩ := Option.map_eq_some_iff.mp hi
        refine ⟨_, rfl, _, rfl, L, q.1, q.2, rfl, (tx q (List.mem_of_getElem? hq)).same s2, fun H2 s3 => ⟨_, rfl, ?_⟩⟩
        have hil : i < xs.length := (List.getElem?_eq_some_iff.mp hq).1
        refine iteB (fun h => ?_) (fun h => ?_)
        · have h : wordOk L q.2 = false := by simpa using h
          refine ⟨_, rfl, er_mk fun d H' s4 hd e => ?_⟩
          refine kf true q.1 ?_ d H' (s2.trans (s3.trans s4)) e
          have hf : xs.find? (fun p => !wordOk L p.2) = some q := by
            rw
              [List.find?_eq_some_iff_getElem]
            refine ⟨by simp [h], i, hil, ?_, fun j hj => ?_⟩
            · have := List.getElem?_eq_some_iff.mp hq
              exact this.2
            · have := hw j hj xs[j] (List.getElem?_eq_getElem (by omega))
              simp [this]
          unfold badOf
          rw [if_pos hl]
          show Option.map _ (xs.find? fun p => !wordOk L p.2) = _
          rw [hf]; rfl
        · have h : wordOk L q.2 = true := by simpa using h
          refine ⟨s2.trans s3, fun j hj q' hq' => ?_, _, rfl⟩
          by_cases e : j = i
          · subst e
            rw [hq] at hq'
            cases hq'
            exact h
          · exact hw j (by omega) q' hq'
      · rintro σ H' ⟨s2, hw, z, rfl⟩
        refine k ?_ H' s2
        unfold badOf
        rw [if_pos hl]
        show Option.map _ (xs.find? fun p => !wordOk L p.2) = none
        have hf : xs.find? (fun p => !wordOk L p.2) = none := by
          rw [List.find?_eq_none]
          intro q hq
          obtain
            ⟨j, hj⟩ := List.mem_iff_getElem?.mp hq
          have hjl := (List.getElem?_eq_some_iff.mp hj).1
          rw [List.length_map] at hw
          simp [hw j hjl q hj]
        rw [hf]; rfl
    · refine kf b u ?_ d H' s' e'
      by_cases hl : letOk o = true
      · rw [if_pos hl] at e; cases e
      · unfold badOf
        rw [if_neg hl] at e ⊢
        exact e
end
end Ws

/-! numbers of classes: equal exactly for words kept (plain mathematics) -/
namespace Ws
open PySem PySem.Spec PyProof.Rows L2
def BB : Int := 16777216
structure RowsOk (rows : List (List Int)) : Prop where
  nd : rows.Nodup
  srt : rows.Pairwise (fun q r => TS.code BB q ≤ TS.code BB r)
  bd : ∀ r ∈ rows, r.length = 3 ∧ TS.Bd BB r
/-- n is the number of the class of u by k -/
def Means (ks : List (List Int)) : Nat → Nat → List Nat → Prop
  | 0, n, _ => ks[n]? = some [0]
  | k + 1, n, u => ∃ rows : List (List Int), ks[n]? = some (((k + 1 : Nat) : Int) :: rows.flatten) ∧ RowsOk rows ∧
      (∀ (x : List Nat) (c : Nat) (y : List Nat), u = x ++ c :: y → ∃ a b : Nat, [(a : Int), (c : Int), (b : Int)] ∈ rows ∧ Means ks k a x ∧ Means ks k b y) ∧
      (∀ r ∈ rows, ∃ (x : List Nat) (c : Nat) (y : List Nat) (a b : Nat), u = x ++ c :: y ∧ r = [(a : Int), (c : Int), (b : Int)] ∧ Means ks k a x ∧ Means ks k b y)

theorem means_mono {ks ks' : List (List Int)} (h : ∀ (n : Nat) (x : List Int), ks[n]? = some x → ks'[n]? = some x) : ∀ {k n : Nat} {u : List Nat}, Means ks k n u → Means ks' k n u
  | 0, n, _, m => h n [0] m
  | k + 1, n, u, ⟨rows, e, ok, f, g⟩ => by
    refine ⟨rows, h _ _ e, ok, fun x c y eu => ?_, fun r hr => ?_⟩
    · obtain ⟨a, b, i, ma, mb⟩ := f x c y eu
      exact ⟨a, b, i, means_mono h ma, means_mono h mb⟩
    · obtain ⟨x, c, y, a, b, eu, er, ma, mb⟩ := g r hr
      exact ⟨x, c, y, a, b, eu, er, means_mono h ma, means_mono h mb⟩

theorem code_inj {B : Int} : ∀ q r : List Int, q.length = r.length → TS.Bd B q → TS.Bd B r → TS.code B q = TS.code B r → q = r
  | [], [], _, _, _, _ => rfl
  | [], _ :: _, h, _, _, _ => by cases h
  | _ :: _, [], h, _, _, _ => by cases h
  | d :: q, e :: r, h, hq, hr, hc => by
    have hl : q.length = r.length := by simpa using h
    rcases Int.lt_trichotomy d e with z | z | z
    · have := TS.code_lt hl hq.tail hr.tail z
      omega
    · subst z
      have h1 : ¬ TS.code B q < TS.code B r := fun z => absurd ((TS.code_same (B := B) (d := d) hl).mpr z) (by omega)
      have h2 : ¬ TS.code B r < TS.code B q := fun z => absurd ((TS.code_same (B := B) (d := d) hl.symm).mpr z) (by omega)
      rw [code_inj q r hl hq.tail hr.tail (by have := Int.lt_trichotomy (TS.code B q) (TS.code B r); rcases this with z | z | z; exact (h1 z).elim; exact z; exact (h2 z).elim)]
    · have := TS.code_lt hl.symm hr.tail hq.tail z
      omega

theorem sorted_ext {α : Type} {R : α → α → Prop} : ∀ (l m : List α), l.Pairwise R → m.Pairwise R → l.Nodup → m.Nodup → (∀ x, x ∈ l ↔ x ∈ m) → (∀ x y, x ∈ l → y ∈ l → R x y → R y x → x = y) → l = m
  | [], [], _, _, _, _, _, _ => rfl
  | [], y :: m, _, _, _, _, h, _ => absurd ((h y).mpr (List.mem_cons_self ..)) (List.not_mem_nil)
  | x :: l, [], _, _, _, _, h, _ => absurd ((h x).mp (List.mem_cons_self ..)) (List.not_mem_nil)
  | x :: l, y :: m, p1, p2, n1, n2, h, anti => by
    obtain ⟨q1, q1'⟩ := List.pairwise_cons.mp p1
    obtain ⟨q2, q2'⟩ := List.pairwise_cons.mp p2
    obtain ⟨w1, w1'⟩ := List.nodup_cons.mp n1
    obtain ⟨w2, w2'⟩ := List.nodup_cons.mp n2
    have e : x = y := by
      rcases List.mem_cons.mp ((h x).mp (List.mem_cons_self ..)) with e | hx
      · exact e
      · rcases List.mem_cons.mp ((h y).mpr (List.mem_cons_self ..)) with e | hy
        · exact e.symm
        · exact anti x y (List.mem_cons_self ..) (List.mem_cons_of_mem _ hy) (q1 y hy) (q2 x hx)
    subst e
    rw [sorted_ext l m q1' q2' w1' w2' (fun z => ⟨fun hz => ?_, fun hz => ?_⟩) (fun a b ha hb => anti a b (List.mem_cons_of_mem _ ha) (List.mem_cons_of_mem _ hb))]
    · rcases List.mem_cons.mp ((h z).mp (List.mem_cons_of_mem _ hz)) with e | q
      · subst e; exact absurd hz w1
      · exact q
    · rcases List.mem_cons.mp ((h z).mpr (List.mem_cons_of_mem _ hz)) with e | q
      · subst e; exact absurd hz w2
      · exact q
theorem flat3_inj : ∀ (l m : List (List Int)), (∀ r ∈ l, r.length = 3) → (∀ r ∈ m, r.length = 3) → l.flatten = m.flatten → l = m
  | [], [], _, _, _ => rfl
  | [], y :: m, _, h, e => by
    have := h y (List.mem_cons_self ..)
    have e2 := congrArg List.length e
    rw [List.flatten_cons, List.length_append] at e2
    have e3 : ([] : List (List Int)).flatten.length = 0 := rfl
    omega
  | x :: l, [], h, _, e => by
    have := h x (List.mem_cons_self ..)
    have e2 := congrArg List.length e
    rw [List.flatten_cons, List.length_append] at e2
    have e3 : ([] : List (List Int)).flatten.length = 0 := rfl
    omega
  | x :: l, y :: m, h1, h2, e => by
    have a1 := h1 x (List.mem_cons_self ..)
    have a2 := h2 y (List.mem_cons_self ..)
    rw [List.flatten_cons, List.flatten_cons] at e
    obtain ⟨e1, e2⟩ := List.append_inj e (by omega)
    rw [e1, flat3_inj l m (fun r hr => h1 r (List.mem_cons_of_mem _ hr)) (fun r hr => h2 r (List.mem_cons_of_mem _ hr)) e2]
theorem rows_ext {l m : List (List Int)} (h1 : RowsOk l) (h2 : RowsOk m) (h : ∀ x, x ∈ l ↔ x ∈ m) : l = m :=
  sorted_ext l m h1.srt h2.srt h1.nd h2.nd h fun x y hx hy a b => by
    obtain ⟨lx, bx⟩ := h1.bd x hx
    obtain ⟨ly, bY⟩ := h1.bd y hy
    exact code_inj x y (by omega) bx bY (by omega)
theorem nodup_at {α : Type} {l : List α} (h : l.Nodup) {n m : Nat} {x : α} (a : l[n]? = some x) (b : l[m]? = some x) : n = m := by
  obtain ⟨hn, en⟩ := List.getElem?_eq_some_iff.mp a
  obtain ⟨hm, em⟩ := List.getElem?_eq_some_iff.mp b
  have p := List.pairwise_iff_getElem.mp h
  rcases Nat.lt_trichotomy n m with z | z | z
  · exact absurd (en.trans em.symm) (p n m hn hm z)
  · exact z
  · exact absurd (em.trans en.symm) (p m n hm hn z)
theorem means_iff {ks : List (List Int)} (nd : ks.Nodup) : ∀ {k n m : Nat} {u v : List Nat}, Means ks k n u → Means ks k m v → (n = m ↔ kept k u v)
  | 0, n, m, u, v, a, b => ⟨fun _ => trivial, fun _ => nodup_at (x := [0]) nd a b⟩
  | k + 1, n, m, u, v, ⟨rows, e, ok, f, g⟩, ⟨rows', e', ok', f', g'⟩ => by
    constructor
    · intro h
      subst h
      have e2 := e.symm.trans e'
      injection e2 with e2
      injection e2 with _ e2
      have er : rows = rows' := flat3_inj _ _ (fun r hr => (ok.bd r hr).1) (fun r hr => (ok'.bd r hr).1) e2
      subst er
      refine ⟨fun x c y eu => ?_, fun x c y eu => ?_⟩
      · obtain ⟨a, b, i, ma, mb⟩ := f x c y eu
        obtain ⟨x', c', y', a', b', ev, er, ma', mb'⟩ := g' _ i
        injection er with h1 h2
        injection h2 with h2 h3
        injection h3 with h3 _
        have h1 : a = a' := by omega
        have h2 : c = c' := by omega
        have h3 : b = b' := by omega
        subst h1 h2 h3
        exact ⟨x', y', ev, (means_iff nd ma ma').mp rfl, (means_iff nd mb mb').mp rfl⟩
      · obtain ⟨a, b, i, ma, mb⟩ := f' x c y eu
        obtain ⟨x', c', y', a', b', ev, er, ma', mb'⟩ := g _ i
        injection er with h1 h2
        injection h2 with h2 h3
        injection h3 with h3 _
        have h1 : a = a' := by omega
        have h2 : c = c' := by omega
        have h3 : b = b' := by omega
        subst h1 h2 h3
        exact ⟨x', y', ev, (means_iff nd ma ma').mp rfl, (means_iff nd mb mb').mp rfl⟩
    · intro h
      have er : rows = rows' := by
        refine rows_ext ok ok' fun r => ⟨fun hr => ?_, fun hr => ?_⟩
        · obtain ⟨x, c, y, a, b, eu, er, ma, mb⟩ := g r hr
          obtain ⟨x', y', ev, p, q⟩ := h.1 x c y eu
          obtain ⟨a', b', i, ma', mb'⟩ := f' x' c y' ev
          have h1 := (means_iff nd ma ma').mpr p
          have h2 := (means_iff nd mb mb').mpr q
          subst h1 h2
          rw [er]; exact i
        · obtain ⟨x, c, y, a, b, eu, er, ma, mb⟩ := g' r hr
          obtain ⟨x', y', ev, p, q⟩ := h.2 x c y eu
          obtain ⟨a', b', i, ma', mb'⟩ := f x' c y' ev
          have h1 := (means_iff nd ma ma').mpr p
          have h2 := (means_iff nd mb mb').mpr q
          subst h1 h2
          rw [er]; exact i
      subst er
      exact nodup_at nd e e'
theorem means_lt {ks : List (List Int)} : ∀ {k n : Nat} {u : List Nat}, Means ks k n u → n < ks.length
  | 0, n, u, h => (List.getElem?_eq_some_iff.mp (show ks[n]? = some [0] from h)).1
  | k + 1, n, u, ⟨_, h, _⟩ => (List.getElem?_eq_some_iff.mp h).1

/-! ### the table of the known keys -/
def knv : Nat → List (List Int) → List (List Key × V)
  | _, [] => []
  | i, k :: r => (k.map Sum.inl, .int (i : Nat)) :: knv (i + 1) r
theorem knv_len : ∀ (i : Nat) (ks : List (List Int)), (knv i ks).length = ks.length
  | _, [] => rfl
  | i, k :: r => by rw [knv, List.length_cons, List.length_cons, knv_len (i + 1) r]
theorem knv_snoc (k : List Int) : ∀ (i : Nat) (ks : List (List Int)), knv i (ks ++ [k]) = knv i ks ++ [(k.map Sum.inl, .int ((i + ks.length : Nat)))]
  | i, [] => rfl
  | i, x :: r => by
    show (x.map Sum.inl, V.int (i : Nat)) :: knv (i + 1) (r ++ [k]) = (x.map Sum.inl, V.int (i : Nat)) :: (knv (i + 1) r ++ [(k.map Sum.inl, .int ((i + (x :: r).length : Nat)))])
    rw [knv_snoc k (i + 1) r, List.length_cons]
    have e : i + 1 + r.length = i + (r.length + 1) := by omega
    rw [e]
theorem inl_inj : ∀ {a b : List Int}, a.map (Sum.inl : Int → Key) = b.map Sum.inl → a = b
  | [], [], _ => rfl
  | [], _ :: _, h => by cases h
  | _ :: _, [], h => by cases h
  | x :: a, y :: b, h => by
    injection h with h1 h2
    injection h1 with h1
    rw [h1, inl_inj h2]
theorem knv_some {k : List Int} {v : V} : ∀ {i : Nat} {ks : List (List Int)}, valV (knv i ks) (k.map Sum.inl) = some v → ∃ n : Nat, v = .int ((i + n : Nat)) ∧ ks[n]? = some k
  | i, [], h => by cases h
  | i, x :: r, h => by
    by_cases e : x = k
    · subst e
      rw [knv, valV_pos rfl] at h
      injection h with h
      exact ⟨0, h.symm, rfl⟩
    · rw [knv, valV_neg (fun z => e (inl_inj z))] at h
      obtain ⟨n, e1, e2⟩ := knv_some h
      refine ⟨n + 1, ?_, by simpa using e2⟩
      rw [e1]
      have : i + 1 + n = i + (n + 1) := by omega
      rw [this]
theorem knv_none {k : List Int} : ∀ {i : Nat} {ks : List (List Int)}, valV (knv i ks) (k.map Sum.inl) = none → k ∉ ks
  | i, [], _ => List.not_mem_nil
  | i, x :: r, h => by
    by_cases e : x = k
    · subst e
      rw [knv, valV_pos rfl] at h
      cases h
    · rw [knv, valV_neg (fun z => e (inl_inj z))] at h
      intro m
      rcases List.mem_cons.mp m with q | q
      · exact e q.symm
      · exact knv_none h q
/-- ks' is ks, or ks with key behind; key stands at n -/
structure Step (ks ks' : List (List Int)) (key : List Int) (n : Nat) : Prop where
  at_ : ks'[n]? = some key
  or : ks' = ks ∨ (key ∉ ks ∧ ks' = ks ++ [key])
theorem Step.pre {ks ks' : List (List Int)} {key : List Int} {n : Nat} (s : Step ks ks' key n) {m : Nat} {x : List Int} (h : ks[m]? = some x) : ks'[m]? = some x := by
  rcases s.or with e | ⟨_, e⟩
  · rw [e]; exact h
  · rw [e, List.getElem?_append_left (List.getElem?_eq_some_iff.mp h).1]; exact h
theorem Step.nd {ks ks' : List (List Int)} {key : List Int} {n : Nat} (s : Step ks ks' key n) (h : ks.Nodup) : ks'.Nodup := by
  rcases s.or with e | ⟨f, e⟩
  · rw [e]; exact h
  · rw [e, List.nodup_append]
    refine ⟨h, by simp, fun a ha b hb z => f ?_⟩
    rw [List.mem_singleton] at hb
    rw [← hb, ← z]; exact ha
theorem Step.len {ks ks' : List (List Int)} {key : List Int} {n : Nat} (s : Step ks ks' key n) : ks'.length ≤ ks.length + 1 := by
  rcases s.or with e | ⟨_, e⟩
  · rw [e]; omega
  · rw [e]; simp
/-- what grows -/
structure Grow (ks ks' : List (List Int)) : Prop where
  pre : ∀ (m : Nat) (x : List Int), ks[m]? = some x → ks'[m]? = some x
  nd : ks.Nodup → ks'.Nodup
theorem Grow.refl (ks : List (List Int)) : Grow ks ks := ⟨fun _ _ h => h, fun h => h⟩
theorem Grow.trans {a b c : List (List Int)} (x : Grow a b) (y : Grow b c) : Grow a c := ⟨fun m z h => y.pre m z (x.pre m z h), fun h => y.nd (x.nd h)⟩
theorem Step.grow {ks ks' : List (List Int)} {key : List Int} {n : Nat} (s : Step ks ks' key n) : Grow ks ks' := ⟨fun _ _ h => s.pre h, s.nd⟩
theorem Grow.means {ks ks' : List (List Int)} (g : Grow ks ks') {k n : Nat} {u : List Nat} (h : Means ks k n u) : Means ks' k n u := means_mono g.pre h
end Ws

/-! the classes' numbers -/
namespace Ws
open PySem PySem.Spec PyProof.Rows L2
/-- a method that may be called -/
structure MCal (P : Program) (w : World) (K : PySem.W.Frag) (mg : Str → Option Value) (base : Heap) (C : Addr) (m : Str) (k : Nat) (sp : Sp) : Prop where
  ex : ∃ (f : Addr) (fd : FuncData) (ps : List Str), FnOk P w K mg base CX0 k f fd ps sp ∧ Meth K C m f ∧ Binds K fd ps []
theorem pe_m {X : Cx} {C : Addr} {m : Str} {k j : Nat} {sp : Sp} {o e : Expr} {es : List Expr} {ta : TE} {t : TA} {pos apos : Pos} {pl : Sem Bool} (c : MCal X.prog X.w X.K X.mg X.base C m k sp) (cl : Cls X.K C) (hr : Room j X.A) (hk : k ≤ j) (he : PE X o ta) (ha : PA X (e :: es) t)
    (hst : starEach (e :: es) X.env = (false, eval e X.env) :: starEach es X.env := by rfl) (hpl : (backTo pos (starEach es X.env)).any (·.1) = false := by rfl)
    (ht : eval (.Call (.Attribute o m apos) (e :: es) [] pos) X.env = (do
      let ov ← eval o X.env
      standAt apos.atName
      let (f, first) ← holding [ov] (getMethod ov m pl)
      callWith pos f first (backTo pos (starEach (e :: es) X.env)) (backToKw pos (keywordEach [] X.env))) := by rfl) :
    PE X (.Call (.Attribute o m apos) (e :: es) [] pos) (tMeth C m sp [] E0 ta t) := by
  obtain ⟨f, fd, ps, F, M, b⟩ := c.ex
  exact pe_meth he cl M F (hr.mono hk) b .nil pass0 ha hst hpl ht
structure ClsT (K : PySem.W.Frag) (mg : Str → Option Value) (C : Addr) : Prop where
  cl : Cls K C
  nK : NoAttr K C "known"
  mgC : mg "Classes" = some (.ref C)
structure MkC (P : Program) (w : World) (K : PySem.W.Frag) (mg : Str → Option Value) (base : Heap) (C : Addr) (sp : Sp) : Prop where
  ex : ∃ (f : Addr) (fd : FuncData), FnOk P w K mg base CX0 1 f fd ["self"] sp ∧ Mk K C f ∧ Binds K fd ["self"] []
def ClsAt (C : Addr) (H : Hp) (c dk : Addr) (ks : List (List Int)) : Prop := (∃ dx, H c = some (.ins C dx [("known", .ref dk)])) ∧ H dk = some (.dT (knv 0 ks))
theorem ClsAt.ne {C : Addr} {H : Hp} {c dk : Addr} {ks : List (List Int)} (h : ClsAt C H c dk ks) : c ≠ dk := by
  obtain ⟨⟨dx, e⟩, e2⟩ := h
  exact ne_of e e2 (by intro z; cases z)
theorem ClsAt.same {C : Addr} {H H' : Hp} {c dk : Addr} {ks : List (List Int)} (h : ClsAt C H c dk ks) (s : Same H H') : ClsAt C H' c dk ks := by
  obtain ⟨⟨dx, e⟩, e2⟩ := h
  exact ⟨⟨dx, s _ _ e⟩, s _ _ e2⟩
def spCI (C : Addr) : Sp := fun vs H Q _ => ∃ p dx, vs = [.ref p] ∧ H p = some (.ins C dx []) ∧ ∀ dk, H dk = none → Q .non (upd (upd H dk (.dT [])) p (.ins C dx [("known", .ref dk)]))
theorem yesT {σ : L2.St} {H : Hp} {A B : Hp → Prop} (h : A H) : tYes σ H fun b H3 => if b = true then A H3 else B H3 := iteT (A := A H) (B := B H) h
/-- the key of k and the rows -/
def keyOf (k : Int) (rows : List (List Int)) : List Int := k :: rows.flatten
theorem kv_ints (l : List Int) : (l.map (Sum.inl : Int → Key)).map kV = l.map V.int := by rw [List.map_map]; rfl
theorem flat_ints : ∀ rs : List (Addr × List Int), rs.flatMap (fun p => p.2.map V.int) = ((rs.map (·.2)).flatten).map V.int
  | [] => rfl
  | p :: rs => by
    rw [List.flatMap_cons, flat_ints rs, List.map_cons, List.flatten_cons, List.map_append]
theorem flat_len {rs : List (Addr × List Int)} (h : ∀ p ∈ rs, p.2.length = 3) : (rs.flatMap (fun p => p.2.map V.int)).length = 3 * rs.length := by
  induction rs with
  | nil => rfl
  | cons p rs ih =>
    rw [List.flatMap_cons, List.length_append, ih (fun q hq => h q (List.mem_cons_of_mem _ hq)), List.length_map, h p (List.mem_cons_self ..), List.length_cons]
    omega
/-- rows that stand as tuples in a list -/
structure RowsAt (K : PySem.W.Frag) (H : Hp) (r : Addr) (rs : List (Addr × List Int)) : Prop where
  at_ : SqL K H r (rs.map fun p => V.ref p.1)
  tup : ∀ p ∈ rs, SqT K H p.1 (p.2.map V.int)
  few : rs.length < 64
  three : ∀ p ∈ rs, p.2.length = 3
def spNum (K : PySem.W.Frag) (C : Addr) : Sp := fun vs H Q _ => ∃ (c dk : Addr) (ks : List (List Int)) (k : Int) (r : Addr) (rs : List (Addr × List Int)), vs = [.ref c, .int k, .ref r] ∧ ClsAt C H c dk ks ∧ ks.length < 10000000 ∧
  RowsAt K H r rs ∧ ∀ (n : Nat) ks' H', Ext dk H H' → ClsAt C H' c dk ks' → Step ks ks' (keyOf k (rs.map (·.2))) n → Q (.int n) H'
section
variable {P : Program} {w : World} {K : PySem.W.Frag} {mg : Str → Option Value} {base : Heap} {f C : Addr} {fd : FuncData}
abbrev s_CI : Stmt := (inClass (top 15) 0)
theorem sc_CI : FnScope ["self"] ["self"] (defScope s_CI) := ⟨rfl, rfl, rfl, by decide +kernel, rfl, by decide +kernel, by decide +kernel⟩
theorem ok_CI (CT : ClsT K mg C) (F : L2.Fun K "__init__" "Classes.__init__" s_CI f fd) : FnOk P w K mg base CX0 1 f fd ["self"] (spCI C) := by
  refine F.ok sc_CI (fun vs H Q E h => ?_) (fun cdv A outer s H vs Q E hr h => ?_)
  · obtain ⟨p, dx, rfl, _⟩ := h
    rfl
  · obtain ⟨p, dx, rfl, hp, k⟩ := h
    refine ⟨_, pss_one (ps_fld (pv 0) pe_dnewT rfl), ?_⟩
    intro d hd
    exact ⟨_, rfl, p, C, dx, [], rfl, by rw [upd_ne (ne_of_none hp hd)]; exact hp, CT.cl, CT.nK, by show 0 < 1000; decide, k d hd⟩

abbrev s_num : Stmt := (inClass (top 15) 1)
abbrev N_num : List Str := ["self", "k", "around", "key", "triple", "item"]
theorem sc_num : FnScope N_num ["self", "k", "around"] (defScope s_num) := ⟨rfl, rfl, rfl, by decide +kernel, rfl, by decide +kernel, by decide +kernel⟩
theorem ok_num (T : Bl mg) (CT : ClsT K mg C) (F : L2.Fun K "number" "Classes.number" s_num f fd) : FnOk P w K mg base CX0 1 f fd ["self", "k", "around"] (spNum K C) := by
  refine F.ok sc_num (fun vs H Q E h => ?_) (fun cdv A outer s H vs Q E hr h => ?_)
  · obtain ⟨c, dk, ks, k, r, rs, rfl, _⟩ := h
    rfl
  · obtain ⟨c, dk, ks, k, r, rs, rfl, hc, hkl, hR, kq⟩ := h
    have nd := sc_num.nd
    have hu := hu_of hr
    refine ⟨_, (C8.pss_cut (ps_set (i := 3) nd rfl (.inl rfl) (pe_op op_catT (pe_tup (pa_cons (pv 1) pa_nil)) (pe_callTy call_tuple_of (by rfl) T.tuple (by decide +kernel) (pa_cons
        (pe_lc2 (own := [("triple", 4), ("item", 5)]) (vs1 := [5]) (wi1 := iTup K (tVar 4)) rfl nd (pi_list (pv 2)) (blkOk_by (N := N_num) rfl) (by decide) (fun _ _ _ _ _ => pg_name (i := 4) nd rfl (.inl rfl)) (fun _ _ _ _ _ => pts_nil)
          (fun _ _ _ _ _ => pi_tup (pv 4)) (fun _ _ _ _ _ => pg_name (i := 5) nd rfl (.inl rfl)) (fun _ _ _ _ _ => pts_nil) (fun _ _ _ _ _ => pv 5)) pa_nil))))
      (pss_one (ps_ret (pe_dsetdT hu (pe_fld (pv 0) rfl) (pv 3) (pe_callB call_len_dT (by rfl) T.len PySem.boot_len (pa_cons (pe_fld (pv 0) rfl) pa_nil)) ⟨rfl, rfl, rfl, rfl⟩)))), ?_⟩
    refine ⟨fun σ' H' => ∃ b z y, σ' = [some (.ref c), some (.int k), some (.ref r), some (.ref b), z, y] ∧ Same H H' ∧ H' b = some (.tup ((keyOf k (rs.map (·.2))).map V.int)), ?_, ?_⟩
    · refine ⟨_, rfl, by show 1 ≤ sizeLine; decide, fun t ht => ?_⟩
      have s1 : Same H (upd H t (.tup [.int k])) := Same.new ht
      refine ⟨_, rfl, r, rfl, ⟨_, s1.seq hR.at_⟩, fun D hD => ?_⟩
      let flat : Nat → List V := fun i => (rs.take i).flatMap fun p => p.2.map V.int
      have flen : ∀ i, (flat i).length ≤ 192 := fun i => by
        have h3 := flat_len (rs := rs.take i) (fun p hp => hR.three p (List.mem_of_mem_take hp))
        have := hR.few
        have h4 : (rs.take i).length ≤ rs.length := by simp; omega
        show ((rs.take i).flatMap fun p => p.2.map V.int).length ≤ 192
        omega
      have hWl : Walk (Itl K r) (rs.map fun p => V.ref p.1).length (fun H => SqL K H r (rs.map fun p => V.ref p.1)) (YAt (rs.map fun p => V.ref p.1)) := walk_list
      refine ⟨fun i m H' => m = rs.length - i ∧ i ≤ rs.length ∧ Same (upd H t (.tup [.int k])) H' ∧ H' D = some (.lst (flat i)), ⟨_, rfl, Nat.zero_le _, Same.new hD, upd_same⟩, ?_⟩
      rintro i m H' ⟨rfl, hi, s2, eD⟩
      by_cases hlt : i < rs.length
      · have hS2 : SqL K H' r (rs.map fun p => V.ref p.1) := (s1.trans s2).seq hR.at_
        refine .inr ⟨hWl.goes i H' (by rw [List.length_map]; exact hlt) hS2, fun H3 => i + 1 ≤ rs.length ∧ Same (upd H t (.tup [.int k])) H3 ∧ H3 D = some (.lst (flat (i + 1))),
          fun H3 p => ⟨rs.length - (i + 1), by omega, rfl, p⟩, fun x H3 y => ?_⟩
        obtain ⟨rfl, hx⟩ := hWl.yields i H' x H3 (by rw [List.length_map]; exact hlt) hS2 y
        rw [List.getElem?_map, List.getElem?_eq_getElem hlt] at hx
        have hx : V.ref rs[i].1 = x := Option.some.inj hx
        subst hx
        have hm : rs[i] ∈ rs := List.getElem_mem hlt
        have h3 := hR.three _ hm
        have hT2 : SqT K H3 rs[i].1 (rs[i].2.map V.int) := Ws.Same.seqT (s1.trans s2) (hR.tup _ hm)
        have hWt : Walk (Itt K rs[i].1) (rs[i].2.map V.int).length (fun H => SqT K H rs[i].1 (rs[i].2.map V.int)) (YAt (rs[i].2.map V.int)) := walk_tup
        have fs : flat (i + 1) = flat i ++ rs[i].2.map V.int := by
          show (rs.take (i + 1)).flatMap _ = (rs.take i).flatMap _ ++ _
          rw [List.take_succ, List.getElem?_eq_getElem hlt, List.flatMap_append]
          simp
        refine ⟨rfl, ?_⟩
        refine yesT ?_
        refine ⟨_, rfl, rs[i].1, rfl, ⟨_, hT2⟩, fun j m H4 => m = 3 - j ∧ j ≤ 3 ∧ Same (upd H t (.tup [.int k])) H4 ∧ H4 D = some (.lst (flat i ++ (rs[i].2.map V.int).take j)), ⟨_, rfl, Nat.zero_le _, s2, by rw [eD]; simp⟩, ?_⟩
        rintro j m H4 ⟨rfl, hj, s4, e4⟩
        have hT4 : SqT K H4 rs[i].1 (rs[i].2.map V.int) := Ws.Same.seqT (s1.trans s4) (hR.tup _ hm)
        by_cases hjl : j < 3
        · have hjl' : j < (rs[i].2.map V.int).length := by rw [List.length_map, h3]; exact hjl
          refine .inr ⟨hWt.goes j H4 hjl' hT4, fun H5 => j + 1 ≤ 3 ∧ Same (upd H t (.tup [.int k])) H5 ∧ H5 D = some (.lst (flat i ++ (rs[i].2.map V.int).take (j + 1))), fun H5 p => ⟨3 - (j + 1), by omega, rfl, p⟩, fun x H5 y => ?_⟩
          obtain ⟨rfl, hx⟩ := hWt.yields j H4 x H5 hjl' hT4 y
          refine ⟨rfl, ?_⟩
          refine yesT ?_
          refine ⟨_, rfl, _, e4, ?_, hjl, ?_, ?_⟩
          · have := flen i
            rw [List.length_append, List.length_take, sizeLine_eq]
            omega
          · intro b o e
            rw [upd_ne (ne_of_none e hD)]
            exact s4 _ _ e
          · rw [upd_same, List.take_succ, hx, List.append_assoc]
            rfl
        · have ej : j = 3 := by omega
          subst ej
          refine .inl ⟨hWt.stops H4 hT4 |> fun h => ?_, hlt, s4, ?_⟩
          · have : (rs[i].2.map V.int).length = 3 := by rw [List.length_map, h3]
            rw [this] at h
            exact h
          · rw [e4, fs, List.take_of_length_le (by rw [List.length_map, h3]; omega)]
      · have ei : i = rs.length := by omega
        subst ei
        have hS2 : SqL K H' r (rs.map fun p => V.ref p.1) := (s1.trans s2).seq hR.at_
        refine .inl ⟨hWl.stops H' hS2 |> fun h => ?_, ?_⟩
        · rw [List.length_map] at h
          exact h
        have ef : flat rs.length = ((rs.map (·.2)).flatten).map V.int := by
          show (rs.take rs.length).flatMap _ = _
          rw [List.take_length, flat_ints]
        rw [ef] at eD
        refine ⟨D, _, rfl, .inl ⟨SqL.of eD, fun l hl => ?_⟩⟩
        have ht2 : upd H' l (.tup (((rs.map (·.2)).flatten).map V.int)) t = some (.tup [.int k]) := by
          have h0 := s2 _ _ (upd_same (H := H) (a := t) (o := .tup [.int k]))
          rw [upd_ne (ne_of_none h0 hl)]
          exact h0
        have s5 : Same H (upd H' l (.tup (((rs.map (·.2)).flatten).map V.int))) := (s1.trans s2).trans (Same.new hl)
        refine ⟨t, l, [.int k], _, rfl, rfl, SqT.of ht2, SqT.of upd_same, by simp, ?_, fun e => ?_, fun e p hp => ?_⟩
        · have := flen rs.length
          rw [ef] at this
          rw [sizeLine_eq]
          simp only [List.length_cons, List.length_nil] at this ⊢
          omega
        · refine ⟨t, none, none, rfl, s5, ?_⟩
          rw [ht2]
          have e2 : (rs.map (·.2)).flatten = [] := List.map_eq_nil_iff.mp e
          unfold keyOf
          rw [e2]
          rfl
        · refine ⟨p, none, none, rfl, s5.trans (Same.new hp), ?_⟩
          rw [upd_same]
          rfl
    · rintro σ' H' ⟨b, z, y, rfl, s1, eb⟩
      obtain ⟨⟨dx, e1⟩, e2⟩ := hc.same s1
      refine ⟨_, rfl, c, C, dx, _, _, rfl, e1, CT.cl, CT.nK, rfl, dk, rfl, .inr ⟨_, .inl e2⟩, _, rfl, _, rfl, c, C, dx, _, _, rfl, e1, CT.cl, CT.nK, rfl, dk, knv 0 ks, rfl, e2, ?_⟩
      refine ⟨knv 0 ks, (keyOf k (rs.map (·.2))).map Sum.inl, b, e2, rfl, by rw [kv_ints]; exact eb, by rw [knv_len, sizeLine_eq]; omega, fun v hv => ?_, fun hv => ?_⟩
      · obtain ⟨n, rfl, hn⟩ := knv_some hv
        rw [Nat.zero_add]
        exact kq n ks H' (Ext.of s1) (hc.same s1) ⟨hn, .inl rfl⟩
      · rw [putK_new _ hv, knv_len]
        have en : knv 0 ks ++ [((keyOf k (rs.map (·.2))).map Sum.inl, V.int ((ks.length : Nat) : Int))] = knv 0 (ks ++ [keyOf k (rs.map (·.2))]) := by
          rw [knv_snoc, Nat.zero_add]
        rw [en]
        have ncd : c ≠ dk := hc.ne
        refine kq ks.length _ _ ((Ext.of s1).trans Ext.upd) ⟨⟨dx, by rw [upd_ne ncd]; exact e1⟩, upd_same⟩ ⟨by simp, .inr ⟨knv_none hv, rfl⟩⟩
theorem refs_of {H : Hp} : ∀ {ys : List V} {row : Nat → List Int} (h : ∀ i v, ys[i]? = some v → ∃ p, v = .ref p ∧ H p = some (.tup ((row i).map V.int))),
    ∃ ks : List (Addr × List Int), ys = ks.map (fun p => V.ref p.1) ∧ ks.length = ys.length ∧ ∀ i p, ks[i]? = some p → p.2 = row i ∧ H p.1 = some (.tup (p.2.map V.int))
  | [], row, _ => ⟨[], rfl, rfl, fun i p h => by simp at h⟩
  | y :: ys, row, h => by
    obtain ⟨p, rfl, e⟩ := h 0 y rfl
    obtain ⟨ks, e1, e2, e3⟩ := refs_of (ys := ys) (row := fun i => row (i + 1)) (fun i v hv => h (i + 1) v (by simpa using hv))
    refine ⟨(p, row 0) :: ks, by rw [List.map_cons, ← e1], by simp [e2], fun i q hq => ?_⟩
    cases i with
    | zero =>
      simp at hq
      subst hq
      exact ⟨rfl, e⟩
    | succ i => exact e3 i q (by simpa using hq)
def spAro (K : PySem.W.Frag) : Sp := fun vs H Q _ => ∃ (c : V) (u : List Nat) (m : Addr) (k : Nat) (lo hi : Nat), vs = [c, .str (S u), .ref m, .int k, .int lo, .int hi] ∧ u.length ≤ 60 ∧ lo ≤ hi ∧ hi ≤ u.length ∧
  (k = 0 → ∀ r H', Same H H' → RowsAt K H' r [] → Q (.ref r) H') ∧
  (∀ k', k = k' + 1 → ∃ (mv : List (List Key × V)) (fa fb : Nat → Nat), H m = some (.dT mv) ∧
    (∀ s, lo ≤ s → s < hi → valV mv [.inl (k' : Nat), .inl (lo : Nat), .inl (s : Nat)] = some (.int (fa s : Nat)) ∧ valV mv [.inl (k' : Nat), .inl ((s + 1 : Nat)), .inl (hi : Nat)] = some (.int (fb s : Nat)) ∧ fa s < 16777216 ∧ fb s < 16777216 ∧ u.getD s 0 < 16777216) ∧
    ∀ r rs H', Same H H' → RowsAt K H' r rs → RowsOk (rs.map (·.2)) → (∀ x, x ∈ rs.map (·.2) ↔ ∃ s, lo ≤ s ∧ s < hi ∧ x = [(fa s : Int), (u.getD s 0 : Int), (fb s : Int)]) → Q (.ref r) H')
abbrev s_aro : Stmt := (inClass (top 15) 3)
abbrev N_aro : List Str := ["self", "w", "made", "k", "low", "high", "rows", "s"]
theorem sc_aro : FnScope N_aro ["self", "w", "made", "k", "low", "high"] (defScope s_aro) := ⟨rfl, rfl, rfl, by decide +kernel, rfl, by decide +kernel, by decide +kernel⟩
theorem ok_aro (T : Bl mg) (F : L2.Fun K "around" "Classes.around" s_aro f fd) : FnOk P w K mg base CX0 1 f fd ["self", "w", "made", "k", "low", "high"] (spAro K) := by
  refine F.ok sc_aro (fun vs H Q E h => ?_) (fun cdv A outer s H vs Q E hr h => ?_)
  · obtain ⟨c, u, m, k, lo, hi, rfl, _⟩ := h
    rfl
  · obtain ⟨c, u, m, k, lo, hi, rfl, hul, hlh, hhu, hk0, hk1⟩ := h
    have nd := sc_aro.nd
    have hu := hu_of hr
    refine ⟨_, (pss_cons (ps_if (pt_cmpR op_eq (pv 3) pe_int (nomark _))
      (pss_one (ps_ret (pe_lst pa_nil)))
      pss_nil)
      (pss_cons (ps_setLc (i := 6) (own := [("s", 7)]) rfl nd rfl rfl (sw_true rfl rfl rfl (by decide +kernel)) (pi_range2 (by rfl) T.range (pa_cons (pv 4) (pa_cons (pv 5) pa_nil))) (blkOk_by (N := N_aro) rfl) (fun _ _ _ _ _ => (pg_name (i := 7) nd rfl (.inl rfl))) (fun _ _ _ _ _ => pts_nil)
        (fun _ _ _ _ _ => (pe_tup (pa_cons (pe_dget hu (pv 2) (pe_tup (pa_cons (pe_op op_sub (pv 3) pe_int) (pa_cons (pv 4) (pa_cons (pv 7) pa_nil)))) (fun _ _ => rfl)) (pa_cons (pe_callB call_ord (by rfl) T.ord (by decide +kernel) (pa_cons (pe_ix ix_str (pv 1) (pv 7) (fun _ _ => rfl)) pa_nil)) (pa_cons (pe_dget hu (pv 2) (pe_tup (pa_cons (pe_op op_sub (pv 3) pe_int) (pa_cons (pe_op op_add (pv 7) pe_int) (pa_cons (pv 5) pa_nil)))) (fun _ _ => rfl)) pa_nil))))))
      (pss_one (ps_ret (pe_callB (cr_sortedT rfl) (by rfl) T.sorted (by decide +kernel) (pa_cons (pe_callTy (cr_setOfT rfl hr.units) (by rfl) T.set (by decide +kernel) (pa_cons (pv 6) pa_nil)) pa_nil)))))), ?_⟩
    refine ⟨_, rfl, rfl, _, rfl, ?_⟩
    refine iteV (fun h0 => ?_) (fun h0 => ?_)
    · have ek : k = 0 := by
        have := V.int.inj h0
        omega
      refine ⟨Nat.zero_le _, fun l hl => hk0 ek l _ (Same.new hl) ⟨SqL.of upd_same, fun p hp => absurd hp List.not_mem_nil, by decide, fun p hp => absurd hp List.not_mem_nil⟩⟩
    · obtain ⟨k', rfl⟩ : ∃ k', k = k' + 1 := by
        cases k with
        | zero => exact absurd rfl h0
        | succ k' => exact ⟨k', rfl⟩
      obtain ⟨mv, fa, fb, hm, hf, kq⟩ := hk1 k' rfl
      let row : Nat → List Int := fun i => [(fa (lo + i) : Int), (u.getD (lo + i) 0 : Int), (fb (lo + i) : Int)]
      have en : (((hi : Nat) : Int) - ((lo : Nat) : Int)).toNat = hi - lo := by omega
      refine ⟨_, rfl, _, rfl, _, _, rfl, ⟨by omega, by omega, by omega, by omega⟩, fun D hD => ?_⟩
      rw [en]
      refine lcR (walk_range (lo := (lo : Int)) (n := hi - lo)) hD (by rw [sizeLine_eq]; omega) (fun i v H => ∃ p, v = .ref p ∧ H p = some (.tup ((row i).map V.int)))
        (fun i v H1 H2 e hx r => ?_) (fun _ _ => True.intro) (fun i x H1 H1' hi' s1 hx y Q' q => ?_) (fun ys H1 s1 e1 hl1 hr1 => ?_)
      · obtain ⟨p, rfl, hp⟩ := r
        obtain ⟨xs, hx⟩ := hx
        refine ⟨p, rfl, e p _ (fun z => ?_) hp⟩
        rw [z, hx] at hp
        cases hp
      · obtain ⟨rfl, rfl⟩ := y
        obtain ⟨v1, v2, b1, b2, b3⟩ := hf (lo + i) (by omega) (by omega)
        have hm1 := s1 _ _ hm
        have hz : (S u).length ≤ sizeLine := by rw [SX.S_len, sizeLine_eq]; omega
        have hsl : lo + i < u.length := by omega
        have ec : u.getD (lo + i) 0 = u[lo + i] := by rw [List.getD_eq_getElem?_getD, List.getElem?_eq_getElem hsl]; rfl
        refine ⟨rfl, ?_⟩
        refine ⟨_, rfl, _, rfl, _, _, rfl, rfl, _, rfl, _, rfl, by show 3 ≤ sizeLine; decide, fun t1 ht1 => ?_⟩
        refine ⟨m, .int (fa (lo + i) : Nat), rfl, ?_, ?_⟩
        · have g := DGet.t (b := t1) (k := [.inl (k' : Nat), .inl (lo : Nat), .inl ((lo + i : Nat))]) ((Same.new (o := .tup [.int (((k' + 1 : Nat) : Int) - 1), .int (lo : Nat), .int ((lo : Int) + (i : Int))]) ht1) _ _ hm1) (by
            rw [upd_same]
            have e1 : (((k' + 1 : Nat) : Int) - 1) = ((k' : Nat) : Int) := by omega
            have e2 : ((lo : Int) + (i : Int)) = ((lo + i : Nat) : Int) := by omega
            rw [e1, e2]
            rfl)
          rw [v1] at g
          exact g
        refine ⟨_, rfl, _, rfl, _, _, u[lo + i], rfl, rfl, hz, ?_, _, rfl, rfl, ?_⟩
        · have z := atI_nat (xs := u) (j := lo + i) (v := u[lo + i]) (by simp [hsl])
          have e2 : ((lo : Int) + (i : Int)) = ((lo + i : Nat) : Int) := by omega
          rw [e2]
          simpa [S, SX.S] using z
        refine ⟨_, rfl, _, rfl, _, _, rfl, rfl, _, rfl, _, _, rfl, rfl, _, rfl, by show 3 ≤ sizeLine; decide, fun t3 ht3 => ?_⟩
        refine ⟨m, .int (fb (lo + i) : Nat), rfl, ?_, ?_⟩
        · have g := DGet.t (b := t3) (k := [.inl (k' : Nat), .inl ((lo + i + 1 : Nat)), .inl (hi : Nat)]) ((Same.new (o := .tup [.int (((k' + 1 : Nat) : Int) - 1), .int ((lo : Int) + (i : Int) + 1), .int (hi : Nat)]) ht3) _ _ ((Same.new ht1) _ _ hm1)) (by
            rw [upd_same]
            have e1 : (((k' + 1 : Nat) : Int) - 1) = ((k' : Nat) : Int) := by omega
            have e2 : ((lo : Int) + (i : Int) + 1) = ((lo + i + 1 : Nat) : Int) := by omega
            rw [e1, e2]
            rfl)
          rw [v2] at g
          exact g
        refine ⟨by show 3 ≤ sizeLine; decide, fun t ht => ?_⟩
        refine q _ _ ((Same.new ht1).trans ((Same.new ht3).trans (Same.new ht))) ⟨t, rfl, ?_⟩
        rw [upd_same]
        show some (HO.tup [V.int (fa (lo + i) : Nat), V.int ((u[lo + i] : Nat) : Int), V.int (fb (lo + i) : Nat)]) = some (HO.tup [V.int (fa (lo + i) : Nat), V.int ((u.getD (lo + i) 0 : Nat) : Int), V.int (fb (lo + i) : Nat)])
        rw [ec]
      · obtain ⟨ks, e2, hl2, e3⟩ := refs_of (row := row) hr1
        have hkl : ks.length = hi - lo := by rw [hl2, hl1]
        have mem : ∀ p ∈ ks, H1 p.1 = some (.tup (p.2.map V.int)) ∧ ∃ s, lo ≤ s ∧ s < hi ∧ p.2 = [(fa s : Int), (u.getD s 0 : Int), (fb s : Int)] := fun p hp => by
          obtain ⟨i, hi2⟩ := List.mem_iff_getElem?.mp hp
          obtain ⟨a, b⟩ := e3 i p hi2
          have hil := (List.getElem?_eq_some_iff.mp hi2).1
          exact ⟨b, lo + i, by omega, by omega, a⟩
        refine ⟨_, rfl, D, ks, rfl, SqL.of (by rw [e1, e2]), fun p hp => SqT.of (mem p hp).1, by omega, fun a L ha hsub hall => ?_⟩
        have len3 : ∀ p ∈ ks, p.2.length = 3 ∧ TS.Bd BB p.2 := fun p hp => by
          obtain ⟨_, s, h1, h2, e⟩ := mem p hp
          obtain ⟨_, _, b1, b2, b3⟩ := hf s h1 h2
          rw [e]
          refine ⟨rfl, fun z hz => ?_⟩
          simp only [List.mem_cons, List.not_mem_nil, or_false] at hz
          show 0 ≤ z ∧ z < 16777216
          rcases hz with rfl | rfl | rfl <;> omega
        refine ⟨a, L, 3, BB, rfl, upd_same, fun p hp => SqT.of ((Same.new ha) _ _ (mem p (hsub p hp)).1), by decide, fun p hp => len3 p (hsub p hp), fun L' p perm nodup few pw hp => ?_⟩
        have sub' : ∀ q ∈ L', q ∈ ks := fun q hq => hsub q (perm.mem_iff.mp hq)
        have sAll : Same H (upd (upd H1 a (SetTO P w a L)) p (.lst (L'.map fun q => V.ref q.1))) := (s1.trans (Same.new ha)).trans (Same.new hp)
        refine kq p L' _ sAll ⟨SqL.of upd_same, fun q hq => SqT.of (((Same.new ha).trans (Same.new hp)) _ _ (mem q (sub' q hq)).1), few, fun q hq => (len3 q (sub' q hq)).1⟩
          ⟨nodup, List.pairwise_map.mpr pw, fun x hx => ?_⟩ (fun x => ⟨fun hx => ?_, fun hx => ?_⟩)
        · obtain ⟨q, hq, rfl⟩ := List.mem_map.mp hx
          exact len3 q (sub' q hq)
        · obtain ⟨q, hq, rfl⟩ := List.mem_map.mp hx
          exact (mem q (sub' q hq)).2
        · obtain ⟨s, h1, h2, rfl⟩ := hx
          have hil : s - lo < ks.length := by omega
          have e4 := (e3 (s - lo) ks[s - lo] (List.getElem?_eq_getElem hil)).1
          have e5 : lo + (s - lo) = s := by omega
          have hrow : row (s - lo) = [(fa s : Int), (u.getD s 0 : Int), (fb s : Int)] := by
            show [(fa (lo + (s - lo)) : Int), (u.getD (lo + (s - lo)) 0 : Int), (fb (lo + (s - lo)) : Int)] = _
            rw [e5]
          have hin := hall ks[s - lo] (List.getElem_mem hil)
          rw [e4, hrow] at hin
          exact (perm.map (·.2)).mem_iff.mpr hin
/-- a part of a word -/
def seg (u : List Nat) (l h : Nat) : List Nat := (u.take h).drop l
theorem seg_split {u : List Nat} {l s h : Nat} (h1 : l ≤ s) (h2 : s < h) (h3 : h ≤ u.length) : seg u l h = seg u l s ++ u.getD s 0 :: seg u (s + 1) h := by
  have hs : s < (u.take h).length := by rw [List.length_take]; omega
  have e1 : (u.take h).drop s = u.getD s 0 :: (u.take h).drop (s + 1) := by
    rw [List.drop_eq_getElem_cons hs, List.getElem_take, List.getD_eq_getElem?_getD, List.getElem?_eq_getElem (by omega)]
    rfl
  have e2 : ((u.take h).drop l).take (s - l) = (u.take s).drop l := by
    rw [List.take_drop, List.take_take]
    have : min (l + (s - l)) h = s := by omega
    rw [this]
  have e3 : ((u.take h).drop l).drop (s - l) = (u.take h).drop s := by
    rw [List.drop_drop]
    have : l + (s - l) = s := by omega
    rw [this]
  show (u.take h).drop l = (u.take s).drop l ++ u.getD s 0 :: (u.take h).drop (s + 1)
  rw [← e1, ← e2, ← e3, List.take_append_drop]
theorem seg_len {u : List Nat} {l h : Nat} (h1 : l ≤ h) (h3 : h ≤ u.length) : (seg u l h).length = h - l := by
  unfold seg
  rw [List.length_drop, List.length_take]
  omega
theorem seg_at {u : List Nat} {l h : Nat} (h1 : l ≤ h) (h3 : h ≤ u.length) {x y : List Nat} {c : Nat} (e : seg u l h = x ++ c :: y) :
    l + x.length < h ∧ x = seg u l (l + x.length) ∧ c = u.getD (l + x.length) 0 ∧ y = seg u (l + x.length + 1) h := by
  have el := congrArg List.length e
  rw [seg_len h1 h3, List.length_append, List.length_cons] at el
  have h4 : l + x.length < h := by omega
  have e2 := seg_split (u := u) (l := l) (s := l + x.length) (h := h) (by omega) h4 h3
  rw [e2] at e
  have ll : (seg u l (l + x.length)).length = x.length := by rw [seg_len (by omega) (by omega)]; omega
  obtain ⟨a, b⟩ := List.append_inj e ll
  injection b with b1 b2
  exact ⟨h4, a.symm, b1.symm, b2.symm⟩
theorem seg_all (u : List Nat) : seg u 0 u.length = u := by
  unfold seg
  rw [List.take_length, List.drop_zero]
def kk (k l h : Nat) : List Key := [.inl (k : Nat), .inl (l : Nat), .inl (h : Nat)]
theorem kk_eq {k l h k' l' h' : Nat} : kk k l h = kk k' l' h' ↔ k = k' ∧ l = l' ∧ h = h' := by
  unfold kk
  constructor
  · intro e
    injection e with e1 e
    injection e with e2 e
    injection e with e3 _
    injection e1 with e1
    injection e2 with e2
    injection e3 with e3
    omega
  · rintro ⟨rfl, rfl, rfl⟩
    rfl
theorem no_known {m : Str} {v : V} (h : (m == "known") = false) : List.lookup m [(("known" : Str), v)] = none := by simp [List.lookup, h]
structure TabInv (C : Addr) (H0 H : Hp) (c dk m : Addr) (ks0 ks : List (List Int)) (mv : List (List Key × V)) (u : List Nat) (step : Nat) (Bef : Nat → Nat → Nat → Prop) : Prop where
  ext : Ext dk H0 H
  cls : ClsAt C H c dk ks
  grow : Grow ks0 ks
  klen : ks.length ≤ ks0.length + step
  new : H0 m = none
  at_ : H m = some (.dT mv)
  mlen : mv.length ≤ step
  val : ∀ k l h, l ≤ h → h ≤ u.length → Bef k l h → ∃ n : Nat, valV mv (kk k l h) = some (.int (n : Nat)) ∧ Means ks k n (seg u l h)
theorem TabInv.weak {C : Addr} {H0 H : Hp} {c dk m : Addr} {ks0 ks : List (List Int)} {mv : List (List Key × V)} {u : List Nat} {step step' : Nat} {Bef Bef' : Nat → Nat → Nat → Prop} (t : TabInv C H0 H c dk m ks0 ks mv u step Bef) (hs : step ≤ step')
    (hb : ∀ k l h, l ≤ h → h ≤ u.length → Bef' k l h → Bef k l h) : TabInv C H0 H c dk m ks0 ks mv u step' Bef' :=
  ⟨t.ext, t.cls, t.grow, Nat.le_trans t.klen (by omega), t.new, t.at_, Nat.le_trans t.mlen hs, fun k l h h1 h2 h3 => t.val k l h h1 h2 (hb k l h h1 h2 h3)⟩
def spTab (C : Addr) : Sp := fun vs H Q _ => ∃ (c dk : Addr) (ks : List (List Int)) (u : List Nat) (k : Nat), vs = [.ref c, .str (S u), .int k] ∧ ClsAt C H c dk ks ∧ u.length ≤ 60 ∧ (∀ x ∈ u, x < 16777216) ∧ k ≤ 61 ∧ ks.length ≤ 5000000 ∧
  ∀ m mv ks' H', TabInv C H H' c dk m ks ks' mv u ((k + 1) * ((u.length + 1) * (u.length + 1))) (fun k' _ _ => k' ≤ k) → Q (.ref m) H'
abbrev s_tab : Stmt := (inClass (top 15) 2)
abbrev N_tab : List Str := ["self", "w", "most", "made", "k", "low", "high"]
theorem sc_tab : FnScope N_tab ["self", "w", "most"] (defScope s_tab) := ⟨rfl, rfl, rfl, by decide +kernel, rfl, by decide +kernel, by decide +kernel⟩
/-- one turn -/
theorem tab_turn {C : Addr} {H0 H : Hp} {c dk m : Addr} {ks0 ks : List (List Int)} {mv : List (List Key × V)} {u : List Nat} {step : Nat} {k l h : Nat} (hc0 : ClsAt C H0 c dk ks0) (t : TabInv C H0 H c dk m ks0 ks mv u step (fun k' l' h' => k' < k ∨ (k' = k ∧ (l' < l ∨ (l' = l ∧ h' < h)))))
    (hul : u.length ≤ 60) (hch : ∀ x ∈ u, x < 16777216) (hl : l ≤ h) (hh : h ≤ u.length) (hk : ks0.length ≤ 5000000) (hst : step ≤ 300000) {Qn : VK} {E : XK}
    (next : ∀ (n : Nat) ks' H', TabInv C H0 H' c dk m ks0 ks' mv u (step + 1) (fun k' l' h' => k' < k ∨ (k' = k ∧ (l' < l ∨ (l' = l ∧ h' < h)))) → Means ks' k n (seg u l h) → Qn (.int (n : Nat)) H') :
    spAro K [.ref c, .str (S u), .ref m, .int k, .int l, .int h] H (fun r H1 => spNum K C [.ref c, .int k, r] H1 Qn E) E := by
  have hkl : ks.length ≤ 5300000 := by
    have := t.klen
    omega
  have hdm : m ≠ dk := fun e => by
    have := t.new
    rw [e, hc0.2] at this
    cases this
  -- behind number
  have fin : ∀ (rs : List (Addr × List Int)) (n : Nat) (ks' : List (List Int)) (H1 H2 : Hp), Same H H1 → Ext dk H1 H2 → ClsAt C H2 c dk ks' → Step ks ks' (keyOf k (rs.map (·.2))) n → Means ks' k n (seg u l h) → Qn (.int (n : Nat)) H2 := fun rs n ks' H1 H2 s1 e2 c2 st mn =>
    next n ks' H2 ⟨t.ext.trans ((Ext.of s1).trans e2), c2, t.grow.trans st.grow, by have := st.len; have := t.klen; omega, t.new, e2 _ _ hdm (s1 _ _ t.at_), by have := t.mlen; omega, fun k' l' h' a b d => by
      obtain ⟨n', e, mm⟩ := t.val k' l' h' a b d
      exact ⟨n', e, st.grow.means mm⟩⟩ mn
  refine ⟨.ref c, u, m, k, l, h, rfl, hul, hl, hh, fun hk0 r H1 s1 R => ?_, fun k' hk1 => ?_⟩
  · subst hk0
    exact ⟨c, dk, ks, 0, r, [], rfl, t.cls.same s1, by omega, R, fun n ks' H2 e2 c2 st => fin [] n ks' H1 H2 s1 e2 c2 st (show ks'[n]? = some [0] from st.at_)⟩
  · subst hk1
    have ex : ∀ l' h', l' ≤ h' → h' ≤ u.length → ∃ n : Nat, valV mv (kk k' l' h') = some (.int (n : Nat)) ∧ Means ks k' n (seg u l' h') := fun l' h' a b => t.val k' l' h' a b (.inl (Nat.lt_succ_self _))
    let fn : Nat → Nat → Nat := fun l' h' => if z : l' ≤ h' ∧ h' ≤ u.length then Classical.choose (ex l' h' z.1 z.2) else 0
    have fn_ok : ∀ l' h', l' ≤ h' → h' ≤ u.length → valV mv (kk k' l' h') = some (.int (fn l' h' : Nat)) ∧ Means ks k' (fn l' h') (seg u l' h') := fun l' h' a b => by
      have e : fn l' h' = Classical.choose (ex l' h' a b) := dif_pos ⟨a, b⟩
      rw [e]
      exact Classical.choose_spec (ex l' h' a b)
    have lt : ∀ l' h', l' ≤ h' → h' ≤ u.length → fn l' h' < 16777216 := fun l' h' a b => by
      have := means_lt (fn_ok l' h' a b).2
      omega
    refine ⟨mv, fun s => fn l s, fun s => fn (s + 1) h, t.at_, fun s h1 h2 => ⟨(fn_ok l s h1 (by omega)).1, (fn_ok (s + 1) h (by omega) hh).1, lt _ _ h1 (by omega), lt _ _ (by omega) hh, ?_⟩, fun r rs H1 s1 R ok mem => ?_⟩
    · have hs : s < u.length := by omega
      have e : u.getD s 0 = u[s] := by rw [List.getD_eq_getElem?_getD, List.getElem?_eq_getElem hs]; rfl
      rw [e]
      exact hch _ (List.getElem_mem hs)
    · refine ⟨c, dk, ks, ((k' + 1 : Nat) : Int), r, rs, rfl, t.cls.same s1, by omega, R, fun n ks' H2 e2 c2 st => fin rs n ks' H1 H2 s1 e2 c2 st ⟨rs.map (·.2), (show ks'[n]? = some (((k' + 1 : Nat) : Int) :: (rs.map (·.2)).flatten) from st.at_), ok, fun x ch y e => ?_, fun x hx => ?_⟩⟩
      · obtain ⟨g1, g2, g3, g4⟩ := seg_at hl hh e
        refine ⟨fn l (l + x.length), fn (l + x.length + 1) h, ?_, ?_, ?_⟩
        · rw [g3]
          exact (mem _).mpr ⟨l + x.length, by omega, g1, rfl⟩
        · have := (fn_ok l (l + x.length) (by omega) (by omega)).2
          rw [← g2] at this
          exact st.grow.means this
        · have := (fn_ok (l + x.length + 1) h (by omega) hh).2
          rw [← g4] at this
          exact st.grow.means this
      · obtain ⟨s, h1, h2, rfl⟩ := (mem x).mp hx
        exact ⟨seg u l s, u.getD s 0, seg u (s + 1) h, fn l s, fn (s + 1) h, seg_split h1 h2 hh, rfl, st.grow.means (fn_ok l s h1 (by omega)).2, st.grow.means (fn_ok (s + 1) h (by omega) hh).2⟩
theorem ok_tab (T : Bl mg) (CT : ClsT K mg C) (c_num : MCal P w K mg base C "number" 1 (spNum K C)) (c_aro : MCal P w K mg base C "around" 1 (spAro K)) (F : L2.Fun K "table" "Classes.table" s_tab f fd) :
    FnOk P w K mg base CX0 2 f fd ["self", "w", "most"] (spTab C) := by
  refine F.ok sc_tab (fun vs H Q E h => ?_) (fun cdv A outer s H vs Q E hr h => ?_)
  · obtain ⟨c, dk, ks, u, k, rfl, _⟩ := h
    rfl
  · obtain ⟨c, dk, ks, u, k, rfl, hc, hul, hch, hk61, hkl, kq⟩ := h
    have nd := sc_tab.nd
    have hu := hu_of hr
    refine ⟨_, (pss_cons (ps_set (i := 3) nd rfl (.inl rfl) pe_dnewT)
      (pss_cons (ps_for PassesOwn.never rfl (pi_range1 (by rfl) T.range (pa_cons (pe_op op_add (pv 2) pe_int) pa_nil)) (pg_name (i := 4) nd rfl (.inl rfl))
      (pss_one (ps_for PassesOwn.never rfl (pi_range1 (by rfl) T.range (pa_cons (pe_op op_add (pe_callB call_len_str (by rfl) T.len PySem.boot_len (pa_cons (pv 1) pa_nil)) pe_int) pa_nil)) (pg_name (i := 5) nd rfl (.inl rfl))
      (pss_one (ps_for PassesOwn.never rfl (pi_range2 (by rfl) T.range (pa_cons (pv 5) (pa_cons (pe_op op_add (pe_callB call_len_str (by rfl) T.len PySem.boot_len (pa_cons (pv 1) pa_nil)) pe_int) pa_nil))) (pg_name (i := 6) nd rfl (.inl rfl))
      (pss_one (ps_dput hu (pv 3) (pe_tup (pa_cons (pv 4) (pa_cons (pv 5) (pa_cons (pv 6) pa_nil)))) (pe_m c_num CT.cl hr (by decide) (pv 0) (pa_cons (pv 4) (pa_cons (pe_m c_aro CT.cl hr (by decide) (pv 0) (pa_cons (pv 1) (pa_cons (pv 3) (pa_cons (pv 4) (pa_cons (pv 5) (pa_cons (pv 6) pa_nil)))))) pa_nil))) rfl)))))))
      (pss_one (ps_ret (pv 3))))), ?_⟩
    intro m hm
    have hz : (S u).length ≤ sizeLine := by rw [SX.S_len, sizeLine_eq]; omega
    have en : (((k : Nat) : Int) + 1).toNat = k + 1 := by omega
    have eN : ((((S u).length : Nat) : Int) + 1).toNat = u.length + 1 := by rw [SX.S_len]; omega
    let M := (u.length + 1) * (u.length + 1)
    have hM : M ≤ 3721 := by
      have := Nat.mul_le_mul (show u.length + 1 ≤ 61 by omega) (show u.length + 1 ≤ 61 by omega)
      exact this
    refine ⟨_, rfl, _, _, rfl, rfl, _, rfl, by omega, by omega, ?_⟩
    rw [en]
    refine for_range (lo := 0) (n := k + 1) (fun i σ H' => ∃ z1 z2 z3 ks' mv, σ = [some (.ref c), some (.str (S u)), some (.int k), some (.ref m), z1, z2, z3] ∧ TabInv C H H' c dk m ks ks' mv u (i * M) (fun k' _ _ => k' < i))
      ⟨none, none, none, ks, [], rfl, ⟨Ext.new hm, hc.same (Same.new hm), Grow.refl _, by omega, hm, upd_same, Nat.zero_le _, fun _ _ _ _ _ z => absurd z (Nat.not_lt_zero _)⟩⟩ ?_ ?_
    · rintro i σ H1 hi ⟨z1, z2, z3, ks1, mv1, rfl, t1⟩
      have hiM : i * M ≤ 61 * 3721 := Nat.mul_le_mul (by omega) hM
      rw [show (0 : Int) + (i : Int) = ((i : Nat) : Int) from Int.zero_add _]
      refine ⟨_, rfl, _, rfl, hz, _, _, rfl, rfl, _, rfl, by rw [SX.S_len]; omega, by rw [SX.S_len]; omega, ?_⟩
      rw [eN]
      refine for_range (lo := 0) (n := u.length + 1) (fun l σ H' => ∃ z2 z3 ks' mv, σ = [some (.ref c), some (.str (S u)), some (.int k), some (.ref m), some (.int (i : Nat)), z2, z3] ∧ TabInv C H H' c dk m ks ks' mv u (i * M + l * (u.length + 1)) (fun k' l' _ => k' < i ∨ (k' = i ∧ l' < l)))
        ⟨z2, z3, ks1, mv1, rfl, t1.weak (by omega) (fun k' l' h' _ _ z => by omega)⟩ ?_ ?_
      · rintro l σ H2 hl ⟨z2, z3, ks2, mv2, rfl, t2⟩
        have hlM : l * (u.length + 1) ≤ 60 * 61 := Nat.mul_le_mul (by omega) (by omega)
        rw [show (0 : Int) + (l : Int) = ((l : Nat) : Int) from Int.zero_add _]
        have e2 : ((((S u).length : Nat) : Int) + 1 - ((l : Nat) : Int)).toNat = u.length + 1 - l := by rw [SX.S_len]; omega
        refine ⟨_, rfl, _, rfl, _, rfl, hz, _, _, rfl, rfl, _, _, rfl, ⟨by omega, by omega, by rw [SX.S_len]; omega, by rw [SX.S_len]; omega⟩, ?_⟩
        rw [e2]
        refine for_range (lo := (l : Int)) (n := u.length + 1 - l) (fun j σ H' => ∃ z3 ks' mv, σ = [some (.ref c), some (.str (S u)), some (.int k), some (.ref m), some (.int (i : Nat)), some (.int (l : Nat)), z3] ∧ TabInv C H H' c dk m ks ks' mv u (i * M + l * (u.length + 1) + j) (fun k' l' h' => k' < i ∨ (k' = i ∧ (l' < l ∨ (l' = l ∧ h' < l + j)))))
          ⟨z3, ks2, mv2, rfl, t2.weak (by omega) (fun k' l' h' _ _ z => by omega)⟩ ?_ ?_
        · rintro j σ H3 hj ⟨z3, ks3, mv3, rfl, t3⟩
          rw [show ((l : Int) + (j : Int)) = ((l + j : Nat) : Int) from (Int.natCast_add l j).symm]
          obtain ⟨⟨dx, ec⟩, ed⟩ := id t3.cls
          refine ⟨_, rfl, c, dx, _, rfl, ec, no_known (by decide +kernel), _, rfl, _, rfl, c, dx, _, rfl, ec, no_known (by decide +kernel), _, rfl, _, rfl, _, rfl, _, rfl, _, rfl, ?_⟩
          dsimp only [tNil]
          refine tab_turn (K := K) (E := E0) hc t3 hul hch (by omega) (by omega) hkl (by omega) (fun n ks4 H4 t4 mn => ?_)
          refine ⟨_, rfl, _, rfl, _, rfl, _, rfl, by show 3 ≤ sizeLine; decide, fun t ht => ⟨m, _, rfl, DPut.t (k := kk i l (l + j)) ((Same.new ht) _ _ t4.at_) (by rw [upd_same]; rfl) (by have := t4.mlen; rw [sizeLine_eq]; omega), ?_⟩⟩
          have hdm : m ≠ dk := fun e => by
            have := t4.new
            rw [e, hc.2] at this
            cases this
          have hcm : c ≠ m := fun e => by
            obtain ⟨⟨dx0, e0⟩, _⟩ := hc
            have := t4.new
            rw [← e, e0] at this
            cases this
          refine ⟨_, ks4, _, rfl, ⟨?_, ?_, t4.grow, by have := t4.klen; omega, t4.new, upd_same, ?_, fun k' l' h' a b d => ?_⟩⟩
          · intro b o n e
            have e4 := t4.ext b o n e
            rw [upd_ne (fun z => by rw [z, t4.new] at e; cases e), upd_ne (ne_of_none e4 ht)]
            exact e4
          · obtain ⟨⟨dx4, e4⟩, e5⟩ := t4.cls
            exact ⟨⟨dx4, by rw [upd_ne hcm, upd_ne (ne_of_none e4 ht)]; exact e4⟩, by rw [upd_ne hdm.symm, upd_ne (ne_of_none e5 ht)]; exact e5⟩
          · have h1 := length_putK mv3 (kk i l (l + j)) (.int (n : Nat))
            have h2 := t3.mlen
            omega
          · rw [valV_put]
            by_cases e : kk k' l' h' = kk i l (l + j)
            · obtain ⟨rfl, rfl, rfl⟩ := kk_eq.mp e
              exact ⟨n, by rw [if_pos rfl], mn⟩
            · rw [if_neg e]
              refine t4.val k' l' h' a b ?_
              have ne : ¬ (k' = i ∧ l' = l ∧ h' = l + j) := fun z => e (kk_eq.mpr z)
              omega
        · rintro σ H3 ⟨z3, ks3, mv3, rfl, t3⟩
          refine ⟨_, z3, ks3, mv3, rfl, t3.weak ?_ (fun k' l' h' _ hh z => by omega)⟩
          rw [Nat.succ_mul]
          omega
      · rintro σ H2 ⟨z2, z3, ks2, mv2, rfl, t2⟩
        refine ⟨_, z2, z3, ks2, mv2, rfl, t2.weak ?_ (fun k' l' h' hh1 hh2 z => by omega)⟩
        show i * M + M ≤ (i + 1) * M
        rw [Nat.succ_mul i M]
        exact Nat.le_refl _
    · rintro σ H1 ⟨z1, z2, z3, ks1, mv1, rfl, t1⟩
      exact ⟨_, rfl, kq m mv1 ks1 H1 (t1.weak (Nat.le_refl _) (fun k' l' h' _ _ z => by omega))⟩

def spClassOf (C : Addr) : Sp := fun vs H Q _ => ∃ (c dk : Addr) (ks : List (List Int)) (u : List Nat) (k : Nat), vs = [.ref c, .int k, .str (S u)] ∧ ClsAt C H c dk ks ∧ u.length ≤ 60 ∧ (∀ x ∈ u, x < 16777216) ∧ k ≤ 61 ∧ ks.length ≤ 5000000 ∧
  ∀ (n : Nat) ks' H', Ext dk H H' → ClsAt C H' c dk ks' → Grow ks ks' → ks'.length ≤ ks.length + (k + 1) * ((u.length + 1) * (u.length + 1)) → Means ks' k n u → Q (.int (n : Nat)) H'
abbrev s_class_of : Stmt := (top 16)
theorem sc_class_of : FnScope ["classes", "k", "w"] ["classes", "k", "w"] (defScope s_class_of) := ⟨rfl, rfl, rfl, by decide +kernel, rfl, by decide +kernel, by decide +kernel⟩
theorem ok_class_of (T : Bl mg) (CT : ClsT K mg C) (c_tab : MCal P w K mg base C "table" 2 (spTab C)) (D : Def K mg "class_of" s_class_of f fd ["classes", "k", "w"]) : Cal P w K mg base 3 "class_of" (spClassOf C) := by
  refine D.cal (D.fn.ok sc_class_of (fun vs H Q E h => ?_) (fun cdv A outer s H vs Q E hr h => ?_))
  · obtain ⟨c, dk, ks, u, k, rfl, _⟩ := h
    rfl
  · obtain ⟨c, dk, ks, u, k, rfl, hc, hul, hch, hk61, hkl, kq⟩ := h
    have nd := sc_class_of.nd
    have hu := hu_of hr
    refine ⟨_, (pss_one (ps_ret (pe_dget hu (pe_m c_tab CT.cl hr (by decide) (pv 0) (pa_cons (pv 2) (pa_cons (pv 1) pa_nil))) (pe_tup (pa_cons (pv 1) (pa_cons pe_int (pa_cons (pe_callB call_len_str (by rfl) T.len PySem.boot_len (pa_cons (pv 2) pa_nil)) pa_nil)))) (fun _ _ => rfl)))), ?_⟩
    obtain ⟨⟨dx, ec⟩, ed⟩ := id hc
    have hz : (S u).length ≤ sizeLine := by rw [SX.S_len, sizeLine_eq]; omega
    refine ⟨_, rfl, c, dx, _, rfl, ec, no_known (by decide +kernel), _, rfl, _, rfl, c, dk, ks, u, k, rfl, hc, hul, hch, hk61, hkl, fun m mv ks' H1 t1 => ?_⟩
    refine ⟨_, rfl, _, rfl, _, rfl, hz, by show 3 ≤ sizeLine; decide, fun t ht => ?_⟩
    obtain ⟨n, e, mn⟩ := t1.val k 0 u.length (Nat.zero_le _) (Nat.le_refl _) (Nat.le_refl _)
    rw [seg_all] at mn
    refine ⟨m, .int (n : Nat), rfl, ?_, ?_⟩
    · have g := DGet.t (b := t) (k := kk k 0 u.length) ((Same.new (o := .tup [.int (k : Nat), .int 0, .int (((S u).length : Nat) : Int)]) ht) _ _ t1.at_) (by
        rw [upd_same, SX.S_len]
        rfl)
      rw [e] at g
      exact g
    · exact kq n ks' _ (t1.ext.trans (Ext.of (Same.new ht))) (t1.cls.same (Same.new ht)) t1.grow t1.klen mn
end
end Ws

/-! kept_by, rounds_needed -/
namespace Ws
open PySem PySem.Spec PyProof.Rows L2
open Classical in
noncomputable def keptB (k : Nat) (v w : List Nat) : Bool := decide (kept k v w)
open Classical in
theorem keptB_iff {k : Nat} {v w : List Nat} : keptB k v w = true ↔ kept k v w := by unfold keptB; exact decide_eq_true_iff
theorem keptB_eq {k : Nat} {v w v' w' : List Nat} {k' : Nat} (h : kept k v w ↔ kept k' v' w') : keptB k v w = keptB k' v' w' := by
  cases e : keptB k' v' w' with
  | true => exact keptB_iff.mpr (h.mpr (keptB_iff.mp e))
  | false =>
    cases e2 : keptB k v w with
    | true => rw [keptB_iff.mpr (h.mp (keptB_iff.mp e2))] at e; cases e
    | false => rfl
theorem letOk_small {l : List Nat} (h : letOk (some l) = true) : ∀ c ∈ l, c < 16777216 := by
  simp only [letOk, Bool.and_eq_true, List.all_eq_true, decide_eq_true_eq, List.mem_range] at h
  intro c hc
  obtain ⟨i, hi, rfl⟩ := List.mem_iff_getElem.mp hc
  have h2 := h.1.2 i hi
  rw [List.getD_eq_getElem?_getD, List.getElem?_eq_getElem hi] at h2
  have h3 : small.cps.toList.all (fun c => decide (c < 16777216)) = true := by decide +kernel
  exact of_decide_eq_true (List.all_eq_true.mp h3 _ h2)
theorem bad_none {lt : V} {o : Option (List Nat)} {xs : List (V × Option (List Nat))} (h : badOf lt o xs = none) : ∃ L, o = some L ∧ letOk (some L) = true ∧ ∀ q ∈ xs, ∃ l, q.2 = some l ∧ l.length ≤ 60 ∧ (∀ c ∈ l, c ∈ L) ∧ (∀ c ∈ l, c < 16777216) := by
  unfold badOf at h
  by_cases hl : letOk o = true
  · rw [if_pos hl] at h
    cases o with
    | none => cases hl
    | some L =>
      refine ⟨L, rfl, hl, fun q hq => ?_⟩
      have hf := List.find?_eq_none.mp (Option.map_eq_none_iff.mp h) q hq
      have hw : wordOk L q.2 = true := by simpa using hf
      cases e : q.2 with
      | none => rw [e] at hw; cases hw
      | some l =>
        rw [e] at hw
        obtain ⟨a, b⟩ := wordOk_iff.mp hw
        exact ⟨l, rfl, a, b, fun c hc => letOk_small hl c (b c hc)⟩
  · rw [if_neg hl] at h; cases h
theorem bad_ok {lt : V} {L : List Nat} {xs : List (V × Option (List Nat))} (h : letOk (some L) = true) (hx : ∀ q ∈ xs, wordOk L q.2 = true) : badOf lt (some L) xs = none := by
  unfold badOf
  rw [if_pos h]
  have hf : xs.find? (fun p => !wordOk L p.2) = none := by
    rw [List.find?_eq_none]
    intro q hq
    simp [hx q hq]
  show Option.map _ (xs.find? fun p => !wordOk L p.2) = none
  rw [hf]; rfl
theorem Fault.none {CL CW : Addr} {H : Hp} {bad : Option (Bool × V)} {E : XK} (h : bad = .none) : Fault CL CW H bad E := fun b u e => by rw [h] at e; cases e
def spKB (K : PySem.W.Frag) (CL CW : Addr) : Sp := fun vs H Q E => ∃ lt x y o ox oy, ∃ k : Nat, vs = [lt, .int k, x, y] ∧ TxtO K H lt o ∧ TxtO K H x ox ∧ TxtO K H y oy ∧ k ≤ 61 ∧
  (badOf lt o [(x, ox), (y, oy)] = none → ∀ v w, ox = some v → oy = some w → ∀ H', Same H H' → Q (.bl (keptB k v w)) H') ∧ Fault CL CW H (badOf lt o [(x, ox), (y, oy)]) E
def spRN (K : PySem.W.Frag) (CL CW : Addr) : Sp := fun vs H Q E => ∃ lt x y o ox oy, vs = [lt, x, y] ∧ TxtO K H lt o ∧ TxtO K H x ox ∧ TxtO K H y oy ∧
  (badOf lt o [(x, ox), (y, oy)] = none → ∀ v w, ox = some v → oy = some w → (v = w → ∀ H', Same H H' → Q .non H') ∧ (v ≠ w → ∀ n : Nat, (∀ j, j < n → kept j v w) → ¬ kept n v w → ∀ H', Same H H' → Q (.int (n : Nat)) H')) ∧
  Fault CL CW H (badOf lt o [(x, ox), (y, oy)]) E
theorem txt_of {K : PySem.W.Frag} {H : Hp} {x : V} {l : List Nat} (t : TxtO K H x (some l)) : x = .str (S l) := by
  rcases t.now with ⟨l', e, rfl, _⟩ | ⟨e, _⟩
  · cases e; rfl
  · cases e
section
variable {P : Program} {w : World} {K : PySem.W.Frag} {mg : Str → Option Value} {base : Heap} {f C CL CW : Addr} {fd : FuncData}
abbrev s_kept_by : Stmt := (top 17)
abbrev N_kept_by : List Str := ["letters", "k", "v", "w", "classes"]
theorem sc_kept_by : FnScope N_kept_by ["letters", "k", "v", "w"] (defScope s_kept_by) := ⟨rfl, rfl, rfl, by decide +kernel, rfl, by decide +kernel, by decide +kernel⟩
theorem ok_kept_by (T : Bl mg) (CT : ClsT K mg C) (MK : MkC P w K mg base C (spCI C)) (c_chk : CalX P w K mg base 6 "check_game_words" (spChk K CL CW)) (c_co : Cal P w K mg base 3 "class_of" (spClassOf C))
    (D : Def K mg "kept_by" s_kept_by f fd ["letters", "k", "v", "w"]) : CalX P w K mg base 7 "kept_by" (spKB K CL CW) := by
  refine D.calX (D.fn.okX sc_kept_by (fun vs H Q E h => ?_) (fun cdv A outer s H vs Q E hr h => ?_))
  · obtain ⟨lt, x, y, o, ox, oy, k, rfl, _⟩ := h
    rfl
  · obtain ⟨lt, x, y, o, ox, oy, k, rfl, tl, tx, ty, hk, kq, kf⟩ := h
    have nd := sc_kept_by.nd
    obtain ⟨fI, fdI, FI, MI, bI⟩ := MK.ex
    refine ⟨_, (pss_cons (ps_expr (pe_cE c_chk (passes_call (takes_of rfl rfl rfl rfl) (fun _ _ _ _ h => h)) hr (by decide) rfl (pa_cons (pv 0) (pa_cons (pe_lst (pa_cons (pv 2) (pa_cons (pv 3) pa_nil))) pa_nil))))
      (pss_cons (ps_set (i := 4) nd rfl (.inl rfl) (pe_make0 MI FI (hr.mono (by decide)) rfl CT.mgC bI .nil pass0))
      (pss_one (ps_ret (pe_cmpR op_eq (pe_c c_co hr (by decide) rfl (pa_cons (pv 4) (pa_cons (pv 1) (pa_cons (pv 2) pa_nil)))) (pe_c c_co hr (by decide) rfl (pa_cons (pv 4) (pa_cons (pv 1) (pa_cons (pv 3) pa_nil)))) (nomark _)))))), ?_⟩
    refine ⟨_, rfl, _, rfl, _, rfl, by show 2 ≤ sizeLine; decide, fun l hl => ?_⟩
    have s1 : Same H (upd H l (.lst [x, y])) := Same.new hl
    refine ⟨lt, o, l, [(x, ox), (y, oy)], rfl, SqL.of upd_same, by show 2 ≤ 1000; decide, tl.same s1, fun q hq => ?_, fun hb H2 s2 => ?_, kf.same s1⟩
    · simp only [List.mem_cons, List.not_mem_nil, or_false] at hq
      rcases hq with rfl | rfl
      · exact tx.same s1
      · exact ty.same s1
    obtain ⟨L, rfl, hL, hall⟩ := bad_none hb
    obtain ⟨v, ev, v60, vL, vs⟩ := hall (x, ox) (by simp)
    obtain ⟨w', ew, w60, wL, ws⟩ := hall (y, oy) (by simp)
    have ev : ox = some v := ev
    have ew : oy = some w' := ew
    subst ev ew
    obtain rfl := txt_of tx
    obtain rfl := txt_of ty
    intro p dx hp hdx hne
    refine ⟨p, dx, rfl, upd_same, fun dk hdk => ⟨rfl, ?_⟩⟩
    have hdk2 : H2 dk = none := by
      by_cases e1 : dk = p
      · rw [e1]; exact hp
      · by_cases e2 : dk = dx
        · rw [e2]; exact hdx
        · rwa [upd_ne e1, upd_ne e2] at hdk
    have npd : p ≠ dk := fun e => by rw [← e, upd_same] at hdk; cases hdk
    have c0 : ClsAt C (upd (upd (upd (upd H2 dx (.own p)) p (.ins C dx [])) dk (.dT [])) p (.ins C dx [("known", .ref dk)])) p dk [] := ⟨⟨dx, upd_same⟩, by rw [upd_ne npd.symm, upd_same]; rfl⟩
    have x0 : Ext dk H2 (upd (upd (upd (upd H2 dx (.own p)) p (.ins C dx [])) dk (.dT [])) p (.ins C dx [("known", .ref dk)])) := by
      intro b ob n e
      have nbp : b ≠ p := ne_of_none e hp
      rw [upd_ne nbp, upd_ne n, upd_ne nbp, upd_ne (ne_of_none e hdx)]
      exact e
    have hMv : (k + 1) * ((v.length + 1) * (v.length + 1)) ≤ 62 * (61 * 61) := Nat.mul_le_mul (by omega) (Nat.mul_le_mul (by omega) (by omega))
    refine ⟨_, rfl, _, rfl, _, rfl, p, dk, [], v, k, rfl, c0, v60, vs, hk, by decide, fun n ks1 H3 e3 c3 g3 l3 m3 => ?_⟩
    refine ⟨_, rfl, _, rfl, _, rfl, p, dk, ks1, w', k, rfl, c3, w60, ws, hk, by simp only [List.length_nil] at l3; omega, fun n2 ks2 H4 e4 c4 g4 l4 m4 => ?_⟩
    refine ⟨rfl, ?_⟩
    have nd2 : ks2.Nodup := g4.nd (g3.nd List.nodup_nil)
    have mi := means_iff nd2 (g4.means m3) m4
    have ed : decide (V.int (n : Nat) = V.int (n2 : Nat)) = keptB k v w' := by
      unfold keptB
      refine decide_eq_decide.mpr ?_
      rw [← mi]
      constructor
      · intro h
        have := V.int.inj h
        omega
      · rintro rfl; rfl
    rw [ed]
    exact kq hb v w' rfl rfl _ (s1.trans (s2.trans (ext_same hdk2 (x0.trans (e3.trans e4)))))

abbrev s_rounds : Stmt := (top 18)
abbrev N_rounds : List Str := ["letters", "v", "w", "k"]
theorem sc_rounds : FnScope N_rounds ["letters", "v", "w"] (defScope s_rounds) := ⟨rfl, rfl, rfl, by decide +kernel, rfl, by decide +kernel, by decide +kernel⟩
theorem ok_rounds (T : Bl mg) (c_chk : CalX P w K mg base 6 "check_game_words" (spChk K CL CW)) (c_kb : CalX P w K mg base 7 "kept_by" (spKB K CL CW))
    (D : Def K mg "rounds_needed" s_rounds f fd ["letters", "v", "w"]) : CalX P w K mg base 8 "rounds_needed" (spRN K CL CW) := by
  refine D.calX (D.fn.okX sc_rounds (fun vs H Q E h => ?_) (fun cdv A outer s H vs Q E hr h => ?_))
  · obtain ⟨lt, x, y, o, ox, oy, rfl, _⟩ := h
    rfl
  · obtain ⟨lt, x, y, o, ox, oy, rfl, tl, tx, ty, kq, kf⟩ := h
    have nd := sc_rounds.nd
    refine ⟨_, (pss_cons (ps_expr (pe_cE c_chk (passes_call (takes_of rfl rfl rfl rfl) (fun _ _ _ _ h => h)) hr (by decide) rfl (pa_cons (pv 0) (pa_cons (pe_lst (pa_cons (pv 1) (pa_cons (pv 2) pa_nil))) pa_nil))))
      (pss_cons (ps_if (pt_cmpR op_eq (pv 1) (pv 2) (nomark _))
      (pss_one (ps_ret pe_non))
      pss_nil)
      (pss_cons (ps_set (i := 3) nd rfl (.inl rfl) pe_int)
      (pss_cons (ps_while (passes_of rfl) (pt_val (pe_cX c_kb hr (by decide) rfl (pa_cons (pv 0) (pa_cons (pv 3) (pa_cons (pv 1) (pa_cons (pv 2) pa_nil))))))
      (pss_one (ps_aug (i := 3) nd rfl (.inl rfl) pe_int ip_add)))
      (pss_one (ps_ret (pv 3))))))), ?_⟩
    refine ⟨_, rfl, _, rfl, _, rfl, by show 2 ≤ sizeLine; decide, fun l hl => ?_⟩
    have s1 : Same H (upd H l (.lst [x, y])) := Same.new hl
    refine ⟨lt, o, l, [(x, ox), (y, oy)], rfl, SqL.of upd_same, by show 2 ≤ 1000; decide, tl.same s1, fun q hq => ?_, fun hb H2 s2 => ?_, kf.same s1⟩
    · simp only [List.mem_cons, List.not_mem_nil, or_false] at hq
      rcases hq with rfl | rfl
      · exact tx.same s1
      · exact ty.same s1
    obtain ⟨L, rfl, hL, hall⟩ := bad_none hb
    obtain ⟨v, ev, v60, vL, vs⟩ := hall (x, ox) (by simp)
    obtain ⟨w', ew, w60, wL, ws⟩ := hall (y, oy) (by simp)
    have ev : ox = some v := ev
    have ew : oy = some w' := ew
    subst ev ew
    obtain rfl := txt_of tx
    obtain rfl := txt_of ty
    obtain ⟨q1, q2⟩ := kq hb v w' rfl rfl
    refine ⟨_, rfl, _, rfl, rfl, _, rfl, ?_⟩
    refine iteV (fun e => ?_) (fun e => ?_)
    · have e2 : v = w' := SX.S_inj (V.str.inj e)
      exact q1 e2 _ (s1.trans s2)
    · have e2 : v ≠ w' := fun z => e (by rw [z])
      refine ⟨fun m σ H' => ∃ j : Nat, m = 62 - j ∧ σ = [some lt, some (.str (S v)), some (.str (S w')), some (.int (j : Nat))] ∧ Same H H' ∧ (∀ i, i < j → kept i v w') ∧ j ≤ v.length + 1, ⟨_, 0, rfl, rfl, s1.trans s2, fun i hi => absurd hi (Nat.not_lt_zero _), by omega⟩, ?_⟩
      rintro m σ H3 ⟨j, rfl, rfl, s3, hj, hjl⟩
      refine ⟨_, rfl, _, rfl, _, rfl, _, rfl, lt, _, _, some L, some v, some w', j, rfl, tl.same s3, tx.same s3, ty.same s3, by omega, fun _ v2 w2 e3 e4 H4 s4 => ?_, Fault.none hb⟩
      cases e3
      cases e4
      refine ⟨_, rfl, ?_⟩
      cases hkb : keptB j v w' with
      | true =>
        have hk := keptB_iff.mp hkb
        have hjlt : j < v.length + 1 := by
          refine Nat.lt_of_le_of_ne hjl (fun e => e2 ?_)
          subst e
          exact kept_eq hk
        refine ⟨fun σ' H' => σ' = [some lt, some (.str (S v)), some (.str (S w')), some (.int ((j + 1 : Nat)))] ∧ Same H H', fun σ' H' ⟨a, b⟩ => ⟨62 - (j + 1), by omega, j + 1, rfl, a, b, fun i hi => ?_, hjlt⟩, ?_⟩
        · by_cases e : i = j
          · subst e; exact hk
          · exact hj i (by omega)
        · refine ⟨_, rfl, _, _, rfl, rfl, rfl, s3.trans s4⟩
      | false =>
        have hk : ¬ kept j v w' := fun z => by rw [keptB_iff.mpr z] at hkb; cases hkb
        exact ⟨_, rfl, q2 e2 j hj hk _ (s3.trans s4)⟩
end
end Ws

/-! the law's own way to words kept -/
namespace Ws
open PySem PySem.Spec PyProof.Rows L2
def rowsOf (one two : List Nat) (i : Nat) : List Nat := (List.range two.length).filter fun j => decide (two.getD j 0 = one.getD i 0)
noncomputable def pairB (k : Nat) (one two : List Nat) (i j : Nat) : Bool := keptB k (one.take i) (two.take j) && keptB k (one.drop (i + 1)) (two.drop (j + 1))
noncomputable def goodB (k : Nat) (one two : List Nat) (i : Nat) : Bool := (rowsOf one two i).any (pairB k one two i)
noncomputable def halfB (k : Nat) (one two : List Nat) : Bool := (List.range one.length).all (goodB k one two)
theorem halfB_iff {k : Nat} {one two : List Nat} : halfB k one two = true ↔ halfAt k one two := by
  unfold halfB halfAt goodB rowsOf pairB
  simp only [List.all_eq_true, List.any_eq_true, List.mem_range, List.mem_filter, decide_eq_true_eq, Bool.and_eq_true, keptB_iff]
  constructor
  · intro h i hi
    obtain ⟨j, ⟨hj, e⟩, p, q⟩ := h i hi
    rw [List.getD_eq_getElem?_getD, List.getD_eq_getElem?_getD, List.getElem?_eq_getElem hi, List.getElem?_eq_getElem hj] at e
    exact ⟨j, hj, e, p, q⟩
  · intro h i hi
    obtain ⟨j, hj, e, p, q⟩ := h i hi
    refine ⟨j, ⟨hj, ?_⟩, p, q⟩
    rw
      [List.getD_eq_getElem?_getD, List.getD_eq_getElem?_getD, List.getElem?_eq_getElem hi, List.getElem?_eq_getElem hj]
    exact e
theorem keptB_succ {k : Nat} {v w : List Nat} : keptB (k + 1) v w = (halfB k v w && halfB k w v) := by
  rw [Bool.eq_iff_iff, keptB_iff, kept_succ, Bool.and_eq_true, halfB_iff, halfB_iff]
def key3 (v w : List Nat) (k : Nat) : List Key := [.inr (S v), .inr (S w), .inl (k : Nat)]
theorem key3_eq {v w v' w' : List Nat} {k k' : Nat} : key3 v w k = key3 v' w' k' ↔ v = v' ∧ w = w' ∧ k = k' := by
  unfold key3
  constructor
  · intro e
    injection e with e1 e
    injection e with e2 e
    injection e with e3 _
    injection e1 with e1
    injection e2 with e2
    injection e3 with e3
    exact ⟨SX.S_inj e1, SX.S_inj e2, by omega⟩
  · rintro ⟨rfl, rfl, rfl⟩
    rfl
def TabOk (mv : List (List Key × V)) : Prop := ∀ v w k b, valV mv (key3 v w k) = some b → b = .bl (keptB k v w)
def GG : Nat → Nat
  | 0 => 0
  | k + 1 => 1 + 200 * GG k
structure KInv (HB H' : Hp) (t : Addr) (m0 g cnt : Nat) : Prop where
  ext : Ext t HB H'
  tab : ∃ mv, H' t = some (.dT mv) ∧ TabOk mv ∧ ∃ n, n ≤ cnt ∧ mv.length ≤ m0 + n * g
theorem KInv.weak {HB H' : Hp} {t : Addr} {m0 g cnt cnt' : Nat} (h : KInv HB H' t m0 g cnt) (c : cnt ≤ cnt') : KInv HB H' t m0 g cnt' := by
  obtain ⟨e, mv, a, b, n, hn, l⟩ := h
  exact ⟨e, mv, a, b, n, by omega, l⟩
def spK (n : Nat) : Sp := fun vs H Q _ => ∃ (v w : List Nat) (k : Nat) (t : Addr) (mv : List (List Key × V)), vs = [.str (S v), .str (S w), .int k, .ref t] ∧ k < n ∧ v.length ≤ 6 ∧ w.length ≤ 6 ∧ H t = some (.dT mv) ∧ TabOk mv ∧ mv.length + GG k ≤ 16000000 ∧
  ∀ mv' H', Ext t H H' → H' t = some (.dT mv') → TabOk mv' → mv'.length ≤ mv.length + GG k → Q (.bl (keptB k v w)) H'
section
variable {P : Program} {w : World} {K : PySem.W.Frag} {mg : Str → Option Value} {base : Heap} {f : Addr} {fd : FuncData}
/-- a call in the walk -/
theorem kcall {n : Nat} {Q : VK} {E : XK} {HB H1 : Hp} {t : Addr} {m0 cnt k : Nat} {v w : List Nat} (I : KInv HB H1 t m0 (GG k) cnt) (hk : k < n) (hv : v.length ≤ 6) (hw : w.length ≤ 6) (hc : cnt < 200) (hm : m0 + 200 * GG k ≤ 16000000)
    (next : ∀ H2, Ext t H1 H2 → KInv HB H2 t m0 (GG k) (cnt + 1) → Q (.bl (keptB k v w)) H2) : spK n [.str (S v), .str (S w), .int k, .ref t] H1 Q E := by
  obtain ⟨e, mv, a, b, j, hj, l⟩ := I
  have h1 : (j + 1) * GG k ≤ 200 * GG k := Nat.mul_le_mul_right _ (by omega)
  rw [Nat.succ_mul] at h1
  refine ⟨v, w, k, t, mv, rfl, hk, hv, hw, a, b, by omega, fun mv' H2 e2 a2 b2 l2 => next H2 e2 ⟨e.trans e2, mv', a2, b2, j + 1, by omega, ?_⟩⟩
  rw [Nat.succ_mul]
  omega
abbrev s_lk : Stmt := (top 27)
abbrev N_lk : List Str := ["v", "w", "k", "table", "key", "truth", "one", "two", "i", "rows", "j", "good"]
theorem sc_lk : FnScope N_lk ["v", "w", "k", "table"] (defScope s_lk) := ⟨rfl, rfl, rfl, by decide +kernel, rfl, by decide +kernel, by decide +kernel⟩
theorem ok_lk0 (D : Def K mg "_law_kept" s_lk f fd ["v", "w", "k", "table"]) : Cal P w K mg base 1 "_law_kept" (spK 0) := by
  refine D.cal (D.fn.ok sc_lk (fun vs H Q E h => ?_) (fun cdv A outer s H vs Q E hr h => ?_))
  · obtain ⟨v, w, k, t, mv, rfl, _⟩ := h
    rfl
  · obtain ⟨v, w, k, t, mv, rfl, hk, _⟩ := h
    exact absurd hk (Nat.not_lt_zero _)
noncomputable def trA (k : Nat) (v w : List Nat) : Nat → Bool
  | 0 => true
  | 1 => halfB k v w
  | _ => halfB k v w && halfB k w v
theorem S_ix {l : List Nat} {i : Nat} (h : i < l.length) : atI (S l).cps.toList (i : Int) = some (l.getD i 0) := by
  have z := atI_nat (xs := l) (j := i) (v := l[i]) (by simp [h])
  have e : l.getD i 0 = l[i] := by rw [List.getD_eq_getElem?_getD, List.getElem?_eq_getElem h]; rfl
  rw [e]
  simpa [S, SX.S] using z
theorem ok_lk1 {n j : Nat} (T : Bl mg) (D : Def K mg "_law_kept" s_lk f fd ["v", "w", "k", "table"]) (c_lk : Cal P w K mg base j "_law_kept" (spK n)) : Cal P w K mg base (j + 1) "_law_kept" (spK (n + 1)) := by
  refine D.cal (D.fn.ok sc_lk (fun vs H Q E h => ?_) (fun cdv A outer s H vs Q E hr h => ?_))
  · obtain ⟨v, w, k, t, mv, rfl, _⟩ := h
    rfl
  · obtain ⟨v, w, k, t, mv, rfl, hk, hvl, hwl, ht, hT, hmv, kq⟩ := h
    have nd := sc_lk.nd
    have hu := hu_of hr
    refine ⟨_, (pss_cons (ps_if (PW.pt (pw_or (pt_cmpR op_eq (pv 2) pe_int (nomark _)) (pw_or1 (pt_cmpR op_eq (pv 0) (pv 1) (nomark _)))))
      (pss_one (ps_ret pe_bl))
      pss_nil)
      (pss_cons (ps_set (i := 4) nd rfl (.inl rfl) (pe_tup (pa_cons (pv 0) (pa_cons (pv 1) (pa_cons (pv 2) pa_nil)))))
      (C8.pss_cut (ps_if (pt_cmp (pc_dnotin hu (pv 4) (pv 3)))
      (pss_cons (ps_set (i := 5) nd rfl (.inl rfl) pe_bl)
      (pss_cons (ps_for PassesOwn.never rfl (pi_list (pe_lst (pa_cons (pe_tup (pa_cons (pv 0) (pa_cons (pv 1) pa_nil))) (pa_cons (pe_tup (pa_cons (pv 1) (pa_cons (pv 0) pa_nil))) pa_nil)))) (pg_tup (n := 2) rfl (pgs_cons (pg_name (i := 6) nd rfl (.inr rfl)) (pgs_cons (pg_name (i := 7) nd rfl (.inr rfl)) pgs_nil)))
      (pss_one (ps_for PassesOwn.never rfl (pi_range1 (by rfl) T.range (pa_cons (pe_callB call_len_str (by rfl) T.len PySem.boot_len (pa_cons (pv 6) pa_nil)) pa_nil)) (pg_name (i := 8) nd rfl (.inr rfl))
      (pss_cons (ps_setLc (i := 9) (own := [("j", 10)]) rfl nd rfl rfl (sw_true rfl rfl rfl (by decide +kernel)) (pi_range1 (by rfl) T.range (pa_cons (pe_callB call_len_str (by rfl) T.len PySem.boot_len (pa_cons (pv 7) pa_nil)) pa_nil)) (blkOk_by (N := N_lk) rfl) (fun _ _ _ _ _ => (pg_name (i := 10) nd rfl (.inl rfl))) (fun _ _ _ _ _ => (pts_one (pt_cmpR op_eq (pe_ix ix_str (pv 7) (pv 10) (fun _ _ => rfl)) (pe_ix ix_str (pv 6) (pv 8) (fun _ _ => rfl)) (nomark _)))) (fun _ _ _ _ _ => (pv 10)))
      (pss_cons (ps_set (i := 11) nd rfl (.inl rfl) pe_bl)
      (pss_cons (ps_for PassesOwn.never rfl (pi_list (pv 9)) (pg_name (i := 10) nd rfl (.inl rfl))
      (pss_one (ps_set (i := 11) nd rfl (.inl rfl) (pe_or (pv 11) (pe_one (pe_and (pe_c c_lk hr (Nat.le_refl _) rfl (pa_cons (pe_slice C8.sl_txt (pv 6) po_none (po_some (pv 8))) (pa_cons (pe_slice C8.sl_txt (pv 7) po_none (po_some (pv 10))) (pa_cons (pe_op op_sub (pv 2) pe_int) (pa_cons (pv 3) pa_nil))))) (pe_one (pe_c c_lk hr (Nat.le_refl _) rfl (pa_cons (pe_slice C8.sl_txt (pv 6) (po_some (pe_op op_add (pv 8) pe_int)) po_none) (pa_cons (pe_slice C8.sl_txt (pv 7) (po_some (pe_op op_add (pv 10) pe_int)) po_none) (pa_cons (pe_op op_sub (pv 2) pe_int) (pa_cons (pv 3) pa_nil))))))))))))
      (pss_one (ps_set (i := 5) nd rfl (.inl rfl) (pe_and (pv 5) (pe_one (pv 11)))))))))))
      (pss_one (ps_dput hu (pv 3) (pv 4) (pv 5) rfl))))
      pss_nil)
      (pss_one (ps_ret (pe_dget hu (pv 3) (pv 4) (fun _ _ => rfl))))))), ?_⟩
    refine ⟨_, rfl, rfl, _, rfl, ?_⟩
    refine iteV (fun h0 => ?_) (fun h0 => ?_)
    · have ek : k = 0 := by
        have := V.int.inj h0
        omega
      subst ek
      have q := kq mv H (Ext.refl _) ht hT (by omega)
      rw [keptB_iff.mpr (show kept 0 v w from trivial)] at q
      exact q
    refine ⟨_, rfl, _, rfl, rfl, _, rfl, ?_⟩
    refine iteV (fun h1 => ?_) (fun h1 => ?_)
    · have e : v = w := SX.S_inj (V.str.inj h1)
      subst e
      have q := kq mv H (Ext.refl _) ht hT (by omega)
      rw [keptB_iff.mpr (kept_refl k v)] at q
      exact q
    obtain ⟨k', rfl⟩ : ∃ k', k = k' + 1 := by
      cases k with
      | zero => exact absurd rfl h0
      | succ k' => exact ⟨k', rfl⟩
    refine ⟨_, rfl, _, rfl, _, rfl, by show 3 ≤ sizeLine; decide, fun b hb => ?_⟩
    have htb : t ≠ b := ne_of_none ht hb
    have sb : Same H (upd H b (.tup [.str (S v), .str (S w), .int ((k' + 1 : Nat) : Int)])) := Same.new hb
    have kb : upd H b (.tup [.str (S v), .str (S w), .int ((k' + 1 : Nat) : Int)]) b = some (.tup ((key3 v w (k' + 1)).map kV)) := by rw [upd_same]; rfl
    have GGk : GG (k' + 1) = 1 + 200 * GG k' := rfl
    refine ⟨fun σ' H' => ∃ z5 z6 z7 z8 z9 z10 z11 mv', σ' = [some (.str (S v)), some (.str (S w)), some (.int ((k' + 1 : Nat) : Int)), some (.ref t), some (.ref b), z5, z6, z7, z8, z9, z10, z11] ∧ Ext t H H' ∧ H' b = some (.tup ((key3 v w (k' + 1)).map kV)) ∧
      H' t = some (.dT mv') ∧ TabOk mv' ∧ mv'.length ≤ mv.length + GG (k' + 1) ∧ (valV mv' (key3 v w (k' + 1))).isSome = true, ?_, ?_⟩
    · refine ⟨_, rfl, _, rfl, t, _, rfl, DGet.t (k := key3 v w (k' + 1)) (sb _ _ ht) kb, ?_⟩
      cases hval : valV mv (key3 v w (k' + 1)) with
      | some b0 =>
        refine ⟨false, rfl, iteF ?_⟩
        exact ⟨none, none, none, none, none, none, none, mv, rfl, Ext.of sb, kb, sb _ _ ht, hT, by omega, by rw [hval]; rfl⟩
      | none =>
        refine ⟨true, rfl, iteT ?_⟩
        refine ⟨_, rfl, _, rfl, by show 2 ≤ sizeLine; decide, fun t1 ht1 => ⟨_, rfl, _, rfl, by show 2 ≤ sizeLine; decide, fun t2 ht2 => ⟨by show 2 ≤ sizeLine; decide, fun l hl => ⟨l, rfl, ⟨_, SqL.of upd_same⟩, ?_⟩⟩⟩⟩
        let H0 := upd H b (.tup [.str (S v), .str (S w), .int ((k' + 1 : Nat) : Int)])
        let H1 := upd H0 t1 (.tup [.str (S v), .str (S w)])
        let H2 := upd H1 t2 (.tup [.str (S w), .str (S v)])
        let HB := upd H2 l (.lst [.ref t1, .ref t2])
        have s1 : Same H0 H1 := Same.new ht1
        have s2 : Same H1 H2 := Same.new ht2
        have s3 : Same H2 HB := Same.new hl
        have ht0 : H0 t = some (.dT mv) := sb _ _ ht
        have et1 : HB t1 = some (.tup [.str (S v), .str (S w)]) := s3 _ _ (s2 _ _ upd_same)
        have et2 : HB t2 = some (.tup [.str (S w), .str (S v)]) := s3 _ _ upd_same
        have el : HB l = some (.lst [.ref t1, .ref t2]) := upd_same
        have eb : HB b = some (.tup ((key3 v w (k' + 1)).map kV)) := s3 _ _ (s2 _ _ (s1 _ _ kb))
        have et : HB t = some (.dT mv) := s3 _ _ (s2 _ _ (s1 _ _ ht0))
        have n1 : t1 ≠ t := ne_of et1 et (by intro z; cases z)
        have n2 : t2 ≠ t := ne_of et2 et (by intro z; cases z)
        have nl : l ≠ t := ne_of el et (by intro z; cases z)
        refine for_list (K := K) (a := l) (xs := [.ref t1, .ref t2]) (fun i σ H' => ∃ z6 z7 z8 z9 z10 z11, σ = [some (.str (S v)), some (.str (S w)), some (.int ((k' + 1 : Nat) : Int)), some (.ref t), some (.ref b), some (.bl (trA k' v w i)), z6, z7, z8, z9, z10, z11] ∧ KInv HB H' t mv.length (GG k') (i * 72))
          ⟨none, none, none, none, none, none, rfl, Ext.refl _, mv, et, hT, 0, Nat.zero_le _, by omega⟩ (fun i σ H' _ q => ?_) ?_ ?_
        · obtain ⟨_, _, _, _, _, _, _, I⟩ := q
          exact SqL.of (I.ext _ _ nl el)
        · rintro ti y σ H' hi ⟨z6, z7, z8, z9, z10, z11, rfl, I⟩
          have hti : ti < 2 := (List.getElem?_eq_some_iff.mp hi).1
          -- the pair of this turn
          obtain ⟨one, two, tp, rfl, etp, h1l, h2l, etr⟩ : ∃ (one two : List Nat) (tp : Addr), y = .ref tp ∧ H' tp = some (.tup [.str (S one), .str (S two)]) ∧ one.length ≤ 6 ∧ two.length ≤ 6 ∧ trA k' v w (ti + 1) = (trA k' v w ti && halfB k' one two) := by
            have hc : ti = 0 ∨ ti = 1 := by omega
            rcases hc with rfl | rfl
            · have : y = .ref t1 := by simpa using hi.symm
              exact ⟨v, w, t1, this, I.ext _ _ n1 et1, hvl, hwl, by show halfB k' v w = (true && halfB k' v w); rw [Bool.true_and]⟩
            · have : y = .ref t2 := by simpa using hi.symm
              exact ⟨w, v, t2, this, I.ext _ _ n2 et2, hwl, hvl, rfl⟩
          have hz1 : (S one).length ≤ sizeLine := S_le (by omega)
          have hz2 : (S two).length ≤ sizeLine := S_le (by omega)
          refine ⟨tp, _, rfl, SqT.of etp, rfl, _, _, rfl, _, _, rfl, rfl, ?_⟩
          refine ⟨_, rfl, _, rfl, hz1, _, rfl, by rw [SX.S_len]; omega, by rw [SX.S_len]; omega, ?_⟩
          have e1 : ((((S one).length : Nat) : Int)).toNat = one.length := by rw [SX.S_len]; omega
          rw [e1]
          refine for_range (lo := 0) (n := one.length) (fun i σ H' => ∃ z8 z9 z10 z11, σ = [some (.str (S v)), some (.str (S w)), some (.int ((k' + 1 : Nat) : Int)), some (.ref t), some (.ref b), some (.bl (trA k' v w ti && (List.range i).all (goodB k' one two))), some (.str (S one)), some (.str (S two)), z8, z9, z10, z11] ∧ KInv HB H' t mv.length (GG k') (ti * 72 + i * 12))
            ⟨z8, z9, z10, z11, by simp, I.weak (by omega)⟩ ?_ ?_
          · rintro i σ H4 hi4 ⟨z8, z9, z10, z11, rfl, I4⟩
            rw [show (0 : Int) + (i : Int) = ((i : Nat) : Int) from Int.zero_add _]
            have e2 : ((((S two).length : Nat) : Int)).toNat = two.length := by rw [SX.S_len]; omega
            refine ⟨_, rfl, _, rfl, hz2, _, rfl, by rw [SX.S_len]; omega, by rw [SX.S_len]; omega, fun D hD => ?_⟩
            rw [e2]
            refine lcF (walk_range (lo := 0) (n := two.length)) hD (by rw [sizeLine_eq]; omega) (fun j => decide (two.getD j 0 = one.getD i 0)) (fun j => .int (j : Nat)) (fun _ _ => True.intro) (fun j x H5 H5' hj s5 y5 Qy Qn qy qn => ?_) (fun H5 s5 e5 => ?_)
            · obtain ⟨rfl, hx⟩ := y5
              have hx : x = V.int (j : Nat) := hx.trans (by show V.int (0 + (j : Int)) = _; rw [Int.zero_add])
              subst hx
              refine ⟨rfl, ?_⟩
              refine ⟨_, rfl, _, rfl, _, _, _, rfl, rfl, hz2, S_ix hj, _, rfl, _, rfl, _, _, _, rfl, rfl, hz1, S_ix hi4, rfl, _, rfl, ?_⟩
              have ed : decide (V.str (S [two.getD j 0]) = V.str (S [one.getD i 0])) = decide (two.getD j 0 = one.getD i 0) := by
                refine decide_eq_decide.mpr ⟨fun h => ?_, fun h => by rw [h]⟩
                have := SX.S_inj (V.str.inj h)
                injection this
              show if decide (V.str (S [two.getD j 0]) = V.str (S [one.getD i 0])) = true then _ else _
              rw [ed]
              refine iteB (fun h => ?_) (fun h => ?_)
              · exact ⟨_, rfl, qy h _ (refl_same _)⟩
              · exact qn h _ (refl_same _)
            · -- for j in rows
              have nD : D ≠ t := fun z => by
                rw [z] at hD
                obtain ⟨_, ⟨m4, e4, _⟩⟩ := I4
                rw [e4] at hD
                cases hD
              have lenR : (rowsOf one two i).length ≤ 6 := by
                have := List.length_filter_le (fun j => decide (two.getD j 0 = one.getD i 0)) (List.range two.length)
                rw [List.length_range] at this
                show (List.filter _ _).length ≤ 6
                omega
              have I5 : KInv HB H5 t mv.length (GG k') (ti * 72 + i * 12) := by
                obtain ⟨x4, m4, e4, r4⟩ := I4
                exact ⟨x4.trans (Ext.of s5), m4, s5 _ _ e4, r4⟩
              refine ⟨_, rfl, D, rfl, ⟨_, SqL.of e5⟩, for_list (K := K) (a := D) (xs := (rowsOf one two i).map fun j => V.int (j : Nat))
                (fun q σ H' => ∃ z10, σ = [some (.str (S v)), some (.str (S w)), some (.int ((k' + 1 : Nat) : Int)), some (.ref t), some (.ref b), some (.bl (trA k' v w ti && (List.range i).all (goodB k' one two))), some (.str (S one)), some (.str (S two)), some (.int (i : Nat)), some (.ref D), z10, some (.bl (((rowsOf one two i).take q).any (pairB k' one two i)))] ∧
                  KInv HB H' t mv.length (GG k') (ti * 72 + i * 12 + q * 2) ∧ Ext t H5 H')
                ⟨z10, rfl, I5.weak (by omega), Ext.refl _⟩ (fun q σ H' _ z => ?_) ?_ ?_⟩
              · obtain ⟨_, _, _, z⟩ := z
                exact SqL.of (z _ _ nD e5)
              · rintro q y6 σ H6 hq ⟨z10, rfl, I6, x6⟩
                rw [List.getElem?_map] at hq
                obtain ⟨jj, hjj, rfl⟩ := Option.map_eq_some_iff.mp hq
                have hql := (List.getElem?_eq_some_iff.mp hjj).1
                have etk : ((rowsOf one two i).take (q + 1)).any (pairB k' one two i) = (((rowsOf one two i).take q).any (pairB k' one two i) || pairB k' one two i jj) := by
                  rw [List.take_succ, hjj, List.any_append]
                  simp
                have hms : mv.length + 200 * GG k' ≤ 16000000 := by omega
                have ekk : (((k' + 1 : Nat) : Int) - 1) = ((k' : Nat) : Int) := by omega
                refine ⟨_, rfl, _, rfl, ?_⟩
                refine iteB (fun h => ?_) (fun h => ?_)
                · refine ⟨some (.int (jj : Nat)), ?_, I6.weak (by omega), x6⟩
                  rw [etk, h]
                  rfl
                · have I6' := I6
                  refine ⟨_, rfl, _, rfl, i, rfl, _, rfl, hz1, ?_⟩
                  rw [SX.slice_to (by omega)]
                  refine ⟨_, rfl, _, rfl, jj, rfl, _, rfl, hz2, ?_⟩
                  rw [SX.slice_to (by omega)]
                  refine ⟨_, rfl, _, _, rfl, rfl, _, rfl, ?_⟩
                  dsimp only [tNil]
                  rw [ekk]
                  refine kcall (E := E0) (cnt := ti * 72 + i * 12 + q * 2) I6 (by omega) (by rw [List.length_take]; omega) (by rw [List.length_take]; omega) (by omega) hms (fun H7 x7 I7 => ?_)
                  refine ⟨_, rfl, ?_⟩
                  refine iteB (fun h2 => ?_) (fun h2 => ?_)
                  · refine ⟨_, rfl, _, rfl, _, _, rfl, rfl, ((i : Int) + 1), rfl, _, rfl, hz1, ?_⟩
                    rw [SX.slice_from (by omega)]
                    refine ⟨_, rfl, _, rfl, _, _, rfl, rfl, ((jj : Int) + 1), rfl, _, rfl, hz2, ?_⟩
                    rw [SX.slice_from (by omega)]
                    refine ⟨_, rfl, _, _, rfl, rfl, _, rfl, ?_⟩
                    dsimp only [tNil]
                    rw [ekk]
                    have ei : ((i : Int) + 1).toNat = i + 1 := by omega
                    have ej : ((jj : Int) + 1).toNat = jj + 1 := by omega
                    rw [ei, ej]
                    refine kcall (E := E0) (cnt := ti * 72 + i * 12 + q * 2 + 1) I7 (by omega) (by rw [List.length_drop]; omega) (by rw [List.length_drop]; omega) (by omega) hms (fun H8 x8 I8 => ?_)
                    refine ⟨some (.int (jj : Nat)), ?_, I8.weak (by omega), x6.trans (x7.trans x8)⟩
                    rw [etk, h, Bool.false_or]
                    have e9 : pairB k' one two i jj = keptB k' (one.drop (i + 1)) (two.drop (jj + 1)) := by
                      have h2' : keptB k' (one.take i) (two.take jj) = true := h2
                      show (keptB k' (one.take i) (two.take jj) && _) = _
                      rw [h2', Bool.true_and]
                    rw [e9]
                    rfl
                  · refine ⟨some (.int (jj : Nat)), ?_, I7.weak (by omega), x6.trans x7⟩
                    rw [etk, h, Bool.false_or]
                    have e9 : pairB k' one two i jj = false := by
                      have h2' : keptB k' (one.take i) (two.take jj) = false := h2
                      show (keptB k' (one.take i) (two.take jj) && _) = _
                      rw [h2', Bool.false_and]
                    rw [e9]
                    rfl
              · rintro σ H6 ⟨z10, rfl, I6, x6⟩
                have lr : ((rowsOf one two i).map fun j => V.int (j : Nat)).length = (rowsOf one two i).length := List.length_map ..
                have lt : (rowsOf one two i).take ((rowsOf one two i).map fun j => V.int (j : Nat)).length = rowsOf one two i := by rw [lr, List.take_length]
                have ea : (List.range (i + 1)).all (goodB k' one two) = ((List.range i).all (goodB k' one two) && goodB k' one two i) := by
                  rw [List.range_succ, List.all_append]
                  simp
                refine ⟨_, rfl, _, rfl, ?_⟩
                refine iteB (fun h => ?_) (fun h => ?_)
                · refine ⟨_, rfl, some (.int (i : Nat)), some (.ref D), z10, some (.bl (((rowsOf one two i).take ((rowsOf one two i).map fun j => V.int (j : Nat)).length).any (pairB k' one two i))), ?_, I6.weak (by rw [lr]; omega)⟩
                  rw [ea, ← Bool.and_assoc, h, Bool.true_and, lt]
                  rfl
                · refine ⟨some (.int (i : Nat)), some (.ref D), z10, some (.bl (((rowsOf one two i).take ((rowsOf one two i).map fun j => V.int (j : Nat)).length).any (pairB k' one two i))), ?_, I6.weak (by rw [lr]; omega)⟩
                  rw [ea, ← Bool.and_assoc, h, Bool.false_and]
                  rfl
          · rintro σ H4 ⟨z8, z9, z10, z11, rfl, I4⟩
            refine ⟨some (.str (S one)), some (.str (S two)), z8, z9, z10, z11, ?_, I4.weak (by omega)⟩
            rw [etr]
            rfl
        · rintro σ H' ⟨z6, z7, z8, z9, z10, z11, rfl, I⟩
          obtain ⟨x, m4, e4, t4, nn, hn, l4⟩ := I
          have hn : nn ≤ 2 * 72 := hn
          have hn2 : nn * GG k' ≤ 200 * GG k' := Nat.mul_le_mul_right _ (by omega)
          refine ⟨_, rfl, _, rfl, _, rfl, t, _, rfl, DPut.t (k := key3 v w (k' + 1)) e4 (x _ _ ?_ eb) (by rw [sizeLine_eq]; omega), ?_⟩
          · exact ne_of eb et (by intro z; cases z)
          · have ek : trA k' v w ([V.ref t1, V.ref t2] : List V).length = keptB (k' + 1) v w := keptB_succ.symm
            rw [ek]
            have xH : Ext t H HB := Ext.of (sb.trans (s1.trans (s2.trans s3)))
            refine ⟨_, _, _, _, _, _, _, _, rfl, xH.trans (x.trans Ext.upd), ?_, upd_same, fun v2 w2 k2 b2 h2 => ?_, ?_, ?_⟩
            · have nbt : b ≠ t := ne_of eb et (by intro z; cases z)
              rw [upd_ne nbt]
              exact x _ _ nbt eb
            · rw [valV_put] at h2
              by_cases e : key3 v2 w2 k2 = key3 v w (k' + 1)
              · rw [if_pos e] at h2
                obtain ⟨rfl, rfl, rfl⟩ := key3_eq.mp e
                exact (Option.some.inj h2).symm
              · rw [if_neg e] at h2
                exact t4 _ _ _ _ h2
            · have := length_putK m4 (key3 v w (k' + 1)) (.bl (keptB (k' + 1) v w))
              omega
            · rw [valV_put, if_pos rfl]
              rfl
    · rintro σ' H' ⟨z5, z6, z7, z8, z9, z10, z11, mv', rfl, e1, eb, et, hT', hl', hs⟩
      cases hval : valV mv' (key3 v w (k' + 1)) with
      | none => rw [hval] at hs; cases hs
      | some b0 =>
        obtain rfl := hT' _ _ _ _ hval
        refine ⟨_, rfl, _, rfl, t, _, rfl, ?_, kq mv' H' e1 et hT' hl'⟩
        have g := DGet.t (k := key3 v w (k' + 1)) et eb
        rw [hval] at g
        exact g
end
end Ws

/-! powers of words, the first words of classes (plain mathematics) -/
namespace Ws
/-- u, m times -/
def pw (u : List Nat) (m : Nat) : List Nat := (List.replicate m u).flatten
theorem pw_zero (u : List Nat) : pw u 0 = [] := rfl
theorem pw_succ (u : List Nat) (m : Nat) : pw u (m + 1) = u ++ pw u m := by
  unfold pw
  rw
    [List.replicate_succ, List.flatten_cons]
theorem pw_add (u : List Nat) : ∀ a b : Nat, pw u (a + b) = pw u a ++ pw u b
  | 0, b => by rw [Nat.zero_add, pw_zero, List.nil_append]
  | a + 1, b => by rw [Nat.succ_add, pw_succ, pw_succ, pw_add u a b, List.append_assoc]
theorem pw_len (u : List Nat) : ∀ m : Nat, (pw u m).length = m * u.length
  | 0 => by simp [pw_zero]
  | m + 1 => by rw [pw_succ, List.length_append, pw_len u m, Nat.succ_mul, Nat.add_comm]
theorem pw_mem {L u : List Nat} (h : ∀ c ∈ u, c ∈ L) : ∀ m : Nat, ∀ c ∈ pw u m, c ∈ L
  | 0, c, hc => by rw [pw_zero] at hc; exact absurd hc List.not_mem_nil
  | m + 1, c, hc => by
    rw [pw_succ] at hc
    rcases List.mem_append.mp hc with q | q
    · exact h c q
    · exact pw_mem h m c q
/-- a place in a power -/
theorem pw_at {u : List Nat} {c : Nat} : ∀ {m : Nat} {x y : List Nat}, pw u m = x ++ c :: y → ∃ i x1 y1, i < m ∧ u = x1 ++ c :: y1 ∧ x = pw u i ++ x1 ∧ y = y1 ++ pw u (m - 1 - i)
  | 0, x, y, h => by
    rw [pw_zero] at h
    cases x <;> cases h
  | m + 1, x, y, h => by
    rw [pw_succ] at h
    rcases split_append h with ⟨b1, e1, e2⟩ | ⟨a1, e1, e2⟩
    · refine ⟨0, x, b1, by omega, e1, by rw [pw_zero, List.nil_append], ?_⟩
      have : m + 1 - 1 - 0 = m := by omega
      rw [this]
      exact e2
    · obtain ⟨i, x1, y1, hi, eu, ex, ey⟩ := pw_at e2
      refine ⟨i + 1, x1, y1, by omega, eu, by rw [e1, ex, pw_succ, List.append_assoc], ?_⟩
      have : m + 1 - 1 - (i + 1) = m - 1 - i := by omega
      rw [this]
      exact ey
/-- 2 ^ k - 1 -/
def lst : Nat → Nat
  | 0 => 0
  | k + 1 => 2 * lst k + 1
theorem pow_kept (u : List Nat) : ∀ {k m n : Nat}, (m = n ∨ (lst k ≤ m ∧ lst k ≤ n)) → kept k (pw u m) (pw u n)
  | 0, _, _, _ => trivial
  | k + 1, m, n, h => by
    rcases h with rfl | ⟨hm, hn⟩
    · exact kept_refl _ _
    have half : ∀ {m n : Nat}, 2 * lst k + 1 ≤ m → 2 * lst k + 1 ≤ n → ∀ a c b, pw u m = a ++ c :: b → ∃ a' b', pw u n = a' ++ c :: b' ∧ kept k a a' ∧ kept k b b' := by
      intro m n hm hn a c b e
      obtain ⟨i, x1, y1, hi, eu, ea, eb⟩ := pw_at e
      -- the block of the other power
      have hj : ∃ j, j < n ∧ (i = j ∨ (lst k ≤ i ∧ lst k ≤ j)) ∧ (m - 1 - i = n - 1 - j ∨ (lst k ≤ m - 1 - i ∧ lst k ≤ n - 1 - j)) := by
        by_cases h1 : i ≤ lst k
        · exact ⟨i, by omega, .inl rfl, .inr ⟨by omega, by omega⟩⟩
        · by_cases h2 : m - 1 - i ≤ lst k
          · exact ⟨n - 1 - (m - 1 - i), by omega, .inr ⟨by omega, by omega⟩, .inl (by omega)⟩
          · exact ⟨lst k, by omega, .inr ⟨by omega, by omega⟩, .inr ⟨by omega, by omega⟩⟩
      obtain ⟨j, hjn, p, q⟩ := hj
      have en : pw u n = (pw u j ++ x1) ++ c :: (y1 ++ pw u (n - 1 - j)) := by
        have e1 : n = j + (1 + (n - 1 - j)) := by omega
        have e2 : pw u n = pw u j ++ (u ++ pw u (n - 1 - j)) := by
          conv => lhs; rw [e1, pw_add, Nat.add_comm 1, pw_succ]
        rw [e2, List.append_assoc, ← List.cons_append, ← List.append_assoc x1, ← eu]
      refine ⟨_, _, en, ?_, ?_⟩
      · rw [ea]
        exact kept_append (pow_kept u p) (kept_refl k x1)
      · rw [eb]
        exact kept_append (kept_refl k y1) (pow_kept u q)
    have hm : 2 * lst k + 1 ≤ m := hm
    have hn : 2 * lst k + 1 ≤ n := hn
    exact ⟨half hm hn, half hn hm⟩
theorem one_len (c m : Nat) : (pw [c] m).length = m := by rw [pw_len]; simp
theorem one_take (c : Nat) : ∀ {m i : Nat}, i ≤ m → (pw [c] m).take i = pw [c] i := fun {m i} h => by
  have e : m = i + (m - i) := by omega
  have e2 : pw [c] m = pw [c] i ++ pw [c] (m - i) := by
    conv => lhs; rw [e, pw_add]
  rw [e2]
  exact List.take_left' (one_len c i)
theorem one_drop (c : Nat) : ∀ {m i : Nat}, i ≤ m → (pw [c] m).drop i = pw [c] (m - i) := fun {m i} h => by
  have e : m = i + (m - i) := by omega
  have e2 : pw [c] m = pw [c] i ++ pw [c] (m - i) := by
    conv => lhs; rw [e, pw_add]
  rw [e2]
  exact List.drop_left' (one_len c i)
theorem one_lt {c : Nat} : ∀ {k m n : Nat}, kept k (pw [c] m) (pw [c] n) → m < n → lst k ≤ m
  | 0, _, _, _, _ => Nat.zero_le _
  | k + 1, m, n, h, hmn => by
    show 2 * lst k + 1 ≤ m
    refine Classical.byContradiction fun hlt => ?_
    have hk : lst k ≤ m := one_lt (kept_less h) hmn
    have ht : lst k < n := by omega
    -- the place t of the longer word
    obtain ⟨j, hj, _, p, q⟩ := (kept_succ.mp h).2 (lst k) (by rw [one_len]; exact ht)
    rw [one_len] at hj
    rw [one_take c (by omega), one_take c (by omega)] at p
    rw [one_drop c (by omega), one_drop c (by omega)] at q
    -- both rests
    have hq : n - (lst k + 1) = m - (j + 1) ∨ lst k ≤ m - (j + 1) := by
      rcases Nat.lt_trichotomy (n - (lst k + 1)) (m - (j + 1)) with z | z | z
      · have := one_lt q z
        exact .inr (by omega)
      · exact .inl z
      · exact .inr (one_lt (kept_symm q) z)
    have hp : lst k = j ∨ lst k ≤ j := by
      rcases Nat.lt_trichotomy (lst k) j with z | z | z
      · exact .inr (by omega)
      · exact .inl z
      · have := one_lt (kept_symm p) z
        exact .inr this
    omega
/-- one letter's powers -/
theorem one_iff {c k m n : Nat} : kept k (pw [c] m) (pw [c] n) ↔ (m = n ∨ (lst k ≤ m ∧ lst k ≤ n)) := by
  refine ⟨fun h => ?_, pow_kept [c]⟩
  rcases Nat.lt_trichotomy m n with z | z | z
  · have := one_lt h z
    exact .inr ⟨this, by omega⟩
  · exact .inl z
  · have := one_lt (kept_symm h) z
    exact .inr ⟨by omega, this⟩
end Ws

/-! several except clauses, each with a name -/
namespace Ws
open PySem PySem.Spec PyProof.Rows L2
abbrev Cl := Value × Nat × (Addr → Value → Option Addr → TS)
/-- what the clauses wish of an exception, one after the other; each clause's slot is empty behind it -/
def wManyAs (K : PySem.W.Frag) (Wo : WX) (D : Ends) : List Cl → WX
  | [] => Wo
  | (c, i, ts) :: more => fun cls d σ H => ∃ b, PySem.W.exmOne K cls c = some b ∧
      (b = true → ∀ a, H a = none → ts a cls d { nx := fun τ G => D.nx (τ.set i none) G, rt := D.rt, bk := fun τ G => D.bk (τ.set i none) G, ct := fun τ G => D.ct (τ.set i none) G } (σ.set i (some (.ref a))) H) ∧
      (b = false → wManyAs K Wo D more cls d σ H)
inductive HdsAs (X : Cx) : List ExceptHandler → List Cl → Prop
  | nil : HdsAs X [] []
  | cons {x n : Str} {c : Value} {i : Nat} {ts : Addr → Value → Option Addr → TS} {st0 : Stmt} {sts : List Stmt} {q1 q2 : Pos} {hds : List ExceptHandler} {l : List Cl} (hi : X.N[i]? = some n) (hln : X.env.kindOf n = some .local) (hc : Names X x c)
      (hsu : ∀ (a : Addr) (oe : Obj) (cls : Value) (d : Option Addr) (pz : List (Addr × Obj)), Zc cls d oe → (∃ vs, oe.data = .fields vs) → PSs (X.suite a ((a, oe) :: pz)) (st0 :: sts) (ts a cls d)) (r : HdsAs X hds l) :
      HdsAs X (.ExceptHandler (some (.Name x q1)) (some n) (st0 :: sts) q2 :: hds) ((c, i, ts) :: l)
theorem ps_try_manyAs {X : Cx} {body : List Stmt} {hd0 : ExceptHandler} {hds : List ExceptHandler} {l : List Cl} {pos : Pos} {tb : WX → TS} {Wo : WX} (hst : X.stack = X.env :: X.outer) (hfrm : X.env.frame = some X.env.locals) (hN : X.N.Nodup) (tk : Takes X Wo)
    (hb : ∀ (Wi : WX) (pz : List (Addr × Obj)) (xz : Value → Shared → Prop), Takes (X.tr pz xz) Wi → PassesOwn (model X.prog X.w) X.A X.env xz → PSs (X.tr pz xz) body (tb Wi))
    (hh : HdsAs X (hd0 :: hds) l) : PS X (.Try body (hd0 :: hds) [] [] pos) (fun D σ H => tb (wManyAs X.K Wo D l) D σ H) := by
  refine ⟨fun pz s σ H D I h => ?_⟩
  have okI := I.ok
  have frI : X.A.frames = some (X.env :: X.outer) := by rw [okI.frames, hst]
  refine wpAny_Try_except (wpAny_mono ((hb (wManyAs X.K Wo D l) (X.pn ++ pz) (fun e t₁ => wpAny (model X.prog X.w) X.A (noteFrame e X.env) (fun _ t₂ => wpAny (model X.prog X.w) X.A (setFlight e none) (fun _ t₃ =>
    wpAny (model X.prog X.w) X.A (handleBy e X.env (hd0 :: hds)) (SP X pz D) X.xe t₃) X.xe t₂) X.xe t₁) (fun u s2 xx => ?_) PassesOwn.looking).run [] s σ H D (I.toTry _) h) (fun f s1 hsp => ?_) (fun e s1 ze => ze))
  · obtain ⟨a, B, sz, pzz, σ2, H2, cls, d, rfl, JT, nbare, ups, skyT, fre, oss, bare, wish⟩ := xx
    have JA : Inv X pz σ2 H2 sz := JT.ofTry okI
    have skyA : Sky B (X.env :: X.outer) a (Zc cls d) X.env.locals s2.heap := by
      rw [← hst]; exact skyT
    show
      wpAny (model X.prog X.w) X.A (noteFrame (.ref a) X.env) _ _ _
    refine Sky.land Zc.steady frI hfrm skyA fun g3 fly3 ups3 => ?_
    have JB : Inv X pz σ2 H2 { s2 with heap := g3 } := JA.landed nbare fly3.1 (ups.trans ups3) oss bare
    obtain ⟨ob3, vz3, at3, zc3, dat3⟩ := fly3.there
    have notF : ∀ {g : Heap} {o : Obj} {vz : Array Value}, g.FunFrames B (X.env :: X.outer) → g.get? a = some o → o.data = .fields vz → a ∉ frs (X.env :: X.outer) := fun {g o vz} ff e dd hm => by
      obtain ⟨_, o2, e2, hnf⟩ := ff.mem hm
      rw [e] at e2
      cases e2
      exact hnf _ dd
    have nfrs := notF fly3.2.2.1 at3 dat3
    have nloc : a ≠ X.env.locals := fun z => nfrs (List.mem_filterMap.mpr ⟨X.env, List.mem_cons_self, by rw [hfrm, z]⟩)
    have nfs : a ∉ X.fs := fun hm => by
      obtain ⟨e, hem, qe⟩ := List.mem_filterMap.mp hm
      exact nfrs (List.mem_filterMap.mpr ⟨e, List.mem_cons_of_mem _ hem, qe⟩)
    have JS := JB.suite at3 dat3 fre nloc nfs
    have walkH : ∀ {hz : List ExceptHandler} {lz : List Cl}, HdsAs X hz lz → wManyAs X.K Wo D lz cls d σ2 H2 →
        wpAny (model X.prog X.w) X.A (handleBy (.ref a) X.env hz) (SP X pz D) X.xe { s2 with heap := g3 } := by
      intro hz lz hk
      induction hk with
      | nil =>
        intro wz
        refine wpAny_handleBy_nil ?_
        obtain ⟨f1, f2, f3, oz, vz, TB, oTB, tz, e1, e2, e3, e4, e5⟩ := id fly3
        unfold PySem.passOn
        refine wpAny_bind (wpAny_field e1 e3 e4 ?_)
        rw [if_neg (show ¬ ((Value.ref TB == Value.none) = true) from by simp)]
        have last : wpAny (model X.prog X.w) X.A (setFlight (.ref a) X.env.frame) (fun _ s4 => wpAny (model X.prog X.w) X.A (throw (.ref a) : Sem Flow) (SP X pz D) X.xe s4) X.xe { s2 with heap := g3 } := by
          rw [hfrm]
          refine HandSPX.setFlight_upZ fly3 fun g4 fl4 ups4 => wpAny_throw (tk _ _ ⟨a, B, sz, pz, σ2, H2, cls, d, rfl, JA, nbare, (ups.trans ups3).trans ups4, .inr (.inr ?_), fre, oss, bare, wz⟩)
          rw [hst]
          exact fl4
        first
          | exact wpAny_bind (wpAny_pure (wpAny_bind last))
          | exact wpAny_bind last
      | @cons x n c i ts st0 sts q1 q2 hds2 l2 hi hln hc hsu r ih =>
        intro wz
        obtain ⟨b, hex, yes, no⟩ := wz
        refine wpAny_handleBy_cons (codeAny_handlers_test ?_) (by intro z; cases z)
        have looks : PySem.W.Looks (model X.prog X.w) g3 (typeOf (.ref a)) cls := fun A Q E s k qz => wpAny_typeOf_ref (k _ _ at3) (by rw [zc3.1]; exact qz)
        have one := PySem.W.exm_one (M := model X.prog X.w) (JB.kIn) looks hex
        have look : ∀ {Q : Value → Shared → Prop} {E : Value → Shared → Prop}, Q c { s2 with heap := g3 } → wpAny (model X.prog X.w) (X.A.mark (some (.ref a))) (eval (.Name x q1) X.env) Q E { s2 with heap := g3 } := fun {Q E} qz => by
          obtain ⟨gl, ndb, hm | ⟨hm, hv, hnn⟩⟩ := hc
          · exact ld_glob (X := X.suite a ((a, ob3) :: (X.pn ++ pz))) JS gl hm qz ndb
          · exact ld_blt (X := X.suite a ((a, ob3) :: (X.pn ++ pz))) JS gl hm hv qz hnn ndb
        refine look (one.here ?_)
        cases b with
        | true =>
          refine codeAny_handlers_suite_as (HandSPX.lands_againZ fly3 fun g4 fly4 ups4 => ?_)
          have JC : Inv X pz σ2 H2 { s2 with heap := g4 } := JA.landed nbare fly4.1 ((ups.trans ups3).trans ups4) oss bare
          obtain ⟨ob4, vz4, at4, zc4, dat4⟩ := fly4.there
          have JD := JC.suite at4 dat4 fre nloc nfs
          refine store_ok (X := X.suite a ((a, ob4) :: (X.pn ++ pz))) (v := .ref a) JD hN hi (.inl hln) rfl (fun s5 JE => ?_) (.inr hln)
          refine wpAny_mono ((hsu a ob4 cls d (X.pn ++ pz) zc4 ⟨_, dat4⟩).run [] s5 _ H2 _ JE (yes rfl a fre)) (fun f s6 ends => ?_) (fun _ _ z => False.elim z)
          have behind : ∀ {σ6 : L2.St} {H6 : Hp} {Q : Shared → Prop}, Inv (X.suite a ((a, ob4) :: (X.pn ++ pz))) [] σ6 H6 s6 → (∀ s7, Inv X pz (σ6.set i none) H6 s7 → Q s7) →
              wpAny (model X.prog X.w) X.A (do bindName X.env n .none; unbindBehindTheSuite X.env n q2) (fun _ s7 => Q s7) X.xe s6 := fun {σ6 H6 Q} J6 hq => gone_ok (J6.unsuite okI) hN hi hln hq
          cases f with
          | next =>
            obtain ⟨σ6, H6, J6, e6⟩ := ends
            exact behind J6 fun s7 J7 => ⟨_, _, J7, e6⟩
          | brk =>
            obtain ⟨σ6, H6, J6, e6⟩ := ends
            exact behind J6 fun s7 J7 => ⟨_, _, J7, e6⟩
          | cont =>
            obtain ⟨σ6, H6, J6, e6⟩ := ends
            exact behind J6 fun s7 J7 => ⟨_, _, J7, e6⟩
          | ret u =>
            obtain ⟨v6, σ6, H6, J6, r6, e6⟩ := ends
            exact behind J6 fun s7 J7 => ⟨_, _, _, J7, r6, e6⟩
        | false =>
          show
            wpAny _ X.A (handleBy (.ref a) X.env hds2) _ _ _
          exact ih (no rfl)
    exact walkH hh wish
  · cases f with
    | next =>
      obtain ⟨σ2, H2, J2, q2⟩ := hsp
      exact wpAny_execs_nil ⟨σ2, H2, J2.ofTry okI, q2⟩
    | brk =>
      obtain ⟨σ2, H2, J2, q2⟩ := hsp
      exact ⟨σ2, H2, J2.ofTry okI, q2⟩
    | cont =>
      obtain ⟨σ2, H2, J2, q2⟩ := hsp
      exact ⟨σ2, H2, J2.ofTry okI, q2⟩
    | ret u =>
      obtain ⟨v2, σ2, H2, J2, r2, q2⟩ := hsp
      exact ⟨v2, σ2, H2, J2.ofTry okI, r2, q2⟩
end Ws

/-! data that is shown; a comprehension with an invariant of its own -/
namespace Ws
open PySem PySem.Spec PyProof.Rows L2
/-- small data without a dict -/
structure Leaf (d : PyData) : Prop where
  ok : d.showable = true
  nd : d.hasDict = false
  dp : d.depth ≤ 3
  sh : d.leavesShort 13 = true
  wt : d.weight ≤ 3000
theorem Leaf.shw {d : PyData} (h : Leaf d) : Shw d := ⟨h.ok, h.nd, by have := h.dp; omega, h.sh, by have := h.wt; omega⟩
theorem leaf_none : Leaf .none := ⟨rfl, rfl, by decide, rfl, by decide⟩
theorem leaf_bool (b : Bool) : Leaf (.bool b) := ⟨rfl, rfl, by show 0 ≤ 3; decide, rfl, by show 0 ≤ 3000; decide⟩
theorem leaf_int {n : Nat} (h : n < 100) : Leaf (.int n) := by
  have a : ((List.range 100).all fun n => (PyData.int n).showable && (PyData.int n).leavesShort 13 && decide ((PyData.int n).weight ≤ 3000)) = true := by decide +kernel
  have b := List.all_eq_true.mp a n (List.mem_range.mpr h)
  simp only [Bool.and_eq_true, decide_eq_true_eq] at b
  exact ⟨b.1.1, rfl, by show 0 ≤ 3; decide, b.1.2, b.2⟩
theorem leaf_str {l : List Nat} (h : ∀ c ∈ l, c < 16777216) (hl : l.length ≤ 2000) : Leaf (.str (S l)) := by
  refine ⟨rfl, rfl, by show 0 ≤ 3; decide, ?_, ?_⟩
  · show (S l).cps.toList.all (fun c => decide (c < 16 ^ 8)) = true
    rw [List.all_eq_true]
    intro c hc
    have := h c hc
    rw [decide_eq_true_iff]
    omega
  · show (S l).cps.size ≤ 3000
    have : (S l).cps.size = l.length := SX.S_len l
    omega
theorem all_show : ∀ {ds : List PyData}, (∀ d ∈ ds, d.showable = true ∧ d.hasDict = false ∧ d.leavesShort 13 = true) → PyData.showableAll ds = true ∧ PyData.hasDictAll ds = false ∧ PyData.leavesShortAll 13 ds = true
  | [], _ => ⟨rfl, rfl, rfl⟩
  | d :: ds, h => by
    obtain ⟨a, b, c⟩ := h d (List.mem_cons_self ..)
    obtain ⟨x, y, z⟩ := all_show (ds := ds) (fun e he => h e (List.mem_cons_of_mem _ he))
    refine ⟨?_, ?_, ?_⟩
    · show (d.showable && PyData.showableAll ds) = true
      rw [a, x]; rfl
    · show (d.hasDict || PyData.hasDictAll ds) = false
      rw [b, y]; rfl
    · show (d.leavesShort 13 && PyData.leavesShortAll 13 ds) = true
      rw [c, z]; rfl
theorem all_depth {n : Nat} : ∀ {ds : List PyData}, (∀ d ∈ ds, d.depth ≤ n) → PyData.depthAll ds ≤ n
  | [], _ => Nat.zero_le _
  | d :: ds, h => by
    show max d.depth (PyData.depthAll ds) ≤ n
    have a := h d (List.mem_cons_self ..)
    have b := all_depth (ds := ds) (fun e he => h e (List.mem_cons_of_mem _ he))
    omega
theorem all_weight {n : Nat} : ∀ {ds : List PyData}, (∀ d ∈ ds, d.weight ≤ n) → PyData.weightAll ds ≤ ds.length * (n + 1)
  | [], _ => Nat.zero_le _
  | d :: ds, h => by
    show d.weight + 1 + PyData.weightAll ds ≤ (ds.length + 1) * (n + 1)
    have a := h d (List.mem_cons_self ..)
    have b := all_weight (ds := ds) (fun e he => h e (List.mem_cons_of_mem _ he))
    rw [Nat.succ_mul]
    omega
/-- a list (tuple) of shown things -/
theorem Shw.list {n m : Nat} {ds : List PyData} (h : ∀ d ∈ ds, d.showable = true ∧ d.hasDict = false ∧ d.leavesShort 13 = true) (hd : ∀ d ∈ ds, d.depth ≤ n) (hn : n < 60) (hw : ∀ d ∈ ds, d.weight ≤ m) (hm : ds.length * (m + 1) ≤ 2 ^ 20) : Shw (.list ds) := by
  obtain ⟨a, b, c⟩ := all_show h
  refine ⟨a, b, ?_, c, ?_⟩
  · show PyData.depthAll ds + 1 ≤ 60
    have := all_depth hd
    omega
  · show PyData.weightAll ds ≤ 2 ^ 20
    exact Nat.le_trans (all_weight hw) hm
theorem Shw.leaves {ds : List PyData} (h : ∀ d ∈ ds, Leaf d) (hl : ds.length ≤ 300) : Shw (.list ds) :=
  Shw.list (n := 3) (m := 3000) (fun d hd => ⟨(h d hd).ok, (h d hd).nd, (h d hd).sh⟩) (fun d hd => (h d hd).dp) (by decide) (fun d hd => (h d hd).wt) (by
    have := Nat.mul_le_mul_right (3000 + 1) hl
    omega)
theorem leaf_pair {a b : PyData} (ha : Leaf a) (hb : Leaf b) (da : a.depth ≤ 2) (db : b.depth ≤ 2) (wa : a.weight ≤ 1000) (wb : b.weight ≤ 1000) : Leaf (.tuple [a, b]) := by
  obtain ⟨x, y, z⟩ := all_show (ds := [a, b]) (fun d hd => by
    simp only [List.mem_cons, List.not_mem_nil, or_false] at hd
    rcases hd with rfl | rfl
    · exact ⟨ha.ok, ha.nd, ha.sh⟩
    · exact ⟨hb.ok, hb.nd, hb.sh⟩)
  refine ⟨x, y, ?_, z, ?_⟩
  · show max a.depth (max b.depth 0) + 1 ≤ 3
    omega
  · show a.weight + 1 + (b.weight + 1 + 0) ≤ 3000
    omega
theorem leaf_list1 {a : PyData} (ha : Leaf a) (da : a.depth ≤ 1) (wa : a.weight ≤ 900) : Leaf (.list [a]) ∧ (PyData.list [a]).depth ≤ 2 ∧ (PyData.list [a]).weight ≤ 1000 := by
  obtain ⟨x, y, z⟩ := all_show (ds := [a]) (fun d hd => by
    rw [List.mem_singleton.mp hd]
    exact ⟨ha.ok, ha.nd, ha.sh⟩)
  have e1 : (PyData.list [a]).depth = max a.depth 0 + 1 := rfl
  have e2 : (PyData.list [a]).weight = a.weight + 1 + 0 := rfl
  exact ⟨⟨x, y, by omega, z, by omega⟩, by omega, by omega⟩
section
variable {K : PySem.W.Frag} {H : Hp}
theorem dp_map {f : Nat → V} {g : Nat → PyData} (h : ∀ i, Dp K H (f i) (g i)) : ∀ l : List Nat, DpAll K H (l.map f) (l.map g)
  | [] => .nil
  | i :: l => .cons (h i) (dp_map h l)
theorem dp_rep {d : PyData} : ∀ (ys : List V) (h : ∀ v ∈ ys, Dp K H v d), DpAll K H ys (List.replicate ys.length d)
  | [], _ => .nil
  | y :: ys, h => .cons (h y (List.mem_cons_self ..)) (dp_rep ys (fun v hv => h v (List.mem_cons_of_mem _ hv)))
theorem dp_app : ∀ {xs ys : List V} {ds es : List PyData}, DpAll K H xs ds → DpAll K H ys es → DpAll K H (xs ++ ys) (ds ++ es)
  | [], _, _, _, .nil, h => h
  | _ :: _, _, _, _, .cons a b, h => .cons a (dp_app b h)
end
section
variable {J : It} {n : Nat} {G : Hp → Prop} {Y : Nat → Hp → V → Hp → Prop} {g : TG} {te : TE} {vs : List Nat} {σ : L2.St} {H1 : Hp} {D : Addr} {Qd : Hp → Prop}
/-- the items by a function of the turn, with an invariant of its own -/
theorem lcI (w : Walk J n G Y) (hn : n < sizeLine) (f : Nat → V) (Iv : Nat → Hp → Prop) (h0 : Iv 0 (upd H1 D (.lst []))) (hG : ∀ i H, Iv i H → G H) (hI : ∀ i H ys, Iv i H → (∃ xs, H D = some (.lst xs)) → Iv i (upd H D (.lst ys)))
    (hs : ∀ i x H H', i < n → Iv i H → (∃ xs, H D = some (.lst xs)) → Y i H x H' → ∀ Q : VK, (∀ H2, Iv (i + 1) H2 → H2 D = H D → Q (f i) H2) →
      g x (wipe σ vs) H' fun σ2 H2 => wipe σ2 vs = wipe σ vs ∧ te σ2 H2 Q)
    (hd : ∀ H, Iv n H → H D = some (.lst ((List.range n).map f)) → Qd H) :
    ∃ W : Nat → Nat → Hp → Prop, (∃ m, W 0 m (upd H1 D (.lst []))) ∧
        ∀ i m H, W i m H →
      (J.stop i H ∧ Qd H) ∨ (J.go i H ∧ ∃ Nx : Hp → Prop, (∀ H', Nx H' → ∃ m', m' < m ∧ W (i + 1) m' H') ∧ ∀ x H', J.yld i H x H' →
        g x (wipe σ vs) H' fun σ2 H2 => wipe σ2 vs = wipe σ vs ∧ tYes σ2 H2 fun b H3 =>
          if b = true then te σ2 H3 fun y H4 => ∃ acc, H4 D = some (.lst acc) ∧
              acc.length < sizeLine ∧ Nx (upd H4 D (.lst (acc ++ [y]))) else Nx H3) := by
  refine ⟨fun i m H => m = n - i ∧ i ≤ n ∧ Iv i H ∧ H D = some (.lst ((List.range i).map f)), ⟨n, by simp, Nat.zero_le _, h0, upd_same⟩, ?_⟩
  rintro i m H ⟨rfl, hi, iv, hy⟩
  by_cases hlt : i < n
  · refine .inr ⟨w.goes i H hlt (hG i H iv), fun H' => i + 1 ≤ n ∧ Iv (i + 1) H' ∧ H' D = some (.lst ((List.range (i + 1)).map f)), fun H' p => ⟨n - (i + 1), by omega, rfl, p⟩, fun x H' y => ?_⟩
    refine hs i x H H' hlt iv ⟨_, hy⟩ (w.yields i H x H' hlt (hG i H iv) y) _ (fun H2 iv2 e2 => ?_)
    rw [hy] at e2
    refine ⟨_, e2, by rw [List.length_map, List.length_range]; omega, hlt, hI _ _ _ iv2 ⟨_, e2⟩, ?_⟩
    rw [upd_same, List.range_succ, List.map_append]
    rfl
  · have e : i = n := by omega
    subst e
    exact .inl ⟨w.stops H (hG _ H iv), hd H iv hy⟩
end
end Ws

/-! all words to a length; the first words of the classes -/
namespace Ws
open PySem PySem.Spec PyProof.Rows L2
/-! ### list(d.values()) -/
def tLVals (td : TE) : TE := fun σ H Q => td σ H fun x H1 => ∃ (a : Addr) (kvs : List (Key × V)), x = .ref a ∧ H1 a = some (.dK kvs) ∧ ∀ q, H1 q = none → Q (.ref q) (upd H1 q (.lst (kvs.map (·.2))))
theorem vals_at : ∀ {xs : List V} {us : List Value}, xs.length = us.length → (∀ (j : Nat) (x : V) (u : Value), xs[j]? = some x → us[j]? = some u → RelV x u) → Vals xs us
  | [], [], _, _ => .nil
  | [], _ :: _, h, _ =>
    by cases h
  | _ :: _, [], h, _ =>
    by cases h
  | x :: xs, u :: us, h, f => .cons (f 0 x u rfl rfl) (vals_at (by simpa using h) fun j y z h1 h2 => f (j + 1) y z (by simpa using h1) (by simpa using h2))
theorem pe_listVals {X : Cx} {o : Expr} {td : TE} {p pos apos mpos : Pos} (hc : X.calm = true) (hg : Gl X "list") (hm : X.mg "list" = none) (hd : PE X o td) (hbase : attributeBase o "values" X.env (eval o X.env) = eval o X.env := by rfl) (hline : (apos.endLine == mpos.line) = true := by rfl)
    (hse : starEach [Expr.Call (.Attribute o "values" apos) [] [] mpos] X.env = [(false,
        eval (Expr.Call (.Attribute o "values" apos) [] [] mpos) X.env)] := by rfl) :
    PE X (.Call (.Name "list" p) [.Call (.Attribute o "values" apos) [] [] mpos] [] pos) (tLVals td) := by
  refine ⟨fun pz s σ H Q I h => ?_⟩
  refine Call_ (ld_blt I hg hm (u := .type "list") (by first | rfl | decide +kernel) (PyProof.Rows.callWith_type1 ?_ hse rfl) (by decide) (by decide))
  rw [hse]
  show wpAny _ _ (spliced ((false, eval (Expr.Call (.Attribute o "values" apos) [] [] mpos) X.env) :: [])) _ _ s
  refine Calls.spliced_cons ?_
  refine wpAny_Call_method (T := "dict") (id := "dict.values") hbase rfl hline F.plainAttrs_dict F.slot_dict_values F.type_dict_values (thn (hd.run pz s σ H _ I h) fun u sA ⟨x, HA, iA, rx, a, kvs, ex, ha, q⟩ => ?_)
  subst ex
  have eu : u = Value.ref a := rx
  subst eu
  obtain ⟨hz, hsys, vs, rel, dof⟩ := dk_of iA.hok ha
  obtain
    ⟨ep, dat⟩ := dof.dictAt
  have iB : Inv X pz σ HA { sA with heap := sA.heap.push { cls := .type "dict_values", data := .fields #[.ref a] } } := iA.kept (t' := sA.toks) fun b ob e => Heap.get?_push_of_some _ e
  refine ⟨dof.typeIs, dof.mapOf.noDict, ?_⟩
  show wpAny _ _ (callWith mpos (.builtin "dict.values") [.ref a] [] []) _ X.xe sA
  refine method_meetsIn F.slot_dict_values F.entry_dict_values rfl (PySem.evalArgs_none ⟨rfl, dof.typeIs, F.args_dict_values_1 _, _, meets_dict_values (mixKind X.prog X.w) a hsys, ⟨vs, dof⟩, ?_⟩)
  refine Calls.spliced_nil ?_
  have lk : kvs.length = vs.length := Paired.length rel
  refine PySem.W.kdl_call (PySem.W.kdl_values (knd := mixKind X.prog X.w) (kvs := vs) (ep := ep)) (iA.ok.hd hc) ⟨⟨_, Heap.get?_push_size _ rfl, rfl, rfl⟩, dat.push _⟩ (by rw [← lk]; exact hz) fun h2 tk acc ac hk hS hacc => ?_
  refine ⟨.ref _, upd HA _ (.lst (kvs.map (·.2))), iB.laid (t' := tk) hk (Nat.le_refl _) ⟨by rw [List.length_map]; exact hz, acc.toList, ac, ?_, by rw [Array.toArray_toList]; exact hS⟩, rfl, q _ (iB.hok.fresh (Nat.le_refl _))⟩
  have el : acc.toList.length = acc.size := Array.length_toList
  refine vals_at (by rw [List.length_map, el, hacc.1, lk]) fun j x u h1 h2 => ?_
  obtain ⟨k, hkv⟩ := hacc.2 j u (by rw [← Array.getElem?_toList]; exact h2)
  obtain ⟨y, hy, ry⟩ := KV.at' rel hkv
  rw [List.getElem?_map, hy] at h1
  cases h1
  exact ry
/-! ### words -/
def kids (L : List Nat) (w : List Nat) : List (List Nat) := L.map fun c => w ++ [c]
def wof (L : List Nat) : Nat → List (List Nat)
  | 0 => [[]]
  | s + 1 => (wof L s).flatMap (kids L)
def wto (L : List Nat) (n : Nat) : List (List Nat) := (List.range (n + 1)).flatMap (wof L)
theorem wof_mem {L : List Nat} : ∀ {s : Nat} {w : List Nat}, w ∈ wof L s ↔ w.length = s ∧ ∀ c ∈ w, c ∈ L
  | 0, w => by
    show w ∈ [[]] ↔ _
    rw [List.mem_singleton]
    constructor
    · rintro rfl; exact ⟨rfl, fun c hc => absurd hc List.not_mem_nil⟩
    · rintro ⟨h, _⟩; exact List.length_eq_zero_iff.mp h
  | s + 1, w => by
    show w ∈ (wof L s).flatMap (kids L) ↔ _
    rw [List.mem_flatMap]
    constructor
    · rintro ⟨u, hu, hw⟩
      obtain ⟨c, hc, rfl⟩ := List.mem_map.mp hw
      obtain ⟨e, h⟩ := wof_mem.mp hu
      refine ⟨by simp [e], fun d hd => ?_⟩
      rcases List.mem_append.mp hd with q | q
      · exact h d q
      · rw [List.mem_singleton.mp q]; exact hc
    · rintro ⟨e, h⟩
      have hne : w ≠ [] := fun z => by rw [z] at e; cases e
      refine ⟨w.dropLast, wof_mem.mpr ⟨by rw [List.length_dropLast, e]; rfl, fun c hc => h c ((List.dropLast_sublist w).subset hc)⟩, List.mem_map.mpr ⟨w.getLast hne, h _ (List.getLast_mem hne), List.dropLast_concat_getLast hne⟩⟩
theorem wto_mem {L : List Nat} {n : Nat} {w : List Nat} : w ∈ wto L n ↔ w.length ≤ n ∧ ∀ c ∈ w, c ∈ L := by
  unfold wto
  rw [List.mem_flatMap]
  constructor
  · rintro ⟨s, hs, hw⟩
    obtain ⟨e, h⟩ := wof_mem.mp hw
    have := List.mem_range.mp hs
    exact ⟨by omega, h⟩
  · rintro ⟨e, h⟩
    exact ⟨w.length, List.mem_range.mpr (by omega), wof_mem.mpr ⟨rfl, h⟩⟩
theorem kids_len {L : List Nat} : ∀ l : List (List Nat), (l.flatMap (kids L)).length = L.length * l.length
  | [] => by simp
  | w :: l => by
    rw [List.flatMap_cons, List.length_append, kids_len l, List.length_cons, Nat.mul_succ]
    unfold kids
    rw [List.length_map]
    omega
theorem wof_len {L : List Nat} : ∀ s : Nat, (wof L s).length = L.length ^ s
  | 0 => rfl
  | s + 1 => by
    show ((wof L s).flatMap (kids L)).length = _
    rw [kids_len, wof_len s, Nat.pow_succ, Nat.mul_comm]
theorem wof_le {L : List Nat} (hL : L.length ≤ 3) {s : Nat} (hs : s ≤ 5) : (wof L s).length ≤ 243 := by
  rw [wof_len]
  calc L.length ^ s ≤ 3 ^ s := Nat.pow_le_pow_left hL s
    _ ≤ 3 ^ 5 := Nat.pow_le_pow_right (by decide) hs
theorem flat_le {f : Nat → List (List Nat)} {b : Nat} : ∀ {l : List Nat}, (∀ s ∈ l, (f s).length ≤ b) → (l.flatMap f).length ≤ l.length * b
  | [], _ => by simp
  | s :: l, h => by
    rw [List.flatMap_cons, List.length_append, List.length_cons, Nat.succ_mul]
    have h1 := h s (List.mem_cons_self ..)
    have h2 := flat_le (l := l) (fun t ht => h t (List.mem_cons_of_mem _ ht))
    omega
theorem wto_le {L : List Nat} (hL : L.length ≤ 3) {n : Nat} (hn : n ≤ 5) : (wto L n).length ≤ 1500 := by
  have h := flat_le (f := wof L) (b := 243) (l := List.range (n + 1)) (fun s hs => wof_le hL (by have := List.mem_range.mp hs; omega))
  rw [List.length_range] at h
  have : (n + 1) * 243 ≤ 6 * 243 := Nat.mul_le_mul_right _ (by omega)
  unfold wto
  omega
theorem wto_succ (L : List Nat) (n : Nat) : wto L (n + 1) = wto L n ++ wof L (n + 1) := by
  unfold wto
  rw [List.range_succ, List.flatMap_append]
  simp
/-- the first words of the classes -/
noncomputable def firsts (k : Nat) : List (List Nat) → List (List Nat) := fun ws => ws.foldl (fun acc w => if (acc.any fun f => keptB k w f) = true then acc else acc ++ [w]) []
theorem firsts_snoc {k : Nat} {ws : List (List Nat)} {w : List Nat} : firsts k (ws ++ [w]) = if ((firsts k ws).any fun f => keptB k w f) = true then firsts k ws else firsts k ws ++ [w] := by
  unfold firsts
  rw [List.foldl_append]
  rfl
structure FirstsOk (k : Nat) (ws acc : List (List Nat)) : Prop where
  sub : ∀ f ∈ acc, f ∈ ws
  rep : ∀ w ∈ ws, ∃ f ∈ acc, kept k w f
  apart : acc.Pairwise fun f g => ¬ kept k f g
theorem firsts_take {k : Nat} {ws : List (List Nat)} {i : Nat} (hi : i < ws.length) : firsts k (ws.take (i + 1)) = if ((firsts k (ws.take i)).any fun f => keptB k ws[i] f) = true then firsts k (ws.take i) else firsts k (ws.take i) ++ [ws[i]] := by
  rw [List.take_succ, List.getElem?_eq_getElem hi]
  exact firsts_snoc
theorem firsts_ok {k : Nat} {ws : List (List Nat)} : ∀ i, i ≤ ws.length → FirstsOk k (ws.take i) (firsts k (ws.take i))
  | 0, _ => ⟨fun f hf => by simp [firsts] at hf, fun w hw => by simp at hw, by simp [firsts]⟩
  | i + 1, hi => by
    obtain ⟨a, b, c⟩ := firsts_ok (k := k) (ws := ws) i (by omega)
    have hil : i < ws.length := by omega
    have et : ws.take (i + 1) = ws.take i ++ [ws[i]] := by rw [List.take_succ, List.getElem?_eq_getElem hil]; rfl
    rw [firsts_take hil]
    by_cases h : ((firsts k (ws.take i)).any fun f => keptB k ws[i] f) = true
    · rw [if_pos h, et]
      refine ⟨fun f hf => List.mem_append_left _ (a f hf), fun w hw => ?_, c⟩
      rcases List.mem_append.mp hw with q | q
      · exact b w q
      · rw [List.mem_singleton.mp q]
        obtain ⟨f, hf, hk⟩ := List.any_eq_true.mp h
        exact ⟨f, hf, keptB_iff.mp hk⟩
    · rw [if_neg h, et]
      have no : ∀ f ∈ firsts k (ws.take i), ¬ kept k ws[i] f := fun f hf hk => h (List.any_eq_true.mpr ⟨f, hf, keptB_iff.mpr hk⟩)
      refine ⟨fun f hf => ?_, fun w hw => ?_, ?_⟩
      · rcases List.mem_append.mp hf with q | q
        · exact List.mem_append_left _ (a f q)
        · exact List.mem_append_right _ q
      · rcases List.mem_append.mp hw with q | q
        · obtain ⟨f, hf, hk⟩ := b w q
          exact ⟨f, List.mem_append_left _ hf, hk⟩
        · rw [List.mem_singleton.mp q]
          exact ⟨ws[i], List.mem_append_right _ (List.mem_singleton.mpr rfl), kept_refl _ _⟩
      · rw [List.pairwise_append]
        exact ⟨c, by simp, fun f hf g hg hk => by
          rw [List.mem_singleton.mp hg] at hk
          exact no f hf (kept_symm hk)⟩
theorem one_first {k : Nat} {w : List Nat} : ∀ {acc : List (List Nat)}, (∃ f ∈ acc, kept k w f) → acc.Pairwise (fun f g => ¬ kept k f g) → (acc.filter fun f => keptB k f w).length = 1
  | [], h, _ => by obtain ⟨f, hf, _⟩ := h; exact absurd hf List.not_mem_nil
  | f :: acc, h, hp => by
    obtain ⟨p1, p2⟩ := List.pairwise_cons.mp hp
    by_cases hf : kept k w f
    · have e : (acc.filter fun g => keptB k g w) = [] := by
        rw [List.filter_eq_nil_iff]
        intro g hg hk
        exact p1 g hg (kept_trans (kept_symm hf) (kept_symm (keptB_iff.mp hk)))
      rw [List.filter_cons, if_pos (keptB_iff.mpr (kept_symm hf)), e]
      rfl
    · have e : keptB k f w = false := by
        cases h2 : keptB k f w with
        | false => rfl
        | true => exact absurd (kept_symm (keptB_iff.mp h2)) hf
      rw [List.filter_cons, e, if_neg (by decide)]
      refine one_first ?_ p2
      obtain ⟨g, hg, hk⟩ := h
      rcases
        List.mem_cons.mp hg with rfl | hg
      · exact absurd hk hf
      · exact ⟨g, hg, hk⟩
def Ss (l : List (List Nat)) : List V := l.map fun w => V.str (S w)
theorem Ss_app (a b : List (List Nat)) : Ss (a ++ b) = Ss a ++ Ss b := List.map_append ..
theorem Ss_len (a : List (List Nat)) : (Ss a).length = a.length := List.length_map ..
theorem Ss_at {l : List (List Nat)} {i : Nat} {y : V} (h : (Ss l)[i]? = some y) : ∃ w, l[i]? = some w ∧ y = .str (S w) := by
  unfold Ss at h
  rw [List.getElem?_map] at h
  obtain ⟨w, hw, rfl⟩ := Option.map_eq_some_iff.mp h
  exact ⟨w, hw, rfl⟩
theorem S_app_len82 {a : List Nat} {c : Nat} (h : a.length ≤ 1000) : (S a).length + (S [c]).length ≤ sizeLine := by
  have e : (S [c]).length = 1 := by rw [SX.S_len]; rfl
  rw [SX.S_len, e, sizeLine_eq]; omega
end Ws

/-! words_of, words_to, first_of_classes, the law's words -/
namespace Ws
open PySem PySem.Spec PyProof.Rows L2
def spWof : Sp := fun vs H Q _ => ∃ (L : List Nat) (n : Nat), vs = [.str (S L), .int n] ∧ L.length ≤ 3 ∧ n ≤ 5 ∧ ∀ r H', Same H H' → H r = none → H' r = some (.lst (Ss (wof L n))) → Q (.ref r) H'
def spWto : Sp := fun vs H Q _ => ∃ (L : List Nat) (n : Nat), vs = [.str (S L), .int n] ∧ L.length ≤ 3 ∧ n ≤ 5 ∧ ∀ r H', Same H H' → H r = none → H' r = some (.lst (Ss (wto L n))) → Q (.ref r) H'
section
variable {P : Program} {w : World} {K : PySem.W.Frag} {mg : Str → Option Value} {base : Heap} {f C CL CW : Addr} {fd : FuncData}
abbrev s_wof : Stmt := (top 11)
abbrev N_wof : List Str := ["letters", "length", "made", "_", "w", "sign"]
theorem sc_wof : FnScope N_wof ["letters", "length"] (defScope s_wof) := ⟨rfl, rfl, rfl, by decide +kernel, rfl, by decide +kernel, by decide +kernel⟩
theorem ok_wof (T : Bl mg) (D : Def K mg "words_of" s_wof f fd ["letters", "length"]) : Cal P w K mg base 1 "words_of" spWof := by
  refine D.cal (D.fn.ok sc_wof (fun vs H Q E h => ?_) (fun cdv A outer s H vs Q E hr h => ?_))
  · obtain ⟨L, n, rfl, _⟩ := h
    rfl
  · obtain ⟨L, n, rfl, hL, hn, k⟩ := h
    have nd := sc_wof.nd
    refine ⟨_, (pss_cons (ps_set (i := 2) nd rfl (.inl rfl) (pe_lst (pa_cons pe_str pa_nil)))
      (pss_cons (ps_for PassesOwn.never rfl (pi_range1 (by rfl) T.range (pa_cons (pv 1) pa_nil)) (pg_name (i := 3) nd rfl (.inl rfl))
      (pss_one (ps_setLc2 (i := 2) (own := [("w", 4), ("sign", 5)]) (vs1 := [5]) (wi1 := iStr (tVar 0)) rfl nd rfl rfl (sw_true rfl rfl rfl (by decide +kernel)) (pi_list (pv 2)) (blkOk_by (N := N_wof) rfl) (by decide) (fun _ _ _ _ _ => pg_name (i := 4) nd rfl (.inl rfl)) (fun _ _ _ _ _ => pts_nil)
        (fun _ _ _ _ _ => pi_str (pv 0)) (fun _ _ _ _ _ => pg_name (i := 5) nd rfl (.inl rfl)) (fun _ _ _ _ _ => pts_nil) (fun _ _ _ _ _ => pe_op op_add_str (pv 4) (pv 5)))))
      (pss_one (ps_ret (pv 2))))), ?_⟩
    refine ⟨by show 1 ≤ sizeLine; decide, fun l0 hl0 => ?_⟩
    refine ⟨_, rfl, n, rfl, by omega, by omega, ?_⟩
    have en : ((n : Nat) : Int).toNat = n := by omega
    rw [en]
    refine for_range (lo := 0) (n := n) (fun i σ H' => ∃ m z, σ = [some (.str (S L)), some (.int (n : Nat)), some (.ref m), z, none, none] ∧ Same H H' ∧ H m = none ∧ H' m = some (.lst (Ss (wof L i))))
      ⟨l0, none, rfl, Same.new hl0, hl0, by rw [upd_same, st_nil]; rfl⟩ ?_ ?_
    · rintro i σ H1 hi ⟨m, z, rfl, s1, m0, em⟩
      let M := wof L i
      have hM : M.length ≤ 243 := wof_le hL (by omega)
      refine ⟨_, rfl, m, rfl, ⟨_, SqL.of em⟩, fun D hD => ?_⟩
      let part : Nat → List V := fun j => Ss ((M.take j).flatMap (kids L))
      have hWl : Walk (Itl (cxOf CX0 P w K mg base N_wof "words_of" (defScope s_wof) f cdv A outer s H E).nox.K m) (Ss M).length (fun H => SqL K H m (Ss M)) (YAt (Ss M)) := walk_list
      have plen : ∀ j, (part j).length ≤ 3 * 243 := fun j => by
        show (Ss _).length ≤ _
        rw [Ss_len, kids_len]
        have h1 : (M.take j).length ≤ 243 := by rw [List.length_take]; omega
        exact Nat.mul_le_mul hL h1
      refine ⟨fun j q H' => q = M.length - j ∧ j ≤ M.length ∧ Same H1 H' ∧ H' D = some (.lst (part j)), ⟨_, rfl, Nat.zero_le _, Same.new hD, upd_same⟩, ?_⟩
      rintro j q H2 ⟨rfl, hj, s2, e2⟩
      have hS2 : SqL K H2 m (Ss M) := s2.seq (SqL.of em)
      by_cases hlt : j < M.length
      · refine .inr ⟨hWl.goes j H2 (by rw [Ss_len]; exact hlt) hS2, fun H3 => j + 1 ≤ M.length ∧ Same H1 H3 ∧ H3 D = some (.lst (part (j + 1))), fun H3 p => ⟨M.length - (j + 1), by omega, rfl, p⟩, fun x H3 y => ?_⟩
        obtain ⟨rfl, hx⟩ := hWl.yields j H2 x H3 (by rw [Ss_len]; exact hlt) hS2 y
        obtain ⟨u, hu, rfl⟩ := Ss_at hx
        rw [List.getElem?_eq_getElem hlt] at hu
        have hu : M[j] = u := Option.some.inj hu
        have ulen : u.length ≤ 5 := by
          have hm : u ∈ M := by rw [← hu]; exact List.getElem_mem hlt
          have := (wof_mem.mp hm).1
          omega
        have fs : part (j + 1) = part j ++ Ss (kids L u) := by
          show Ss ((M.take (j + 1)).flatMap (kids L)) = Ss ((M.take j).flatMap (kids L)) ++ _
          rw [← Ss_app, List.take_succ, List.getElem?_eq_getElem hlt, hu, List.flatMap_append]
          simp
        refine ⟨rfl, ?_⟩
        refine yesT ?_
        refine ⟨_, rfl, S L, rfl, fun j1 q1 H4 => q1 = L.length - j1 ∧ j1 ≤ L.length ∧ Same H1 H4 ∧ H4 D = some (.lst (part j ++ Ss ((kids L u).take j1))), ⟨_, rfl, Nat.zero_le _, s2, by rw [e2, List.take_zero]; show some (HO.lst (part j)) = some (HO.lst (part j ++ [])); rw [List.append_nil]⟩, ?_⟩
        rintro j1 q1 H4 ⟨rfl, hj1, s4, e4⟩
        by_cases hl1 : j1 < L.length
        · refine .inr ⟨walk_S.goes j1 H4 hl1 True.intro, fun H5 => j1 + 1 ≤ L.length ∧ Same H1 H5 ∧ H5 D = some (.lst (part j ++ Ss ((kids L u).take (j1 + 1)))), fun H5 p => ⟨L.length - (j1 + 1), by omega, rfl, p⟩, fun x H5 y => ?_⟩
          obtain ⟨rfl, c, hc, rfl⟩ := walk_S.yields j1 H4 x H5 hl1 True.intro y
          refine ⟨rfl, ?_⟩
          refine yesT ?_
          have hkt : (kids L u).take (j1 + 1) = (kids L u).take j1 ++ [u ++ [c]] := by
            rw [List.take_succ]
            have : (kids L u)[j1]? = some (u ++ [c]) := by
              unfold kids
              rw [List.getElem?_map, hc]
              rfl
            rw [this]
            rfl
          refine ⟨_, rfl, _, rfl, _, _, rfl, rfl, S_app_len82 (by omega) , _, e4, ?_, hl1, ?_, ?_⟩
          · have h1 := plen j
            have h2 : (Ss ((kids L u).take j1)).length ≤ 3 := by
              rw [Ss_len, List.length_take]
              unfold kids
              rw [List.length_map]
              omega
            rw [List.length_append, sizeLine_eq]
            omega
          · intro b o e
            rw [upd_ne (ne_of_none e hD)]
            exact s4 _ _ e
          · show upd H5 D (.lst (part j ++ Ss ((kids L u).take j1) ++ [.str (SX.S u ++ SX.S [c])])) D = _
            rw [upd_same, hkt, Ss_app, SX.S_cat, List.append_assoc]
            rfl
        · have ej : j1 = L.length := by omega
          subst ej
          refine .inl ⟨walk_S.stops H4 True.intro, hlt, s4, ?_⟩
          rw [e4, fs, List.take_of_length_le (by unfold kids; rw [List.length_map]; exact Nat.le_refl _)]
      · have ej : j = M.length := by omega
        subst ej
        refine .inl ⟨hWl.stops H2 hS2 |> fun h => ?_, ?_⟩
        · rw [Ss_len] at h; exact h
        have e3 : part M.length = Ss (wof L (i + 1)) := by
          show Ss ((M.take M.length).flatMap (kids L)) = _
          rw [List.take_length]
          rfl
        rw [e3] at e2
        exact ⟨D, _, rfl, s1.trans s2, s1.free hD, e2⟩
    · rintro σ H1 ⟨m, z, rfl, s1, m0, em⟩
      exact ⟨_, rfl, k m H1 s1 m0 em⟩
abbrev s_wto : Stmt := (top 12)
theorem sc_wto : FnScope ["letters", "length", "made", "size"] ["letters", "length"] (defScope s_wto) := ⟨rfl, rfl, rfl, by decide +kernel, rfl, by decide +kernel, by decide +kernel⟩
theorem ok_wto (T : Bl mg) (D : Def K mg "words_to" s_wto f fd ["letters", "length"]) (c_wof : Cal P w K mg base 1 "words_of" spWof) : Cal P w K mg base 2 "words_to" spWto := by
  refine D.cal (D.fn.ok sc_wto (fun vs H Q E h => ?_) (fun cdv A outer s H vs Q E hr h => ?_))
  · obtain ⟨L, n, rfl, _⟩ := h
    rfl
  · obtain ⟨L, n, rfl, hL, hn, k⟩ := h
    have nd := sc_wto.nd
    refine ⟨_, (pss_cons (ps_set (i := 2) nd rfl (.inl rfl) (pe_lst pa_nil))
      (pss_cons (ps_for PassesOwn.never rfl (pi_range1 (by rfl) T.range (pa_cons (pe_op op_add (pv 1) pe_int) pa_nil)) (pg_name (i := 3) nd rfl (.inl rfl))
      (pss_one (ps_expr (pe_bm PySem.F.plainAttrs_list PySem.F.slot_list_extend PySem.F.type_list_extend mt_extend (pv 2) (pa_cons (pe_c c_wof hr (by decide) rfl (pa_cons (pv 0) (pa_cons (pv 3) pa_nil))) pa_nil)))))
      (pss_one (ps_ret (pv 2))))), ?_⟩
    refine ⟨Nat.zero_le _, fun m hm => ?_⟩
    have en : (((n : Nat) : Int) + 1).toNat = n + 1 := by omega
    refine ⟨_, rfl, _, _, rfl, rfl, _, rfl, by omega, by omega, ?_⟩
    rw [en]
    refine for_range (lo := 0) (n := n + 1) (fun i σ H' => ∃ z, σ = [some (.str (S L)), some (.int (n : Nat)), some (.ref m), z] ∧ Same H H' ∧ H' m = some (.lst (Ss ((List.range i).flatMap (wof L)))))
      ⟨none, rfl, Same.new hm, upd_same⟩ ?_ ?_
    · rintro i σ H1 hi ⟨z, rfl, s1, em⟩
      rw [show (0 : Int) + (i : Int) = ((i : Nat) : Int) from Int.zero_add _]
      have hb : ((List.range i).flatMap (wof L)).length ≤ 6 * 243 := by
        have h := flat_le (f := wof L) (b := 243) (l := List.range i) (fun s hs => wof_le hL (by have := List.mem_range.mp hs; omega))
        rw [List.length_range] at h
        exact Nat.le_trans h (Nat.mul_le_mul_right _ (by omega))
      refine ⟨_, rfl, .inl ⟨rfl, _, SqL.of em⟩, _, rfl, _, rfl, L, i, rfl, hL, by omega, fun r H2 s2 r0 er => ?_⟩
      have nrm : m ≠ r := ne_of_none em r0
      refine ⟨m, r, _, _, rfl, rfl, s2 _ _ em, er, ?_, ?_⟩
      · have := wof_le hL (s := i) (by omega)
        rw [Ss_len, Ss_len, sizeLine_eq]
        omega
      · refine ⟨_, rfl, fun b o e => ?_, ?_⟩
        · rw [upd_ne (ne_of_none e hm)]
          exact s2 _ _ (s1 _ _ e)
        · rw [upd_same, List.range_succ, List.flatMap_append, Ss_app]
          simp
    · rintro σ H1 ⟨z, rfl, s1, em⟩
      exact ⟨_, rfl, k m H1 s1 hm em⟩

/-- the first words, letters first looked at -/
def spFC (K : PySem.W.Frag) (CL CW : Addr) : Sp := fun vs H Q E => ∃ lt o, ∃ k n : Nat, vs = [lt, .int k, .int n] ∧ TxtO K H lt o ∧ k ≤ 5 ∧ n ≤ 5 ∧ (∀ L, o = some L → L.length ≤ 3 ∧ (∀ c ∈ L, c < 16777216)) ∧
  (∀ L, o = some L → letOk o = true → ∀ r H', Same H H' → H' r = some (.lst (Ss (firsts k (wto L n)))) → Q (.ref r) H') ∧ Fault CL CW H (if letOk o = true then none else some (false, lt)) E
/-- what is known: numbers and first words -/
def knownOf (acc : List (Nat × List Nat)) : List (Key × V) := acc.map fun p => (.inl (p.1 : Nat), .str (S p.2))
theorem known_some {acc : List (Nat × List Nat)} {n : Nat} {v : V} (h : valV (knownOf acc) (.inl (n : Nat)) = some v) : ∃ p ∈ acc, p.1 = n := by
  induction acc with
  | nil => cases h
  | cons p acc ih =>
    by_cases e : p.1 = n
    · exact ⟨p, List.mem_cons_self .., e⟩
    · have ne : ¬ ((.inl (p.1 : Nat) : Key) = .inl (n : Nat)) := fun z => e (by injection z with z; omega)
      unfold knownOf at h
      rw [List.map_cons, valV_neg ne] at h
      obtain ⟨q, hq, e2⟩ := ih h
      exact ⟨q, List.mem_cons_of_mem _ hq, e2⟩
theorem known_none {acc : List (Nat × List Nat)} {n : Nat} (h : valV (knownOf acc) (.inl (n : Nat)) = none) : ∀ p ∈ acc, p.1 ≠ n := by
  induction acc with
  | nil => exact fun p hp => absurd hp List.not_mem_nil
  | cons q acc ih =>
    by_cases e : q.1 = n
    · unfold knownOf at h
      rw [List.map_cons, valV_pos (by show (.inl (q.1 : Nat) : Key) = _; rw [e])] at h
      cases h
    · have ne : ¬ ((.inl (q.1 : Nat) : Key) = .inl (n : Nat)) := fun z => e (by injection z with z; omega)
      unfold knownOf at h
      rw [List.map_cons, valV_neg ne] at h
      intro p hp
      rcases
        List.mem_cons.mp hp with rfl | hp
      · exact e
      · exact ih h p hp
abbrev s_fc : Stmt := (top 19)
abbrev N_fc : List Str := ["letters", "k", "length", "classes", "known", "w"]
theorem sc_fc : FnScope N_fc ["letters", "k", "length"] (defScope s_fc) := ⟨rfl, rfl, rfl, by decide +kernel, rfl, by decide +kernel, by decide +kernel⟩
theorem ok_fc (T : Bl mg) (CT : ClsT K mg C) (MK : MkC P w K mg base C (spCI C)) (c_chl : CalX P w K mg base 5 "check_letters" (spChkL K CL CW)) (c_co : Cal P w K mg base 3 "class_of" (spClassOf C)) (c_wto : Cal P w K mg base 2 "words_to" spWto)
    (D : Def K mg "first_of_classes" s_fc f fd ["letters", "k", "length"]) : CalX P w K mg base 6 "first_of_classes" (spFC K CL CW) := by
  refine D.calX (D.fn.okX sc_fc (fun vs H Q E h => ?_) (fun cdv A outer s H vs Q E hr h => ?_))
  · obtain ⟨lt, o, k, n, rfl, _⟩ := h
    rfl
  · obtain ⟨lt, o, k, n, rfl, tl, hk, hn, hLo, kq, kf⟩ := h
    have nd := sc_fc.nd
    obtain ⟨fI, fdI, FI, MI, bI⟩ := MK.ex
    refine ⟨_, (pss_cons (ps_expr (pe_cE c_chl (passes_call (takes_of rfl rfl rfl rfl) (fun _ _ _ _ h => h)) hr (by decide) rfl (pa_cons (pv 0) pa_nil)))
      (pss_cons (ps_set (i := 3) nd rfl (.inl rfl) (pe_make0 MI FI (hr.mono (by decide)) rfl CT.mgC bI .nil pass0))
      (pss_cons (ps_set (i := 4) nd rfl (.inl rfl) pe_dnewK)
      (pss_cons (ps_for (passes_of rfl) rfl (pi_list (pe_c c_wto hr (by decide) rfl (pa_cons (pv 0) (pa_cons (pv 2) pa_nil)))) (pg_name (i := 5) nd rfl (.inl rfl))
      (pss_one (ps_expr (pe_dsetd (pv 4) (pe_c c_co hr (by decide) rfl (pa_cons (pv 3) (pa_cons (pv 1) (pa_cons (pv 5) pa_nil)))) (pv 5) ⟨rfl, rfl, rfl, rfl⟩))))
      (pss_one (ps_ret (pe_listVals rfl (by rfl) T.list (pv 4)))))))), ?_⟩
    refine ⟨_, rfl, lt, o, rfl, tl, fun hl H2 s2 => ?_, kf⟩
    obtain ⟨L, rfl⟩ : ∃ L, o = some L := by
      cases o with
      | none => cases hl
      | some L => exact ⟨L, rfl⟩
    obtain ⟨hL3, hLs⟩ := hLo L rfl
    obtain rfl := txt_of tl
    intro p dx hp hdx hne
    refine ⟨p, dx, rfl, upd_same, fun dk hdk => ⟨rfl, ?_⟩⟩
    have hdk2 : H2 dk = none := by
      by_cases e1 : dk = p
      · rw [e1]; exact hp
      · by_cases e2 : dk = dx
        · rw [e2]; exact hdx
        · rwa [upd_ne e1, upd_ne e2] at hdk
    have npd : p ≠ dk := fun e => by rw [← e, upd_same] at hdk; cases hdk
    let HC := upd (upd (upd (upd H2 dx (.own p)) p (.ins C dx [])) dk (.dT [])) p (.ins C dx [("known", .ref dk)])
    have c0 : ClsAt C HC p dk [] := ⟨⟨dx, upd_same⟩, by show upd _ p _ dk = _; rw [upd_ne npd.symm, upd_same]; rfl⟩
    have sC : Same H2 HC := by
      intro b ob e
      have nbp : b ≠ p := ne_of_none e hp
      show upd _ p _ b = _
      rw [upd_ne nbp, upd_ne (ne_of_none e hdk2), upd_ne nbp, upd_ne (ne_of_none e hdx)]
      exact e
    intro kd hkd
    have nkd : dk ≠ kd := ne_of_none c0.2 hkd
    have sD : Same HC (upd HC kd (.dK [])) := Same.new hkd
    refine ⟨_, rfl, _, rfl, L, n, rfl, hL3, hn, fun r H3 s3 r0 er => ⟨r, rfl, ⟨_, SqL.of er⟩, ?_⟩⟩
    let ws := wto L n
    have hws : ws.length ≤ 1500 := wto_le hL3 hn
    have nrk : r ≠ kd := fun z => by rw [z, upd_same] at r0; cases r0
    have nrd : r ≠ dk := fun z => by rw [z, sD _ _ c0.2] at r0; cases r0
    have c3 := (c0.same sD).same s3
    have e3 : H3 kd = some (.dK (knownOf [])) := s3 _ _ upd_same
    have hM : (k + 1) * ((n + 1) * (n + 1)) ≤ 6 * (6 * 6) := Nat.mul_le_mul (by omega) (Nat.mul_le_mul (by omega) (by omega))
    refine for_list (K := K) (a := r) (xs := Ss ws) (fun i σ H' => ∃ z acc ks, σ = [some (.str (S L)), some (.int (k : Nat)), some (.int (n : Nat)), some (.ref p), some (.ref kd), z] ∧ Same H2 H' ∧ H' r = some (.lst (Ss ws)) ∧ ClsAt C H' p dk ks ∧ ks.Nodup ∧ ks.length ≤ i * 216 ∧
        H' kd = some (.dK (knownOf acc)) ∧ acc.length ≤ i ∧ acc.map (·.2) = firsts k (ws.take i) ∧ ∀ q ∈ acc, Means ks k q.1 q.2)
      ⟨none, [], [], rfl, sC.trans (sD.trans s3), er, c3, List.nodup_nil, Nat.zero_le _, e3, Nat.zero_le _, rfl, fun q hq => absurd hq List.not_mem_nil⟩ (fun i σ H' _ q => ?_) ?_ ?_
    · obtain ⟨_, _, _, _, _, h, _⟩ := q
      exact SqL.of h
    · rintro i y σ H4 hi ⟨z, acc, ks, rfl, s4, er4, c4, nd4, kl4, ek4, al4, am4, ms4⟩
      obtain ⟨u, hu, rfl⟩ := Ss_at hi
      have hil := (List.getElem?_eq_some_iff.mp hu).1
      have hue := (List.getElem?_eq_some_iff.mp hu).2
      obtain ⟨ul, uc⟩ := wto_mem.mp (List.mem_of_getElem? hu)
      have hi16 : i * 216 ≤ 1500 * 216 := Nat.mul_le_mul_right _ (by omega)
      have hMu : (k + 1) * ((u.length + 1) * (u.length + 1)) ≤ 6 * (6 * 6) := Nat.mul_le_mul (by omega) (Nat.mul_le_mul (by omega) (by omega))
      refine ⟨_, rfl, kd, rfl, .inl ⟨_, .inl ek4⟩, _, rfl, _, rfl, _, rfl, p, dk, ks, u, k, rfl, c4, by omega, fun x hx => hLs x (uc x hx), by omega, by omega, fun nn ks' H5 e5 c5 g5 l5 m5 => ?_⟩
      have nd5 := g5.nd nd4
      have ek5 : H5 kd = some (.dK (knownOf acc)) := e5 _ _ nkd.symm ek4
      have s5 : Same H2 H5 := fun b o e => e5 _ _ (ne_of_none e hdk2) (s4 _ _ e)
      have ms5 : ∀ q ∈ acc, Means ks' k q.1 q.2 := fun q hq => g5.means (ms4 q hq)
      refine ⟨_, rfl, knownOf acc, .inl (nn : Nat), ek5, rfl, by unfold knownOf; rw [List.length_map, sizeLine_eq]; omega, fun v hv => ?_, fun hv => ?_⟩
      · obtain ⟨q, hq, eq1⟩ := known_some hv
        have kk : kept k u q.2 := (means_iff nd5 (ms5 q hq) m5).mp eq1 |> kept_symm
        refine ⟨some (.str (S u)), acc, ks', rfl, s5, e5 _ _ nrd er4, c5, nd5, by omega, ek5, by omega, ?_, ms5⟩
        rw [firsts_take hil, ← am4, if_pos]
        · refine List.any_eq_true.mpr ⟨q.2, List.mem_map.mpr ⟨q, hq, rfl⟩, ?_⟩
          rw [hue]
          exact keptB_iff.mpr kk
      · rw [putK_new _ hv]
        have eapp : knownOf acc ++ [((.inl (nn : Nat) : Key), V.str (S u))] = knownOf (acc ++ [(nn, u)]) := by
          unfold knownOf
          rw [List.map_append]
          rfl
        rw [eapp]
        refine ⟨some (.str (S u)), acc ++ [(nn, u)], ks', rfl, fun b o e => ?_, ?_, ⟨?_, ?_⟩, nd5, by omega, upd_same, by rw [List.length_append]; simp only [List.length_cons, List.length_nil]; omega, ?_, fun q hq => ?_⟩
        · rw [upd_ne (fun z => by
            have hk0 : H2 kd = none := by
              cases h0 : H2 kd with
              | none => rfl
              | some o0 =>
                have hkd' : HC kd = none := hkd
                rw [sC _ _ h0] at hkd'; cases hkd'
            rw [z, hk0] at e
            cases e)]
          exact s5 _ _ e
        · rw [upd_ne nrk]
          exact e5 _ _ nrd er4
        · obtain ⟨dx5, e6⟩ := c5.1
          exact ⟨dx5, by rw [upd_ne (fun z => by rw [z, ek5] at e6; cases e6)]; exact e6⟩
        · rw [upd_ne nkd]
          exact c5.2
        · rw [firsts_take hil, ← am4, if_neg, List.map_append, hue]
          · rfl
          · intro ha
            obtain ⟨f2, hf, hkf⟩ := List.any_eq_true.mp ha
            obtain ⟨q, hq, rfl⟩ := List.mem_map.mp hf
            rw [hue] at hkf
            exact known_none hv q hq ((means_iff nd5 (ms5 q hq) m5).mpr (kept_symm (keptB_iff.mp hkf)))
        · rcases List.mem_append.mp hq with q' | q'
          · exact ms5 q q'
          · rw [List.mem_singleton.mp q']
            exact m5
    · rintro σ H4 ⟨z, acc, ks, rfl, s4, er4, c4, nd4, kl4, ek4, al4, am4, ms4⟩
      refine ⟨_, rfl, kd, _, rfl, ek4, fun q hq => ?_⟩
      refine kq L rfl hl q _ (s2.trans (s4.trans (Same.new hq))) ?_
      rw [upd_same]
      have e9 : (Ss ws).length = ws.length := Ss_len ws
      rw [e9, List.take_length] at am4
      rw [← am4]
      unfold knownOf Ss
      rw
        [List.map_map, List.map_map]
      rfl
end
end Ws

/-! the law's words, one after the other; what it is told -/
namespace Ws
open PySem PySem.Spec PyProof.Rows L2
def pre (L : List Nat) (s : Nat) : Nat := ((List.range s).flatMap (wof L)).length
def bst (L : List Nat) (s j : Nat) : List (List Nat) := wto L s ++ ((wof L s).take j).flatMap (kids L)
theorem pre_succ (L : List Nat) (s : Nat) : pre L (s + 1) = pre L s + (wof L s).length := by
  unfold pre
  rw [List.range_succ, List.flatMap_append, List.length_append]
  simp
theorem pre_mono (L : List Nat) {s n : Nat} (h : s ≤ n) : pre L s ≤ pre L n := by
  induction n with
  | zero => have : s = 0 := by omega
            rw [this]; exact Nat.le_refl _
  | succ n ih =>
    by_cases e : s = n + 1
    · rw [e]; exact Nat.le_refl _
    · have := ih (by omega)
      rw [pre_succ]
      omega
theorem wto_pre (L : List Nat) (s : Nat) : wto L s = (List.range s).flatMap (wof L) ++ wof L s := by
  unfold wto
  rw [List.range_succ, List.flatMap_append]
  simp
theorem bst_at {L : List Nat} {s j : Nat} (h : j < (wof L s).length) : (bst L s j)[pre L s + j]? = some (wof L s)[j] := by
  have h1 : pre L s + j < (wto L s).length := by
    rw [wto_pre, List.length_append]
    show ((List.range s).flatMap (wof L)).length + j < _
    omega
  unfold bst
  rw [List.getElem?_append_left h1, wto_pre, List.getElem?_append_right (by show ((List.range s).flatMap (wof L)).length ≤ ((List.range s).flatMap (wof L)).length + j; omega)]
  have : pre L s + j - ((List.range s).flatMap (wof L)).length = j := by
    show ((List.range s).flatMap (wof L)).length + j - _ = j
    omega
  rw [this, List.getElem?_eq_getElem h]
theorem bst_step {L : List Nat} {s j : Nat} (h : j < (wof L s).length) : bst L s (j + 1) = bst L s j ++ kids L (wof L s)[j] := by
  unfold bst
  rw [List.take_succ, List.getElem?_eq_getElem h, List.flatMap_append, List.append_assoc]
  simp
theorem bst_next (L : List Nat) (s : Nat) : bst L s (wof L s).length = bst L (s + 1) 0 := by
  unfold bst
  rw [List.take_length, List.take_zero, wto_succ]
  show _ ++ wof L (s + 1) = _
  simp
theorem wof_pos {L : List Nat} (h : L ≠ []) : ∀ s, 0 < (wof L s).length := fun s => by
  rw [wof_len]
  exact Nat.pow_pos (List.length_pos_iff.mpr h)
def spLWords : Sp := fun vs H Q _ => ∃ (L : List Nat) (n : Nat), vs = [.str (S L), .int n] ∧ L ≠ [] ∧ L.length ≤ 3 ∧ n ≤ 5 ∧ ∀ r H', Same H H' → H r = none → H' r = some (.lst (Ss (wto L n))) → Q (.ref r) H'
section
variable {P : Program} {w : World} {K : PySem.W.Frag} {mg : Str → Option Value} {base : Heap} {f C CL CW : Addr} {fd : FuncData}
abbrev s_lw : Stmt := (top 26)
abbrev N_lw : List Str := ["letters", "most", "made", "at", "sign"]
theorem sc_lw : FnScope N_lw ["letters", "most"] (defScope s_lw) := ⟨rfl, rfl, rfl, by decide +kernel, rfl, by decide +kernel, by decide +kernel⟩
theorem ok_lw (T : Bl mg) (D : Def K mg "_law_words" s_lw f fd ["letters", "most"]) : Cal P w K mg base 1 "_law_words" spLWords := by
  refine D.cal (D.fn.ok sc_lw (fun vs H Q E h => ?_) (fun cdv A outer s H vs Q E hr h => ?_))
  · obtain ⟨L, n, rfl, _⟩ := h
    rfl
  · obtain ⟨L, n, rfl, hne, hL, hn, k⟩ := h
    have nd := sc_lw.nd
    refine ⟨_, (pss_cons (ps_set (i := 2) nd rfl (.inr rfl) (pe_lst (pa_cons pe_str pa_nil)))
      (pss_cons (ps_set (i := 3) nd rfl (.inr rfl) pe_int)
      (pss_cons (ps_while PassesOwn.never (pt_cmpR op_lt (pe_callB call_len_str (by rfl) T.len PySem.boot_len (pa_cons (pe_ix ix_list (pv 2) (pv 3) (fun _ _ => rfl)) pa_nil)) (pv 1) (nomark _))
      (pss_cons (ps_set (i := 2) nd rfl (.inr rfl) (pe_op op_cat (pv 2) (pe_lc (own := [("sign", 4)]) rfl nd (pi_str (pv 0)) (blkOk_by (N := N_lw) rfl) (fun _ _ _ _ _ => (pg_name (i := 4) nd rfl (.inl rfl))) (fun _ _ _ _ _ => pts_nil) (fun _ _ _ _ _ => (pe_op op_add_str (pe_ix (r := rIxL K) ix_list (pv 2) (pv 3) (fun _ _ => rfl)) (pv 4))))))
      (pss_one (ps_set (i := 3) nd rfl (.inr rfl) (pe_op op_add (pv 3) pe_int)))))
      (pss_one (ps_ret (pv 2)))))), ?_⟩
    refine ⟨by show 1 ≤ sizeLine; decide, fun l0 hl0 => ?_⟩
    have b0 : bst L 0 0 = [[]] := rfl
    have p0 : pre L 0 = 0 := rfl
    refine ⟨fun q σ H' => ∃ m s j, q = pre L n - (pre L s + j) ∧ s ≤ n ∧ j < (wof L s).length ∧ (s = n → j = 0) ∧ σ = [some (.str (S L)), some (.int (n : Nat)), some (.ref m), some (.int ((pre L s + j : Nat))), none] ∧ Same H H' ∧ H m = none ∧ H' m = some (.lst (Ss (bst L s j))),
      ⟨_, l0, 0, 0, rfl, Nat.zero_le _, wof_pos hne 0, fun _ => rfl, rfl, Same.new hl0, hl0, by rw [upd_same, st_nil]; rfl⟩, ?_⟩
    rintro q σ H1 ⟨m, s0, j, rfl, hs, hj, hz, rfl, s1, m0, em⟩
    have ul : (wof L s0)[j].length = s0 := (wof_mem.mp (List.getElem_mem hj)).1
    have hat : atI (Ss (bst L s0 j)) ((pre L s0 + j : Nat) : Int) = some (.str (S (wof L s0)[j])) := atI_nat (by
      unfold Ss
      rw [List.getElem?_map, bst_at hj]
      rfl)
    refine ⟨_, rfl, _, rfl, m, _, _, _, rfl, rfl, SqL.of em, hat, _, rfl, S_le (by omega), _, rfl, _, _, rfl, rfl, _, rfl, ?_⟩
    rw [SX.S_len, ul]
    by_cases hlt : s0 < n
    · rw [decide_eq_true (show ((s0 : Nat) : Int) < ((n : Nat) : Int) by omega)]
      have lb : (bst L s0 j).length ≤ 3000 := by
        have h1 := wto_le hL (n := s0) (by omega)
        have h2 : (((wof L s0).take j).flatMap (kids L)).length ≤ 3 * 243 := by
          rw [kids_len]
          have h3 := wof_le hL (s := s0) (by omega)
          have h4 : ((wof L s0).take j).length ≤ 243 := by rw [List.length_take]; omega
          exact Nat.mul_le_mul hL h4
        unfold bst
        rw [List.length_append]
        omega
      -- where the next turn stands
      have nxt : ∃ s' j', s' ≤ n ∧ j' < (wof L s').length ∧ (s' = n → j' = 0) ∧ pre L s' + j' = pre L s0 + j + 1 ∧ bst L s' j' = bst L s0 j ++ kids L (wof L s0)[j] := by
        by_cases hl : j + 1 < (wof L s0).length
        · exact ⟨s0, j + 1, hs, hl, fun e => by omega, by omega, bst_step hj⟩
        · have ej : j + 1 = (wof L s0).length := by omega
          refine ⟨s0 + 1, 0, hlt, wof_pos hne _, fun _ => rfl, by rw [pre_succ]; omega, ?_⟩
          rw [← bst_next, ← ej, bst_step hj]
      obtain ⟨s', j', q1, q2, q3, q4, q5⟩ := nxt
      have hpre : pre L s0 + j + 1 ≤ pre L n := by
        have h1 := pre_mono L (show s0 + 1 ≤ n by omega)
        rw [pre_succ] at h1
        omega
      refine ⟨fun σ' H' => ∃ m', σ' = [some (.str (S L)), some (.int (n : Nat)), some (.ref m'), some (.int ((pre L s' + j' : Nat))), none] ∧ Same H H' ∧ H m' = none ∧ H' m' = some (.lst (Ss (bst L s' j'))),
        fun σ' H' ⟨m', r1, r2, r3, r4⟩ => ⟨pre L n - (pre L s' + j'), by omega, m', s', j', rfl, q1, q2, q3, r1, r2, r3, r4⟩, ?_⟩
      refine ⟨_, rfl, _, rfl, S L, rfl, fun D hD => ?_⟩
      refine lcP walk_S hD (by rw [sizeLine_eq]; omega) (fun i => .str (S ((wof L s0)[j] ++ [L.getD i 0]))) (fun _ _ => True.intro) (fun i x H2 H2' hi s2 y Q' q => ?_) (fun H2 s2 e2 => ?_)
      · obtain ⟨rfl, c, hc, rfl⟩ := y
        rw [getD_of hc] at q
        refine ⟨rfl, ?_⟩
        refine ⟨_, rfl, _, rfl, m, _, _, _, rfl, rfl, SqL.of (s2 _ _ em), hat, _, rfl, _, _, rfl, rfl, S_app_len82 (by omega), ?_⟩
        have e9 : (V.str (S (wof L s0)[j] ++ S [c])) = V.str (S ((wof L s0)[j] ++ [c])) := by
          show V.str (SX.S _ ++ SX.S _) = _
          rw [SX.S_cat]
        show Q' (V.str (S (wof L s0)[j] ++ S [c])) _
        rw [e9]
        exact q _ (refl_same _)
      · have ek : (List.range L.length).map (fun i => V.str (S ((wof L s0)[j] ++ [L.getD i 0]))) = Ss (kids L (wof L s0)[j]) := by
          unfold Ss kids
          rw [List.map_map]
          apply List.ext_getElem?
          intro i
          rw
            [List.getElem?_map, List.getElem?_map]
          by_cases hi : i < L.length
          · rw [List.getElem?_range hi, List.getElem?_eq_getElem hi]
            simp [List.getD_eq_getElem?_getD, List.getElem?_eq_getElem hi]
          · rw [List.getElem?_eq_none (by simp; omega), List.getElem?_eq_none (by omega)]
            rfl
        rw [ek] at e2
        refine ⟨m, D, _, _, rfl, rfl, s2 _ _ em, e2, ?_, fun p hp => ?_⟩
        · rw [Ss_len, Ss_len, sizeLine_eq]
          unfold kids
          rw [List.length_map]
          omega
        · refine ⟨_, rfl, _, _, rfl, rfl, p, ?_, s1.trans (s2.trans (Same.new hp)), (s1.trans s2).free hp, ?_⟩
          · rw [q4]
            rfl
          · rw [upd_same, q5, Ss_app]
    · have es : s0 = n := by omega
      have ej := hz es
      subst ej es
      rw [decide_eq_false (show ¬ ((s0 : Nat) : Int) < ((s0 : Nat) : Int) by omega)]
      have eb : bst L s0 0 = wto L s0 := by
        unfold bst
        simp
      rw [eb] at em
      exact ⟨_, rfl, k m H1 s1 m0 em⟩

def spTold82 (K : PySem.W.Frag) : Sp := fun vs H Q _ => ∃ lt o, ∃ k n : Nat, vs = [lt, .int k, .int n] ∧ TxtO K H lt o ∧ k ≤ 5 ∧ n ≤ 5 ∧ (∀ L, o = some L → L.length ≤ 3 ∧ (∀ c ∈ L, c < 16777216)) ∧
  (∀ L, o = some L → letOk o = true → ∀ r H', Same H H' → H' r = some (.lst (Ss (firsts k (wto L n)))) → Q (.ref r) H') ∧
  (letOk o = false → ∀ t H', Same H H' → H' t = some (.tup [.str "letters", lt]) → Q (.ref t) H')
abbrev s_told82 : Stmt := (top 28)
abbrev N_told82 : List Str := ["letters", "k", "length", "error"]
theorem sc_told82 : FnScope N_told82 ["letters", "k", "length"] (defScope s_told82) := ⟨rfl, rfl, rfl, by decide +kernel, rfl, by decide +kernel, by decide +kernel⟩
theorem place_lk2 {u v : V} : List.lookup ("place" : Str) [(("place" : Str), u), (("word" : Str), v)] = some u := by simp [List.lookup]
theorem ok_told82 (D : Def K mg "_law_told" s_told82 f fd ["letters", "k", "length"]) (EL : ErC P w K mg base "BadLetters" CL) (ll : PySem.W.exmOne K (.ref CL) (.ref CL) = some true)
    (c_fc : CalX P w K mg base 6 "first_of_classes" (spFC K CL CW)) : Cal P w K mg base 7 "_law_told" (spTold82 K) := by
  refine D.cal (D.fn.ok sc_told82 (fun vs H Q E h => ?_) (fun cdv A outer s H vs Q E hr h => ?_))
  · obtain ⟨lt, o, k, n, rfl, _⟩ := h
    rfl
  · obtain ⟨lt, o, k, n, rfl, tl, hk, hn, hLo, kq, kf⟩ := h
    have nd := sc_told82.nd
    refine ⟨_, (pss_one (ps_try_manyAs rfl rfl nd takes0
      (fun Wi pz xz tk po => pss_one (ps_ret (pe_cS c_fc tk hr (by decide) rfl (pa_cons (pv 0) (pa_cons (pv 1) (pa_cons (pv 2) pa_nil))))))
      (.cons (i := 3) rfl rfl ⟨rfl, by decide, .inl EL.mgC⟩ (fun a oe cls d pz hz hf => pss_one (ps_ret (pe_tup (pa_cons pe_str (pa_cons (pe_xf EL.xf EL.np hz hf (pv 3)) pa_nil))))) .nil))), ?_⟩
    refine ⟨_, rfl, _, rfl, _, rfl, lt, o, k, n, rfl, tl, hk, hn, hLo, kq, fun b u e d H' s1 hd => ?_⟩
    cases hl : letOk o with
    | true => rw [hl] at e; cases e
    | false =>
      rw [hl] at e
      cases e
      refine ⟨true, ll, fun _ a ha => ?_, fun z => nomatch z⟩
      refine ⟨_, rfl, rfl, rfl, d, _, _, rfl, hd, place_lk2, by show 2 ≤ sizeLine; decide, fun t ht => ?_⟩
      exact kf hl t _ (s1.trans (Same.new ht)) upd_same
end
end Ws

/-! words that are right, letters that are none: for a law's own def -/
namespace Ws
open PySem PySem.Spec PyProof.Rows L2
def spLaw (K : PySem.W.Frag) : Sp := fun vs H Q _ => ∃ (a : Addr) (ns : List Int), vs = [.ref a] ∧ SqL K H a (ns.map V.int) ∧ ns.length ≤ 63 ∧ ∀ H', Q (.bl true) H'
theorem lets_ok {L : List Nat} (h : L ∈ Lets) : letOk (some L) = true ∧ (∀ c ∈ L, c < 16777216) ∧ (113 : Nat) ∉ L := by
  have a : Lets.all (fun L => letOk (some L) && L.all (fun c => decide (c < 16777216)) && decide ((113 : Nat) ∉ L)) = true := by decide +kernel
  have b := List.all_eq_true.mp a L h
  simp only [Bool.and_eq_true, decide_eq_true_eq] at b
  exact ⟨b.1.1, fun c hc => of_decide_eq_true (List.all_eq_true.mp b.1.2 c hc), b.2⟩
structure WordIn (L l : List Nat) : Prop where
  len : l.length ≤ 60
  sub : ∀ c ∈ l, c ∈ L
theorem WordIn.ok {L l : List Nat} (h : WordIn L l) : wordOk L (some l) = true := wordOk_iff.mpr ⟨h.len, h.sub⟩
theorem WordIn.rev {L l : List Nat} (h : WordIn L l) : WordIn L l.reverse := ⟨by rw [List.length_reverse]; exact h.len, fun c hc => h.sub c (List.mem_reverse.mp hc)⟩
theorem pair_ok {L v w : List Nat} (hL : letOk (some L) = true) (hv : WordIn L v) (hw : WordIn L w) {lt x y : V} : badOf lt (some L) [(x, some v), (y, some w)] = none := bad_ok hL fun q hq => by
  simp only [List.mem_cons, List.not_mem_nil, or_false] at hq
  rcases hq with rfl | rfl
  · exact hv.ok
  · exact hw.ok
theorem kb_ok {K : PySem.W.Frag} {CL CW : Addr} {L v w : List Nat} {k : Nat} {H : Hp} {Q : VK} {E : XK} (hL : letOk (some L) = true) (hl : L.length ≤ 1000) (hv : WordIn L v) (hw : WordIn L w) (hk : k ≤ 61) (q : ∀ H', Same H H' → Q (.bl (keptB k v w)) H') :
    spKB K CL CW [.str (S L), .int (k : Nat), .str (S v), .str (S w)] H Q E :=
  ⟨_, _, _, some L, some v, some w, k, rfl, txt_str hl, txt_str (by have := hv.len; omega), txt_str (by have := hw.len; omega), hk, fun _ v2 w2 e1 e2 H' s => by
    cases e1
    cases e2
    exact q H' s, Fault.none (pair_ok hL hv hw)⟩
theorem rn_ok {K : PySem.W.Frag} {CL CW : Addr} {L v w : List Nat} {H : Hp} {Q : VK} {E : XK} (hL : letOk (some L) = true) (hl : L.length ≤ 1000) (hv : WordIn L v) (hw : WordIn L w) (q1 : v = w → ∀ H', Same H H' → Q .non H')
    (q2 : v ≠ w → ∀ n : Nat, (∀ j, j < n → kept j v w) → ¬ kept n v w → ∀ H', Same H H' → Q (.int (n : Nat)) H') :
    spRN K CL CW [.str (S L), .str (S v), .str (S w)] H Q E :=
  ⟨_, _, _, some L, some v, some w, rfl, txt_str hl, txt_str (by have := hv.len; omega), txt_str (by have := hw.len; omega), fun _ v2 w2 e1 e2 => by
    cases e1
    cases e2
    exact ⟨q1, q2⟩, Fault.none (pair_ok hL hv hw)⟩
theorem st_ba : (Str.ofString "ba") = S [98, 97] := by decide +kernel
/-- a value that is no letters (no word of L), whatever is made beside it -/
structure BadV (K : PySem.W.Frag) (p : Addr) (H : Hp) (x : V) (o : Option (List Nat)) (d : PyData) : Prop where
  tx : ∀ H', Ext p H H' → TxtOr K H' x o
  dp : ∀ H', Ext p H H' → Dp K H' x d
  lf : Leaf d
  d2 : d.depth ≤ 2
  w2 : d.weight ≤ 1000
theorem BadV.txt {K : PySem.W.Frag} {p : Addr} {H H1 : Hp} {x : V} {o : Option (List Nat)} {d : PyData} (b : BadV K p H x o d) (e : Ext p H H1) : TxtO K H1 x o := fun H' s => b.tx H' (e.trans (Ext.of s))
theorem BadV.ext {K : PySem.W.Frag} {p : Addr} {H H1 : Hp} {x : V} {o : Option (List Nat)} {d : PyData} (b : BadV K p H x o d) (e : Ext p H H1) : BadV K p H1 x o d := ⟨fun H' e' => b.tx H' (e.trans e'), fun H' e' => b.dp H' (e.trans e'), b.lf, b.d2, b.w2⟩
theorem bad_non {K : PySem.W.Frag} {p : Addr} {H : Hp} : BadV K p H .non none .none := ⟨fun H' _ => txt_non.now, fun _ _ => .non, leaf_none, by decide, by decide⟩
theorem bad_5 {K : PySem.W.Frag} {p : Addr} {H : Hp} : BadV K p H (.int 5) none (.int 5) := ⟨fun H' _ => txt_int.now, fun _ _ => .int 5, leaf_int (n := 5) (by decide), by decide, by decide⟩
theorem bad_str {K : PySem.W.Frag} {p : Addr} {H : Hp} {l : List Nat} (h : ∀ c ∈ l, c < 16777216) (hl : l.length ≤ 1000) : BadV K p H (.str (S l)) (some l) (.str (S l)) :=
  ⟨fun H' _ => (txt_str hl).now, fun _ _ => .str _, leaf_str h (by omega), by show 0 ≤ 2; decide, by show (S l).cps.size ≤ 1000; have : (S l).cps.size = l.length := SX.S_len l; omega⟩
theorem bad_lt {lt : V} {o : Option (List Nat)} {xs : List (V × Option (List Nat))} (h : letOk o = false) : badOf lt o xs = some (false, lt) := by
  unfold badOf
  rw [if_neg (by rw [h]; decide)]
theorem leaf_letters : Leaf (.str "letters") := ⟨rfl, rfl, by decide, by decide +kernel, by decide +kernel⟩
theorem leaf_word : Leaf (.str "word") := ⟨rfl, rfl, by decide, by decide +kernel, by decide +kernel⟩
end Ws

/-! the law -/
namespace Ws
open PySem PySem.Spec PyProof.Rows L2
theorem wto_count (L : List Nat) (n : Nat) : (wto L n).length = ((List.range (n + 1)).map fun s => L.length ^ s).sum := by
  unfold wto
  rw [List.length_flatMap]
  congr 1
  exact List.map_congr_left fun s _ => wof_len s
/-- what the table may hold -/
structure Cap (L : List Nat) (k n : Nat) : Prop where
  k3 : k ≤ 3
  n5 : n ≤ 5
  cap : (wto L n).length * (wto L n).length * GG k + 41000 ≤ 16000000
  few : (wto L n).length ≤ 40
theorem cap_of {L : List Nat} {k n : Nat} (hL : L.length = 1 ∨ L.length = 2 ∨ L.length = 3) (h : (k ≤ 2 ∧ n = 6 - L.length) ∨ (k = 3 ∧ n = (if L.length = 1 then 5 else if L.length = 2 then 3 else 2))) : Cap L k n := by
  have g2 : k ≤ 2 → GG k ≤ 201 := fun h => by
    have : k = 0 ∨ k = 1 ∨ k = 2 := by omega
    rcases this with rfl | rfl | rfl <;> decide
  have mk : ∀ N : Nat, (wto L n).length = N → N ≤ 40 → n ≤ 5 → (k ≤ 2 ∨ (k = 3 ∧ N ≤ 15)) → Cap L k n := fun N e h1 h2 h3 => by
    rcases h3 with h3 | ⟨h3, h4⟩
    · refine ⟨by omega, h2, ?_, by omega⟩
      rw [e]
      have a := Nat.mul_le_mul (Nat.mul_le_mul h1 h1) (g2 h3)
      omega
    · refine ⟨by omega, h2, ?_, by omega⟩
      rw [e, h3]
      have a := Nat.mul_le_mul (Nat.mul_le_mul h4 h4) (show GG 3 ≤ 40201 by decide)
      omega
  rcases hL with e | e | e <;> rcases h with ⟨h1, h2⟩ | ⟨h1, h2⟩ <;> rw [e] at h2 <;> subst h2
  · exact mk 6 (by rw [wto_count, e]; rfl) (by decide) (by decide) (.inl h1)
  · exact mk 6 (by rw [wto_count, e]; rfl) (by decide) (by decide) (.inr ⟨h1, by decide⟩)
  · exact mk 31 (by rw [wto_count, e]; rfl) (by decide) (by decide) (.inl h1)
  · exact mk 15 (by rw [wto_count, e]; rfl) (by decide) (by decide) (.inr ⟨h1, by decide⟩)
  · exact mk 40 (by rw [wto_count, e]; rfl) (by decide) (by decide) (.inl h1)
  · exact mk 13 (by rw [wto_count, e]; rfl) (by decide) (by decide) (.inr ⟨h1, by decide⟩)
theorem len_at {L : List Nat} {x y z : Int} (hL : L.length = 1 ∨ L.length = 2 ∨ L.length = 3) : atI [V.int x, V.int y, V.int z] (((L.length : Nat) : Int) - 1) = some (.int (if L.length = 1 then x else if L.length = 2 then y else z)) := by
  rcases hL with e | e | e <;> rw [e] <;> rfl
theorem firsts_few {k : Nat} {ws : List (List Nat)} : ∀ i, i ≤ ws.length → (firsts k (ws.take i)).length ≤ i
  | 0, _ => by simp [firsts]
  | i + 1, hi => by
    have ih := firsts_few (k := k) (ws := ws) i (by omega)
    rw [firsts_take (by omega)]
    split
    · omega
    · rw [List.length_append]
      simp only
        [List.length_cons, List.length_nil]
      omega
theorem map_getD {β : Type} {p : List Nat → β} (l : List (List Nat)) : (List.range l.length).map (fun j => p (l.getD j [])) = l.map p := by
  apply List.ext_getElem?
  intro i
  rw
    [List.getElem?_map, List.getElem?_map]
  by_cases hi : i < l.length
  · rw [List.getElem?_range hi, List.getElem?_eq_getElem hi]
    simp [List.getD_eq_getElem?_getD, List.getElem?_eq_getElem hi]
  · rw [List.getElem?_eq_none (by simp; omega), List.getElem?_eq_none (by omega)]
    rfl
theorem filter_getD {q : List Nat → Bool} (l : List (List Nat)) : ((List.range l.length).filter fun j => q (l.getD j [])).length = (l.filter q).length := by
  have e : (((List.range l.length).map fun j => l.getD j []).filter q) = l.filter q := by
    rw [map_getD (p := fun x => x) l, List.map_id']
  rw [← e, List.filter_map, List.length_map]
  rfl
theorem dp_strs {K : PySem.W.Frag} {H : Hp} : ∀ l : List (List Nat), DpAll K H (Ss l) (l.map fun w => PyData.str (S w))
  | [] => .nil
  | w :: l => .cons (.str _) (dp_strs l)
theorem Ss_getD {l : List (List Nat)} {i : Nat} {x : V} (h : (Ss l)[i]? = some x) : i < l.length ∧ x = .str (S (l.getD i [])) := by
  obtain ⟨w, hw, rfl⟩ := Ss_at h
  exact ⟨(List.getElem?_eq_some_iff.mp hw).1, by rw [List.getD_eq_getElem?_getD, hw]; rfl⟩
structure LawC82 (P : Program) (w : World) (K : PySem.W.Frag) (mg : Str → Option Value) (base : Heap) (CL CW : Addr) : Prop where
  deck : Cal P w K mg base 1 "_law_deck" (spDeck K)
  draw : Cal P w K mg base 1 "_law_draw" (spDraw K)
  is_ : CalG P w K mg base 1 "_law_is" (spIs K)
  letters : Cal P w K mg base 2 "_law_letters" (spLetters K)
  word : Cal P w K mg base 2 "_law_word" (spWord K)
  lk : Cal P w K mg base 5 "_law_kept" (spK 4)
  lw : Cal P w K mg base 1 "_law_words" spLWords
  told : Cal P w K mg base 7 "_law_told" (spTold82 K)
  kb : CalX P w K mg base 7 "kept_by" (spKB K CL CW)
  rn : CalX P w K mg base 8 "rounds_needed" (spRN K CL CW)
  max : mg "max" = none
  min : mg "min" = none
theorem lst4 {k : Nat} (h : k < 5) : atI [V.int 0, V.int 1, V.int 3, V.int 7, V.int 15] (k : Int) = some (.int (lst k : Nat)) := by
  have : k = 0 ∨ k = 1 ∨ k = 2 ∨ k = 3 ∨ k = 4 := by omega
  rcases this with rfl | rfl | rfl | rfl | rfl <;> rfl
theorem lst3 {k : Nat} (h : k < 4) : atI [V.int 0, V.int 1, V.int 3, V.int 7] (k : Int) = some (.int (lst k : Nat)) := by
  have : k = 0 ∨ k = 1 ∨ k = 2 ∨ k = 3 := by omega
  rcases this with rfl | rfl | rfl | rfl <;> rfl
theorem lst6 {k : Nat} (h : k < 7) : atI [V.int 0, V.int 1, V.int 3, V.int 7, V.int 15, V.int 31, V.int 63] (k : Int) = some (.int (lst k : Nat)) := by
  have : k = 0 ∨ k = 1 ∨ k = 2 ∨ k = 3 ∨ k = 4 ∨ k = 5 ∨ k = 6 := by omega
  rcases this with rfl | rfl | rfl | rfl | rfl | rfl | rfl <;> rfl
theorem lst_le {k : Nat} (h : k < 5) : lst k ≤ 15 := by
  have : k = 0 ∨ k = 1 ∨ k = 2 ∨ k = 3 ∨ k = 4 := by omega
  rcases this with rfl | rfl | rfl | rfl | rfl <;> decide
theorem lst_le3 {k : Nat} (h : k < 4) : lst k ≤ 7 := by
  have : k = 0 ∨ k = 1 ∨ k = 2 ∨ k = 3 := by omega
  rcases this with rfl | rfl | rfl | rfl <;> decide
theorem eq_nat {a b : Nat} : decide (V.int ((a : Nat) : Int) = V.int ((b : Nat) : Int)) = decide (a = b) := decide_eq_decide.mpr ⟨fun h => by have := V.int.inj h; omega, fun h => by rw [h]⟩
theorem first_range {N i : Nat} {p : Nat → Bool} (hi : i < N) (hp : p i = true) (hn : ∀ j, j < i → p j = false) : atI (((List.range N).filter p).map fun j => V.int (j : Nat)) 0 = some (.int (i : Nat)) := by
  refine atI_nat (j := 0) ?_
  have h : ((List.range N).filter p)[0]? = some i := by
    rw [← List.head?_eq_getElem?, List.head?_filter, List.find?_range_eq_some]
    exact ⟨hp, List.mem_range.mpr hi, fun j hj => by rw [hn j hj]; rfl⟩
  rw [List.getElem?_map, h]
  rfl
section
variable {P : Program} {w : World} {K : PySem.W.Frag} {mg : Str → Option Value} {base : Heap} {f CL CW : Addr} {fd : FuncData}
abbrev s_law82 : Stmt := (top 29)
abbrev N_law82 : List Str := ["script", "deck", "letters", "k", "least", "c", "m", "n", "needed", "j", "u", "v", "w", "length", "got", "due", "table", "word", "first", "bad"]
theorem sc_law82 : FnScope N_law82 ["script"] (defScope s_law82) := ⟨rfl, rfl, rfl, by decide +kernel, rfl, by decide +kernel, by decide +kernel⟩
theorem ok_law82 (T : Bl mg) (D : Def K mg "law" s_law82 f fd ["script"]) (c : LawC82 P w K mg base CL CW) : FnG P w K mg base CX0 10 f fd ["script"] (spLaw K) := by
  refine okG D.fn sc_law82 (fun vs H Q E h => ?_) (fun cdv A outer s H vs Q E hr hg h => ?_)
  · obtain ⟨a, ns, rfl, _⟩ := h
    rfl
  · obtain ⟨a, ns, rfl, hS, hnl, kq⟩ := h
    have nd := sc_law82.nd
    have hu := hu_of hr
    refine ⟨_, (pss_cons (ps_set (i := 1) nd rfl (.inl rfl) (pe_c c.deck hr (by decide) rfl (pa_cons (pv 0) pa_nil)))
      (pss_cons (ps_set (i := 2) nd rfl (.inr rfl) (pe_c c.letters hr (by decide) rfl (pa_cons (pv 1) pa_nil)))
      (pss_cons (ps_set (i := 3) nd rfl (.inr rfl) (pe_c c.draw hr (by decide) rfl (pa_cons (pv 1) (pa_cons pe_int pa_nil))))
      (pss_cons (ps_set (i := 4) nd rfl (.inl rfl) (pe_ix ix_list (pe_lst (pa_cons pe_int (pa_cons pe_int (pa_cons pe_int (pa_cons pe_int (pa_cons pe_int pa_nil)))))) (pv 3) (fun _ _ => rfl)))
      (pss_cons (ps_set (i := 5) nd rfl (.inl rfl) (pe_ix ix_str (pv 2) (pe_c c.draw hr (by decide) rfl (pa_cons (pv 1) (pa_cons (pe_callB call_len_str (by rfl) T.len PySem.boot_len (pa_cons (pv 2) pa_nil)) pa_nil))) (fun _ _ => rfl)))
      (pss_cons (ps_asg (pe_tup (pa_cons (pe_c c.draw hr (by decide) rfl (pa_cons (pv 1) (pa_cons (pe_op op_add (pe_op op_mul pe_int (pv 4)) pe_int) pa_nil))) (pa_cons (pe_c c.draw hr (by decide) rfl (pa_cons (pv 1) (pa_cons (pe_op op_add (pe_op op_mul pe_int (pv 4)) pe_int) pa_nil))) pa_nil))) (pg_tup (n := 2) rfl (pgs_cons (pg_name (i := 6) nd rfl (.inr rfl)) (pgs_cons (pg_name (i := 7) nd rfl (.inr rfl)) pgs_nil))))
      (C8.pss_cut (ps_if (pt_cmpR op_eq (pe_c c.draw hr (by decide) rfl (pa_cons (pv 1) (pa_cons pe_int pa_nil))) pe_int (nomark _))
      (pss_one (ps_set (i := 7) nd rfl (.inr rfl) (pe_callB (call_max2 rfl) (by rfl) c.max (by decide +kernel) (pa_cons pe_int (pa_cons (pe_op op_add (pe_op op_sub (pv 4) pe_int) (pe_c c.draw hr (by decide) rfl (pa_cons (pv 1) (pa_cons pe_int pa_nil)))) pa_nil)))))
      pss_nil)
      (C8.pss_cut (ps_if (pt_not (pt_val (pe_cG c.is_ hr (by decide) hg rfl (pa_cons (pe_cX c.kb hr (by decide) rfl (pa_cons (pv 2) (pa_cons (pv 3) (pa_cons (pe_op op_mulS (pv 5) (pv 6)) (pa_cons (pe_op op_mulS (pv 5) (pv 7)) pa_nil))))) (pa_cons (pe_or (pe_cmpR op_eq (pv 6) (pv 7) (nomark _)) (pe_one (pe_cmpR op_ge (pe_callB (call_min2 rfl) (by rfl) c.min (by decide +kernel) (pa_cons (pv 6) (pa_cons (pv 7) pa_nil))) (pv 4) (nomark _)))) pa_nil)))))
      (pss_one (ps_ret pe_bl))
      pss_nil)
      (C8.pss_cut (ps_if (pt_cmpR op_ne (pv 6) (pv 7) (nomark _))
      (pss_cons (ps_set (i := 8) nd rfl (.inl rfl) (pe_ix ix_list (pe_lc (own := [("j", 9)]) rfl nd (pi_range1 (by rfl) T.range (pa_cons pe_int pa_nil)) (blkOk_by (N := N_law82) rfl) (fun _ _ _ _ _ => (pg_name (i := 9) nd rfl (.inl rfl))) (fun _ _ _ _ _ => (pts_one (pt_cmpR op_gt (pe_ix (r := rIxL K) ix_list (pe_lst (pa_cons pe_int (pa_cons pe_int (pa_cons pe_int (pa_cons pe_int (pa_cons pe_int (pa_cons pe_int (pa_cons pe_int pa_nil)))))))) (pv 9) (fun _ _ => rfl)) (pe_callB (call_min2 rfl) (by rfl) c.min (by decide +kernel) (pa_cons (pv 6) (pa_cons (pv 7) pa_nil))) (nomark _)))) (fun _ _ _ _ _ => (pv 9))) pe_int (fun _ _ => rfl)))
      (pss_one (ps_if (pt_not (pt_val (pe_cG c.is_ hr (by decide) hg rfl (pa_cons (pe_cX c.rn hr (by decide) rfl (pa_cons (pv 2) (pa_cons (pe_op op_mulS (pv 5) (pv 6)) (pa_cons (pe_op op_mulS (pv 5) (pv 7)) pa_nil)))) (pa_cons (pv 8) pa_nil)))))
      (pss_one (ps_ret pe_bl))
      pss_nil)))
      pss_nil)
      (pss_cons (ps_par3 (i := 10) (j := 11) (l := 12) rfl nd rfl rfl rfl (by decide) (by decide) (by decide) rfl rfl rfl (pa_cons (pe_c c.word hr (by decide) rfl (pa_cons (pv 1) (pa_cons (pv 2) (pa_cons pe_int pa_nil)))) (pa_cons (pe_c c.word hr (by decide) rfl (pa_cons (pv 1) (pa_cons (pv 2) (pa_cons pe_int pa_nil)))) (pa_cons (pe_c c.word hr (by decide) rfl (pa_cons (pv 1) (pa_cons (pv 2) (pa_cons pe_int pa_nil)))) pa_nil))) (by rfl))
      (pss_cons (ps_set (i := 3) nd rfl (.inr rfl) (pe_c c.draw hr (by decide) rfl (pa_cons (pv 1) (pa_cons pe_int pa_nil))))
      (pss_cons (ps_set (i := 4) nd rfl (.inl rfl) (pe_ix ix_list (pe_lst (pa_cons pe_int (pa_cons pe_int (pa_cons pe_int (pa_cons pe_int pa_nil))))) (pv 3) (fun _ _ => rfl)))
      (C8.pss_cut (ps_asg (pe_tup (pa_cons (pe_op op_add (pv 4) (pe_c c.draw hr (by decide) rfl (pa_cons (pv 1) (pa_cons pe_int pa_nil)))) (pa_cons (pe_op op_add (pv 4) (pe_c c.draw hr (by decide) rfl (pa_cons (pv 1) (pa_cons pe_int pa_nil)))) pa_nil))) (pg_tup (n := 2) rfl (pgs_cons (pg_name (i := 6) nd rfl (.inr rfl)) (pgs_cons (pg_name (i := 7) nd rfl (.inr rfl)) pgs_nil))))
      (C8.pss_cut (ps_if (PW.pt (pw_and (pt_cmpR op_le (pe_op op_mul (pe_callB call_len_str (by rfl) T.len PySem.boot_len (pa_cons (pv 10) pa_nil)) (pe_callB (call_max2 rfl) (by rfl) c.max (by decide +kernel) (pa_cons (pv 6) (pa_cons (pv 7) pa_nil)))) pe_int (nomark _)) (pw_and1 (pt_cmpR op_isnot_bl (pe_cX c.kb hr (by decide) rfl (pa_cons (pv 2) (pa_cons (pv 3) (pa_cons (pe_op op_add_str (pe_op op_add_str (pv 11) (pe_op op_mulS (pv 10) (pv 6))) (pv 12)) (pa_cons (pe_op op_add_str (pe_op op_add_str (pv 11) (pe_op op_mulS (pv 10) (pv 7))) (pv 12)) pa_nil))))) pe_bl (nomark _)))))
      (pss_one (ps_ret pe_bl))
      pss_nil)
      (pss_cons (ps_asg (pe_tup (pa_cons (pe_c c.draw hr (by decide) rfl (pa_cons (pv 1) (pa_cons pe_int pa_nil))) (pa_cons (pe_ix ix_list (pe_lst (pa_cons pe_int (pa_cons pe_int (pa_cons pe_int pa_nil)))) (pe_op op_sub (pe_callB call_len_str (by rfl) T.len PySem.boot_len (pa_cons (pv 2) pa_nil)) pe_int) (fun _ _ => rfl)) pa_nil))) (pg_tup (n := 2) rfl (pgs_cons (pg_name (i := 3) nd rfl (.inr rfl)) (pgs_cons (pg_name (i := 13) nd rfl (.inl rfl)) pgs_nil))))
      (C8.pss_cut (ps_if (pt_cmpR op_eq (pe_c c.draw hr (by decide) rfl (pa_cons (pv 1) (pa_cons pe_int pa_nil))) pe_int (nomark _))
      (pss_one (ps_asg (pe_tup (pa_cons pe_int (pa_cons (pe_ix ix_list (pe_lst (pa_cons pe_int (pa_cons pe_int (pa_cons pe_int pa_nil)))) (pe_op op_sub (pe_callB call_len_str (by rfl) T.len PySem.boot_len (pa_cons (pv 2) pa_nil)) pe_int) (fun _ _ => rfl)) pa_nil))) (pg_tup (n := 2) rfl (pgs_cons (pg_name (i := 3) nd rfl (.inr rfl)) (pgs_cons (pg_name (i := 13) nd rfl (.inl rfl)) pgs_nil)))))
      pss_nil)
      (pss_cons (ps_set (i := 14) nd rfl (.inl rfl) (pe_c c.told hr (by decide) rfl (pa_cons (pv 2) (pa_cons (pv 3) (pa_cons (pv 13) pa_nil)))))
      (pss_cons (ps_asg (pe_tup (pa_cons (pe_lst pa_nil) (pa_cons pe_dnewT pa_nil))) (pg_tup (n := 2) rfl (pgs_cons (pg_name (i := 15) nd rfl (.inl rfl)) (pgs_cons (pg_name (i := 16) nd rfl (.inr rfl)) pgs_nil))))
      (C8.pss_cut (ps_for PassesOwn.never rfl (pi_list (pe_c c.lw hr (by decide) rfl (pa_cons (pv 2) (pa_cons (pv 13) pa_nil)))) (pg_name (i := 17) nd rfl (.inr rfl))
      (pss_one (ps_if (pt_not (pt_val (pe_callB (cr_any rfl) (by rfl) T.any (by decide +kernel) (pa_cons (pe_lc (own := [("first", 18)]) rfl nd (pi_list (pv 15)) (blkOk_by (N := N_law82) rfl) (fun _ _ _ _ _ => (pg_name (i := 18) nd rfl (.inl rfl))) (fun _ _ _ _ _ => pts_nil) (fun _ _ _ _ _ => (pe_c c.lk hr (by decide) rfl (pa_cons (pv 17) (pa_cons (pv 18) (pa_cons (pv 3) (pa_cons (pv 16) pa_nil))))))) pa_nil))))
      (pss_one (ps_expr (pe_bm PySem.F.plainAttrs_list PySem.F.slot_list_append PySem.F.type_list_append mt_append (pv 15) (pa_cons (pv 17) pa_nil))))
      pss_nil)))
      (C8.pss_cut (ps_if (pt_not (pt_val (pe_cG c.is_ hr (by decide) hg rfl (pa_cons (pv 14) (pa_cons (pv 15) pa_nil)))))
      (pss_one (ps_ret pe_bl))
      pss_nil)
      (pss_cons (ps_set (i := 17) nd rfl (.inr rfl) (pe_c c.word hr (by decide) rfl (pa_cons (pv 1) (pa_cons (pv 2) (pa_cons (pv 13) pa_nil)))))
      (C8.pss_cut (ps_if (pt_cmpR op_ne (pe_callB call_len_seq (by rfl) T.len PySem.boot_len (pa_cons (pe_lc (own := [("first", 18)]) rfl nd (pi_list (pv 15)) (blkOk_by (N := N_law82) rfl) (fun _ _ _ _ _ => (pg_name (i := 18) nd rfl (.inl rfl))) (fun _ _ _ _ _ => (pts_one (pt_val (pe_cX c.kb hr (by decide) rfl (pa_cons (pv 2) (pa_cons (pv 3) (pa_cons (pv 18) (pa_cons (pv 17) pa_nil)))))))) (fun _ _ _ _ _ => (pv 18))) pa_nil)) pe_int (nomark _))
      (pss_one (ps_ret pe_bl))
      pss_nil)
      (C8.pss_cut (ps_set (i := 19) nd rfl (.inl rfl) (pe_ix ix_list (pe_lst (pa_cons pe_non (pa_cons pe_str (pa_cons pe_str (pa_cons pe_int pa_nil))))) (pe_c c.draw hr (by decide) rfl (pa_cons (pv 1) (pa_cons pe_int pa_nil))) (fun _ _ => rfl)))
      (pss_one (ps_ret (pe_cG c.is_ hr (by decide) hg rfl (pa_cons (pe_c c.told hr (by decide) rfl (pa_cons (pv 19) (pa_cons pe_int (pa_cons pe_int pa_nil)))) (pa_cons (pe_tup (pa_cons pe_str (pa_cons (pv 19) pa_nil))) pa_nil)))))))))))))))))))))))))))), ?_⟩
    refine ⟨_, rfl, a, ns, rfl, hS, hnl, fun p H1 s1 hp0 d1 => ?_⟩
    refine ⟨_, rfl, p, rfl, d1, fun L H2 hL e2 d2 => ?_⟩
    obtain ⟨hLl0, hLl⟩ := lets_len hL
    obtain ⟨hLok, hLs, hLq⟩ := lets_ok hL
    have hLn : L ≠ [] := List.ne_nil_of_length_pos hLl0
    have hL1000 : L.length ≤ 1000 := by omega
    have tt : ∀ {b : Bool} {A B : Prop}, b = true → B → if (!b) = true then A else B := fun {b A B} h x => by rw [h]; exact iteF x
    have hzL : (S L).length ≤ sizeLine := S_le (by omega)
    -- k, least
    refine ⟨_, rfl, p, 5, rfl, d2, by decide, by decide, fun k1 H3 k10 k11 e3 d3 => ?_⟩
    obtain ⟨k, rfl⟩ := Int.eq_ofNat_of_zero_le k10
    have hk5 : k < 5 := by omega
    refine ⟨by show 5 ≤ sizeLine; decide, fun l1 hl1 => ⟨_, rfl, l1, _, _, _, rfl, rfl, SqL.of upd_same, lst4 hk5, ?_⟩⟩
    have d4 := d3.same (Same.new (o := .lst [.int 0, .int 1, .int 3, .int 7, .int 15]) hl1)
    have hlk := lst_le hk5
    -- c
    refine ⟨_, rfl, _, rfl, _, rfl, _, rfl, hzL, p, _, rfl, d4, by rw [SX.S_len]; omega, by rw [SX.S_len]; omega, fun u5 H5 u50 u51 e5 d5 => ?_⟩
    rw [SX.S_len] at u51
    obtain ⟨c0, hc0, hat0⟩ := S_at u50 u51
    refine ⟨_, _, _, rfl, rfl, hzL, hat0, ?_⟩
    have hsub : ∀ x ∈ [c0], x ∈ L := fun x hx => by rw [List.mem_singleton.mp hx]; exact hc0
    -- m, n
    refine ⟨_, rfl, _, rfl, _, _, rfl, rfl, .inl ⟨by decide, by decide⟩, _, _, rfl, rfl, p, _, rfl, d5, by omega, by omega, fun m1 H6 m10 m11 e6 d6 => ?_⟩
    obtain ⟨m, rfl⟩ := Int.eq_ofNat_of_zero_le m10
    refine ⟨_, rfl, _, rfl, _, _, rfl, rfl, .inl ⟨by decide, by decide⟩, _, _, rfl, rfl, p, _, rfl, d6, by omega, by omega, fun n1 H7 n10 n11 e7 d7 => ?_⟩
    obtain ⟨n0, rfl⟩ := Int.eq_ofNat_of_zero_le n10
    refine ⟨by show 2 ≤ sizeLine; decide, fun t1 ht1 => ⟨t1, _, rfl, SqT.of upd_same, rfl, _, _, rfl, _, _, rfl, rfl, ?_⟩⟩
    have d8 := d7.same (Same.new (o := .tup [.int (m : Nat), .int (n0 : Nat)]) ht1)
    have hm : m ≤ 40 := by omega
    have hn0 : n0 ≤ 40 := by omega
    refine ⟨fun σ' H' => ∃ n : Nat, n ≤ 40 ∧ σ' = [some (.ref a), some (.ref p), some (.str (S L)), some (.int (k : Nat)), some (.int (lst k : Nat)), some (.str (S [c0])), some (.int (m : Nat)), some (.int (n : Nat)), none, none, none, none, none, none, none, none, none, none, none, none] ∧ DeckAt K H' p, ?_, ?_⟩
    · refine ⟨_, rfl, p, 3, rfl, d8, by decide, by decide, fun b1 H9 b10 b11 e9 d9 => ?_⟩
      refine ⟨rfl, _, rfl, ?_⟩
      refine iteV (fun _ => ?_) (fun _ => ?_)
      · refine ⟨_, rfl, _, _, rfl, rfl, _, rfl, p, 3, rfl, d9, by decide, by decide, fun b2 H10 b20 b21 e10 d10 => ?_⟩
        refine ⟨_, _, rfl, rfl, _, _, rfl, ?_⟩
        have e0 : (if ((lst k : Nat) : Int) - 1 + b2 > 0 then ((lst k : Nat) : Int) - 1 + b2 else 0) = (((if ((lst k : Nat) : Int) - 1 + b2 > 0 then ((lst k : Nat) : Int) - 1 + b2 else 0).toNat : Nat) : Int) := by split <;> omega
        refine ⟨(if ((lst k : Nat) : Int) - 1 + b2 > 0 then ((lst k : Nat) : Int) - 1 + b2 else 0).toNat, by split <;> omega, ?_, d10⟩
        rw [← e0]
        rfl
      · exact ⟨n0, hn0, rfl, d9⟩
    rintro σ' H9 ⟨n, hn, rfl, d9⟩
    have wp : ∀ j : Nat, j ≤ 40 → WordIn L (pw [c0] j) := fun j hj => ⟨by rw [one_len]; omega, pw_mem hsub j⟩
    -- one letter's powers
    have ek : keptB k (pw [c0] m) (pw [c0] n) = (decide (m = n) || decide (lst k ≤ m ∧ lst k ≤ n)) := by
      rw [Bool.eq_iff_iff, keptB_iff, one_iff, Bool.or_eq_true, decide_eq_true_iff, decide_eq_true_iff]
    refine ⟨fun σ' H' => σ' = [some (.ref a), some (.ref p), some (.str (S L)), some (.int (k : Nat)), some (.int (lst k : Nat)), some (.str (S [c0])), some (.int (m : Nat)), some (.int (n : Nat)), none, none, none, none, none, none, none, none, none, none, none, none] ∧ DeckAt K H' p, ?_, ?_⟩
    · refine ⟨_, rfl, _, rfl, _, rfl, _, rfl, [c0], m, rfl, rfl, by omega, by show 1 ≤ 1000; decide, _, rfl, _, rfl, [c0], n, rfl, rfl, by omega, by show 1 ≤ 1000; decide, ?_⟩
      dsimp only [tNil]
      refine kb_ok (v := pw [c0] m) (w := pw [c0] n) hLok hL1000 (wp m hm) (wp n hn) (by omega) (fun H10 s10 => ?_)
      have fin : ∀ b : Bool, b = keptB k (pw [c0] m) (pw [c0] n) → spIs K [.bl (keptB k (pw [c0] m) (pw [c0] n)), .bl b] H10 (fun v H' => ∃ d, v = .bl d ∧ if (!d) = true then Q (.bl false) H' else ([some (.ref a), some (.ref p), some (.str (S L)), some (.int (k : Nat)), some (.int (lst k : Nat)), some (.str (S [c0])), some (.int (m : Nat)), some (.int (n : Nat)), none, none, none, none, none, none, none, none, none, none, none, none] : L2.St) = [some (.ref a), some (.ref p), some (.str (S L)), some (.int (k : Nat)), some (.int (lst k : Nat)), some (.str (S [c0])), some (.int (m : Nat)), some (.int (n : Nat)), none, none, none, none, none, none, none, none, none, none, none, none] ∧ DeckAt K H' p) E0 := fun b hb => by
        subst hb
        exact ⟨_, _, .bool _, rfl, .bl _, .bl _, (leaf_bool _).shw, _, rfl, iteF ⟨rfl, d9.same s10⟩⟩
      refine ⟨_, rfl, _, rfl, rfl, _, rfl, ?_⟩
      refine iteV (fun e => ?_) (fun e => ?_)
      · have e : m = n := by have := V.int.inj e; omega
        refine fin true ?_
        rw [ek, decide_eq_true e, Bool.true_or]
      · have e : m ≠ n := fun z => e (by rw [z])
        refine ⟨_, rfl, _, rfl, _, _, rfl, _, rfl, _, _, rfl, rfl, ?_⟩
        refine fin _ ?_
        rw [ek, decide_eq_false e, Bool.false_or]
        refine decide_eq_decide.mpr ?_
        split <;> omega
    rintro σ' H10 ⟨rfl, d10⟩
    -- rounds_needed
    refine ⟨fun σ' H' => ∃ z8, σ' = [some (.ref a), some (.ref p), some (.str (S L)), some (.int (k : Nat)), some (.int (lst k : Nat)), some (.str (S [c0])), some (.int (m : Nat)), some (.int (n : Nat)), z8, none, none, none, none, none, none, none, none, none, none, none] ∧ DeckAt K H' p, ?_, ?_⟩
    · refine ⟨_, rfl, _, rfl, rfl, _, rfl, ?_⟩
      by_cases hmn : m = n
      · subst hmn
        rw [decide_eq_true rfl]
        exact iteF ⟨none, rfl, d10⟩
      · have hne : decide (V.int ((m : Nat) : Int) = V.int ((n : Nat) : Int)) = false := by rw [eq_nat]; exact decide_eq_false hmn
        rw [hne]
        refine iteT ?_
        let mn := if n < m then n else m
        have kiff : ∀ j, kept j (pw [c0] m) (pw [c0] n) ↔ lst j ≤ mn := fun j => by
          rw [one_iff]
          show _ ↔ lst j ≤ if n < m then n else m
          split <;> omega
        have hmn40 : mn ≤ 40 := by
          show (if n < m then n else m) ≤ 40
          split <;> omega
        -- the least j
        obtain ⟨j0, hj0, hp0', hlt0⟩ : ∃ j0, j0 ≤ 6 ∧ mn < lst j0 ∧ ∀ j, j < j0 → lst j ≤ mn := by
          obtain ⟨j0, a1, a2, a3⟩ := L2.st_least (p := fun j => mn < lst j) 6 (by show mn < 63; omega)
          exact ⟨j0, a1, a2, fun j hj => by have := a3 j hj; omega⟩
        refine ⟨7, rfl, by decide, by decide, fun D hD => ?_⟩
        refine lcF (walk_range (lo := 0) (n := 7)) hD (by rw [sizeLine_eq]; omega) (fun j => decide (mn < lst j)) (fun j => .int (j : Nat)) (fun _ _ => True.intro) (fun j x H11 H11' hj s11 y Qy Qn qy qn => ?_) (fun H11 s11 e11 => ?_)
        · obtain ⟨rfl, hx⟩ := y
          have hx : x = V.int (j : Nat) := hx.trans (by show V.int (0 + (j : Int)) = _; rw [Int.zero_add])
          subst hx
          refine ⟨rfl, ?_⟩
          refine ⟨by show 7 ≤ sizeLine; decide, fun l hl => ⟨_, rfl, l, _, _, _, rfl, rfl, SqL.of upd_same, lst6 hj, ?_⟩⟩
          refine ⟨_, rfl, _, rfl, _, _, rfl, _, _, rfl, rfl, _, rfl, ?_⟩
          have ed : decide ((if ((n : Nat) : Int) < ((m : Nat) : Int) then ((n : Nat) : Int) else ((m : Nat) : Int)) < ((lst j : Nat) : Int)) = decide (mn < lst j) := by
            refine decide_eq_decide.mpr ?_
            show _ ↔ (if n < m then n else m) < lst j
            split <;> split <;> omega
          rw [ed]
          refine iteB (fun h => ?_) (fun h => ?_)
          · exact ⟨_, rfl, qy h _ (Same.new hl)⟩
          · exact qn h _ (Same.new hl)
        · refine ⟨D, _, _, _, rfl, rfl, SqL.of e11, first_range (i := j0) (by omega) (decide_eq_true hp0') (fun j hj => decide_eq_false (by have := hlt0 j hj; omega)), ?_⟩
          have d11 := d10.same s11
          refine ⟨_, rfl, _, rfl, _, rfl, [c0], m, rfl, rfl, by omega, by show 1 ≤ 1000; decide, _, rfl, _, rfl, [c0], n, rfl, rfl, by omega, by show 1 ≤ 1000; decide, ?_⟩
          dsimp only [tNil]
          refine rn_ok (v := pw [c0] m) (w := pw [c0] n) hLok hL1000 (wp m hm) (wp n hn) (fun e => absurd ?_ hmn) (fun _ n2 h2 h3 H12 s12 => ?_)
          · have := congrArg List.length e
            rwa [one_len, one_len] at this
          · have en : n2 = j0 := by
              rcases Nat.lt_trichotomy n2 j0 with z | z | z
              · exact absurd ((kiff n2).mpr (hlt0 n2 z)) h3
              · exact z
              · have := (kiff j0).mp (h2 j0 z)
                omega
            subst en
            refine ⟨_, rfl, _, _, .int (n2 : Nat), rfl, .int _, .int _, (leaf_int (by omega)).shw, _, rfl, iteF ?_⟩
            exact ⟨_, rfl, d11.same s12⟩
    rintro σ' H11 ⟨z8, rfl, d11⟩
    -- u, v, w
    refine ⟨_, rfl, _, rfl, p, L, 3, rfl, d11, hLn, hL1000, by decide, fun u H12 hu hul e12 d12 => ?_⟩
    refine ⟨_, rfl, _, rfl, p, L, 3, rfl, d12, hLn, hL1000, by decide, fun v H13 hv hvl e13 d13 => ?_⟩
    refine ⟨_, rfl, _, rfl, p, L, 3, rfl, d13, hLn, hL1000, by decide, fun wd H14 hw hwl e14 d14 => ?_⟩
    refine ⟨_, _, _, rfl, ?_⟩
    -- k, least, m, n anew
    refine ⟨_, rfl, p, 4, rfl, d14, by decide, by decide, fun k2 H15 k20 k21 e15 d15 => ?_⟩
    obtain ⟨kk, rfl⟩ := Int.eq_ofNat_of_zero_le k20
    have hkk : kk < 4 := by omega
    have hlk2 := lst_le3 hkk
    refine ⟨by show 4 ≤ sizeLine; decide, fun l2 hl2 => ⟨_, rfl, l2, _, _, _, rfl, rfl, SqL.of upd_same, lst3 hkk, ?_⟩⟩
    have d16 := d15.same (Same.new (o := .lst [.int 0, .int 1, .int 3, .int 7]) hl2)
    refine ⟨fun σ' H' => ∃ M1 M2 : Nat, M1 ≤ 9 ∧ M2 ≤ 9 ∧ kept kk (pw u M1) (pw u M2) ∧ σ' = [some (.ref a), some (.ref p), some (.str (S L)), some (.int (kk : Nat)), some (.int (lst kk : Nat)), some (.str (S [c0])), some (.int (M1 : Nat)), some (.int (M2 : Nat)), z8, none, some (.str (S u)), some (.str (S v)), some (.str (S wd)), none, none, none, none, none, none, none] ∧ DeckAt K H' p, ?_, ?_⟩
    · refine ⟨_, rfl, _, rfl, p, 3, rfl, d16, by decide, by decide, fun x1 H17 x10 x11 e17 d17 => ⟨_, _, rfl, rfl, ?_⟩⟩
      refine ⟨_, rfl, _, rfl, p, 3, rfl, d17, by decide, by decide, fun x2 H18 x20 x21 e18 d18 => ⟨_, _, rfl, rfl, ?_⟩⟩
      obtain ⟨y1, rfl⟩ := Int.eq_ofNat_of_zero_le x10
      obtain ⟨y2, rfl⟩ := Int.eq_ofNat_of_zero_le x20
      refine ⟨by show 2 ≤ sizeLine; decide, fun t2 ht2 => ⟨t2, _, rfl, SqT.of upd_same, rfl, _, _, rfl, _, _, rfl, rfl, ?_⟩⟩
      refine ⟨lst kk + y1, lst kk + y2, by omega, by omega, pow_kept u (.inr ⟨by omega, by omega⟩), ?_, d18.same (Same.new ht2)⟩
      rw [Int.natCast_add, Int.natCast_add]
      rfl
    rintro σ' H19 ⟨M1, M2, hM1, hM2, kpw, rfl, d19⟩
    -- powers between words
    refine ⟨fun σ' H' => σ' = [some (.ref a), some (.ref p), some (.str (S L)), some (.int (kk : Nat)), some (.int (lst kk : Nat)), some (.str (S [c0])), some (.int (M1 : Nat)), some (.int (M2 : Nat)), z8, none, some (.str (S u)), some (.str (S v)), some (.str (S wd)), none, none, none, none, none, none, none] ∧ DeckAt K H' p, ?_, ?_⟩
    · refine ⟨_, rfl, _, rfl, S_le (by omega), _, rfl, _, rfl, _, _, rfl, _, _, rfl, rfl, .inl ⟨by rw [SX.S_len]; omega, by rw [SX.S_len]; omega⟩, _, _, rfl, rfl, _, rfl, ?_⟩
      rw [SX.S_len]
      refine iteD rfl (fun h33 => ?_) (fun _ => ?_)
      · have b1 : M1 * u.length ≤ 33 := by
          have e : ((M1 * u.length : Nat) : Int) ≤ ((u.length : Nat) : Int) * (if ((M2 : Nat) : Int) > ((M1 : Nat) : Int) then ((M2 : Nat) : Int) else ((M1 : Nat) : Int)) := by
            rw [Nat.mul_comm, Int.natCast_mul]
            exact Int.mul_le_mul_of_nonneg_left (by split <;> omega) (by omega)
          omega
        have b2 : M2 * u.length ≤ 33 := by
          have e : ((M2 * u.length : Nat) : Int) ≤ ((u.length : Nat) : Int) * (if ((M2 : Nat) : Int) > ((M1 : Nat) : Int) then ((M2 : Nat) : Int) else ((M1 : Nat) : Int)) := by
            rw [Nat.mul_comm, Int.natCast_mul]
            exact Int.mul_le_mul_of_nonneg_left (by split <;> omega) (by omega)
          omega
        have wi : ∀ M : Nat, M * u.length ≤ 33 → WordIn L (v ++ pw u M ++ wd) := fun M hM => ⟨by rw [List.length_append, List.length_append, pw_len]; omega, app_in (app_in hv (pw_mem hu M)) hw⟩
        have l1 : (pw u M1).length ≤ 33 := by rw [pw_len]; exact b1
        have l2' : (pw u M2).length ≤ 33 := by rw [pw_len]; exact b2
        refine ⟨_, rfl, _, rfl, _, rfl, _, rfl, _, rfl, u, M1, rfl, rfl, by omega, by omega, _, _, rfl, rfl, S_app_len (a := v) (b := pw u M1) (n := 40) (by omega) (by decide), ?_⟩
        refine ⟨_, rfl, _, _, rfl, rfl, ?_, ?_⟩
        · show (SX.S v ++ SX.S (pw u M1)).length + (S wd).length ≤ sizeLine
          rw [SX.S_cat]
          exact S_app_len (n := 40) (by rw [List.length_append]; omega) (by decide)
        refine ⟨_, rfl, _, rfl, _, rfl, u, M2, rfl, rfl, by omega, by omega, _, _, rfl, rfl, S_app_len (a := v) (b := pw u M2) (n := 40) (by omega) (by decide), ?_⟩
        refine ⟨_, rfl, _, _, rfl, rfl, ?_, ?_⟩
        · show (SX.S v ++ SX.S (pw u M2)).length + (S wd).length ≤ sizeLine
          rw [SX.S_cat]
          exact S_app_len (n := 40) (by rw [List.length_append]; omega) (by decide)
        dsimp only [tNil]
        have r1 : (S v ++ S (List.replicate M1 u).flatten ++ S wd) = S (v ++ pw u M1 ++ wd) := by
          show SX.S v ++ SX.S (pw u M1) ++ SX.S wd = _
          rw [SX.S_cat, SX.S_cat]
        have r2 : (S v ++ S (List.replicate M2 u).flatten ++ S wd) = S (v ++ pw u M2 ++ wd) := by
          show SX.S v ++ SX.S (pw u M2) ++ SX.S wd = _
          rw [SX.S_cat, SX.S_cat]
        rw [r1, r2]
        refine kb_ok (v := v ++ pw u M1 ++ wd) (w := v ++ pw u M2 ++ wd) hLok hL1000 (wi M1 b1) (wi M2 b2) (by omega) (fun H20 s20 => ?_)
        have kt : keptB kk (v ++ pw u M1 ++ wd) (v ++ pw u M2 ++ wd) = true := keptB_iff.mpr (kept_append (kept_append (kept_refl _ v) kpw) (kept_refl _ wd))
        rw [kt]
        refine ⟨true, true, rfl, rfl, _, rfl, ?_⟩
        rw [decide_eq_true rfl]
        exact iteF ⟨rfl, d19.same s20⟩
      · exact iteF ⟨rfl, d19⟩
    rintro σ' H20 ⟨rfl, d20⟩
    have hL3 : L.length = 1 ∨ L.length = 2 ∨ L.length = 3 := by omega
    -- k, length
    refine ⟨_, rfl, p, 3, rfl, d20, by decide, by decide, fun k3 H21 k30 k31 e21 d21 => ?_⟩
    obtain ⟨ka, rfl⟩ := Int.eq_ofNat_of_zero_le k30
    refine ⟨by show 3 ≤ sizeLine; decide, fun l3 hl3 => ⟨_, rfl, _, rfl, hzL, _, _, rfl, rfl, l3, _, _, _, rfl, rfl, SqL.of upd_same, by rw [SX.S_len]; exact len_at hL3, ?_⟩⟩
    have d22 := d21.same (Same.new (o := .lst [.int 5, .int 4, .int 3]) hl3)
    refine ⟨by show 2 ≤ sizeLine; decide, fun t3 ht3 => ⟨t3, _, rfl, SqT.of upd_same, rfl, _, _, rfl, _, _, rfl, rfl, ?_⟩⟩
    have d23 := d22.same (Same.new (o := .tup [.int (ka : Nat), .int (if L.length = 1 then 5 else if L.length = 2 then 4 else 3)]) ht3)
    refine ⟨fun σ' H' => ∃ k n : Nat, Cap L k n ∧ σ' = [some (.ref a), some (.ref p), some (.str (S L)), some (.int (k : Nat)), some (.int (lst kk : Nat)), some (.str (S [c0])), some (.int (M1 : Nat)), some (.int (M2 : Nat)), z8, none, some (.str (S u)), some (.str (S v)), some (.str (S wd)), some (.int (n : Nat)), none, none, none, none, none, none] ∧ DeckAt K H' p, ?_, ?_⟩
    · refine ⟨_, rfl, p, 6, rfl, d23, by decide, by decide, fun b1 H24 b10 b11 e24 d24 => ?_⟩
      refine ⟨rfl, _, rfl, ?_⟩
      refine iteV (fun _ => ?_) (fun _ => ?_)
      · refine ⟨by show 3 ≤ sizeLine; decide, fun l4 hl4 => ⟨_, rfl, _, rfl, hzL, _, _, rfl, rfl, l4, _, _, _, rfl, rfl, SqL.of upd_same, by rw [SX.S_len]; exact len_at hL3, ?_⟩⟩
        have d25 := d24.same (Same.new (o := .lst [.int 5, .int 3, .int 2]) hl4)
        refine ⟨by show 2 ≤ sizeLine; decide, fun t4 ht4 => ⟨t4, _, rfl, SqT.of upd_same, rfl, _, _, rfl, _, _, rfl, rfl, ?_⟩⟩
        refine ⟨3, if L.length = 1 then 5 else if L.length = 2 then 3 else 2, cap_of hL3 (.inr ⟨rfl, rfl⟩), ?_, d25.same (Same.new ht4)⟩
        rcases hL3 with e | e | e <;> rw [e] <;> rfl
      · refine ⟨ka, 6 - L.length, cap_of hL3 (.inl ⟨by omega, rfl⟩), ?_, d24⟩
        rcases hL3 with e | e | e <;> rw [e] <;> rfl
    rintro σ' H24 ⟨k, n, cap, rfl, d24⟩
    obtain ⟨ck3, cn5, ccap, cfew⟩ := cap
    -- what is told
    refine ⟨_, rfl, _, rfl, _, rfl, .str (S L), some L, k, n, rfl, txt_str hL1000, by omega, cn5, fun L' e => ?_, fun L' e hl got H25 s25 eg => ?_, fun h => ?_⟩
    · cases e
      exact ⟨by omega, hLs⟩
    rotate_left
    · rw [hLok] at h
      cases h
    cases e
    have d25 := d24.same s25
    refine ⟨Nat.zero_le _, fun du hdu => fun tb htb => ⟨by show 2 ≤ sizeLine; decide, fun t5 ht5 => ⟨t5, _, rfl, SqT.of upd_same, rfl, _, _, rfl, _, _, rfl, rfl, ?_⟩⟩⟩
    let ws := wto L n
    let N := ws.length
    have sB : Same H25 (upd (upd (upd H25 du (.lst [])) tb (.dT [])) t5 (.tup [.ref du, .ref tb])) := (Same.new hdu).trans ((Same.new htb).trans (Same.new ht5))
    have ndt : du ≠ tb := fun z => by rw [← z, upd_same] at htb; cases htb
    have e5du : (upd (upd (upd H25 du (.lst [])) tb (.dT [])) t5 (.tup [.ref du, .ref tb])) du = some (.lst []) := by
      have h0 : (upd (upd H25 du (.lst [])) tb (.dT [])) du = some (.lst []) := by rw [upd_ne ndt, upd_same]
      rw [upd_ne (ne_of_none h0 ht5)]
      exact h0
    have e5tb : (upd (upd (upd H25 du (.lst [])) tb (.dT [])) t5 (.tup [.ref du, .ref tb])) tb = some (.dT []) := by
      rw [upd_ne (ne_of_none upd_same ht5), upd_same]
    have ntb : H25 tb = none := by
      rw [upd_ne ndt.symm] at htb
      exact htb
    refine ⟨fun σ' H' => ∃ z17, σ' = [some (.ref a), some (.ref p), some (.str (S L)), some (.int (k : Nat)), some (.int (lst kk : Nat)), some (.str (S [c0])), some (.int (M1 : Nat)), some (.int (M2 : Nat)), z8, none, some (.str (S u)), some (.str (S v)), some (.str (S wd)), some (.int (n : Nat)), some (.ref got), some (.ref du), some (.ref tb), z17, none, none] ∧ Same H25 H' ∧ H' du = some (.lst (Ss (firsts k ws))), ?_, ?_⟩
    · refine ⟨_, rfl, _, rfl, L, n, rfl, hLn, by omega, cn5, fun wl H26 s26 wl0 ewl => ⟨wl, rfl, ⟨_, SqL.of ewl⟩, ?_⟩⟩
      have nwd : wl ≠ du := fun z => by rw [z, e5du] at wl0; cases wl0
      have nwt : wl ≠ tb := fun z => by rw [z, e5tb] at wl0; cases wl0
      refine for_list (K := K) (a := wl) (xs := Ss ws) (fun i σ H' => ∃ z17 mv, σ = [some (.ref a), some (.ref p), some (.str (S L)), some (.int (k : Nat)), some (.int (lst kk : Nat)), some (.str (S [c0])), some (.int (M1 : Nat)), some (.int (M2 : Nat)), z8, none, some (.str (S u)), some (.str (S v)), some (.str (S wd)), some (.int (n : Nat)), some (.ref got), some (.ref du), some (.ref tb), z17, none, none] ∧
          Same H25 H' ∧ H' wl = some (.lst (Ss ws)) ∧ H' du = some (.lst (Ss (firsts k (ws.take i)))) ∧ H' tb = some (.dT mv) ∧ TabOk mv ∧ mv.length ≤ (i * N) * GG k)
        ⟨none, [], rfl, sB.trans s26, ewl, s26 _ _ e5du, s26 _ _ e5tb, fun _ _ _ _ z => (by cases z), Nat.zero_le _⟩ (fun i σ H' _ q => ?_) ?_ ?_
      · obtain ⟨_, _, _, _, h, _⟩ := q
        exact SqL.of h
      · rintro i y σ H27 hi ⟨z17, mv, rfl, s27, ew27, ed27, et27, ok27, ml27⟩
        obtain ⟨hil, rfl⟩ := Ss_getD hi
        have hN : N ≤ 40 := cfew
        have ccap2 : N * N * GG k + 41000 ≤ 16000000 := ccap
        have acc40 : (firsts k (ws.take i)).length ≤ 40 := Nat.le_trans (firsts_few i (Nat.le_of_lt hil)) (Nat.le_trans (Nat.le_of_lt hil) cfew)
        have uw := wto_mem.mp (show ws.getD i [] ∈ wto L n by rw [List.getD_eq_getElem?_getD, List.getElem?_eq_getElem hil]; exact List.getElem_mem hil)
        generalize hwi : ws.getD i [] = wi at *
        have hwi2 : ws[i] = wi := by
          rw [← hwi, List.getD_eq_getElem?_getD, List.getElem?_eq_getElem hil]
          rfl
        let acc := firsts k (ws.take i)
        have accle : acc.length ≤ i := firsts_few i (Nat.le_of_lt hil)
        have accin : ∀ f2 ∈ acc, f2.length ≤ n := fun f2 hf => (wto_mem.mp (List.mem_of_mem_take ((firsts_ok (k := k) (ws := ws) i (Nat.le_of_lt hil)).sub f2 hf))).1
        have capi : (i * N + N) * GG k ≤ N * N * GG k := Nat.mul_le_mul_right _ (by
          have h1 := Nat.mul_le_mul_right N (show i + 1 ≤ N from hil)
          rw [Nat.succ_mul] at h1
          exact h1)
        refine ⟨_, rfl, du, rfl, ⟨_, SqL.of ed27⟩, fun D hD => ?_⟩
        have nDt : D ≠ tb := fun z => by rw [z, et27] at hD; cases hD
        have nDd : D ≠ du := fun z => by rw [z, ed27] at hD; cases hD
        refine lcI (walk_list (K := K) (a := du) (xs := Ss acc)) (by rw [Ss_len, sizeLine_eq]; omega) (fun j => V.bl (keptB k wi (acc.getD j []))) (fun j H' => Ext tb H27 H' ∧ ∃ mv', H' tb = some (.dT mv') ∧ TabOk mv' ∧ mv'.length ≤ (i * N + j) * GG k)
          ⟨Ext.new hD, mv, by rw [upd_ne nDt.symm]; exact et27, ok27, by rw [Nat.add_zero]; exact ml27⟩ (fun j H' q => SqL.of (q.1 _ _ ndt ed27)) (fun j H' ys q hx => ?_) (fun j x H28 H28' hj iv hx yy Q' q => ?_) (fun H28 iv e28 => ?_)
        · obtain ⟨x1, mv', x2, x3⟩ := q
          refine ⟨fun b o nb e => ?_, mv', by rw [upd_ne nDt.symm]; exact x2, x3⟩
          rw [upd_ne (ne_of_none e hD)]
          exact x1 b o nb e
        · obtain ⟨rfl, hx2⟩ := yy
          obtain ⟨hjl, rfl⟩ := Ss_getD hx2
          obtain ⟨x1, mv', x2, x3, x4⟩ := iv
          obtain ⟨xs, hxs⟩ := hx
          have fl := accin _ (show acc.getD j [] ∈ acc by rw [List.getD_eq_getElem?_getD, List.getElem?_eq_getElem hjl]; exact List.getElem_mem hjl)
          have c1 : (i * N + j) * GG k + GG k ≤ N * N * GG k := by
            have h1 : (i * N + j + 1) * GG k ≤ (i * N + N) * GG k := Nat.mul_le_mul_right _ (by omega)
            rw [Nat.succ_mul] at h1
            omega
          refine ⟨rfl, ?_⟩
          refine ⟨_, rfl, _, rfl, _, rfl, _, rfl, ?_⟩
          dsimp only [tNil]
          refine ⟨wi, acc.getD j [], k, tb, mv', rfl, by omega, by omega, by omega, x2, x3, by omega, fun mv2 H29 e29 t29 ok29 l29 => q H29 ⟨x1.trans e29, mv2, t29, ok29, ?_⟩ ?_⟩
          · rw [← Nat.add_assoc, Nat.succ_mul]
            omega
          · rw [e29 _ _ nDt hxs, hxs]
        · obtain ⟨x1, mv', x2, x3, x4⟩ := iv
          rw [Ss_len] at e28 x4
          have s28 : Same H25 H28 := fun b o e => x1 b o (ne_of_none e ntb) (s27 _ _ e)
          have ml28 : mv'.length ≤ ((i + 1) * N) * GG k := by
            have h1 : (i * N + acc.length) * GG k ≤ (i * N + N) * GG k := Nat.mul_le_mul_right _ (by omega)
            rw [Nat.succ_mul]
            omega
          refine ⟨D, acc.map (keptB k wi), rfl, SqL.of ?_, _, rfl, ?_⟩
          · rw [e28, map_getD (p := fun w => V.bl (keptB k wi w)) acc, List.map_map]
            rfl
          have ea : (acc.map (keptB k wi)).any id = acc.any fun f2 => keptB k wi f2 := by rw [List.any_map]; rfl
          rw [ea]
          refine iteB (fun h => ?_) (fun h => ?_)
          · have h2 : (acc.any fun f2 => keptB k wi f2) = false := by simpa using h
            refine ⟨_, rfl, .inl ⟨rfl, _, SqL.of (x1 _ _ ndt ed27)⟩, _, rfl, du, _, _, rfl, rfl, x1 _ _ ndt ed27, by rw [Ss_len, sizeLine_eq]; omega, ?_⟩
            refine ⟨_, mv', rfl, fun b o e => ?_, ?_, ?_, by rw [upd_ne ndt.symm]; exact x2, x3, ml28⟩
            · rw [upd_ne (ne_of_none e hdu)]
              exact s28 _ _ e
            · rw [upd_ne nwd]
              exact x1 _ _ nwt ew27
            · rw [upd_same, firsts_take hil, hwi2, if_neg (by rw [h2]; decide), Ss_app]
              rfl
          · have h2 : (acc.any fun f2 => keptB k wi f2) = true := by simpa using h
            refine ⟨_, mv', rfl, s28, x1 _ _ nwt ew27, ?_, x2, x3, ml28⟩
            rw [firsts_take hil, hwi2, if_pos h2]
            exact x1 _ _ ndt ed27
      · rintro σ H27 ⟨z17, mv, rfl, s27, ew27, ed27, et27, ok27, ml27⟩
        rw [Ss_len, List.take_length] at ed27
        exact ⟨z17, rfl, s27, ed27⟩
    rintro σ' H27 ⟨z17, rfl, s27, ed27⟩
    let acc := firsts k ws
    have okF : FirstsOk k ws acc := by
      have h := firsts_ok (k := k) (ws := ws) ws.length (Nat.le_refl _)
      rw [List.take_length] at h
      exact h
    have accfew : acc.length ≤ 40 := by
      have h := firsts_few (k := k) (ws := ws) ws.length (Nat.le_refl _)
      rw [List.take_length] at h
      exact Nat.le_trans h cfew
    have accin : ∀ f2 ∈ acc, f2.length ≤ n ∧ ∀ c ∈ f2, c ∈ L := fun f2 hf => wto_mem.mp (okF.sub f2 hf)
    have eg27 : H27 got = some (.lst (Ss acc)) := s27 _ _ eg
    have ndp : du ≠ p := fun z => by
      obtain ⟨xs, hx⟩ := d25.some
      rw [z, hx] at hdu
      cases hdu
    -- told alike
    refine ⟨fun σ' H' => σ' = [some (.ref a), some (.ref p), some (.str (S L)), some (.int (k : Nat)), some (.int (lst kk : Nat)), some (.str (S [c0])), some (.int (M1 : Nat)), some (.int (M2 : Nat)), z8, none, some (.str (S u)), some (.str (S v)), some (.str (S wd)), some (.int (n : Nat)), some (.ref got), some (.ref du), some (.ref tb), z17, none, none] ∧ Same H27 H', ?_, ?_⟩
    · refine ⟨_, rfl, _, rfl, .ref got, .ref du, .list (acc.map fun w => .str (S w)), rfl, .lst (SqL.of eg27) (dp_strs acc), .lst (SqL.of ed27) (dp_strs acc), Shw.leaves (fun d hd => ?_) (by rw [List.length_map]; omega), _, rfl, iteF ⟨rfl, refl_same _⟩⟩
      obtain ⟨f2, hf, rfl⟩ := List.mem_map.mp hd
      obtain ⟨a1, a2⟩ := accin f2 hf
      exact leaf_str (fun c hc => hLs c (a2 c hc)) (by omega)
    rintro σ' H28 ⟨rfl, s28⟩
    have d28 := (d25.same s27).same s28
    have ed28 := s28 _ _ ed27
    -- a word
    refine ⟨_, rfl, _, rfl, _, rfl, p, L, n, rfl, d28, hLn, hL1000, by omega, fun wx H29 wxi wxl e29 d29 => ?_⟩
    have ed29 := e29 _ _ ndp ed28
    refine ⟨fun σ' H' => σ' = [some (.ref a), some (.ref p), some (.str (S L)), some (.int (k : Nat)), some (.int (lst kk : Nat)), some (.str (S [c0])), some (.int (M1 : Nat)), some (.int (M2 : Nat)), z8, none, some (.str (S u)), some (.str (S v)), some (.str (S wd)), some (.int (n : Nat)), some (.ref got), some (.ref du), some (.ref tb), some (.str (S wx)), none, none] ∧ Same H29 H', ?_, ?_⟩
    · refine ⟨_, rfl, du, rfl, ⟨_, SqL.of ed29⟩, fun D hD => ?_⟩
      refine lcF (walk_list (K := K) (a := du) (xs := Ss acc)) hD (by rw [Ss_len, sizeLine_eq]; omega) (fun j => keptB k (acc.getD j []) wx) (fun j => .str (S (acc.getD j []))) (fun H' s' => SqL.of (s' _ _ ed29)) (fun j x H30 H30' hj s30 y Qy Qn qy qn => ?_) (fun H30 s30 e30 => ?_)
      · obtain ⟨rfl, hx⟩ := y
        obtain ⟨hjl, rfl⟩ := Ss_getD hx
        obtain ⟨a1, a2⟩ := accin _ (show acc.getD j [] ∈ acc by rw [List.getD_eq_getElem?_getD, List.getElem?_eq_getElem hjl]; exact List.getElem_mem hjl)
        refine ⟨rfl, ?_⟩
        refine ⟨_, rfl, _, rfl, _, rfl, _, rfl, ?_⟩
        dsimp only [tNil]
        refine kb_ok (v := acc.getD j []) (w := wx) hLok hL1000 ⟨by omega, a2⟩ ⟨by omega, wxi⟩ (by omega) (fun H31 s31 => ⟨_, rfl, ?_⟩)
        refine iteB (fun h => ?_) (fun h => ?_)
        · exact ⟨_, rfl, qy h _ s31⟩
        · exact qn h _ s31
      · rw [Ss_len] at e30
        have e1 : (((List.range acc.length).filter fun j => keptB k (acc.getD j []) wx).map fun j => V.str (S (acc.getD j []))).length = 1 := by
          rw [List.length_map, filter_getD (q := fun f2 => keptB k f2 wx) acc]
          exact one_first (okF.rep wx (wto_mem.mpr ⟨wxl, wxi⟩)) okF.apart
        refine ⟨D, _, rfl, .inl (SqL.of e30), rfl, _, rfl, ?_⟩
        rw [e1]
        exact iteF ⟨rfl, s30⟩
    rintro σ' H30 ⟨rfl, s30⟩
    have d30 := d29.same s30
    -- bad letters
    refine ⟨fun σ' H' => ∃ xb ob db, σ' = [some (.ref a), some (.ref p), some (.str (S L)), some (.int (k : Nat)), some (.int (lst kk : Nat)), some (.str (S [c0])), some (.int (M1 : Nat)), some (.int (M2 : Nat)), z8, none, some (.str (S u)), some (.str (S v)), some (.str (S wd)), some (.int (n : Nat)), some (.ref got), some (.ref du), some (.ref tb), some (.str (S wx)), none, some xb] ∧
      BadV K p H' xb ob db ∧ letOk ob = false ∧ ∀ L', ob = some L' → L'.length ≤ 3 ∧ ∀ c ∈ L', c < 16777216, ?_, ?_⟩
    · refine ⟨by show 4 ≤ sizeLine; decide, fun l hl => ⟨_, rfl, p, 4, rfl, d30.same (Same.new hl), by decide, by decide, fun b H31 b0 b1 e31 d31 => ?_⟩⟩
      have npl := d30.ne hl
      have hl' := e31 _ _ npl.symm upd_same
      have hb : b = 0 ∨ b = 1 ∨ b = 2 ∨ b = 3 := by omega
      rcases
        hb with rfl | rfl | rfl | rfl
      · exact ⟨l, _, _, _, rfl, rfl, SqL.of hl', rfl, .non, none, .none, rfl, bad_non, rfl, fun L' e => by cases e⟩
      · refine ⟨l, _, _, _, rfl, rfl, SqL.of hl', rfl, .str (S [98, 97]), some [98, 97], .str (S [98, 97]), ?_, bad_str (by decide) (by decide), by decide +kernel, fun L' e => by cases e; exact ⟨by decide, by decide⟩⟩
        rw [← st_ba]
        rfl
      · refine ⟨l, _, _, _, rfl, rfl, SqL.of hl', rfl, .str (S []), some [], .str (S []), ?_, bad_str (by decide) (by decide), by decide +kernel, fun L' e => by cases e; exact ⟨by decide, by decide⟩⟩
        rw [← st_nil]
        rfl
      · exact ⟨l, _, _, _, rfl, rfl, SqL.of hl', rfl, .int 5, none, .int 5, rfl, bad_5, rfl, fun L' e => by cases e⟩
    rintro σ' H31 ⟨xb, ob, db, rfl, Bb, hob, hobL⟩
    refine ⟨_, rfl, xb, ob, 1, 2, rfl, Bb.txt (Ext.refl _), by decide, by decide, hobL, (fun L' e hl => by rw [hob] at hl; cases hl), fun _ t H32 s32 et => ?_⟩
    refine ⟨_, rfl, by show 2 ≤ sizeLine; decide, fun t2 ht2 => ?_⟩
    have sz := s32.trans (Same.new (o := .tup [.str "letters", xb]) ht2)
    refine ⟨.ref t, .ref t2, .tuple [.str "letters", db], rfl, .tup (SqT.of ((Same.new ht2) _ _ et)) (.cons (.str _) (.cons (Bb.dp _ (Ext.of sz)) .nil)), .tup (SqT.of upd_same) (.cons (.str _) (.cons (Bb.dp _ (Ext.of sz)) .nil)), ?_, kq _⟩
    exact (leaf_pair leaf_letters Bb.lf (by show 0 ≤ 2; decide) Bb.d2 (by decide +kernel) Bb.w2).shw
end
end Ws

namespace Ws
open PySem PySem.Spec PyProof.Rows L2
theorem binds_def {K : PySem.W.Frag} {fd : FuncData} {ps : List Str} {T : Addr} {o : Obj} {its : Array Value} {n : Nat} (lT : K.lookup T = some o) (oT : o.data = .seq its n)
    (h : ∀ us : List Value, us.length = ps.length → ∃ k : Option (Array Value) → Sem (List (Str × Value)), bindArgs fd ⟨us, []⟩ = seqItems? (.ref T) >>= k ∧ k (some its) = pure (ps.zip us)) : Binds K fd ps [] := fun s us X hl => by
  rw [List.append_nil] at hl ⊢
  obtain ⟨k, e1, e2⟩ := h us hl
  exact BindsTo.of_looks fun M => by
    rw [e1]
    exact looks_items X lT oT (PySem.W.Looks.of_pure e2)
/-- an error of the class at t, asked by an except clause of the class at S -/
theorem exm_by {K : PySem.W.Frag} {t S : Addr} {b : Bool} (h1 : PySem.W.subIn K (.ref S) (.type "BaseException") = some true) (h2 : PySem.W.isClsIn K S = true) (h3 : PySem.W.typeIn K (.ref S) = some (.type "type")) (h4 : PySem.W.subIn K (.ref t) (.ref S) = some b) :
    PySem.W.exmOne K (.ref t) (.ref S) = some b := by
  have q1 : (PySem.W.subIn K (.ref S) (.type "BaseException") == some true) = true := by
    rw [h1]; rfl
  have q2 : ((PySem.W.clsIn K S).isSome && PySem.W.typeIn K (.ref S) == some (.type "type")) = true := by
    have q3 : (PySem.W.clsIn K S).isSome = true := h2
    rw [q3, h3]; rfl
  unfold PySem.W.exmOne
  rw [if_pos q1]
  exact (if_pos q2).trans h4
abbrev s_BadLetters : Stmt := (inClass (top 2) 0)
abbrev s_BadWord : Stmt := (inClass (top 3) 0)
theorem ss_BadLetters : SScope ["self", "place"] ["self", "place"] (defScope s_BadLetters) :=
  ⟨rfl, rfl, rfl, by decide +kernel, rfl, by decide +kernel, by decide +kernel, by decide +kernel, by decide +kernel, by decide +kernel, rfl⟩
theorem ss_BadWord : SScope ["self", "place"] ["self", "place"] (defScope s_BadWord) :=
  ⟨rfl, rfl, rfl, by decide +kernel, rfl, by decide +kernel, by decide +kernel, by decide +kernel, by decide +kernel, by decide +kernel, rfl⟩
end Ws
/-! what the top has written, joined -/
namespace Ws
open PySem PySem.Spec PyProof.Rows L2
theorem all_mk {l : PySem.W.OpenLaw} {w : World} {K : PySem.W.Frag} {h : Heap} {mg : Str → Option Value} {fa : Addr} (X : K.In h) (G : h.Ns mainGlobals mg) (hfa : mg "law" = some (.ref fa))
    {fd0 fd1 fd2 fd3 fd4 fd5 fd6 fd7 fd8 fd9 fd10 fd11 fd12 fd13 fd14 fd15 fd16 fd17 fd18 C fmC0 fmC1 fmC2 fmC3 CR feCR cdaeCR cceCR NeCR TeCR CL feCL cdaeCL cceCL NeCL TeCL CW feCW cdaeCW cceCW NeCW TeCW : Addr}
    {ocd0 kVd0 dcd0 pmd0 cdd0 ctd0 ocd1 kVd1 dcd1 pmd1 cdd1 ctd1 ocd2 kVd2 dcd2 pmd2 cdd2 ctd2 ocd3 kVd3 dcd3 pmd3 cdd3 ctd3 ocd4 kVd4 dcd4 pmd4 cdd4 ctd4 ocd5 kVd5 dcd5 pmd5 cdd5 ctd5 ocd6 kVd6 dcd6 pmd6 cdd6 ctd6 ocd7 kVd7 dcd7 pmd7 cdd7 ctd7 ocd8 kVd8 dcd8 pmd8 cdd8 ctd8 ocd9 kVd9 dcd9 pmd9 cdd9 ctd9 ocd10 kVd10 dcd10 pmd10 cdd10 ctd10 ocd11 kVd11 dcd11 pmd11 cdd11 ctd11 ocd12 kVd12 dcd12 pmd12 cdd12 ctd12 ocd13 kVd13 dcd13 pmd13 cdd13 ctd13 ocd14 kVd14 dcd14 pmd14 cdd14 ctd14 ocd15 kVd15 dcd15 pmd15 cdd15 ctd15 ocd16 kVd16 dcd16 pmd16 cdd16 ctd16 ocd17 kVd17 dcd17 pmd17 cdd17 ctd17 ocd18 kVd18 dcd18 pmd18 cdd18 ctd18 ocmC0 kVmC0 dcmC0 pmmC0 cdmC0 ctmC0 ocmC1 kVmC1 dcmC1 pmmC1 cdmC1 ctmC1 ocmC2 kVmC2 dcmC2 pmmC2 cdmC2 ctmC2 ocmC3 kVmC3 dcmC3 pmmC3 cdmC3 ctmC3 oceCR kVeCR dceCR pmeCR cteCR ccleCR cleCR tceCR oceCL kVeCL dceCL pmeCL cteCL ccleCL cleCL tceCL oceCW kVeCW dceCW pmeCW cteCW ccleCW cleCW tceCW : Value}
    {odd0 and0 odd1 and1 odd2 and2 odd3 and3 odd4 and4 odd5 and5 odd6 and6 odd7 and7 odd8 and8 odd9 and9 odd10 and10 odd11 and11 odd12 and12 odd13 and13 odd14 and14 odd15 and15 odd16 and16 odd17 and17 odd18 and18 odmC0 anmC0 odmC1 anmC1 odmC2 anmC2 odmC3 anmC3 ddeCR odeCR aneCR cddeCR cldeCR tdeCR ddeCL odeCL aneCL cddeCL cldeCL tdeCL ddeCW odeCW aneCW cddeCW cldeCW tdeCW : Option Addr}
    {sld0 sld1 sld2 sld3 sld4 sld5 sld6 sld7 sld8 sld9 sld10 sld11 sld12 sld13 sld14 sld15 sld16 sld17 sld18 slmC0 slmC1 slmC2 slmC3 sleCR ccseCR csleCR tsleCR sleCL ccseCL csleCL tsleCL sleCW ccseCW csleCW tsleCW : Array (Option Value)}
    {nmeCR qeCR fileeCR nmeCL qeCL fileeCL nmeCW qeCW fileeCW : Str}
    {bseCR bmeCR subeCR bseCL bmeCL subeCL bseCW bmeCW subeCW : List Value}
    {sneCR sneCL sneCW : List Str}
    {abeCR abeCL abeCW : Bool}
    {coleCR coleCL coleCW : Option Bool}
    {k0eCR k1eCR k2eCR k3eCR k5eCR k0eCL k1eCL k2eCL k3eCL k5eCL k0eCW k1eCW k2eCW k3eCW k5eCW : Option Value}
    {vseCR vseCL vseCW : Array Value}
    {tfeCR tfeCL tfeCW tg_SMALL tg_LETTERS_MOST tg_WORD_MOST : Tok}
    {cdDeCR cdDeCL cdDeCW : ClassData}
    {tneCR tneCL tneCW : Nat}
    (ad0 : PySem.W.nsIn K mainGlobals "is_letters" = some (some (.ref fd0)))
    (ld0 : K.lookup fd0 = some ⟨ocd0, odd0, .func (PySem.W.fnOf "is_letters" "is_letters" (defArgs s_is_letters) (defBody s_is_letters) (defScope s_is_letters) .none kVd0 dcd0 pmd0 and0 cdd0 ctd0), sld0⟩)
    (cd0 : PySem.W.codeIn K cdd0 "is_letters" = true)
    (kd0 : PySem.W.keepIn K (.ref fd0) = true)
    (ad1 : PySem.W.nsIn K mainGlobals "check_letters" = some (some (.ref fd1)))
    (ld1 : K.lookup fd1 = some ⟨ocd1, odd1, .func (PySem.W.fnOf "check_letters" "check_letters" (defArgs s_check_letters) (defBody s_check_letters) (defScope s_check_letters) .none kVd1 dcd1 pmd1 and1 cdd1 ctd1), sld1⟩)
    (cd1 : PySem.W.codeIn K cdd1 "check_letters" = true)
    (kd1 : PySem.W.keepIn K (.ref fd1) = true)
    (ad2 : PySem.W.nsIn K mainGlobals "is_word" = some (some (.ref fd2)))
    (ld2 : K.lookup fd2 = some ⟨ocd2, odd2, .func (PySem.W.fnOf "is_word" "is_word" (defArgs s_is_word) (defBody s_is_word) (defScope s_is_word) .none kVd2 dcd2 pmd2 and2 cdd2 ctd2), sld2⟩)
    (cd2 : PySem.W.codeIn K cdd2 "is_word" = true)
    (kd2 : PySem.W.keepIn K (.ref fd2) = true)
    (ad3 : PySem.W.nsIn K mainGlobals "check_game_words" = some (some (.ref fd3)))
    (ld3 : K.lookup fd3 = some ⟨ocd3, odd3, .func (PySem.W.fnOf "check_game_words" "check_game_words" (defArgs s_check_game_words) (defBody s_check_game_words) (defScope s_check_game_words) .none kVd3 dcd3 pmd3 and3 cdd3 ctd3), sld3⟩)
    (cd3 : PySem.W.codeIn K cdd3 "check_game_words" = true)
    (kd3 : PySem.W.keepIn K (.ref fd3) = true)
    (ad4 : PySem.W.nsIn K mainGlobals "class_of" = some (some (.ref fd4)))
    (ld4 : K.lookup fd4 = some ⟨ocd4, odd4, .func (PySem.W.fnOf "class_of" "class_of" (defArgs s_class_of) (defBody s_class_of) (defScope s_class_of) .none kVd4 dcd4 pmd4 and4 cdd4 ctd4), sld4⟩)
    (cd4 : PySem.W.codeIn K cdd4 "class_of" = true)
    (kd4 : PySem.W.keepIn K (.ref fd4) = true)
    (ad5 : PySem.W.nsIn K mainGlobals "kept_by" = some (some (.ref fd5)))
    (ld5 : K.lookup fd5 = some ⟨ocd5, odd5, .func (PySem.W.fnOf "kept_by" "kept_by" (defArgs s_kept_by) (defBody s_kept_by) (defScope s_kept_by) .none kVd5 dcd5 pmd5 and5 cdd5 ctd5), sld5⟩)
    (cd5 : PySem.W.codeIn K cdd5 "kept_by" = true)
    (kd5 : PySem.W.keepIn K (.ref fd5) = true)
    (ad6 : PySem.W.nsIn K mainGlobals "rounds_needed" = some (some (.ref fd6)))
    (ld6 : K.lookup fd6 = some ⟨ocd6, odd6, .func (PySem.W.fnOf "rounds_needed" "rounds_needed" (defArgs s_rounds) (defBody s_rounds) (defScope s_rounds) .none kVd6 dcd6 pmd6 and6 cdd6 ctd6), sld6⟩)
    (cd6 : PySem.W.codeIn K cdd6 "rounds_needed" = true)
    (kd6 : PySem.W.keepIn K (.ref fd6) = true)
    (ad7 : PySem.W.nsIn K mainGlobals "_law_deck" = some (some (.ref fd7)))
    (ld7 : K.lookup fd7 = some ⟨ocd7, odd7, .func (PySem.W.fnOf "_law_deck" "_law_deck" (defArgs s_deck) (defBody s_deck) (defScope s_deck) .none kVd7 dcd7 pmd7 and7 cdd7 ctd7), sld7⟩)
    (cd7 : PySem.W.codeIn K cdd7 "_law_deck" = true)
    (kd7 : PySem.W.keepIn K (.ref fd7) = true)
    (ad8 : PySem.W.nsIn K mainGlobals "_law_draw" = some (some (.ref fd8)))
    (ld8 : K.lookup fd8 = some ⟨ocd8, odd8, .func (PySem.W.fnOf "_law_draw" "_law_draw" (defArgs s_draw) (defBody s_draw) (defScope s_draw) .none kVd8 dcd8 pmd8 and8 cdd8 ctd8), sld8⟩)
    (cd8 : PySem.W.codeIn K cdd8 "_law_draw" = true)
    (kd8 : PySem.W.keepIn K (.ref fd8) = true)
    (ad9 : PySem.W.nsIn K mainGlobals "_law_is" = some (some (.ref fd9)))
    (ld9 : K.lookup fd9 = some ⟨ocd9, odd9, .func (PySem.W.fnOf "_law_is" "_law_is" (defArgs s_is) (defBody s_is) (defScope s_is) .none kVd9 dcd9 pmd9 and9 cdd9 ctd9), sld9⟩)
    (cd9 : PySem.W.codeIn K cdd9 "_law_is" = true)
    (kd9 : PySem.W.keepIn K (.ref fd9) = true)
    (ad10 : PySem.W.nsIn K mainGlobals "_law_letters" = some (some (.ref fd10)))
    (ld10 : K.lookup fd10 = some ⟨ocd10, odd10, .func (PySem.W.fnOf "_law_letters" "_law_letters" (defArgs s_letters) (defBody s_letters) (defScope s_letters) .none kVd10 dcd10 pmd10 and10 cdd10 ctd10), sld10⟩)
    (cd10 : PySem.W.codeIn K cdd10 "_law_letters" = true)
    (kd10 : PySem.W.keepIn K (.ref fd10) = true)
    (ad11 : PySem.W.nsIn K mainGlobals "_law_word" = some (some (.ref fd11)))
    (ld11 : K.lookup fd11 = some ⟨ocd11, odd11, .func (PySem.W.fnOf "_law_word" "_law_word" (defArgs s_word) (defBody s_word) (defScope s_word) .none kVd11 dcd11 pmd11 and11 cdd11 ctd11), sld11⟩)
    (cd11 : PySem.W.codeIn K cdd11 "_law_word" = true)
    (kd11 : PySem.W.keepIn K (.ref fd11) = true)
    (ad12 : PySem.W.nsIn K mainGlobals "_law_kept" = some (some (.ref fd12)))
    (ld12 : K.lookup fd12 = some ⟨ocd12, odd12, .func (PySem.W.fnOf "_law_kept" "_law_kept" (defArgs s_lk) (defBody s_lk) (defScope s_lk) .none kVd12 dcd12 pmd12 and12 cdd12 ctd12), sld12⟩)
    (cd12 : PySem.W.codeIn K cdd12 "_law_kept" = true)
    (kd12 : PySem.W.keepIn K (.ref fd12) = true)
    (ad13 : PySem.W.nsIn K mainGlobals "words_of" = some (some (.ref fd13)))
    (ld13 : K.lookup fd13 = some ⟨ocd13, odd13, .func (PySem.W.fnOf "words_of" "words_of" (defArgs s_wof) (defBody s_wof) (defScope s_wof) .none kVd13 dcd13 pmd13 and13 cdd13 ctd13), sld13⟩)
    (cd13 : PySem.W.codeIn K cdd13 "words_of" = true)
    (kd13 : PySem.W.keepIn K (.ref fd13) = true)
    (ad14 : PySem.W.nsIn K mainGlobals "words_to" = some (some (.ref fd14)))
    (ld14 : K.lookup fd14 = some ⟨ocd14, odd14, .func (PySem.W.fnOf "words_to" "words_to" (defArgs s_wto) (defBody s_wto) (defScope s_wto) .none kVd14 dcd14 pmd14 and14 cdd14 ctd14), sld14⟩)
    (cd14 : PySem.W.codeIn K cdd14 "words_to" = true)
    (kd14 : PySem.W.keepIn K (.ref fd14) = true)
    (ad15 : PySem.W.nsIn K mainGlobals "first_of_classes" = some (some (.ref fd15)))
    (ld15 : K.lookup fd15 = some ⟨ocd15, odd15, .func (PySem.W.fnOf "first_of_classes" "first_of_classes" (defArgs s_fc) (defBody s_fc) (defScope s_fc) .none kVd15 dcd15 pmd15 and15 cdd15 ctd15), sld15⟩)
    (cd15 : PySem.W.codeIn K cdd15 "first_of_classes" = true)
    (kd15 : PySem.W.keepIn K (.ref fd15) = true)
    (ad16 : PySem.W.nsIn K mainGlobals "_law_words" = some (some (.ref fd16)))
    (ld16 : K.lookup fd16 = some ⟨ocd16, odd16, .func (PySem.W.fnOf "_law_words" "_law_words" (defArgs s_lw) (defBody s_lw) (defScope s_lw) .none kVd16 dcd16 pmd16 and16 cdd16 ctd16), sld16⟩)
    (cd16 : PySem.W.codeIn K cdd16 "_law_words" = true)
    (kd16 : PySem.W.keepIn K (.ref fd16) = true)
    (ad17 : PySem.W.nsIn K mainGlobals "_law_told" = some (some (.ref fd17)))
    (ld17 : K.lookup fd17 = some ⟨ocd17, odd17, .func (PySem.W.fnOf "_law_told" "_law_told" (defArgs s_told82) (defBody s_told82) (defScope s_told82) .none kVd17 dcd17 pmd17 and17 cdd17 ctd17), sld17⟩)
    (cd17 : PySem.W.codeIn K cdd17 "_law_told" = true)
    (kd17 : PySem.W.keepIn K (.ref fd17) = true)
    (ad18 : PySem.W.nsIn K mainGlobals "law" = some (some (.ref fd18)))
    (ld18 : K.lookup fd18 = some ⟨ocd18, odd18, .func (PySem.W.fnOf "law" "law" (defArgs s_law82) (defBody s_law82) (defScope s_law82) .none kVd18 dcd18 pmd18 and18 cdd18 ctd18), sld18⟩)
    (cd18 : PySem.W.codeIn K cdd18 "law" = true)
    (kd18 : PySem.W.keepIn K (.ref fd18) = true)
    (aC : PySem.W.nsIn K mainGlobals "Classes" = some (some (.ref C)))
    (amC0 : PySem.W.findIn K (.ref C) "__init__" = some (some (.ref fmC0)))
    (imC0 : PySem.W.isFn K (.ref fmC0) = true)
    (lmC0 : K.lookup fmC0 = some ⟨ocmC0, odmC0, .func (PySem.W.fnOf "__init__" "Classes.__init__" (defArgs s_CI) (defBody s_CI) (defScope s_CI) .none kVmC0 dcmC0 pmmC0 anmC0 cdmC0 ctmC0), slmC0⟩)
    (cmC0 : PySem.W.codeIn K cdmC0 "Classes.__init__" = true)
    (kmC0 : PySem.W.keepIn K (.ref fmC0) = true)
    (amC1 : PySem.W.findIn K (.ref C) "number" = some (some (.ref fmC1)))
    (imC1 : PySem.W.isFn K (.ref fmC1) = true)
    (lmC1 : K.lookup fmC1 = some ⟨ocmC1, odmC1, .func (PySem.W.fnOf "number" "Classes.number" (defArgs s_num) (defBody s_num) (defScope s_num) .none kVmC1 dcmC1 pmmC1 anmC1 cdmC1 ctmC1), slmC1⟩)
    (cmC1 : PySem.W.codeIn K cdmC1 "Classes.number" = true)
    (kmC1 : PySem.W.keepIn K (.ref fmC1) = true)
    (amC2 : PySem.W.findIn K (.ref C) "table" = some (some (.ref fmC2)))
    (imC2 : PySem.W.isFn K (.ref fmC2) = true)
    (lmC2 : K.lookup fmC2 = some ⟨ocmC2, odmC2, .func (PySem.W.fnOf "table" "Classes.table" (defArgs s_tab) (defBody s_tab) (defScope s_tab) .none kVmC2 dcmC2 pmmC2 anmC2 cdmC2 ctmC2), slmC2⟩)
    (cmC2 : PySem.W.codeIn K cdmC2 "Classes.table" = true)
    (kmC2 : PySem.W.keepIn K (.ref fmC2) = true)
    (amC3 : PySem.W.findIn K (.ref C) "around" = some (some (.ref fmC3)))
    (imC3 : PySem.W.isFn K (.ref fmC3) = true)
    (lmC3 : K.lookup fmC3 = some ⟨ocmC3, odmC3, .func (PySem.W.fnOf "around" "Classes.around" (defArgs s_aro) (defBody s_aro) (defScope s_aro) .none kVmC3 dcmC3 pmmC3 anmC3 cdmC3 ctmC3), slmC3⟩)
    (cmC3 : PySem.W.codeIn K cdmC3 "Classes.around" = true)
    (kmC3 : PySem.W.keepIn K (.ref fmC3) = true)
    (pgC : PySem.W.plainGet K C Str.empty = true)
    (hdC : PySem.W.hasDictIn K C = true)
    (poC : PySem.W.plainOver K C = true)
    (saC : PySem.W.findIn K (.ref C) "__setattr__" = some (some (.builtin "object.__setattr__")))
    (mkC : PySem.W.makesIn K C = true)
    (kcC : PySem.W.keepIn K (.ref C) = true)
    (nC_known : PySem.W.findIn K (.ref C) "known" = some none)
    (aeCR : PySem.W.nsIn K mainGlobals "WordError" = some (some (.ref CR)))
    (xeCR : K.lookup CR = some (excClassObj nmeCR qeCR CR NeCR bseCR bmeCR true sneCR subeCR abeCR coleCR ddeCR k0eCR k1eCR k2eCR k3eCR k5eCR "ValueError.__new__"))
    (reCR : PySem.HandSPX.refsVE bmeCR = true)
    (saeCR : PySem.W.findIn K (.ref CR) "__setattr__" = some (some (.builtin "object.__setattr__")))
    (xceCR : PySem.W.subIn K (.ref CR) (.type "BaseException") = some true)
    (tyeCR : PySem.W.typeIn K (.ref CR) = some (.type "type"))
    (kceCR : PySem.W.keepIn K (.ref CR) = true)
    (gaeCR : PySem.W.findIn K (.ref CR) "__getattribute__" = some (some (.builtin "BaseException.__getattribute__")))
    (ggeCR : PySem.W.findIn K (.ref CR) "__getattr__" = some none)
    (hdeCR : PySem.W.hasDictIn K CR = true)
    (npeCR : PySem.W.findIn K (.ref CR) "place" = some none)
    (nweCR : PySem.W.findIn K (.ref CR) "word" = some none)
    (ineCR : PySem.W.findIn K (.ref CR) "__init__" = some (some (.ref feCR)))
    (fteCR : PySem.W.typeIn K (.ref feCR) = some (.type "function"))
    (fneCR : PySem.W.fnIn K feCR = true)
    (fkeCR : PySem.W.keepIn K (.ref feCR) = true)
    (leCR : K.lookup feCR = some ⟨oceCR, odeCR, .func (PySem.W.fnX "__init__" "WordError.__init__" (defArgs s_WordError) (defBody s_WordError) (defScope s_WordError) [("__class__", cceCR)] (.ref TeCR) kVeCR dceCR pmeCR aneCR (.ref cdaeCR) cteCR), sleCR⟩)
    (ceCR : PySem.W.codeIn K (.ref cdaeCR) "WordError.__init__" = true)
    (ckeCR : K.lookup cdaeCR = some ⟨ccleCR, cddeCR, .fields vseCR, ccseCR⟩)
    (cfeCR : vseCR[2]? = some (.str fileeCR tfeCR))
    (ceeCR : ((l.prog.main.file : Str) == fileeCR) = true)
    (cc_eCR : K.lookup cceCR = some ⟨cleCR, cldeCR, .cell (some (.ref CR)), csleCR⟩)
    (cDeCR : PySem.W.clsIn K CR = some cdDeCR)
    (tleCR : K.lookup TeCR = some ⟨tceCR, tdeCR, .seq #[Value.none] tneCR, tsleCR⟩)
    (tops : (l.prog.main.scope.names.lookup ("super" : Str)).isSome = false)
    (cst : PySem.W.nsIn K cStatics "thirdparty.any" = some none)
    (aeCL : PySem.W.nsIn K mainGlobals "BadLetters" = some (some (.ref CL)))
    (xeCL : K.lookup CL = some (excClassObj nmeCL qeCL CL NeCL bseCL bmeCL true sneCL subeCL abeCL coleCL ddeCL k0eCL k1eCL k2eCL k3eCL k5eCL "ValueError.__new__"))
    (reCL : PySem.HandSPX.refsVE bmeCL = true)
    (saeCL : PySem.W.findIn K (.ref CL) "__setattr__" = some (some (.builtin "object.__setattr__")))
    (xceCL : PySem.W.subIn K (.ref CL) (.type "BaseException") = some true)
    (tyeCL : PySem.W.typeIn K (.ref CL) = some (.type "type"))
    (kceCL : PySem.W.keepIn K (.ref CL) = true)
    (gaeCL : PySem.W.findIn K (.ref CL) "__getattribute__" = some (some (.builtin "BaseException.__getattribute__")))
    (ggeCL : PySem.W.findIn K (.ref CL) "__getattr__" = some none)
    (hdeCL : PySem.W.hasDictIn K CL = true)
    (npeCL : PySem.W.findIn K (.ref CL) "place" = some none)
    (nweCL : PySem.W.findIn K (.ref CL) "word" = some none)
    (ineCL : PySem.W.findIn K (.ref CL) "__init__" = some (some (.ref feCL)))
    (fteCL : PySem.W.typeIn K (.ref feCL) = some (.type "function"))
    (fneCL : PySem.W.fnIn K feCL = true)
    (fkeCL : PySem.W.keepIn K (.ref feCL) = true)
    (leCL : K.lookup feCL = some ⟨oceCL, odeCL, .func (PySem.W.fnX "__init__" "BadLetters.__init__" (defArgs s_BadLetters) (defBody s_BadLetters) (defScope s_BadLetters) [("__class__", cceCL)] (.ref TeCL) kVeCL dceCL pmeCL aneCL (.ref cdaeCL) cteCL), sleCL⟩)
    (ceCL : PySem.W.codeIn K (.ref cdaeCL) "BadLetters.__init__" = true)
    (ckeCL : K.lookup cdaeCL = some ⟨ccleCL, cddeCL, .fields vseCL, ccseCL⟩)
    (cfeCL : vseCL[2]? = some (.str fileeCL tfeCL))
    (ceeCL : ((l.prog.main.file : Str) == fileeCL) = true)
    (cc_eCL : K.lookup cceCL = some ⟨cleCL, cldeCL, .cell (some (.ref CL)), csleCL⟩)
    (cDeCL : PySem.W.clsIn K CL = some cdDeCL)
    (tleCL : K.lookup TeCL = some ⟨tceCL, tdeCL, .seq #[Value.none] tneCL, tsleCL⟩)
    (aeCW : PySem.W.nsIn K mainGlobals "BadWord" = some (some (.ref CW)))
    (xeCW : K.lookup CW = some (excClassObj nmeCW qeCW CW NeCW bseCW bmeCW true sneCW subeCW abeCW coleCW ddeCW k0eCW k1eCW k2eCW k3eCW k5eCW "ValueError.__new__"))
    (reCW : PySem.HandSPX.refsVE bmeCW = true)
    (saeCW : PySem.W.findIn K (.ref CW) "__setattr__" = some (some (.builtin "object.__setattr__")))
    (xceCW : PySem.W.subIn K (.ref CW) (.type "BaseException") = some true)
    (tyeCW : PySem.W.typeIn K (.ref CW) = some (.type "type"))
    (kceCW : PySem.W.keepIn K (.ref CW) = true)
    (gaeCW : PySem.W.findIn K (.ref CW) "__getattribute__" = some (some (.builtin "BaseException.__getattribute__")))
    (ggeCW : PySem.W.findIn K (.ref CW) "__getattr__" = some none)
    (hdeCW : PySem.W.hasDictIn K CW = true)
    (npeCW : PySem.W.findIn K (.ref CW) "place" = some none)
    (nweCW : PySem.W.findIn K (.ref CW) "word" = some none)
    (ineCW : PySem.W.findIn K (.ref CW) "__init__" = some (some (.ref feCW)))
    (fteCW : PySem.W.typeIn K (.ref feCW) = some (.type "function"))
    (fneCW : PySem.W.fnIn K feCW = true)
    (fkeCW : PySem.W.keepIn K (.ref feCW) = true)
    (leCW : K.lookup feCW = some ⟨oceCW, odeCW, .func (PySem.W.fnX "__init__" "BadWord.__init__" (defArgs s_BadWord) (defBody s_BadWord) (defScope s_BadWord) [("__class__", cceCW)] (.ref TeCW) kVeCW dceCW pmeCW aneCW (.ref cdaeCW) cteCW), sleCW⟩)
    (ceCW : PySem.W.codeIn K (.ref cdaeCW) "BadWord.__init__" = true)
    (ckeCW : K.lookup cdaeCW = some ⟨ccleCW, cddeCW, .fields vseCW, ccseCW⟩)
    (cfeCW : vseCW[2]? = some (.str fileeCW tfeCW))
    (ceeCW : ((l.prog.main.file : Str) == fileeCW) = true)
    (cc_eCW : K.lookup cceCW = some ⟨cleCW, cldeCW, .cell (some (.ref CW)), csleCW⟩)
    (cDeCW : PySem.W.clsIn K CW = some cdDeCW)
    (tleCW : K.lookup TeCW = some ⟨tceCW, tdeCW, .seq #[Value.none] tneCW, tsleCW⟩)
    (mvCL : PySem.W.mroIn K CL (.ref CL) = some true)
    (mrCL : PySem.W.mroIn K CL (.ref CR) = some true)
    (veCL : PySem.W.subIn K (.ref CL) (.type "ValueError") = some true)
    (s1CL : PySem.W.ks_superIn K CL CL "__init__" = some (some (.ref feCR)))
    (s2CL : PySem.W.ks_superIn K CL CR "__init__" = some (some (.builtin veI)))
    (mvCW : PySem.W.mroIn K CW (.ref CW) = some true)
    (mrCW : PySem.W.mroIn K CW (.ref CR) = some true)
    (veCW : PySem.W.subIn K (.ref CW) (.type "ValueError") = some true)
    (s1CW : PySem.W.ks_superIn K CW CW "__init__" = some (some (.ref feCR)))
    (s2CW : PySem.W.ks_superIn K CW CR "__init__" = some (some (.builtin veI)))
    (sx_CL_CL : PySem.W.subIn K (.ref CL) (.ref CL) = some true)
    (ic_CL : PySem.W.isClsIn K CL = true)
    (g_SMALL : PySem.W.nsIn K mainGlobals "SMALL" = some (some (.str small tg_SMALL)))
    (g_LETTERS_MOST : PySem.W.nsIn K mainGlobals "LETTERS_MOST" = some (some (.int 3 tg_LETTERS_MOST)))
    (g_WORD_MOST : PySem.W.nsIn K mainGlobals "WORD_MOST" = some (some (.int 60 tg_WORD_MOST)))
    (z_len : PySem.W.nsIn K mainGlobals "len" = some none)
    (z_abs : PySem.W.nsIn K mainGlobals "abs" = some none)
    (z_int : PySem.W.nsIn K mainGlobals "int" = some none)
    (z_list : PySem.W.nsIn K mainGlobals "list" = some none)
    (z_range : PySem.W.nsIn K mainGlobals "range" = some none)
    (z_repr : PySem.W.nsIn K mainGlobals "repr" = some none)
    (z_isinstance : PySem.W.nsIn K mainGlobals "isinstance" = some none)
    (z_str : PySem.W.nsIn K mainGlobals "str" = some none)
    (z_all : PySem.W.nsIn K mainGlobals "all" = some none)
    (z_any : PySem.W.nsIn K mainGlobals "any" = some none)
    (z_zip : PySem.W.nsIn K mainGlobals "zip" = some none)
    (z_tuple : PySem.W.nsIn K mainGlobals "tuple" = some none)
    (z_ord : PySem.W.nsIn K mainGlobals "ord" = some none)
    (z_sorted : PySem.W.nsIn K mainGlobals "sorted" = some none)
    (z_set : PySem.W.nsIn K mainGlobals "set" = some none)
    (z_super : PySem.W.nsIn K mainGlobals "super" = some none)
    (z_max : PySem.W.nsIn K mainGlobals "max" = some none)
    (z_min : PySem.W.nsIn K mainGlobals "min" = some none)
    : ∃ fd : FuncData, (∀ (s : Shared) (v : Value), BindsTo s fd ⟨[v], []⟩ [("script", v)]) ∧ ∀ base : Heap, K.In base → base.Ns mainGlobals mg → FnG l.prog w K mg base CX0 10 fa fd ["script"] (spLaw K) := by
  have efa := hfa.symm.trans (PySem.W.mg_of X G ad18)
  cases efa
  have D_is_letters : Def K mg "is_letters" s_is_letters fd0 _ ["value"] := ⟨fun_mk (st := s_is_letters) ld0 cd0 kd0, PySem.W.mg_of X G ad0, (fun_mk (st := s_is_letters) ld0 cd0 kd0).binds (ps := ["value"]) fun _ _ _ _ _ _ us hl => match us, hl with | [_], _ => rfl⟩
  have D_check_letters : Def K mg "check_letters" s_check_letters fd1 _ ["letters"] := ⟨fun_mk (st := s_check_letters) ld1 cd1 kd1, PySem.W.mg_of X G ad1, (fun_mk (st := s_check_letters) ld1 cd1 kd1).binds (ps := ["letters"]) fun _ _ _ _ _ _ us hl => match us, hl with | [_], _ => rfl⟩
  have D_is_word : Def K mg "is_word" s_is_word fd2 _ ["letters", "value"] := ⟨fun_mk (st := s_is_word) ld2 cd2 kd2, PySem.W.mg_of X G ad2, (fun_mk (st := s_is_word) ld2 cd2 kd2).binds (ps := ["letters", "value"]) fun _ _ _ _ _ _ us hl => match us, hl with | [_, _], _ => rfl⟩
  have D_check_game_words : Def K mg "check_game_words" s_check_game_words fd3 _ ["letters", "words"] := ⟨fun_mk (st := s_check_game_words) ld3 cd3 kd3, PySem.W.mg_of X G ad3, (fun_mk (st := s_check_game_words) ld3 cd3 kd3).binds (ps := ["letters", "words"]) fun _ _ _ _ _ _ us hl => match us, hl with | [_, _], _ => rfl⟩
  have D_class_of : Def K mg "class_of" s_class_of fd4 _ ["classes", "k", "w"] := ⟨fun_mk (st := s_class_of) ld4 cd4 kd4, PySem.W.mg_of X G ad4, (fun_mk (st := s_class_of) ld4 cd4 kd4).binds (ps := ["classes", "k", "w"]) fun _ _ _ _ _ _ us hl => match us, hl with | [_, _, _], _ => rfl⟩
  have D_kept_by : Def K mg "kept_by" s_kept_by fd5 _ ["letters", "k", "v", "w"] := ⟨fun_mk (st := s_kept_by) ld5 cd5 kd5, PySem.W.mg_of X G ad5, (fun_mk (st := s_kept_by) ld5 cd5 kd5).binds (ps := ["letters", "k", "v", "w"]) fun _ _ _ _ _ _ us hl => match us, hl with | [_, _, _, _], _ => rfl⟩
  have D_rounds_needed : Def K mg "rounds_needed" s_rounds fd6 _ ["letters", "v", "w"] := ⟨fun_mk (st := s_rounds) ld6 cd6 kd6, PySem.W.mg_of X G ad6, (fun_mk (st := s_rounds) ld6 cd6 kd6).binds (ps := ["letters", "v", "w"]) fun _ _ _ _ _ _ us hl => match us, hl with | [_, _, _], _ => rfl⟩
  have D_law_deck : Def K mg "_law_deck" s_deck fd7 _ ["script"] := ⟨fun_mk (st := s_deck) ld7 cd7 kd7, PySem.W.mg_of X G ad7, (fun_mk (st := s_deck) ld7 cd7 kd7).binds (ps := ["script"]) fun _ _ _ _ _ _ us hl => match us, hl with | [_], _ => rfl⟩
  have D_law_draw : Def K mg "_law_draw" s_draw fd8 _ ["deck", "bound"] := ⟨fun_mk (st := s_draw) ld8 cd8 kd8, PySem.W.mg_of X G ad8, (fun_mk (st := s_draw) ld8 cd8 kd8).binds (ps := ["deck", "bound"]) fun _ _ _ _ _ _ us hl => match us, hl with | [_, _], _ => rfl⟩
  have D_law_is : Def K mg "_law_is" s_is fd9 _ ["value", "due"] := ⟨fun_mk (st := s_is) ld9 cd9 kd9, PySem.W.mg_of X G ad9, (fun_mk (st := s_is) ld9 cd9 kd9).binds (ps := ["value", "due"]) fun _ _ _ _ _ _ us hl => match us, hl with | [_, _], _ => rfl⟩
  have D_law_letters : Def K mg "_law_letters" s_letters fd10 _ ["deck"] := ⟨fun_mk (st := s_letters) ld10 cd10 kd10, PySem.W.mg_of X G ad10, (fun_mk (st := s_letters) ld10 cd10 kd10).binds (ps := ["deck"]) fun _ _ _ _ _ _ us hl => match us, hl with | [_], _ => rfl⟩
  have D_law_word : Def K mg "_law_word" s_word fd11 _ ["deck", "letters", "most"] := ⟨fun_mk (st := s_word) ld11 cd11 kd11, PySem.W.mg_of X G ad11, (fun_mk (st := s_word) ld11 cd11 kd11).binds (ps := ["deck", "letters", "most"]) fun _ _ _ _ _ _ us hl => match us, hl with | [_, _, _], _ => rfl⟩
  have D_law_kept : Def K mg "_law_kept" s_lk fd12 _ ["v", "w", "k", "table"] := ⟨fun_mk (st := s_lk) ld12 cd12 kd12, PySem.W.mg_of X G ad12, (fun_mk (st := s_lk) ld12 cd12 kd12).binds (ps := ["v", "w", "k", "table"]) fun _ _ _ _ _ _ us hl => match us, hl with | [_, _, _, _], _ => rfl⟩
  have D_words_of : Def K mg "words_of" s_wof fd13 _ ["letters", "length"] := ⟨fun_mk (st := s_wof) ld13 cd13 kd13, PySem.W.mg_of X G ad13, (fun_mk (st := s_wof) ld13 cd13 kd13).binds (ps := ["letters", "length"]) fun _ _ _ _ _ _ us hl => match us, hl with | [_, _], _ => rfl⟩
  have D_words_to : Def K mg "words_to" s_wto fd14 _ ["letters", "length"] := ⟨fun_mk (st := s_wto) ld14 cd14 kd14, PySem.W.mg_of X G ad14, (fun_mk (st := s_wto) ld14 cd14 kd14).binds (ps := ["letters", "length"]) fun _ _ _ _ _ _ us hl => match us, hl with | [_, _], _ => rfl⟩
  have D_first_of_classes : Def K mg "first_of_classes" s_fc fd15 _ ["letters", "k", "length"] := ⟨fun_mk (st := s_fc) ld15 cd15 kd15, PySem.W.mg_of X G ad15, (fun_mk (st := s_fc) ld15 cd15 kd15).binds (ps := ["letters", "k", "length"]) fun _ _ _ _ _ _ us hl => match us, hl with | [_, _, _], _ => rfl⟩
  have D_law_words : Def K mg "_law_words" s_lw fd16 _ ["letters", "most"] := ⟨fun_mk (st := s_lw) ld16 cd16 kd16, PySem.W.mg_of X G ad16, (fun_mk (st := s_lw) ld16 cd16 kd16).binds (ps := ["letters", "most"]) fun _ _ _ _ _ _ us hl => match us, hl with | [_, _], _ => rfl⟩
  have D_law_told : Def K mg "_law_told" s_told82 fd17 _ ["letters", "k", "length"] := ⟨fun_mk (st := s_told82) ld17 cd17 kd17, PySem.W.mg_of X G ad17, (fun_mk (st := s_told82) ld17 cd17 kd17).binds (ps := ["letters", "k", "length"]) fun _ _ _ _ _ _ us hl => match us, hl with | [_, _, _], _ => rfl⟩
  have D_law : Def K mg "law" s_law82 fa _ ["script"] := ⟨fun_mk (st := s_law82) ld18 cd18 kd18, PySem.W.mg_of X G ad18, (fun_mk (st := s_law82) ld18 cd18 kd18).binds (ps := ["script"]) fun _ _ _ _ _ _ us hl => match us, hl with | [_], _ => rfl⟩
  have F_C_init := fun_mk (st := s_CI) lmC0 cmC0 kmC0
  have b_C_init := F_C_init.binds (ps := ["self"]) fun _ _ _ _ _ _ us hl => match us, hl with | [_], _ => rfl
  have M_C_init : Meth K C "__init__" fmC0 := ⟨amC0, imC0, kmC0⟩
  have F_C_number := fun_mk (st := s_num) lmC1 cmC1 kmC1
  have b_C_number := F_C_number.binds (ps := ["self", "k", "around"]) fun _ _ _ _ _ _ us hl => match us, hl with | [_, _, _], _ => rfl
  have M_C_number : Meth K C "number" fmC1 := ⟨amC1, imC1, kmC1⟩
  have F_C_table := fun_mk (st := s_tab) lmC2 cmC2 kmC2
  have b_C_table := F_C_table.binds (ps := ["self", "w", "most"]) fun _ _ _ _ _ _ us hl => match us, hl with | [_, _, _], _ => rfl
  have M_C_table : Meth K C "table" fmC2 := ⟨amC2, imC2, kmC2⟩
  have F_C_around := fun_mk (st := s_aro) lmC3 cmC3 kmC3
  have b_C_around := F_C_around.binds (ps := ["self", "w", "made", "k", "low", "high"]) fun _ _ _ _ _ _ us hl => match us, hl with | [_, _, _, _, _, _], _ => rfl
  have M_C_around : Meth K C "around" fmC3 := ⟨amC3, imC3, kmC3⟩
  have C_C : Cls K C := ⟨pgC, hdC, poC, saC⟩
  have S_CR : SFun l.prog K "__init__" "WordError.__init__" s_WordError CR feCR _ := ⟨⟨_, _, _, _, _, _, _, _, _, _, _, _, _, _, _, _, _, _, _, _, _, _, rfl, leCR, ceCR, ckeCR, cfeCR, ceeCR, cc_eCR, cDeCR, rfl, rfl⟩, tops, fkeCR, fneCR, fteCR⟩
  have B_CR : Binds K (PySem.W.fnX "__init__" "WordError.__init__" (defArgs s_WordError) (defBody s_WordError) (defScope s_WordError) [("__class__", cceCR)] (.ref TeCR) kVeCR dceCR pmeCR aneCR (.ref cdaeCR) cteCR) ["self", "word", "place"] [] := binds_def tleCR rfl fun us hl => match us, hl with | [_, _, _], _ => ⟨_, rfl, rfl⟩
  have O_CR : OexC K CR := ⟨⟨_, _, _, _, _, _, _, _, _, _, _, _, _, _, _, xeCR, reCR⟩, saeCR, xceCR, tyeCR, kceCR⟩
  have XF_CR : XfC K CR := ⟨gaeCR, ggeCR, xceCR, hdeCR⟩
  have S_CL : SFun l.prog K "__init__" "BadLetters.__init__" s_BadLetters CL feCL _ := ⟨⟨_, _, _, _, _, _, _, _, _, _, _, _, _, _, _, _, _, _, _, _, _, _, rfl, leCL, ceCL, ckeCL, cfeCL, ceeCL, cc_eCL, cDeCL, rfl, rfl⟩, tops, fkeCL, fneCL, fteCL⟩
  have B_CL : Binds K (PySem.W.fnX "__init__" "BadLetters.__init__" (defArgs s_BadLetters) (defBody s_BadLetters) (defScope s_BadLetters) [("__class__", cceCL)] (.ref TeCL) kVeCL dceCL pmeCL aneCL (.ref cdaeCL) cteCL) ["self", "place"] [] := binds_def tleCL rfl fun us hl => match us, hl with | [_, _], _ => ⟨_, rfl, rfl⟩
  have O_CL : OexC K CL := ⟨⟨_, _, _, _, _, _, _, _, _, _, _, _, _, _, _, xeCL, reCL⟩, saeCL, xceCL, tyeCL, kceCL⟩
  have XF_CL : XfC K CL := ⟨gaeCL, ggeCL, xceCL, hdeCL⟩
  have S_CW : SFun l.prog K "__init__" "BadWord.__init__" s_BadWord CW feCW _ := ⟨⟨_, _, _, _, _, _, _, _, _, _, _, _, _, _, _, _, _, _, _, _, _, _, rfl, leCW, ceCW, ckeCW, cfeCW, ceeCW, cc_eCW, cDeCW, rfl, rfl⟩, tops, fkeCW, fneCW, fteCW⟩
  have B_CW : Binds K (PySem.W.fnX "__init__" "BadWord.__init__" (defArgs s_BadWord) (defBody s_BadWord) (defScope s_BadWord) [("__class__", cceCW)] (.ref TeCW) kVeCW dceCW pmeCW aneCW (.ref cdaeCW) cteCW) ["self", "place"] [] := binds_def tleCW rfl fun us hl => match us, hl with | [_, _], _ => ⟨_, rfl, rfl⟩
  have O_CW : OexC K CW := ⟨⟨_, _, _, _, _, _, _, _, _, _, _, _, _, _, _, xeCW, reCW⟩, saeCW, xceCW, tyeCW, kceCW⟩
  have XF_CW : XfC K CW := ⟨gaeCW, ggeCW, xceCW, hdeCW⟩
  have P1_CL : Sup K CL CL (.ref feCR) := ⟨mvCL, veCL, s1CL, cst⟩
  have P2_CL : Sup K CL CR (.builtin veI) := ⟨mrCL, veCL, s2CL, cst⟩
  have P1_CW : Sup K CW CW (.ref feCR) := ⟨mvCW, veCW, s1CW, cst⟩
  have P2_CW : Sup K CW CR (.builtin veI) := ⟨mrCW, veCW, s2CW, cst⟩
  have ex_CL_CL := exm_by xceCL ic_CL tyeCL sx_CL_CL
  have T : Bl mg := ⟨PySem.W.mg_none_of X G z_len, PySem.W.mg_none_of X G z_abs, PySem.W.mg_none_of X G z_int, PySem.W.mg_none_of X G z_list, PySem.W.mg_none_of X G z_range, PySem.W.mg_none_of X G z_repr, PySem.W.mg_none_of X G z_isinstance, PySem.W.mg_none_of X G z_str, PySem.W.mg_none_of X G z_all, PySem.W.mg_none_of X G z_any, PySem.W.mg_none_of X G z_zip, PySem.W.mg_none_of X G z_tuple, PySem.W.mg_none_of X G z_ord, PySem.W.mg_none_of X G z_sorted, PySem.W.mg_none_of X G z_set⟩
  refine ⟨PySem.W.fnOf "law" "law" (defArgs s_law82) (defBody s_law82) (defScope s_law82) .none kVd18 dcd18 pmd18 and18 cdd18 ctd18, fun s v => .of_eq rfl, fun base _ _ => ?_⟩
  have CT : ClsT K mg C := ⟨C_C, nC_known, PySem.W.mg_of X G aC⟩
  have GS : Gs mg := ⟨⟨_, PySem.W.mg_of X G g_SMALL⟩, ⟨_, PySem.W.mg_of X G g_LETTERS_MOST⟩, ⟨_, PySem.W.mg_of X G g_WORD_MOST⟩⟩
  have hsup : mg "super" = none := PySem.W.mg_none_of X G z_super
  have ER := ok_WordError (P := l.prog) (w := w) (mg := mg) (base := base) S_CR hsup
  have EL : ErC l.prog w K mg base "BadLetters" CL := ⟨O_CL, npeCL, PySem.W.mg_of X G aeCL, XF_CL, _, _, ineCL, fteCL, ok_Er S_CL ss_BadLetters hsup rfl (fun _ => rfl) (fun _ => rfl) ER B_CR fneCR fteCR O_CL P1_CL P2_CL nweCL npeCL, B_CL⟩
  have EW : ErC l.prog w K mg base "BadWord" CW := ⟨O_CW, npeCW, PySem.W.mg_of X G aeCW, XF_CW, _, _, ineCW, fteCW, ok_Er S_CW ss_BadWord hsup rfl (fun _ => rfl) (fun _ => rfl) ER B_CR fneCR fteCR O_CW P1_CW P2_CW nweCW npeCW, B_CW⟩
  have c_isl : Cal l.prog w K mg base 1 "is_letters" (spIsL K) := ok_is_letters T GS D_is_letters
  have c_chl : CalX l.prog w K mg base 5 "check_letters" (spChkL K CL CW) := ok_check_letters D_check_letters EL c_isl
  have c_isw : Cal l.prog w K mg base 1 "is_word" (spIsW K) := ok_is_word T GS D_is_word
  have c_chk : CalX l.prog w K mg base 6 "check_game_words" (spChk K CL CW) := ok_check_game_words D_check_game_words EW c_chl c_isw
  have c_num : MCal l.prog w K mg base C "number" 1 (spNum K C) := ⟨_, _, _, ok_num T CT F_C_number, M_C_number, b_C_number⟩
  have c_aro : MCal l.prog w K mg base C "around" 1 (spAro K) := ⟨_, _, _, ok_aro T F_C_around, M_C_around, b_C_around⟩
  have c_tab : MCal l.prog w K mg base C "table" 2 (spTab C) := ⟨_, _, _, ok_tab T CT c_num c_aro F_C_table, M_C_table, b_C_table⟩
  have c_co : Cal l.prog w K mg base 3 "class_of" (spClassOf C) := ok_class_of T CT c_tab D_class_of
  have MK : MkC l.prog w K mg base C (spCI C) := ⟨_, _, ok_CI CT F_C_init, ⟨mkC, amC0, imC0, kcC⟩, b_C_init⟩
  have c_kb : CalX l.prog w K mg base 7 "kept_by" (spKB K CL CW) := ok_kept_by T CT MK c_chk c_co D_kept_by
  have c_rn : CalX l.prog w K mg base 8 "rounds_needed" (spRN K CL CW) := ok_rounds T c_chk c_kb D_rounds_needed
  have c_deck : Cal l.prog w K mg base 1 "_law_deck" (spDeck K) := ok_deck T D_law_deck
  have c_draw : Cal l.prog w K mg base 1 "_law_draw" (spDraw K) := ok_draw T D_law_draw
  have c_is : CalG l.prog w K mg base 1 "_law_is" (spIs K) := ok_is T D_law_is
  have c_letters : Cal l.prog w K mg base 2 "_law_letters" (spLetters K) := ok_letters T D_law_letters c_draw
  have c_word : Cal l.prog w K mg base 2 "_law_word" (spWord K) := ok_word T D_law_word c_draw
  have c_lk : Cal l.prog w K mg base 5 "_law_kept" (spK 4) := ok_lk1 T D_law_kept (ok_lk1 T D_law_kept (ok_lk1 T D_law_kept (ok_lk1 T D_law_kept (ok_lk0 D_law_kept))))
  have c_wof : Cal l.prog w K mg base 1 "words_of" spWof := ok_wof T D_words_of
  have c_wto : Cal l.prog w K mg base 2 "words_to" spWto := ok_wto T D_words_to c_wof
  have c_fc : CalX l.prog w K mg base 6 "first_of_classes" (spFC K CL CW) := ok_fc T CT MK c_chl c_co c_wto D_first_of_classes
  have c_lw : Cal l.prog w K mg base 1 "_law_words" spLWords := ok_lw T D_law_words
  have c_told : Cal l.prog w K mg base 7 "_law_told" (spTold82 K) := ok_told82 D_law_told EL ex_CL_CL c_fc
  exact ok_law82 T D_law ⟨c_deck, c_draw, c_is, c_letters, c_word, c_lk, c_lw, c_told, c_kb, c_rn, PySem.W.mg_none_of X G z_max, PySem.W.mg_none_of X G z_min⟩
end Ws

open PySem PySem.W PyProof.Rows
set_option maxRecDepth 100000 in
set_option maxHeartbeats 0 in
theorem PySem.Challenge.cw_wordsaid_k82_powers_and_classes_holds : PySem.Challenge.rw_wordsaid_k82_powers_and_classes.Holds := by
  w_on; o_law; k_head; (case hw => w_witness2)
  k_fill
  refine Ws.walkG (l := PySem.Challenge.rw_wordsaid_k82_powers_and_classes) (n := 63) (k := 10) (x := "script") (sp := Ws.spLaw) rfl (by decide) rfl ⟨rfl, by decide, by decide⟩ (fun w h Y => PySem.W.kIn_of Y) ?F (fun K H a ns hl _ hS => ⟨a, ns, rfl, hS, hl, fun _ => rfl⟩)
  case F =>
    intro w mg fa h KX G hmg
    refine' Ws.all_mk KX G hmg ?ad0 ?ld0 ?cd0 ?kd0 ?ad1 ?ld1 ?cd1 ?kd1 ?ad2 ?ld2 ?cd2 ?kd2 ?ad3 ?ld3 ?cd3 ?kd3 ?ad4 ?ld4 ?cd4 ?kd4 ?ad5 ?ld5 ?cd5 ?kd5 ?ad6 ?ld6 ?cd6 ?kd6 ?ad7 ?ld7 ?cd7 ?kd7 ?ad8 ?ld8 ?cd8 ?kd8 ?ad9 ?ld9 ?cd9 ?kd9 ?ad10 ?ld10 ?cd10 ?kd10 ?ad11 ?ld11 ?cd11 ?kd11 ?ad12 ?ld12 ?cd12 ?kd12 ?ad13 ?ld13 ?cd13 ?kd13 ?ad14 ?ld14 ?cd14 ?kd14 ?ad15 ?ld15 ?cd15 ?kd15 ?ad16 ?ld16 ?cd16 ?kd16 ?ad17 ?ld17 ?cd17 ?kd17 ?ad18 ?ld18 ?cd18 ?kd18 ?aC ?amC0 ?imC0 ?lmC0 ?cmC0 ?kmC0 ?amC1 ?imC1 ?lmC1 ?cmC1 ?kmC1 ?amC2 ?imC2 ?lmC2 ?cmC2 ?kmC2 ?amC3 ?imC3 ?lmC3 ?cmC3 ?kmC3 ?pgC ?hdC ?poC ?saC ?mkC ?kcC ?nC_known ?aeCR ?xeCR ?reCR ?saeCR ?xceCR ?tyeCR ?kceCR ?gaeCR ?ggeCR ?hdeCR ?npeCR ?nweCR ?ineCR ?fteCR ?fneCR ?fkeCR ?leCR ?ceCR ?ckeCR ?cfeCR ?ceeCR ?cc_eCR ?cDeCR ?tleCR ?tops ?cst ?aeCL ?xeCL ?reCL ?saeCL ?xceCL ?tyeCL ?kceCL ?gaeCL ?ggeCL ?hdeCL ?npeCL ?nweCL ?ineCL ?fteCL ?fneCL ?fkeCL ?leCL ?ceCL ?ckeCL ?cfeCL ?ceeCL ?cc_eCL ?cDeCL ?tleCL ?aeCW ?xeCW ?reCW ?saeCW ?xceCW ?tyeCW ?kceCW ?gaeCW ?ggeCW ?hdeCW ?npeCW ?nweCW ?ineCW ?fteCW ?fneCW ?fkeCW ?leCW ?ceCW ?ckeCW ?cfeCW ?ceeCW ?cc_eCW ?cDeCW ?tleCW ?mvCL ?mrCL ?veCL ?s1CL ?s2CL ?mvCW ?mrCW ?veCW ?s1CW ?s2CW ?sx_CL_CL ?ic_CL ?g_SMALL ?g_LETTERS_MOST ?g_WORD_MOST ?z_len ?z_abs ?z_int ?z_list ?z_range ?z_repr ?z_isinstance ?z_str ?z_all ?z_any ?z_zip ?z_tuple ?z_ord ?z_sorted ?z_set ?z_super ?z_max ?z_min
    (case ad0 => k_is)
    (case ld0 => k_is)
    (case cd0 => k_is)
    (case kd0 => k_is)
    (case ad1 => k_is)
    (case ld1 => k_is)
    (case cd1 => k_is)
    (case kd1 => k_is)
    (case ad2 => k_is)
    (case ld2 => k_is)
    (case cd2 => k_is)
    (case kd2 => k_is)
    (case ad3 => k_is)
    (case ld3 => k_is)
    (case cd3 => k_is)
    (case kd3 => k_is)
    (case ad4 => k_is)
    (case ld4 => k_is)
    (case cd4 => k_is)
    (case kd4 => k_is)
    (case ad5 => k_is)
    (case ld5 => k_is)
    (case cd5 => k_is)
    (case kd5 => k_is)
    (case ad6 => k_is)
    (case ld6 => k_is)
    (case cd6 => k_is)
    (case kd6 => k_is)
    (case ad7 => k_is)
    (case ld7 => k_is)
    (case cd7 => k_is)
    (case kd7 => k_is)
    (case ad8 => k_is)
    (case ld8 => k_is)
    (case cd8 => k_is)
    (case kd8 => k_is)
    (case ad9 => k_is)
    (case ld9 => k_is)
    (case cd9 => k_is)
    (case kd9 => k_is)
    (case ad10 => k_is)
    (case ld10 => k_is)
    (case cd10 => k_is)
    (case kd10 => k_is)
    (case ad11 => k_is)
    (case ld11 => k_is)
    (case cd11 => k_is)
    (case kd11 => k_is)
    (case ad12 => k_is)
    (case ld12 => k_is)
    (case cd12 => k_is)
    (case kd12 => k_is)
    (case ad13 => k_is)
    (case ld13 => k_is)
    (case cd13 => k_is)
    (case kd13 => k_is)
    (case ad14 => k_is)
    (case ld14 => k_is)
    (case cd14 => k_is)
    (case kd14 => k_is)
    (case ad15 => k_is)
    (case ld15 => k_is)
    (case cd15 => k_is)
    (case kd15 => k_is)
    (case ad16 => k_is)
    (case ld16 => k_is)
    (case cd16 => k_is)
    (case kd16 => k_is)
    (case ad17 => k_is)
    (case ld17 => k_is)
    (case cd17 => k_is)
    (case kd17 => k_is)
    (case ad18 => k_is)
    (case ld18 => k_is)
    (case cd18 => k_is)
    (case kd18 => k_is)
    (case aC => k_is)
    (case amC0 => k_is)
    (case imC0 => k_is)
    (case lmC0 => k_is)
    (case cmC0 => k_is)
    (case kmC0 => k_is)
    (case amC1 => k_is)
    (case imC1 => k_is)
    (case lmC1 => k_is)
    (case cmC1 => k_is)
    (case kmC1 => k_is)
    (case amC2 => k_is)
    (case imC2 => k_is)
    (case lmC2 => k_is)
    (case cmC2 => k_is)
    (case kmC2 => k_is)
    (case amC3 => k_is)
    (case imC3 => k_is)
    (case lmC3 => k_is)
    (case cmC3 => k_is)
    (case kmC3 => k_is)
    (case pgC => k_is)
    (case hdC => k_is)
    (case poC => k_is)
    (case saC => k_is)
    (case mkC => k_is)
    (case kcC => k_is)
    (case nC_known => k_is)
    (case aeCR => k_is)
    (case xeCR => k_is)
    (case reCR => decide +kernel)
    (case saeCR => k_is)
    (case xceCR => k_is)
    (case tyeCR => k_is)
    (case kceCR => k_is)
    (case gaeCR => k_is)
    (case ggeCR => k_is)
    (case hdeCR => k_is)
    (case npeCR => k_is)
    (case nweCR => k_is)
    (case ineCR => k_is)
    (case fteCR => k_is)
    (case fneCR => k_is)
    (case fkeCR => k_is)
    (case leCR => k_is)
    (case ceCR => k_is)
    (case ckeCR => k_is)
    (case cfeCR => rfl)
    (case ceeCR => first | rfl | decide +kernel)
    (case cc_eCR => k_is)
    (case cDeCR => k_is)
    (case tleCR => k_is)
    (case tops => first | rfl | decide +kernel)
    (case cst => k_is)
    (case aeCL => k_is)
    (case xeCL => k_is)
    (case reCL => decide +kernel)
    (case saeCL => k_is)
    (case xceCL => k_is)
    (case tyeCL => k_is)
    (case kceCL => k_is)
    (case gaeCL => k_is)
    (case ggeCL => k_is)
    (case hdeCL => k_is)
    (case npeCL => k_is)
    (case nweCL => k_is)
    (case ineCL => k_is)
    (case fteCL => k_is)
    (case fneCL => k_is)
    (case fkeCL => k_is)
    (case leCL => k_is)
    (case ceCL => k_is)
    (case ckeCL => k_is)
    (case cfeCL => rfl)
    (case ceeCL => first | rfl | decide +kernel)
    (case cc_eCL => k_is)
    (case cDeCL => k_is)
    (case tleCL => k_is)
    (case aeCW => k_is)
    (case xeCW => k_is)
    (case reCW => decide +kernel)
    (case saeCW => k_is)
    (case xceCW => k_is)
    (case tyeCW => k_is)
    (case kceCW => k_is)
    (case gaeCW => k_is)
    (case ggeCW => k_is)
    (case hdeCW => k_is)
    (case npeCW => k_is)
    (case nweCW => k_is)
    (case ineCW => k_is)
    (case fteCW => k_is)
    (case fneCW => k_is)
    (case fkeCW => k_is)
    (case leCW => k_is)
    (case ceCW => k_is)
    (case ckeCW => k_is)
    (case cfeCW => rfl)
    (case ceeCW => first | rfl | decide +kernel)
    (case cc_eCW => k_is)
    (case cDeCW => k_is)
    (case tleCW => k_is)
    (case mvCL => k_is)
    (case mrCL => k_is)
    (case veCL => k_is)
    (case s1CL => ks_is)
    (case s2CL => ks_is)
    (case mvCW => k_is)
    (case mrCW => k_is)
    (case veCW => k_is)
    (case s1CW => ks_is)
    (case s2CW => ks_is)
    (case sx_CL_CL => k_is)
    (case ic_CL => k_is)
    (case g_SMALL => k_is)
    (case g_LETTERS_MOST => k_is)
    (case g_WORD_MOST => k_is)
    (case z_len => k_is)
    (case z_abs => k_is)
    (case z_int => k_is)
    (case z_list => k_is)
    (case z_range => k_is)
    (case z_repr => k_is)
    (case z_isinstance => k_is)
    (case z_str => k_is)
    (case z_all => k_is)
    (case z_any => k_is)
    (case z_zip => k_is)
    (case z_tuple => k_is)
    (case z_ord => k_is)
    (case z_sorted => k_is)
    (case z_set => k_is)
    (case z_super => k_is)
    (case z_max => k_is)
    (case z_min => k_is)
